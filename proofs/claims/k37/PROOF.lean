import PyProof.Rows.All
import Wide.All
import OpenK.AllK
import Wide.FinOn
import KE.OsRunLaw
import PySem.Challenge.RW_chainmaps_k37_errors_keep_the_argument
import HandS.ForMost
import HandS.ForExc
import HandS.IsInst
import HandS.More
import HandS.SlotsOwn
import HandS.Property
import HandS.ClsMeth
import HandS.DictComp
import HandS.Conv
import HandS.Walk
import HandS.NoneIn
import HandS.CallLocal
import HandS.Star
import HandS.ExcInit
import HandS.ExcField
import HandS.ExcIs
import KE.KExcInit
import KE.KExcIs
import HandS.WordsExc
import HandS.ListItems
import HandS.Style
import HandS.TryMany
import HandS.RaiseMore
import HandS.FStr
import HandS.HotCalls
import KE.KItemsList
import KE.KOpsOwn
import HandS.OwnEq
import HandS.Lambda
import HandS.EndTab
import KE.KNestM
import HandS.Deep
import HandS.Nested
import KE.KSuper
import HandS.TupMul
import KE.GoesMore
import KE.KTryMore
import HandS.GenList
import HandS.SortInts
import HandS.Zip
import KE.KDictZip
import HandS.TupAny
import HandS.Small
set_option Elab.async false
set_option linter.all false
set_option maxRecDepth 100000
set_option maxHeartbeats 4000000
section
local macro_rules | `(tactic| first | refine $t:term | fail $s:str) => do { let t2 ← t.raw.replaceM fun n => (do { if n.getKind == `Lean.Parser.Term.syntheticHole then { let nm := n[1].getId.eraseMacroScopes; if nm == `hl then { return some (← `(by exact $(Lean.mkIdent `x))) } else { if nm == `hw || nm == `hc then { return some (← `(by contradiction)) } else { return none } } } else { return none } }); `(tactic| refine $(⟨t2⟩)) }
open PySem PySem.W PyProof.Rows
def My.p1 {α β : Type} (x : α × β) : α := match x with | (a, _) => a
def My.p2 {α β : Type} (x : α × β) : β := match x with | (_, b) => b
theorem My.p1_eq {α β : Type} (x : α × β) : My.p1 x = x.1 := rfl
theorem My.p2_eq {α β : Type} (x : α × β) : My.p2 x = x.2 := rfl
theorem My.splitK {p q : Program} {loose : List PySem.Str} {Xt : Shared → Bool} {K : Params → Frag} {as : List Addr} {ek : ∀ P, as = (K P).map (·.1)} {N M : Nat}
    (e : opening p = plainProg p.main.scope.names) (hN : Nat.ble 600 N = true) (f : ∀ s, fenceModules? p s = some s) (le : Nat.ble M N = true)
    (r0 : ∀ (w : World) (os : OsState), (HeadRun.endF (HeadRun.stepQ (HeadRun.denQ HeadRun.tabQ) p w) M p w os).map (fun s => (HeadRun.looksF p (boot_heap w.params) s.abs, as.map (HeadRun.getT s), My.p1 (My.p2 (HeadRun.seenQ q loose (importedModules p.main.body) Xt s.abs)), My.p1 (My.p2 (My.p2 (My.p2 (My.p2 (HeadRun.seenQ q loose (importedModules p.main.body) Xt s.abs))))), My.p1 (My.p2 (My.p2 (My.p2 (My.p2 (My.p2 (My.p2 (HeadRun.seenQ q loose (importedModules p.main.body) Xt s.abs))))))), (My.p2 (My.p2 (My.p2 (My.p2 (My.p2 (My.p2 (My.p2 (My.p2 (HeadRun.seenQ q loose (importedModules p.main.body) Xt s.abs))))))))))) = some (true, ((K w.params).map fun x => some x.2), bltViewBooted, (pinGoodD (drecsOf q)), (plainGoodD q loose), (clsGoodW q loose)))
    (r1 : ∀ (w : World) (os : OsState), (HeadRun.endF (HeadRun.stepQ (HeadRun.denQ HeadRun.tabQ) p w) M p w os).map (fun s => My.p1 (HeadRun.seenQ q loose (importedModules p.main.body) Xt s.abs)) = some (expectedOf q))
    (r2 : ∀ (w : World) (os : OsState), (HeadRun.endF (HeadRun.stepQ (HeadRun.denQ HeadRun.tabQ) p w) M p w os).map (fun s => My.p1 (My.p2 (My.p2 (HeadRun.seenQ q loose (importedModules p.main.body) Xt s.abs)))) = some true)
    (r3 : ∀ (w : World) (os : OsState), (HeadRun.endF (HeadRun.stepQ (HeadRun.denQ HeadRun.tabQ) p w) M p w os).map (fun s => My.p1 (My.p2 (My.p2 (My.p2 (HeadRun.seenQ q loose (importedModules p.main.body) Xt s.abs))))) = some true)
    (r4 : ∀ (w : World) (os : OsState), (HeadRun.endF (HeadRun.stepQ (HeadRun.denQ HeadRun.tabQ) p w) M p w os).map (fun s => My.p1 (My.p2 (My.p2 (My.p2 (My.p2 (My.p2 (HeadRun.seenQ q loose (importedModules p.main.body) Xt s.abs))))))) = some (plainGoodE q (looseW q loose)))
    (r5 : ∀ (w : World) (os : OsState), (HeadRun.endF (HeadRun.stepQ (HeadRun.denQ HeadRun.tabQ) p w) M p w os).map (fun s => My.p1 (My.p2 (My.p2 (My.p2 (My.p2 (My.p2 (My.p2 (My.p2 (HeadRun.seenQ q loose (importedModules p.main.body) Xt s.abs))))))))) = some (wideGood q))
    : LeftO p q loose Xt (Hook.obs (kHook K as ek)) (Hook.val (kHook K as ek)) N true :=
  HeadRun.left_oneK e hN f le fun w os => by
    have b0 := r0 w os
    have b1 := r1 w os
    have b2 := r2 w os
    have b3 := r3 w os
    have b4 := r4 w os
    have b5 := r5 w os
    revert b0 b1 b2 b3 b4 b5
    cases (HeadRun.endF (HeadRun.stepQ (HeadRun.denQ HeadRun.tabQ) p w) M p w os) with
    | none => intro b0; cases b0
    | some s =>
      intro b0 b1 b2 b3 b4 b5
      simp only [My.p1_eq, My.p2_eq, Option.map_some, Option.some.injEq, Prod.mk.injEq] at b0 b1 b2 b3 b4 b5
      obtain ⟨a0, a1, a3, a6, a8, a10⟩ := b0
      have a2 := b1
      have a4 := b2
      have a5 := b3
      have a7 := b4
      have a9 := b5
      rw [Option.map_some, a0, a1]
      exact congrArg some (Prod.ext rfl (Prod.ext (Prod.ext a2 (Prod.ext a3 (Prod.ext a4 (Prod.ext a5 (Prod.ext a6 (Prod.ext a7 (Prod.ext a8 (Prod.ext a9 (a10))))))))) rfl))
set_option maxRecDepth 100000 in
set_option maxHeartbeats 0 in
def My.hlStmt : Prop := by
  refine' (fun (P : Prop) (_ : P → False → PySem.Challenge.rw_chainmaps_k37_errors_keep_the_argument.Holds) => P) _ ?h
  rotate_left
  intro x f
  w_on; o_law; k_headL
set_option maxRecDepth 100000 in
set_option maxHeartbeats 0 in
def My.hs0 : Prop := by
  refine' (fun (P : Prop) (_ : P → False → My.hlStmt) => P) _ ?h
  rotate_left
  intro x f
  refine My.splitK (by kernel_rfl) (by rfl) (fun s => by kernel_rfl) (Nat.ble_eq_true_of_le (Nat.le_refl _)) (by exact x) (by contradiction) (by contradiction) (by contradiction) (by contradiction) (by contradiction)
set_option maxRecDepth 100000 in
set_option maxHeartbeats 0 in
theorem My.hr0 : My.hs0 := by
  intro w os
  kernel_rfl
set_option maxRecDepth 100000 in
set_option maxHeartbeats 0 in
def My.hs1 : Prop := by
  refine' (fun (P : Prop) (_ : P → False → My.hlStmt) => P) _ ?h
  rotate_left
  intro x f
  refine My.splitK (by kernel_rfl) (by rfl) (fun s => by kernel_rfl) (Nat.ble_eq_true_of_le (Nat.le_refl _)) (by contradiction) (by exact x) (by contradiction) (by contradiction) (by contradiction) (by contradiction)
set_option maxRecDepth 100000 in
set_option maxHeartbeats 0 in
theorem My.hr1 : My.hs1 := by
  intro w os
  kernel_rfl
set_option maxRecDepth 100000 in
set_option maxHeartbeats 0 in
def My.hs2 : Prop := by
  refine' (fun (P : Prop) (_ : P → False → My.hlStmt) => P) _ ?h
  rotate_left
  intro x f
  refine My.splitK (by kernel_rfl) (by rfl) (fun s => by kernel_rfl) (Nat.ble_eq_true_of_le (Nat.le_refl _)) (by contradiction) (by contradiction) (by exact x) (by contradiction) (by contradiction) (by contradiction)
set_option maxRecDepth 100000 in
set_option maxHeartbeats 0 in
theorem My.hr2 : My.hs2 := by
  intro w os
  kernel_rfl
set_option maxRecDepth 100000 in
set_option maxHeartbeats 0 in
def My.hs3 : Prop := by
  refine' (fun (P : Prop) (_ : P → False → My.hlStmt) => P) _ ?h
  rotate_left
  intro x f
  refine My.splitK (by kernel_rfl) (by rfl) (fun s => by kernel_rfl) (Nat.ble_eq_true_of_le (Nat.le_refl _)) (by contradiction) (by contradiction) (by contradiction) (by exact x) (by contradiction) (by contradiction)
set_option maxRecDepth 100000 in
set_option maxHeartbeats 0 in
theorem My.hr3 : My.hs3 := by
  intro w os
  kernel_rfl
set_option maxRecDepth 100000 in
set_option maxHeartbeats 0 in
def My.hs4 : Prop := by
  refine' (fun (P : Prop) (_ : P → False → My.hlStmt) => P) _ ?h
  rotate_left
  intro x f
  refine My.splitK (by kernel_rfl) (by rfl) (fun s => by kernel_rfl) (Nat.ble_eq_true_of_le (Nat.le_refl _)) (by contradiction) (by contradiction) (by contradiction) (by contradiction) (by exact x) (by contradiction)
set_option maxRecDepth 100000 in
set_option maxHeartbeats 0 in
theorem My.hr4 : My.hs4 := by
  intro w os
  kernel_rfl
set_option maxRecDepth 100000 in
set_option maxHeartbeats 0 in
def My.hs5 : Prop := by
  refine' (fun (P : Prop) (_ : P → False → My.hlStmt) => P) _ ?h
  rotate_left
  intro x f
  refine My.splitK (by kernel_rfl) (by rfl) (fun s => by kernel_rfl) (Nat.ble_eq_true_of_le (Nat.le_refl _)) (by contradiction) (by contradiction) (by contradiction) (by contradiction) (by contradiction) (by exact x)
set_option maxRecDepth 100000 in
set_option maxHeartbeats 0 in
theorem My.hr5 : My.hs5 := by
  intro w os
  kernel_rfl
set_option maxRecDepth 100000 in
set_option maxHeartbeats 0 in
theorem My.hl : My.hlStmt := My.splitK (by kernel_rfl) (by rfl) (fun s => by kernel_rfl) (Nat.ble_eq_true_of_le (Nat.le_refl _)) My.hr0 My.hr1 My.hr2 My.hr3 My.hr4 My.hr5
end
namespace PySem.W
open PySem PySem.Calls PyProof.Rows
end PySem.W
namespace U
open PySem PySem.Spec PyProof.Rows L2
/-- what is asked of a plain own class -/
structure OwnC (K : PySem.W.Frag) (C : Addr) : Prop where
  cl : Cls K C
  sf : PySem.W.selfFirst K C = true
  ca : PySem.W.findIn K (.ref C) "__class__" = some (some (.builtin "object.__class__"))
  cn : PySem.W.specialIn K (.builtin "object.__class__") "__get__" = some (some (.builtin "getset_descriptor.__get__"))
  ct : PySem.W.takesIn K (.builtin "object.__class__") = some true
  cm : PySem.W.mroIn K C (.type "object") = some true
section
variable {X : Cx} {CX : CXT} {pins : List (Addr × Obj)} {σ : L2.St} {H : Hp} {s : Shared} {a C dx p g : Addr} {f : Str} {n : Nat} {sp : Sp} {E : XK} {v : V} {u : Value}
theorem ins_inst (I : Inv X pins σ H s) {fs : List (Str × V)} (ea : H a = some (.ins C dx fs)) : ∃ ox od, PySem.W.InstAt s.heap a ox C (some od) := by
  obtain ⟨mA, O, _⟩ := ins_get I.hok ea
  obtain ⟨od, J, _⟩ := O.look
  exact ⟨_, od, J⟩
end
end U
namespace U
open PySem PySem.Spec PyProof.Rows L2 StX
/-! ### a def of the text, with how its arguments bind -/
structure FnAt (K : PySem.W.Frag) (x qual : Str) (st : Stmt) (f : Addr) (ps : List Str) : Prop where
  ex : ∃ fd, Fun K x qual st f fd ∧ Binds K fd ps []
theorem FnAt.kp {K : PySem.W.Frag} {x qual : Str} {st : Stmt} {f : Addr} {ps : List Str} (A : FnAt K x qual st f ps) : PySem.W.keepIn K (.ref f) = true := by
  obtain ⟨fd, F, _⟩ := A.ex
  exact F.kp
section
variable {P : Program} {w : World} {K : PySem.W.Frag} {mg : Str → Option Value} {base : Heap}
theorem FnAt.ok {x qual : Str} {st : Stmt} {f : Addr} {N ps : List Str} {k : Nat} {sp : Sp} (A : FnAt K x qual st f ps) (S : FnScope N ps (defScope st)) (len : ∀ vs H Q E, sp vs H Q E → vs.length = ps.length)
    (hbody : ∀ (cdv : Value) (A : Around) (outer : List Env) (s : Shared) (H : Hp) (vs : List V) (Q : VK) (E : XK), Room k (A.deeper (envOfC qual (defScope st) s.heap.objs.size f cdv)) → sp vs H Q E →
      ∃ t, PSs (cxOf CX0 P w K mg base N qual (defScope st) f cdv A outer s H E).nox (defBody st) t ∧ t { nx := fun _ H' => Q .non H', rt := Q } (start N vs) H) : FnR P w K mg base CX0 (k + 1) f sp := by
  obtain ⟨fd, F, B⟩ := A.ex
  have R := (F.ok (P := P) (w := w) (mg := mg) (base := base) S len hbody).raw B .nil
  exact R.imp fun vs H Q E h => by rw [List.append_nil]; exact h
/-- a def that raises nothing, where exceptions are told -/
theorem fnR_any {CX : CXT} {k : Nat} {f : Addr} {sp : Sp} (F : FnR P w K mg base CX0 k f sp) : FnR P w K mg base CX k f sp := by
  intro A outer s H us vs Q E hr e0 r h
  refine codeAny_mono (F A outer s H us vs Q E hr e0 r h) fun r s' hq => ?_
  cases r with
  | error e => exact False.elim hq
  | ok fl => cases fl <;> exact hq
end
section
variable {X : Cx} {CX : CXT} {k i : Nat} {f C p g a dx : Addr} {sp : Sp} {E : XK} {x fl : Str} {e o : Expr} {es : List Expr} {ta te tf : TE} {t : TA} {pp pos : Pos} {fs : List (Str × V)}
/-- x(e, ..), x a def of the module -/
def tCallR (sp : Sp) (E : XK) (t : TA) : TE := fun σ H Q => t σ H fun vs H1 => sp vs H1 Q E
theorem pe_callR (F : FnR X.prog X.w X.K X.mg X.base CX k f sp) (hr : Room k X.A) (hk : PySem.W.keepIn X.K (.ref f) = true) (hg : Gl X x) (hm : X.mg x = some (.ref f)) (hx : Passes CX X E) (ha : PA X (e :: es) t) (hdb : (x == ("__debug__" : Str)) = false := by decide)
    (he : starEach (e :: es) X.env = (false, eval e X.env) :: starEach es X.env := by rfl) (hpl : (backTo pos (starEach es X.env)).any (·.1) = false := by rfl) : PE X (.Call (.Name x pp) (e :: es) [] pos) (tCallR sp E t) := by
  refine ⟨fun pins s σ H Q I h => ?_⟩
  refine wpAny_Call_Name_kw (ld_glob I hg hm ?_ hdb)
  refine PySem.W.callWith_K (h₀ := X.base) I.ok.mod.kin hk (thn (ha.run pos pins s σ H _ I h) fun us s1 ⟨vs, H1, I1, r, q⟩ => ⟨I1.kIn, ?_⟩) he hpl
  exact wpAny_call (run_fnR F hr hx I1 r q)
/-- e.f, a property -/
def tPropR (C : Addr) (sp : Sp) (ta : TE) : TE := fun σ H Q => ta σ H fun x H1 => ∃ a dx fs, x = .ref a ∧ H1 a = some (.ins C dx fs) ∧ sp [.ref a] H1 Q E0
theorem pe_propR (he : PE X e ta) (c : Cls X.K C) (hp : PropOf X.K C fl p g) (F : FnR X.prog X.w X.K X.mg X.base CX0 k g sp) (hr : Room (k + 1) X.A)
    (hab : attributeBase e fl X.env (eval e X.env) = eval e X.env := by rfl) : PE X (.Attribute e fl pos) (tPropR C sp ta) := by
  refine ⟨fun pins s σ H Q I h => ?_⟩
  refine attr_of hab (thn (he.run pins s σ H _ I h) fun u s1 ⟨x, H1, I1, rx, a, dx, fs, ex, ea, q⟩ => ?_)
  subst ex
  obtain rfl : u = Value.ref a := rx
  obtain ⟨mA, O, _, _, _, _⟩ := ins_get I1.hok ea
  obtain ⟨od, J, _⟩ := O.look
  obtain ⟨rest, hrec⟩ := hp.rec_
  have I2 := I1.tok (s1.toks + 1)
  have hc : (PySem.W.clsIn X.K C).isSome = true := by
    obtain ⟨cd, hc, _⟩ := PySem.W.any_some c.hd
    rw [hc]
    rfl
  refine PySem.W.get_bind I1.kIn J (PySem.W.plainGet_of (c.get fl)).1 (PySem.W.findObj_data hc hp.at_ hp.get hp.tak) (PySem.W.plainGet_of (c.get fl)).2 (wpAny_call (PySem.W.prop_get (s := { s1 with toks := s1.toks + 1 }) I1.kIn hrec ?_))
  refine codeAny_mono (F X.A.in1 X.stack { s1 with toks := s1.toks + 1 } H1 [.ref a] [.ref a] Q E0 hr.in1 I2.env0.in1 (.cons rfl .nil) q) fun r s' hq => ?_
  cases r with
  | error er => exact False.elim hq
  | ok fl =>
    cases fl with
    | ret u =>
      obtain ⟨v, H', I3, rv, q3⟩ := I2.after hq
      show wpAny _ _ (handedOut u) _ _ _
      rw [PySem.W.handedOut_of (handed_of rv)]
      exact wpAny_pure ⟨v, H', I3, rv, q3⟩
    | next => exact False.elim hq
    | brk => exact False.elim hq
    | cont => exact False.elim hq
/-- x(..), x a local that holds the class at C -/
def tMakeL (i : Nat) (C : Addr) (sp : Sp) (E : XK) (t : TA) : TE := fun σ H Q => σ[i]? = some (some (.ref C)) ∧ tMakeR C sp E t σ H Q
theorem pe_makeL (M : Mk X.K C f) (F : FnR X.prog X.w X.K X.mg X.base CX k f sp) (hr : Room (k + 1) X.A) (hN : X.N[i]? = some x) (hv : Vis X.env.scope x) (hx : Passes CX X E) (ha : PA X (e :: es) t) (hdb : (x == ("__debug__" : Str)) = false := by decide)
    (hcd : (x == ("__classdict__" : Str)) = false := by decide)
    (he : starEach (e :: es) X.env = (false, eval e X.env) :: starEach es X.env := by rfl) (hpl : (backTo pos (starEach es X.env)).any (·.1) = false := by rfl) : PE X (.Call (.Name x pp) (e :: es) [] pos) (tMakeL i C sp E t) := by
  refine ⟨fun pins s σ H Q I h => ?_⟩
  obtain ⟨hs, ht⟩ := h
  refine wpAny_Call_Name_kw (thn ((pe_var (pos := pp) hN hv hdb hcd).run pins s σ H (fun v H1 => v = .ref C ∧ H1 = H) I ⟨.ref C, hs, rfl, rfl⟩) fun u s1 ⟨v, H1, I1, r1, q1⟩ => ?_)
  obtain ⟨rfl, rfl⟩ := q1
  cases r1
  refine PySem.W.callWith_K (h₀ := X.base) I.ok.mod.kin M.kp (thn (ha.run pos pins s1 σ _ _ I1 ht) fun us s2 ⟨vs, H2, I2, r, q⟩ => ⟨I2.kIn, ?_⟩) he hpl
  exact run_makeR M F hr hx I2 r q
end
theorem ifD {c : Prop} [Decidable c] {A B : Prop} (h1 : c → A) (h2 : ¬ c → B) : if decide c = true then A else B := by
  by_cases h : c
  · rw [if_pos (decide_eq_true h)]; exact h1 h
  · rw [if_neg (by simp [h])]; exact h2 h
theorem ifN {c : Prop} [Decidable c] {A B : Prop} (h1 : ¬ c → A) (h2 : c → B) : if (!decide c) = true then A else B := by
  by_cases h : c
  · rw [if_neg (by simp [h])]; exact h2 h
  · rw [if_pos (by simp [h])]; exact h1 h
theorem ifB {c : Bool} {A B : Prop} (h1 : c = true → A) (h2 : c = false → B) : if c = true then A else B := by
  cases c with
  | true => rw [if_pos rfl]; exact h1 rfl
  | false => rw [if_neg Bool.false_ne_true]; exact h2 rfl
theorem ifNB {c : Bool} {A B : Prop} (h1 : c = false → A) (h2 : c = true → B) : if (!c) = true then A else B := by
  cases c with
  | true => exact iteF (h2 rfl)
  | false => exact iteT (h1 rfl)
end U
namespace U
open PySem PySem.Spec PyProof.Rows L2
end U
namespace U
open PySem PySem.Spec PyProof.Rows L2
/-! ### heaps -/
def Off (d : Addr) (H H' : Hp) : Prop := ∀ b o, b ≠ d → H b = some o → H' b = some o
theorem Same.new {H : Hp} {p : Addr} {o : HO} (h : H p = none) : L2.Same H (upd H p o) := fun b u e => by rw [upd_ne (ne_of_none e h)]; exact e
theorem Off.tr {d : Addr} {H H1 H2 : Hp} (a : Off d H H1) (b : Off d H1 H2) : Off d H H2 := fun c o hc e => b c o hc (a c o hc e)
theorem Off.lock {d : Addr} {H : Hp} {o : HO} : Off d H (upd H d o) := fun b u hb e => by rw [upd_ne hb]; exact e
theorem Off.new {d p : Addr} {H : Hp} {o : HO} (h : H p = none) : Off d H (upd H p o) := fun b u _ e => by rw [upd_ne (ne_of_none e h)]; exact e
theorem Off.free {d p : Addr} {H H' : Hp} {u : HO} (a : Off d H H') (hd : H' d = some u) (h : H' p = none) : H p = none := by
  cases e : H p with
  | none => rfl
  | some o =>
    by_cases hp : p = d
    · subst hp; rw [hd] at h; cases h
    · rw [a p o hp e] at h; cases h
theorem Off.back {d : Addr} {H H' : Hp} {u : HO} (a : Off d H H') (hd : H d = some u) : L2.Same H (upd H' d u) := fun b o e => by
  by_cases hb : b = d
  · subst hb; rw [hd] at e; cases e; exact upd_same
  · rw [upd_ne hb]; exact a b o hb e
/-- an object of the heap behind, that was not there ahead, may be changed -/
theorem Off.mut {d p : Addr} {H H' : Hp} {o : HO} (a : Off d H H') (h : H p = none) : Off d H (upd H' p o) := fun b u hb e => by rw [upd_ne (ne_of_none e h)]; exact a b u hb e
/-! ### a dict of ints -/
def kvI (l : List (Int × Int)) : List (Key × V) := l.map fun p => (Sum.inl p.1, V.int p.2)
theorem kvI_length (l : List (Int × Int)) : (kvI l).length = l.length := by simp [kvI]
theorem kvI_get {l : List (Int × Int)} {i : Nat} {k : Key} {v : V} (h : (kvI l)[i]? = some (k, v)) : ∃ x y, l[i]? = some (x, y) ∧ k = .inl x ∧ v = .int y := by
  unfold kvI at h
  rw [List.getElem?_map] at h
  cases e : l[i]? with
  | none => rw [e] at h; cases h
  | some p =>
    rw [e] at h
    obtain ⟨x, y⟩ := p
    cases h
    exact ⟨x, y, rfl, rfl, rfl⟩
def lk (l : List (Int × Int)) (x : Int) : Option Int := (l.find? fun p => decide (p.1 = x)).map (·.2)
theorem valV_kvI (l : List (Int × Int)) (x : Int) : valV (kvI l) (Sum.inl x : Key) = (lk l x).map V.int := by
  induction l with
  | nil => rfl
  | cons p r ih =>
    obtain ⟨a, b⟩ := p
    by_cases h : a = x
    · subst h
      rw [show kvI ((a, b) :: r) = (Sum.inl a, V.int b) :: kvI r from rfl, valV_pos rfl]
      simp [lk]
    · rw [show kvI ((a, b) :: r) = (Sum.inl a, V.int b) :: kvI r from rfl, valV_neg (fun z => h (Sum.inl.inj z)), ih]
      simp [lk, h]
theorem lk_none {l : List (Int × Int)} {x : Int} (h : x ∉ l.map (·.1)) : lk l x = none := by
  unfold lk
  rw [List.find?_eq_none.mpr]
  · rfl
  · intro p hp
    simp only [decide_eq_true_eq]
    exact fun e => h (List.mem_map.mpr ⟨p, hp, e⟩)
theorem lk_some {l : List (Int × Int)} (nd : (l.map (·.1)).Nodup) {x y : Int} (h : (x, y) ∈ l) : lk l x = some y := by
  induction l with
  | nil => cases h
  | cons p r ih =>
    obtain ⟨a, b⟩ := p
    rw [List.map_cons, List.nodup_cons] at nd
    rcases List.mem_cons.mp h with h | h
    · cases h; simp [lk]
    · have ne : ¬ a = x := fun z => nd.1 (by rw [z]; exact List.mem_map.mpr ⟨(x, y), h, rfl⟩)
      have := ih nd.2 h
      simpa [lk, ne] using this
theorem lk_mem {l : List (Int × Int)} {x y : Int} (h : lk l x = some y) : (x, y) ∈ l := by
  unfold lk at h
  cases e : l.find? (fun p => decide (p.1 = x)) with
  | none => rw [e] at h; cases h
  | some p =>
    rw [e] at h
    obtain ⟨a, b⟩ := p
    have h1 := List.find?_some e
    simp only [decide_eq_true_eq] at h1
    have h2 : b = y := Option.some.inj h
    subst h1 h2
    exact List.mem_of_find?_eq_some e
theorem putK_kvI {l : List (Int × Int)} {x y : Int} (h : x ∉ l.map (·.1)) : putK (kvI l) (Sum.inl x : Key) (V.int y) = kvI (l ++ [(x, y)]) := by
  have e : valV (kvI l) (Sum.inl x : Key) = none := by rw [valV_kvI, lk_none h]; rfl
  rw [putK_new _ e]
  simp [kvI]
theorem lk_append {l r : List (Int × Int)} {x : Int} : lk (l ++ r) x = (lk l x).or (lk r x) := by
  unfold lk
  rw [List.find?_append]
  cases l.find? (fun p => decide (p.1 = x)) <;> rfl
theorem lk_cons (a b : Int) (r : List (Int × Int)) (z : Int) : lk ((a, b) :: r) z = if a = z then some b else lk r z := by
  by_cases h : a = z <;> simp [lk, h]
theorem lk_mapOff (r : List (Int × Int)) (x y z : Int) (hz : ¬ z = x) : lk (r.map fun p => if p.1 = x then (p.1, y) else p) z = lk r z := by
  induction r with
  | nil => rfl
  | cons p r ih =>
    obtain ⟨a, b⟩ := p
    rw [List.map_cons]
    by_cases ha : a = x
    · subst ha
      have hz' : ¬ a = z := fun q => hz q.symm
      rw [if_pos rfl, lk_cons, lk_cons, if_neg hz', if_neg hz', ih]
    · rw [if_neg ha, lk_cons, lk_cons, ih]
theorem lk_mapPut {x y : Int} : ∀ (l : List (Int × Int)), x ∈ l.map (·.1) → ∀ z, lk (l.map fun p => if p.1 = x then (p.1, y) else p) z = if z = x then some y else lk l z
  | [], h, z => by cases h
  | (a, b) :: r, h, z => by
    by_cases hz : z = x
    · subst hz
      rw [if_pos rfl, List.map_cons]
      by_cases ha : a = z
      · subst ha
        rw [if_pos rfl, lk_cons, if_pos rfl]
      · rw [if_neg ha, lk_cons, if_neg ha]
        have h' : z ∈ r.map (·.1) := by
          rcases List.mem_cons.mp h with q | q
          · exact absurd q.symm ha
          · exact q
        rw [lk_mapPut r h' z, if_pos rfl]
    · rw [if_neg hz, lk_mapOff _ _ _ _ hz]
theorem putK_lk {l : List (Int × Int)} {x y : Int} : ∃ l', putK (kvI l) (Sum.inl x : Key) (V.int y) = kvI l' ∧ l'.length ≤ l.length + 1 ∧ ((l.map (·.1)).Nodup → (l'.map (·.1)).Nodup) ∧ ∀ z, lk l' z = if z = x then some y else lk l z := by
  by_cases h : x ∈ l.map (·.1)
  · refine ⟨l.map fun p => if p.1 = x then (p.1, y) else p, ?_, by simp, fun nd => ?_, fun z => ?_⟩
    · unfold putK
      rw [if_pos (by
        obtain ⟨p, hp, e⟩ := List.mem_map.mp h
        rw [List.any_eq_true]
        exact ⟨(Sum.inl p.1, V.int p.2), List.mem_map.mpr ⟨p, hp, rfl⟩, by simp [e]⟩)]
      unfold kvI
      rw [List.map_map, List.map_map]
      refine List.map_congr_left fun p _ => ?_
      by_cases e : p.1 = x
      · simp [e]
      · have e' : ¬ (Sum.inl p.1 : Key) = Sum.inl x := fun q => e (Sum.inl.inj q)
        simp [e]
    · have e : (l.map fun p => if p.1 = x then (p.1, y) else p).map (·.1) = l.map (·.1) := by
        rw [List.map_map]
        refine List.map_congr_left fun p _ => ?_
        by_cases e : p.1 = x <;> simp [e]
      rw [e]; exact nd
    · exact lk_mapPut l h z
  · refine ⟨l ++ [(x, y)], putK_kvI h, by simp, fun nd => ?_, fun z => ?_⟩
    · rw [List.map_append, List.nodup_append]
      refine ⟨nd, by simp, fun a ha b hb e => ?_⟩
      simp at hb
      subst hb
      exact h (e ▸ ha)
    · rw [lk_append]
      by_cases hz : z = x
      · subst hz; rw [lk_none h]; simp [lk]
      · have hz' : ¬ x = z := fun q => hz q.symm
        cases lk l z <;> simp [lk, hz, hz']
end U
namespace U
open PySem PySem.Spec PyProof.Rows L2
section
variable {J : It} {n : Nat} {G : Hp → Prop} {Y : Nat → Hp → V → Hp → Prop}
/-- a dict comprehension over a walk -/
theorem dc_it (w : Walk J n G Y) {g : TG} {tt : TT} {tk tv : TE} {vs : List Nat} {σ : L2.St} {H1 : Hp} {D : Addr} {Qd : Hp → Prop} (Pv : Nat → Hp → Prop) (h0 : Pv 0 (upd H1 D (.dK []))) (hG : ∀ i H, i ≤ n → Pv i H → G H)
    (hs : ∀ i x H H', i < n → Pv i H → Y i H x H' → g x (wipe σ vs) H' fun σ2 H2 => wipe σ2 vs = wipe σ vs ∧ tt σ2 H2 fun b H3 =>
      if b = true then tk σ2 H3 fun y H4 => tv σ2 H4 fun z H5 => ∃ kvs k, y = kV k ∧ H5 D = some (.dK kvs) ∧ kvs.length < sizeLine ∧ Pv (i + 1) (upd H5 D (.dK (putK kvs k z))) else Pv (i + 1) H3) (hd : ∀ H, Pv n H → Qd H) :
    ∃ W : Nat → Nat → Hp → Prop, (∃ m, W 0 m (upd H1 D (.dK []))) ∧ ∀ i m H, W i m H →
      (J.stop i H ∧ Qd H) ∨ (J.go i H ∧ ∃ Nx : Hp → Prop, (∀ H', Nx H' → ∃ m', m' < m ∧ W (i + 1) m' H') ∧ ∀ x H', J.yld i H x H' → g x (wipe σ vs) H' fun σ2 H2 => wipe σ2 vs = wipe σ vs ∧ tt σ2 H2 fun b H3 =>
        if b = true then tk σ2 H3 fun y H4 => tv σ2 H4 fun z H5 => ∃ kvs k, y = kV k ∧ H5 D = some (.dK kvs) ∧ kvs.length < sizeLine ∧ Nx (upd H5 D (.dK (putK kvs k z))) else Nx H3) := by
  refine ⟨fun i m H => m = n - i ∧ i ≤ n ∧ Pv i H, ⟨n, by simp, Nat.zero_le _, h0⟩, ?_⟩
  rintro i m H ⟨rfl, hi, p⟩
  have q := hG i H hi p
  by_cases hlt : i < n
  · exact .inr ⟨w.goes i H hlt q, Pv (i + 1), fun H' p' => ⟨n - (i + 1), by omega, rfl, hlt, p'⟩, fun x H' y => hs i x H H' hlt p (w.yields i H x H' hlt q y)⟩
  · have e : i = n := by omega
    subst e
    exact .inl ⟨w.stops H q, hd H p⟩
end
/-- what a comprehension over pairs makes -/
def madeD (c : Int → Int → Bool) (kf : Int → Int → Int) (vf : Int → Int → V) (l : List (Int × Int)) : List (Key × V) := (l.filter fun p => c p.1 p.2).map fun p => (Sum.inl (kf p.1 p.2), vf p.1 p.2)
theorem take_more {α : Type} {l : List α} {i : Nat} {x : α} (h : l[i]? = some x) : l.take (i + 1) = l.take i ++ [x] := by
  rw [List.take_add_one, h]; rfl
theorem valV_none {kvs : List (Key × V)} {k : Key} (h : k ∉ kvs.map (·.1)) : valV kvs k = none := by
  unfold valV
  rw [List.find?_eq_none.mpr]
  · rfl
  · intro p hp
    simp only [decide_eq_true_eq]
    exact fun e => h (List.mem_map.mpr ⟨p, hp, e⟩)
theorem madeD_step {c : Int → Int → Bool} {kf : Int → Int → Int} {vf : Int → Int → V} {l : List (Int × Int)} {i : Nat} {x y : Int} (h : l[i]? = some (x, y)) (nd : ((madeD c kf vf l).map (·.1)).Nodup) (hc : c x y = true) :
    putK (madeD c kf vf (l.take i)) (Sum.inl (kf x y)) (vf x y) = madeD c kf vf (l.take (i + 1)) := by
  have e : madeD c kf vf (l.take (i + 1)) = madeD c kf vf (l.take i) ++ [(Sum.inl (kf x y), vf x y)] := by
    rw [take_more h]
    unfold madeD
    rw [List.filter_append, List.map_append]
    simp [hc]
  have e2 : madeD c kf vf l = madeD c kf vf (l.take (i + 1)) ++ madeD c kf vf (l.drop (i + 1)) := by
    unfold madeD
    rw [← List.map_append, ← List.filter_append, List.take_append_drop]
  rw [e2, e, List.map_append, List.map_append] at nd
  have nd1 := (List.nodup_append.mp nd).1
  have nin : (Sum.inl (kf x y) : Key) ∉ (madeD c kf vf (l.take i)).map (·.1) := by
    intro hm
    exact (List.nodup_append.mp nd1).2.2 _ hm _ (by simp) rfl
  rw [putK_new _ (valV_none nin), e]
theorem madeD_skip {c : Int → Int → Bool} {kf : Int → Int → Int} {vf : Int → Int → V} {l : List (Int × Int)} {i : Nat} {x y : Int} (h : l[i]? = some (x, y)) (hc : c x y = false) :
    madeD c kf vf (l.take (i + 1)) = madeD c kf vf (l.take i) := by
  rw [take_more h]
  unfold madeD
  rw [List.filter_append, List.map_append]
  simp [hc]
theorem madeD_len (c : Int → Int → Bool) (kf : Int → Int → Int) (vf : Int → Int → V) (l : List (Int × Int)) (i : Nat) : (madeD c kf vf (l.take i)).length ≤ l.length := by
  unfold madeD
  rw [List.length_map]
  exact Nat.le_trans (List.length_filter_le _ _) (by rw [List.length_take]; omega)
/-- {k: v for x, y in d.items() if ..}, the tests and parts reading alone -/
theorem dc_items {K : PySem.W.Frag} {d : Addr} {l : List (Int × Int)} {te : TE} {i j : Nat} {tt : TT} {tk tv : TE} {vs : List Nat} {σ : L2.St} {H : Hp} {Q : VK} (c : Int → Int → Bool) (kf : Int → Int → Int) (vf : Int → Int → V)
    (hd : H d = some (.dK (kvI l))) (hte : ∀ H' (R : VK), R (.ref d) H' → Off d H H' → te σ H' R)
    (hw : ∀ a b, wipe (((wipe σ vs).set i a).set j b) vs = wipe σ vs)
    (hb : ∀ x y, (x, y) ∈ l → ∀ H1, Off d H H1 → (∀ R : Bool → Hp → Prop, R (c x y) H1 → tt (((wipe σ vs).set i (some (.int x))).set j (some (.int y))) H1 R) ∧
      (c x y = true → (∀ R : VK, R (.int (kf x y)) H1 → tk (((wipe σ vs).set i (some (.int x))).set j (some (.int y))) H1 R) ∧ ∀ R : VK, R (vf x y) H1 → tv (((wipe σ vs).set i (some (.int x))).set j (some (.int y))) H1 R))
    (nd : ((madeD c kf vf l).map (·.1)).Nodup) (hz : l.length < sizeLine)
    (hq : ∀ D H', H D = none → H' D = some (.dK (madeD c kf vf l)) → L2.Same H H' → Q (.ref D) H') :
    tLockE (tDc (iItems te) (gTup K 2 (gCons (gName i) (gCons (gName j) gNil))) tt tk tv vs) σ H Q := by
  refine ⟨d, _, hd, trivial, fun od => ?_⟩
  refine hte _ _ ⟨d, od, kvI l, rfl, upd_same, fun D hD => ?_⟩ Off.lock
  have hDd : D ≠ d := fun e => by rw [e, upd_same] at hD; cases hD
  have hD0 : H D = none := by rw [upd_ne hDd] at hD; exact hD
  refine dc_it walk_items (fun k H' => H' d = some (.frz od (.dK (kvI l))) ∧ Off d H H' ∧ H' D = some (.dK (madeD c kf vf (l.take k)))) ⟨?_, Off.lock.mut hD0, upd_same⟩ (fun k H' _ p => p.1) ?_ ?_
  · rw [upd_ne hDd.symm]; exact upd_same
  · rintro k v H' H'' hk ⟨p1, p2, p3⟩ ⟨T, a, b, rfl, hT, rfl, e1, e2⟩
    rw [kvI_length] at hk
    obtain ⟨⟨x, y⟩, exy⟩ : ∃ p, l[k]? = some p := ⟨_, List.getElem?_eq_getElem hk⟩
    have ek : (kvI l)[k]? = some (Sum.inl x, V.int y) := by unfold kvI; rw [List.getElem?_map, exy]; rfl
    dsimp only at e1 e2
    rw [ek] at e1 e2
    cases e1; cases e2
    have nTd : d ≠ T := ne_of_none p1 hT
    have nTD : D ≠ T := ne_of_none p3 hT
    refine ⟨T, [.int x, .int y], rfl, SqT.of upd_same, rfl, .int x, [.int y], rfl, .int y, [], rfl, rfl, ?_⟩
    refine ⟨hw _ _, ?_⟩
    have o2 : Off d H (upd H' T (.tup [.int x, .int y])) := p2.tr (Off.new hT)
    obtain ⟨b1, b2⟩ := hb x y (List.mem_of_getElem? exy) _ o2
    refine b1 _ ?_
    have d3 : (upd H' T (.tup [.int x, .int y])) d = some (.frz od (.dK (kvI l))) := by rw [upd_ne nTd]; exact p1
    have D3 : (upd H' T (.tup [.int x, .int y])) D = some (.dK (madeD c kf vf (l.take k))) := by rw [upd_ne nTD]; exact p3
    cases hc : c x y with
    | true =>
      refine iteT ?_
      obtain ⟨b3, b4⟩ := b2 hc
      refine b3 _ (b4 _ ⟨_, Sum.inl (kf x y), rfl, D3, Nat.lt_of_le_of_lt (madeD_len ..) hz, ?_⟩)
      refine ⟨?_, o2.mut hD0, ?_⟩
      · rw [upd_ne hDd.symm]; exact d3
      · rw [upd_same, madeD_step exy nd hc]
    | false =>
      refine iteF ⟨d3, o2, ?_⟩
      rw [madeD_skip exy hc]
      exact D3
  · rintro H' ⟨p1, p2, p3⟩
    rw [kvI_length, List.take_length] at p3
    refine ⟨p1, hq D _ hD0 ?_ (p2.back hd)⟩
    rw [upd_ne hDd]
    exact p3
/-- {k: v for x in range(lo, ..) if ..} -/
def madeR (c : Int → Bool) (kf : Int → Int) (vf : Int → V) (n : Nat) : List (Key × V) := ((List.range n).filter fun (i : Nat) => c (i : Int)).map fun (i : Nat) => ((Sum.inl (kf (i : Int)) : Key), vf (i : Int))
theorem madeR_succ (c : Int → Bool) (kf : Int → Int) (vf : Int → V) (n : Nat) : madeR c kf vf (n + 1) = madeR c kf vf n ++ (if c (n : Int) = true then [((Sum.inl (kf (n : Int)) : Key), vf (n : Int))] else []) := by
  unfold madeR
  rw [List.range_succ, List.filter_append, List.map_append]
  by_cases h : c (n : Int) = true
  · simp [h]
  · have h' : c (n : Int) = false := by simpa using h
    simp [h']
theorem madeR_len (c : Int → Bool) (kf : Int → Int) (vf : Int → V) (n : Nat) : (madeR c kf vf n).length ≤ n := by
  unfold madeR
  rw [List.length_map]
  exact Nat.le_trans (List.length_filter_le _ _) (by simp)
theorem madeR_keys {c : Int → Bool} {vf : Int → V} {n k : Nat} (h : (Sum.inl (k : Int) : Key) ∈ (madeR c (fun x => x) vf n).map (·.1)) : k < n := by
  unfold madeR at h
  rw [List.map_map] at h
  obtain ⟨i, hi, e⟩ := List.mem_map.mp h
  have h1 := (List.mem_filter.mp hi).1
  rw [List.mem_range] at h1
  have : (i : Int) = (k : Int) := Sum.inl.inj e
  omega
theorem dc_range {wi : TI} {i : Nat} {tt : TT} {tk tv : TE} {vs : List Nat} {σ : L2.St} {H0 H : Hp} {Q : VK} {n : Nat} (c : Int → Bool) (vf : Int → V) (hwi : ∀ R : It → Hp → Prop, R (Itr 0 n) H → wi σ H0 R)
    (hw : ∀ a, wipe ((wipe σ vs).set i a) vs = wipe σ vs)
    (hb : ∀ k : Nat, k < n → ∀ H1, L2.Same H H1 → (∀ R : Bool → Hp → Prop, R (c (k : Int)) H1 → tt ((wipe σ vs).set i (some (.int (0 + (k : Nat))))) H1 R) ∧
      (c (k : Int) = true → (∀ R : VK, R (.int (k : Int)) H1 → tk ((wipe σ vs).set i (some (.int (0 + (k : Nat))))) H1 R) ∧ ∀ R : VK, R (vf (k : Int)) H1 → tv ((wipe σ vs).set i (some (.int (0 + (k : Nat))))) H1 R))
    (hz : n < sizeLine) (hq : ∀ D H', H D = none → H' D = some (.dK (madeR c (fun x => x) vf n)) → L2.Same H H' → Q (.ref D) H') :
    tDc wi (gName i) tt tk tv vs σ H0 Q := by
  refine hwi _ ?_
  intro D hD
  refine dc_it walk_range (fun k H' => L2.Same H H' ∧ H' D = some (.dK (madeR c (fun x => x) vf k))) ⟨Same.new hD, upd_same⟩ (fun _ _ _ _ => trivial) ?_ ?_
  · rintro k v H' H'' hk ⟨p1, p2⟩ ⟨rfl, rfl⟩
    refine ⟨hw _, ?_⟩
    obtain ⟨b1, b2⟩ := hb k hk _ p1
    refine b1 _ ?_
    cases hc : c (k : Int) with
    | true =>
      refine iteT ?_
      obtain ⟨b3, b4⟩ := b2 hc
      refine b3 _ (b4 _ ⟨_, Sum.inl (k : Int), rfl, p2, Nat.lt_of_le_of_lt (madeR_len ..) (Nat.lt_trans hk hz), ?_, ?_⟩)
      · intro b o e
        rw [upd_ne (ne_of_none e hD)]
        exact p1 b o e
      · rw [upd_same, putK_new _ (valV_none fun z => Nat.lt_irrefl _ (madeR_keys z)), madeR_succ, if_pos hc]
    | false =>
      refine iteF ⟨p1, ?_⟩
      rw [madeR_succ, hc, p2]
      simp
  · rintro H' ⟨p1, p2⟩
    exact hq D _ hD p2 p1
end U
namespace U
open PySem PySem.Spec PyProof.Rows L2
section
variable {X : Cx}
theorem sw_dict {kx vx : Expr} {gs : List Comprehension} {scope : Scope} {pos py : Pos} {y : Str} {l : Nat} {env : Env} (hk : env.scope.kind = .function) (hy : env.scope.names.lookup y = some .local) (hl : (py.line == pos.line) = true)
    (ha : (scope.names.any fun (n, k) => n == y && (k == .local || k == .cell)) = false) : swapsWith (.DictComp kx vx gs scope pos) (some (.Name y py)) l env = pure true := by
  have ky : env.kindOf y = some .local := hy
  have hb : env.blockKind = .function := by unfold Env.blockKind; rw [hk]; rfl
  unfold swapsWith
  simp only [hb, ky, ha, Expr.pos, hl]
  rfl
/-- name = {..} on one line, the name a local -/
theorem ps_setDc {i : Nat} {y : Str} {py : Pos} {kx vx tg iter : Expr} {ifs : List Expr} {scope : Scope} {own : List (Str × Nat)} {pos spos : Pos} {wi : TI} {g : TG} {tt : TT} {tk tv : TE} (hc : X.calm = true) (hN : X.N.Nodup) (hy : X.N[i]? = some y) (hyl : X.env.scope.names.lookup y = some .local)
    (hsw : swapsWith (.DictComp kx vx [⟨tg, iter, ifs, 0⟩] scope pos) (some (.Name y py)) spos.line X.env = pure true) (hi : PI X tg iter wi) (ok : BlkOk X.N X.env.scope scope own)
    (hg : ∀ (s : Shared) (H : Hp) (C : Addr) (cl : List (Str × Addr)) (fp : List Addr), PG (X.blk s H scope (compEnvC scope cl C X.env) fp) tg g) (ht : ∀ (s : Shared) (H : Hp) (C : Addr) (cl : List (Str × Addr)) (fp : List Addr), PTs (X.blk s H scope (compEnvC scope cl C X.env) fp) ifs tt)
    (hk : ∀ (s : Shared) (H : Hp) (C : Addr) (cl : List (Str × Addr)) (fp : List Addr), PE (X.blk s H scope (compEnvC scope cl C X.env) fp) kx tk)
    (he : ∀ (s : Shared) (H : Hp) (C : Addr) (cl : List (Str × Addr)) (fp : List Addr), PE (X.blk s H scope (compEnvC scope cl C X.env) fp) vx tv) (hs : ∀ x, foldedSetIterable iter X.env x = pure x := by intro _; rfl) :
    PS X (.Assign [.Name y py] (.DictComp kx vx [⟨tg, iter, ifs, 0⟩] scope pos) spos) (tAsg (tDc wi g tt tk tv (own.map (·.2))) (gName i)) := by
  refine ⟨fun pins s σ H D I h => ?_⟩
  rw [exec_Assign_Name_used _ _ _ _ hsw]
  refine wpAny_bind (wpAny_standAt (wpAny_bind ?_))
  show wpAny _ X.A (do let _ ← comprehension (.DictComp kx vx [⟨tg, iter, ifs, 0⟩] scope pos) scope X.env (firstIterPos [⟨tg, iter, ifs, 0⟩] pos) newDict false (eval iter X.env) (some (assign (.Name y py) X.env))) _ _ s
  have h : tDc wi g tt tk tv (own.map (·.2)) σ H (fun x H1 => gName i x σ H1 D.nx) := h
  refine wpAny_bind (thn (dc_core (Qf := fun _ s' => SP X pins D .next s') hc hN I hi ok hg ht hk he hs h fun L C s' m H' I' q hn f => ?_) fun _ s' hq => wpAny_pure (wpAny_pure hq))
  show wpAny _ _ (assign (.Name y py) X.env (.ref L)) _ _ _
  refine wpAny_assign_Name (store_ok2 (v := V.ref L) I' hN hy (.inl hyl) rfl (fun s2 I2 ⟨a, sb, ha⟩ => ?_) (.inr hyl))
  obtain ⟨f0, f1, f2, f3, f4, f5⟩ := f
  have haC : C ≠ a := by
    rcases ha with z | z
    · rw [z]; exact f1
    · exact fun e => f4 y a z e.symm
  refine ⟨m, hn.sameBut sb haC, fun h3 sb3 => ?_⟩
  exact ⟨_, H', I2.turned (t' := s2.toks) (fun b o hb e => (sb3.2 b hb).trans e) f0 f1 f3 f4 f5, q⟩
end
/-- x = e under the lock -/
theorem lock_asg {t : TE} {D : Ends} {σ : L2.St} {H : Hp} {i : Nat} (h : tLockE t σ H (fun v H' => D.nx (σ.set i (some v)) H')) : tLock (tAsg t (gName i)) D σ H := h
/-- [v for x, y in d.items() if ..], the tests and parts reading alone -/
def madeL (c : Int → Int → Bool) (vf : Int → Int → V) (l : List (Int × Int)) : List V := (l.filter fun p => c p.1 p.2).map fun p => vf p.1 p.2
theorem madeL_step {c : Int → Int → Bool} {vf : Int → Int → V} {l : List (Int × Int)} {i : Nat} {x y : Int} (h : l[i]? = some (x, y)) :
    madeL c vf (l.take (i + 1)) = madeL c vf (l.take i) ++ (if c x y = true then [vf x y] else []) := by
  rw [take_more h]
  unfold madeL
  rw [List.filter_append, List.map_append]
  by_cases hc : c x y = true
  · simp [hc]
  · have hc' : c x y = false := by simpa using hc
    simp [hc']
theorem madeL_len (c : Int → Int → Bool) (vf : Int → Int → V) (l : List (Int × Int)) (i : Nat) : (madeL c vf (l.take i)).length ≤ l.length := by
  unfold madeL
  rw [List.length_map]
  exact Nat.le_trans (List.length_filter_le _ _) (by rw [List.length_take]; omega)
theorem lc_items {K : PySem.W.Frag} {d : Addr} {l : List (Int × Int)} {te : TE} {i j : Nat} {tt : TT} {tv : TE} {vs : List Nat} {σ : L2.St} {H : Hp} {Q : VK} (c : Int → Int → Bool) (vf : Int → Int → V)
    (hd : H d = some (.dK (kvI l))) (hte : ∀ H' (R : VK), R (.ref d) H' → Off d H H' → te σ H' R)
    (hw : ∀ a b, wipe (((wipe σ vs).set i a).set j b) vs = wipe σ vs)
    (hb : ∀ x y, (x, y) ∈ l → ∀ H1, Off d H H1 → (∀ R : Bool → Hp → Prop, R (c x y) H1 → tt (((wipe σ vs).set i (some (.int x))).set j (some (.int y))) H1 R) ∧
      (c x y = true → ∀ R : VK, R (vf x y) H1 → tv (((wipe σ vs).set i (some (.int x))).set j (some (.int y))) H1 R))
    (hz : l.length < sizeLine)
    (hq : ∀ D H', H D = none → H' D = some (.lst (madeL c vf l)) → L2.Same H H' → Q (.ref D) H') :
    tLockE (tLc (iItems te) (gTup K 2 (gCons (gName i) (gCons (gName j) gNil))) tt tv vs) σ H Q := by
  refine ⟨d, _, hd, trivial, fun od => ?_⟩
  refine hte _ _ ⟨d, od, kvI l, rfl, upd_same, fun D hD => ?_⟩ Off.lock
  have hDd : D ≠ d := fun e => by rw [e, upd_same] at hD; cases hD
  have hD0 : H D = none := by rw [upd_ne hDd] at hD; exact hD
  refine lc_it walk_items (fun k H' => H' d = some (.frz od (.dK (kvI l))) ∧ Off d H H' ∧ H' D = some (.lst (madeL c vf (l.take k)))) ⟨?_, Off.lock.mut hD0, upd_same⟩ (fun k H' _ p => p.1) ?_ ?_
  · rw [upd_ne hDd.symm]; exact upd_same
  · rintro k v H' H'' hk ⟨p1, p2, p3⟩ ⟨T, a, b, rfl, hT, rfl, e1, e2⟩
    rw [kvI_length] at hk
    obtain ⟨⟨x, y⟩, exy⟩ : ∃ p, l[k]? = some p := ⟨_, List.getElem?_eq_getElem hk⟩
    have ek : (kvI l)[k]? = some (Sum.inl x, V.int y) := by unfold kvI; rw [List.getElem?_map, exy]; rfl
    dsimp only at e1 e2
    rw [ek] at e1 e2
    cases e1; cases e2
    have nTd : d ≠ T := ne_of_none p1 hT
    have nTD : D ≠ T := ne_of_none p3 hT
    refine ⟨T, [.int x, .int y], rfl, SqT.of upd_same, rfl, .int x, [.int y], rfl, .int y, [], rfl, rfl, ?_⟩
    refine ⟨hw _ _, ?_⟩
    have o2 : Off d H (upd H' T (.tup [.int x, .int y])) := p2.tr (Off.new hT)
    obtain ⟨b1, b2⟩ := hb x y (List.mem_of_getElem? exy) _ o2
    refine b1 _ ?_
    have d3 : (upd H' T (.tup [.int x, .int y])) d = some (.frz od (.dK (kvI l))) := by rw [upd_ne nTd]; exact p1
    have D3 : (upd H' T (.tup [.int x, .int y])) D = some (.lst (madeL c vf (l.take k))) := by rw [upd_ne nTD]; exact p3
    have st := madeL_step (c := c) (vf := vf) exy
    cases hc : c x y with
    | true =>
      rw [hc, if_pos rfl] at st
      refine iteT (b2 hc _ ⟨_, D3, Nat.lt_of_le_of_lt (madeL_len ..) hz, ?_⟩)
      refine ⟨?_, o2.mut hD0, ?_⟩
      · rw [upd_ne hDd.symm]; exact d3
      · rw [upd_same, st]
    | false =>
      rw [hc, if_neg Bool.false_ne_true, List.append_nil] at st
      refine iteF ⟨d3, o2, ?_⟩
      rw [st]
      exact D3
  · rintro H' ⟨p1, p2, p3⟩
    rw [kvI_length, List.take_length] at p3
    refine ⟨p1, hq D _ hD0 ?_ (p2.back hd)⟩
    rw [upd_ne hDd]
    exact p3
end U
/-! ### own errors over any built-in error -/
namespace PySem
namespace GEX
open PySem.W PySem.Calls PyProof.Rows PySem.HandSPX Builtin Builtin.ObjectAttr
section
variable {prog : Program} {w : World} {A : Around} {E : Value → Shared → Prop} {R : Result → Shared → Prop} {hp : Heap} {gs : Array GenState} {dr : Drawn} {tn : Nat} {os : OsState}
/-- what is asked of the class's chain -/
structure Mro (m : List Value) : Prop where
  ob : m.contains (.type "object") = true
  ne : m.isEmpty = false
  ps : ∀ self : Value, refuseLoop self "__setattr__" m = pure ()
theorem mro_of {bmB bm : List Value} {B : String} (SF : StoreFacts B bmB "object.__setattr__" "object") (h : excTail bmB bm = true) (C : Addr) : Mro (.ref C :: bm) := by
  have h' : excTail bmB (.ref C :: bm) = true := h
  exact ⟨(excTail_contains "object" _ h').trans SF.hasOwner, rfl, fun self => excTail_pass self (SF.passes self) _ h'⟩
theorem osa_first {K : Frag} {nm : Str} {tk : Tok} {v : Value} {x C : Addr} {fv : Array Value} {cd : ClassData} (X : K.In hp) (hx : hp.get? x = some { cls := .ref C, data := .fields fv }) (hcd : clsIn K C = some cd) (hm : Mro cd.mro) (hh : cd.hasDict = true) (ha : findIn K (.ref C) nm = some none)
    (hq : ∀ h' tk' dx, (∀ b o, b ≠ x → hp.get? b = some o → h'.get? b = some o) → hp.objs.size ≤ dx → dx ≠ x → h'.get? x = some { cls := .ref C, dict := some dx, data := .fields fv } → h'.Ns1 dx (fun y => if y = nm then some v else none) → R (.ok (.ret .none)) ⟨h', gs, dr, tk', os⟩) :
    codeAny (model prog w) A (.call (.builtin "object.__setattr__") ⟨[.ref x, .str nm tk, v], []⟩) R ⟨hp, gs, dr, tn, os⟩ := by
  have I : InstAt hp x { cls := .ref C, data := .fields fv } C none := ⟨hx, rfl, rfl, trivial⟩
  have hxs : x ≠ hp.objs.size := Nat.ne_of_lt (Heap.lt_size hx)
  have S0 := F.store_object
  have l1 : Looks (model prog w) hp (isInstance (.ref x) (.type "object")) true := I.type.andThen (looks_mroIn X (by unfold mroIn; rw [hcd, Option.bind_some, if_neg (by rw [hm.ne]; decide), hm.ob]))
  refine codeAny_call_builtin S0.slot.plain S0.entry ?_
  refine @check_slot (model prog w) _ _ ⟨hp, gs, dr, tn, os⟩ "object.__setattr__" "object" "__setattr__" (.ref x) [.str nm tk, v] [] _ S0.kind S0.split l1 (S0.args (.ref x) (.str nm tk) v) ?_
  have l2 : Looks (model prog w) hp (mroOf (.ref C)) cd.mro := (looks_clsIn X hcd).andThen .now
  have l3 : Looks (model prog w) hp (storeTaker? none) none := .now
  have l4 : Looks (model prog w) hp (classData C) cd := looks_clsIn X hcd
  rw [osa_eq, refuse_eq]
  refine wpAny_bind (wpAny_bind (I.type.at (wpAny_bind (l2.at ?_)))); rw [hm.ps]
  refine wpAny_pure (wpAny_bind (I.type.at (wpAny_bind ((looks_findIn X ha).at (wpAny_bind (l3.at ?_))))))
  show wpAny _ _ (storeInOwnDict (.ref x) (.ref C) (.str nm tk) nm v false) _ _ _
  obtain ⟨c1, c2, c3, c4, c5, c6, c7, c8, c9, c10, c11⟩ := cd
  have hh' : c6 = true := hh
  subst hh'
  unfold storeInOwnDict ownDictForStores
  repeat (first | with_reducible refine HandSPX.store_in_new ?_ ?_ | with_reducible refine wpAny_loadPart_at hx ?_ | with_reducible refine l4.at ?_ | wp_step)
  · refine ⟨_, #[], _, (Heap.get?_update_ne _ _ _ _ hxs.symm).trans (Heap.get?_push_at rfl rfl), rfl, fun e he => ?_, fun _ => rfl⟩
    simp at he
  · intro h' tk' hn' hs
    have hx1 : (hp.push { cls := .type "dict", data := .dict #[] }).get? x = some { cls := .ref C, data := .fields fv } := Heap.get?_push_of_some _ hx
    exact hq h' tk' hp.objs.size (fun b o hb ho => (hs.2 b (Nat.ne_of_lt (Heap.lt_size ho))).trans ((Heap.get?_update_ne _ _ _ _ hb).trans (Heap.get?_push_of_some _ ho))) (Nat.le_refl _) hxs.symm ((hs.2 x hxs).trans (Heap.get?_update_self _ hx1 rfl)) hn'
theorem osa_more {K : Frag} {nm : Str} {tk : Tok} {v : Value} {x C dx : Addr} {fv : Array Value} {cd : ClassData} {m0 : Str → Option Value} {nl : List Str} (X : K.In hp) (hx : hp.get? x = some { cls := .ref C, dict := some dx, data := .fields fv }) (hns : hp.Ns1 dx m0) (hw : Within m0 nl) (hz : nl.length ≤ 1000) (hcd : clsIn K C = some cd) (hm : Mro cd.mro) (hh : cd.hasDict = true) (ha : findIn K (.ref C) nm = some none)
    (hq : ∀ h' tk', (∀ b o, b ≠ dx → hp.get? b = some o → h'.get? b = some o) → h'.Ns1 dx (fun y => if y = nm then some v else m0 y) → R (.ok (.ret .none)) ⟨h', gs, dr, tk', os⟩) :
    codeAny (model prog w) A (.call (.builtin "object.__setattr__") ⟨[.ref x, .str nm tk, v], []⟩) R ⟨hp, gs, dr, tn, os⟩ := by
  obtain ⟨oD, _, _, hoD, _, _⟩ := hns.count hw
  have I : InstAt hp x { cls := .ref C, dict := some dx, data := .fields fv } C (some oD) := ⟨hx, rfl, rfl, hoD⟩
  have S0 := F.store_object
  have l1 : Looks (model prog w) hp (isInstance (.ref x) (.type "object")) true := I.type.andThen (looks_mroIn X (by unfold mroIn; rw [hcd, Option.bind_some, if_neg (by rw [hm.ne]; decide), hm.ob]))
  refine codeAny_call_builtin S0.slot.plain S0.entry ?_
  refine @check_slot (model prog w) _ _ ⟨hp, gs, dr, tn, os⟩ "object.__setattr__" "object" "__setattr__" (.ref x) [.str nm tk, v] [] _ S0.kind S0.split l1 (S0.args (.ref x) (.str nm tk) v) ?_
  have l2 : Looks (model prog w) hp (mroOf (.ref C)) cd.mro := (looks_clsIn X hcd).andThen .now
  have l3 : Looks (model prog w) hp (storeTaker? none) none := .now
  have l4 : Looks (model prog w) hp (classData C) cd := looks_clsIn X hcd
  rw [osa_eq, refuse_eq]
  refine wpAny_bind (wpAny_bind (I.type.at (wpAny_bind (l2.at ?_)))); rw [hm.ps]
  refine wpAny_pure (wpAny_bind (I.type.at (wpAny_bind ((looks_findIn X ha).at (wpAny_bind (l3.at ?_))))))
  show wpAny _ _ (storeInOwnDict (.ref x) (.ref C) (.str nm tk) nm v false) _ _ _
  obtain ⟨c1, c2, c3, c4, c5, c6, c7, c8, c9, c10, c11⟩ := cd
  have hh' : c6 = true := hh
  subst hh'
  unfold storeInOwnDict ownDictForStores
  repeat (first | with_reducible refine OEX.store_in_old hns hw hz ?_ | with_reducible refine wpAny_loadPart_at hx ?_ | with_reducible refine l4.at ?_ | wp_step)
  intro h' tk' hn' hs
  exact hq h' tk' (fun b o hb ho => (hs.2 b hb).trans ho) hn'
end
end GEX
end PySem
namespace L2
open PySem PySem.Spec PyProof.Rows PySem.W
/-- what the written part says of an own error class -/
structure OexG (K : PySem.W.Frag) (C : Addr) : Prop where
  cls : ∃ B newId initId bmB nm q N bs bm sn sub ab col dd k0 k1 k2 k3 k5, PySem.StoreFacts B bmB "object.__setattr__" "object" ∧ ExcBaseFacts B newId initId bmB ∧ K.lookup C = some (excClassObj nm q C N bs bm true sn sub ab col dd k0 k1 k2 k3 k5 newId) ∧ PySem.W.excTail bmB bm = true
  sa : PySem.W.findIn K (.ref C) "__setattr__" = some (some (.builtin "object.__setattr__"))
  exC : PySem.W.subIn K (.ref C) (.type "BaseException") = some true
  tyC : PySem.W.typeIn K (.ref C) = some (.type "type")
  kC : PySem.W.keepIn K (.ref C) = true
section
variable {X : Cx} {pins : List (Addr × Obj)} {σ : St} {H : Hp} {s : Shared} {a C dx : Addr} {f : Str} {y : V} {u : Value} {fs : List (Str × V)} {Q : Unit → Shared → Prop} {E : Value → Shared → Prop} {A : Around}
theorem OexG.look {K : PySem.W.Frag} {C : Addr} (T : OexG K C) : ∃ cd, PySem.W.clsIn K C = some cd ∧ PySem.GEX.Mro cd.mro ∧ cd.hasDict = true := by
  obtain ⟨B, nI, iI, bmB, nm, q, N, bs, bm, sn, sub, ab, col, dd, k0, k1, k2, k3, k5, SF, _, hC, hb⟩ := T.cls
  refine ⟨{ name := nm, bases := bs, mro := .ref C :: bm, ns := N, qualname := q, hasDict := true, slotNames := sn, subclasses := sub, abstract := ab, collection := col, hasDel := false }, ?_, PySem.GEX.mro_of SF hb C, rfl⟩
  unfold PySem.W.clsIn
  rw [hC] <;> rfl
/-- self.f = y, none there as yet -/
theorem ostG_new (T : OexG X.K C) (I : Inv X pins σ H s) (e : H a = some (exo a C none)) (hno : PySem.W.findIn X.K (.ref C) f = some none) (ry : RelV y u)
    (k : ∀ dx s', H dx = none → dx ≠ a → Inv X pins σ (upd (upd H dx (exd dx [(f, y)])) a (exo a C (some dx))) s' → Q () s') : wpAny (model X.prog X.w) A (setAttr (.ref a) f u) Q E s := by
  obtain ⟨cd, hcd, hmr, hdc⟩ := T.look
  obtain ⟨t1, ho⟩ := exo_at I.hok e
  obtain ⟨h0, gs, dr, tn, os⟩ := s
  refine PySem.W.set_plain I.kIn (ox := ⟨.ref C, none, .fields #[.ref t1, .none, .none, .none, .bool false, .none], #[]⟩) (od := none) ⟨ho, rfl, rfl, trivial⟩ T.sa ?_
  refine PySem.GEX.osa_first I.kIn ho hcd hmr hdc hno fun h' tk' dx kp dn dne hx hn => ?_
  have dfree : H dx = none := I.hok.fresh dn
  have low : ∀ {b : Addr} {o : Obj}, h0.get? b = some o → b ≠ dx := fun q => Nat.ne_of_lt (Nat.lt_of_lt_of_le (Heap.lt_size q) dn)
  have apart : ∀ {b : Addr}, H b = none → b ≠ a := fun {b} n z => by subst z; rw [e] at n; cases n
  have U1 : Un X.fs [] H (upd (upd H dx (exd dx [(f, y)])) a (exo a C (some dx))) h0 h' := by
    refine ⟨fun b o q n _ _ => kp b o (apart n) q, fun b o q n _ _ => ⟨o.slots, kp b o (apart n) q⟩, fun b o q n _ => ?_, fun b o q _ => ?_, fun b xs q => ?_, fun b o v q => ?_, fun b ps q => ⟨#[], ?_⟩⟩
    · rw [upd_ne (apart n), upd_ne (low q)]; exact n
    · by_cases hb : b = a
      · subst hb; exact ⟨_, hx⟩
      · exact ⟨o, kp b o hb q⟩
    · rw [upd_ne (at_ne e q exo_tup), upd_ne (ne_of_none q dfree)]; exact q
    · rw [upd_ne (at_ne e q exo_frz), upd_ne (ne_of_none q dfree)]; exact q
    · rw [upd_ne (at_ne e q exo_tbl), upd_ne (ne_of_none q dfree), q]; simp
  refine k dx _ dfree dne (I.un (t' := tk') U1 fun b o q => ?_)
  by_cases hb : b = a
  · subst hb; rw [upd_same] at q; cases q
    exact exo_ok hx
  · rw [upd_ne hb] at q
    by_cases hd : b = dx
    · subst hd; rw [upd_same] at q; cases q
      exact exd_ok hn (relO_put (fs := []) ry fun _ => True.intro)
    · rw [upd_ne hd] at q
      refine (I.hok b o q).stay (fun c v hc z => kp c v ?_ z) (fun c hc => ?_) (fun c xs hc => ?_)
      · rcases hc with rfl | hc
        · exact hb
        · exact at_ne e hc exo_own
      · rw [upd_ne (at_ne e hc exo_own), upd_ne (ne_of_none hc dfree)]; exact hc
      · rw [upd_ne (at_ne e hc exo_tup), upd_ne (ne_of_none hc dfree)]; exact hc
theorem ostG_old (T : OexG X.K C) (I : Inv X pins σ H s) (e : H a = some (exo a C (some dx))) (ed : H dx = some (exd dx fs)) (hl : fs.length ≤ 900) (hno : PySem.W.findIn X.K (.ref C) f = some none) (ry : RelV y u)
    (k : ∀ s', Inv X pins σ (upd H dx (exd dx ((f, y) :: fs))) s' → Q () s') : wpAny (model X.prog X.w) A (setAttr (.ref a) f u) Q E s := by
  obtain ⟨cd, hcd, hmr, hdc⟩ := T.look
  obtain ⟨t1, ho⟩ := exo_at I.hok e
  obtain ⟨mA, hns, rel⟩ := exd_at I.hok ed
  have win := within_of rel
  obtain ⟨oD, _, _, hoD, _, _⟩ := hns.count win
  obtain ⟨h0, gs, dr, tn, os⟩ := s
  refine PySem.W.set_plain I.kIn (ox := ⟨.ref C, some dx, .fields #[.ref t1, .none, .none, .none, .bool false, .none], #[]⟩) (od := some oD) ⟨ho, rfl, rfl, hoD⟩ T.sa ?_
  refine PySem.GEX.osa_more I.kIn ho hns win (by rw [List.length_map]; omega) hcd hmr hdc hno fun h' tk' kp hn => ?_
  have there : ∃ o, h'.get? dx = some o := by
    obtain ⟨o, _, _, e', _⟩ := hn
    exact ⟨o, e'⟩
  exact k _ (I.write (t' := tk') (x := dx) (e := dx) (o := exd dx ((f, y) :: fs)) (by rw [ed]; exact True.intro) (.inl rfl) kp there (exd_ok hn (relO_put ry rel)))
end
/-- self.f = e, self an error being made -/
def tOstG (K : PySem.W.Frag) (f : Str) (to te : TE) : TS := fun D σ H => te σ H fun y H1 => to σ H1 fun x H2 => ∃ a C : Addr, x = .ref a ∧ OexG K C ∧ PySem.W.findIn K (.ref C) f = some none ∧
  ((H2 a = some (exo a C none) ∧ ∀ dx, H2 dx = none → dx ≠ a → D.nx σ (upd (upd H2 dx (exd dx [(f, y)])) a (exo a C (some dx)))) ∨
    ∃ (dx : Addr) (fs : List (Str × V)), H2 a = some (exo a C (some dx)) ∧ H2 dx = some (exd dx fs) ∧ fs.length ≤ 900 ∧ D.nx σ (upd H2 dx (exd dx ((f, y) :: fs))))
section
variable {X : Cx} {o e : Expr} {es : List Expr} {to te : TE} {ta : TA} {f : Str} {p p' pos : Pos}
theorem ps_ostG (ho : PE X o to) (he : PE X e te) (hs : swapsWith e (some (.Attribute o f p')) pos.line X.env = pure false := by rfl) : PS X (.Assign [.Attribute o f p'] e pos) (tOstG X.K f to te) := by
  refine ⟨fun pins s σ H D I h => plainObj_wpAny_Assign_Attribute (thn (he.run pins s σ H _ I h) fun v s1 ⟨y, H1, I1, r1, q1⟩ => thn (ho.run pins s1 σ H1 _ I1 q1) fun u s2 ⟨x, H2, I2, r2, a, C, ex, T, hno, q⟩ => ?_) hs⟩
  subst ex
  cases (show u = Value.ref a from r2)
  rcases q with ⟨ea, q⟩ | ⟨dx, fs, ea, ed, hl, q⟩
  · exact ostG_new T I2 ea hno r1 fun dx _ n ne J => ⟨σ, _, J, q dx n ne⟩
  · exact ostG_old T I2 ea ed hl hno r1 fun _ J => ⟨σ, _, J, q⟩
/-- C(e, ..) -/
theorem pmk_oexG {CX : CXT} {x : Str} {C fI : Addr} {k : Nat} {sp : Sp} (T : OexG X.K C) (iC : PySem.W.findIn X.K (.ref C) "__init__" = some (some (.ref fI))) (tI : PySem.W.typeIn X.K (.ref fI) = some (.type "function"))
    (F1 : FnR X.prog X.w X.K X.mg X.base CX k fI sp) (hr : Room (k + 1) X.A) (hx : Passes CX X (fun _ _ _ => False)) (hg : Gl X x) (hm : X.mg x = some (.ref C)) (ha : PA X (e :: es) ta)
    (hdb : (x == ("__debug__" : Str)) = false := by decide) (he : starEach (e :: es) X.env = (false, eval e X.env) :: starEach es X.env := by rfl) (hpl : (backTo pos (starEach es X.env)).any (·.1) = false := by rfl) :
    PMk X (.Call (.Name x p) (e :: es) [] pos) (tMkO C sp [] ta) := by
  intro pins s σ H Q I h
  obtain ⟨B, nI, iI, bmB, nm, q, N, bs, bm, sn, sub, ab, col, dd, k0, k1, k2, k3, k5, _, BF, hC, hbm⟩ := T.cls
  refine wpAny_Call_Name_kw (ld_glob I hg hm ?_ hdb)
  refine PySem.W.callWith_K (h₀ := X.base) I.ok.mod.kin T.kC (thn (ha.run pos pins s σ H _ I h) fun us s1 ⟨vs, H1, I1, r1, hz, q1⟩ => ⟨I1.kIn, ?_⟩) he hpl
  show wpAny _ _ (call (.ref C) us) _ _ _
  obtain ⟨h0, gs, dr, tn, os⟩ := s1
  have up : h0.objs.size ≤ h0.objs.size + 1 := Nat.le_succ _
  have hq := q1 (h0.objs.size + 1) (I1.hok.fresh up)
  rw [List.append_nil] at hq
  have kk : ∀ b o, h0.get? b = some o → ((h0.push (PySem.W.kdv_tup us)).push (PySem.HandSPX.excO C h0.objs.size)).get? b = some o := fun b o z => Heap.get?_push_of_some _ (Heap.get?_push_of_some _ z)
  have there : ((h0.push (PySem.W.kdv_tup us)).push (PySem.HandSPX.excO C h0.objs.size)).get? (h0.objs.size + 1) = some (PySem.HandSPX.excO C h0.objs.size) := by heap_get
  have I2 : Inv X pins σ (upd H1 (h0.objs.size + 1) (exo (h0.objs.size + 1) C none)) ⟨(h0.push (PySem.W.kdv_tup us)).push (PySem.HandSPX.excO C h0.objs.size), gs, dr, tn, os⟩ := I1.laid (t' := tn) kk up (exo_ok there)
  have r2 : Vals (V.ref (h0.objs.size + 1) :: vs) (Value.ref (h0.objs.size + 1) :: us) := .cons rfl r1
  have hus : us.length ≤ sizeLine := by rw [← Paired.length r1, sizeLine_eq]; omega
  refine wpAny_call (PySem.HandSPX.call_own BF (fun Y => PySem.W.excTail_contains Y bm hbm) (I1.kIn _ _ hC) (PySem.W.looks_findIn I1.kIn iC) (fun self => PySem.W.bind_fn I1.kIn self tI) hus ?_)
  refine codeAny_mono (F1 _ X.stack _ _ (Value.ref (h0.objs.size + 1) :: us) _ _ (fun _ _ _ => False) (hr.make C us []) (I2.env0.make C us []) r2 hq) fun r s' hq' => ?_
  cases r with
  | error er => exact hx pins σ _ _ er s' I2 hq'
  | ok fl =>
    cases fl with
    | ret u =>
      obtain ⟨v, H2, os2, bare2, un2, hok2, rv, ev, d, fs, ea, ed, hd1, q2⟩ := hq'
      subst ev
      obtain ⟨h2, g2, d2, t2, os'⟩ := s'
      exact ⟨rv, mk_end (raises_own T.exC T.tyC) I1 up kk un2 hok2 os2 bare2 ea ed hd1 q2⟩
    | next => exact False.elim hq'
    | brk => exact False.elim hq'
    | cont => exact False.elim hq'
end
end L2
namespace U
open PySem PySem.Spec PyProof.Rows L2 StX
section
variable {P : Program} {w : World} {K : PySem.W.Frag} {mg : Str → Option Value} {base : Heap}
/-- a def that may raise -/
theorem FnAt.okX {x qual : Str} {st : Stmt} {f : Addr} {N ps : List Str} {k : Nat} {sp : Sp} (A : FnAt K x qual st f ps) (S : FnScope N ps (defScope st)) (len : ∀ vs H Q E, sp vs H Q E → vs.length = ps.length)
    (hbody : ∀ (cdv : Value) (A : Around) (outer : List Env) (s : Shared) (H : Hp) (vs : List V) (Q : VK) (E : XK), Room k (A.deeper (envOfC qual (defScope st) s.heap.objs.size f cdv)) → sp vs H Q E →
      ∃ t, PSs (cxOf (L2.CX P w) P w K mg base N qual (defScope st) f cdv A outer s H E) (defBody st) t ∧ t { nx := fun _ H' => Q .non H', rt := Q } (start N vs) H) : FnR P w K mg base (L2.CX P w) (k + 1) f sp := by
  obtain ⟨fd, F, B⟩ := A.ex
  have R := (F.okX (P := P) (w := w) (mg := mg) (base := base) S len hbody).raw B .nil
  exact R.imp fun vs H Q E h => by rw [List.append_nil]; exact h
end
section
variable {X : Cx} {CX : CXT} {pins : List (Addr × Obj)} {σ : L2.St} {H : Hp} {s : Shared} {a C dx p g f : Addr} {n k : Nat} {sp : Sp} {E : L2.St → XK} {v : V} {u : Value} {x : Str} {e ea eb : Expr} {es : List Expr} {ta tb : TE} {t : TA} {pp pos : Pos}
theorem run_RS {Q : VK} {us : List Value} {vs : List V} {E : XK} (F : FnR X.prog X.w X.K X.mg X.base CX k f sp) (hr : Room k X.A) (hx : PassesAt CX X σ E) (I : Inv X pins σ H s) (r : Vals vs us) (h : sp vs H Q E) :
    codeAny (model X.prog X.w) X.A (.call (.ref f) ⟨us, []⟩) (fun r s' => match r with | .ok (.ret v) => EP X pins σ Q v s' | .ok _ => False | .error e => X.xe e s') s := by
  refine codeAny_mono (F X.A X.stack s H us vs Q E hr I.env0 r h) fun z s' hq => ?_
  match z, hq with
  | .error er, hq => exact hx pins H s er s' I hq
  | .ok (.ret w), hq => exact I.after hq
  | .ok .next, hq => exact hq.elim
  | .ok .brk, hq => exact hq.elim
  | .ok .cont, hq => exact hq.elim
/-- x(e, ..), what it raises told by the slots -/
def tCallRS (sp : Sp) (E : L2.St → XK) (t : TA) : TE := fun σ H Q => t σ H fun vs H1 => sp vs H1 Q (E σ)
theorem pe_callRS (F : FnR X.prog X.w X.K X.mg X.base CX k f sp) (hr : Room k X.A) (hk : PySem.W.keepIn X.K (.ref f) = true) (hg : Gl X x) (hm : X.mg x = some (.ref f)) (hx : ∀ σ, PassesAt CX X σ (E σ)) (ha : PA X (e :: es) t) (hdb : (x == ("__debug__" : Str)) = false := by decide)
    (he : starEach (e :: es) X.env = (false, eval e X.env) :: starEach es X.env := by rfl) (hpl : (backTo pos (starEach es X.env)).any (·.1) = false := by rfl) : PE X (.Call (.Name x pp) (e :: es) [] pos) (tCallRS sp E t) := by
  refine ⟨fun pins s σ H Q I h => wpAny_Call_Name_kw (ld_glob I hg hm ?_ hdb)⟩
  refine PySem.W.callWith_K (h₀ := X.base) I.ok.mod.kin hk (thn (ha.run pos pins s σ H _ I h) fun us s1 ⟨vs, H1, I1, r, q⟩ => ⟨I1.kIn, wpAny_call (run_RS F hr (hx σ) I1 r q)⟩) he hpl
end
end U
namespace U
open PySem PySem.Spec PyProof.Rows L2 StX
end U
namespace U
open PySem PySem.Spec PyProof.Rows L2
/-! ### own errors with one or two fields -/
def spIni1 (C : Addr) (f : Str) : Sp := fun vs H Q _ => ∃ (a : Addr) (v : V), vs = [.ref a, v] ∧ H a = some (exo a C none) ∧ ∀ dx, H dx = none → dx ≠ a → Q .non (upd (upd H dx (exd dx [(f, v)])) a (exo a C (some dx)))
theorem mk_one {C : Addr} {f : Str} {v : V} {H : Hp} {Q : XK} (h : ∀ d, H d = none → Q (.ref C) (some d) (upd H d (.xd [(f, v)]))) :
    [v].length ≤ 1000 ∧ ∀ a, H a = none → spIni1 C f (.ref a :: ([v] ++ [])) (upd H a (exo a C none))
      (fun z H2 => z = .non ∧ ∃ (d : Addr) (fs : List (Str × V)), H2 a = some (exo a C (some d)) ∧ H2 d = some (exd d fs) ∧ H d = none ∧ Q (.ref C) (some d) (upd (del H2 a) d (.xd fs))) (fun _ _ _ => False) := by
  refine ⟨(by show 1 ≤ 1000; decide), fun a ha => ⟨a, v, rfl, upd_same, fun dx hd ne => ⟨rfl, dx, [(f, v)], upd_same, ?_, ?_, ?_⟩⟩⟩
  · rw [upd_ne ne, upd_same]
  · rw [upd_ne ne] at hd; exact hd
  · rw [upd_ne ne] at hd
    have e : upd (del (upd (upd (upd H a (exo a C none)) dx (exd dx [(f, v)])) a (exo a C (some dx))) a) dx (.xd [(f, v)]) = upd H dx (.xd [(f, v)]) := by
      funext b
      by_cases h1 : b = dx
      · subst h1; rw [upd_same, upd_same]
      · rw [upd_ne h1, upd_ne h1]
        by_cases h2 : b = a
        · subst h2
          rw [ha]
          unfold del
          simp
        · unfold del
          simp only [h2, if_false]
          rw [upd_ne h2, upd_ne h1, upd_ne h2]
    rw [e]
    exact h dx hd
end U
namespace U
open PySem PySem.Spec PyProof.Rows L2
end U
namespace U
open PySem PySem.Spec PyProof.Rows L2 StX
/-! ### defs that are called where no repr runs around them -/
def FnG (P : Program) (w : World) (K : PySem.W.Frag) (mg : Str → Option Value) (base : Heap) (CX : CXT) (k : Nat) (f : Addr) (sp : Sp) : Prop :=
  ∀ (A : Around) (outer : List Env) (s : Shared) (H : Hp) (us : List Value) (vs : List V) (Q : VK) (E : XK), A.guards = some [] → Room k A → Env0 P w K mg base A outer s H → Vals vs us → sp vs H Q E → codeAny (model P w) A (.call (.ref f) ⟨us, []⟩) (CR CX outer P w H s Q E) s
section
variable {P : Program} {w : World} {K : PySem.W.Frag} {mg : Str → Option Value} {base : Heap} {CX : CXT} {j k : Nat} {f : Addr} {sp sp' : Sp}
theorem FnG.mono (F : FnG P w K mg base CX j f sp) (h : j ≤ k) : FnG P w K mg base CX k f sp := fun A outer s H us vs Q E g hr => F A outer s H us vs Q E g (hr.mono h)
theorem FnG.imp (F : FnG P w K mg base CX k f sp) (h : ∀ vs H Q E, sp' vs H Q E → sp vs H Q E) : FnG P w K mg base CX k f sp' := fun A outer s H us vs Q E g hr e0 r z => F A outer s H us vs Q E g hr e0 r (h _ _ _ _ z)
/-- the body's walk, with what is around -/
theorem bodyG {x qual : Str} {st : Stmt} {fd : FuncData} {N ps : List Str} (F : Fun K x qual st f fd) (S : FnScope N ps (defScope st)) (len : ∀ vs H Q E, sp vs H Q E → vs.length = ps.length)
    (hbody : ∀ (cdv : Value) (A : Around) (outer : List Env) (s : Shared) (H : Hp) (vs : List V) (Q : VK) (E : XK), A.guards = some [] → Room k (A.deeper (envOfC qual (defScope st) s.heap.objs.size f cdv)) → sp vs H Q E →
      ∃ t, PSs (cxOf CX P w K mg base N qual (defScope st) f cdv A outer s H E) (defBody st) t ∧ t { nx := fun _ H' => Q .non H', rt := Q } (start N vs) H)
    (A : Around) (outer : List Env) (s : Shared) (H : Hp) (args : Args) (us : List Value) (vs : List V) (Q : VK) (E : XK) (g : A.guards = some []) (hr : Room (k + 1) A) (e0 : Env0 P w K mg base A outer s H) (hb : BindsTo s fd args (ps.zip us)) (r : Vals vs us) (hs : sp vs H Q E) :
    codeAny (model P w) A (.call (.ref f) args) (CR CX outer P w H s Q E) s := by
  obtain ⟨oc, od, kV, doc, pm, an, cdv, ct, osl, rfl, lk, hcd⟩ := F.ex
  have hl := len _ _ _ _ hs
  have kin : K.In s.heap := e0.mod.kin.keeps fun b o e => (e0.bs b o e).1
  have lim : s.heap.NoLimit := e0.mod.nolimit.keeps fun b o e => (e0.bs b o e).1
  have names : ∀ y ∈ ps.zip us, (defScope st).names.lookup y.1 = some .local ∨ ((defScope st).names.lookup y.1 = some .cell ∧ ((cellsFrom (s.heap.objs.size + 1) (defScope st).names []).lookup y.1).isSome = true) := by
    rintro ⟨n, v⟩ hy
    rcases S.par n (List.of_mem_zip hy).1 with q | q
    · exact .inl q
    · exact .inr ⟨q, PySem.W.cellsFrom_some _ _ _ (.inl q)⟩
  refine codeAny_call_function hr.depth (kin _ _ lk) rfl S.co S.gen rfl (PySem.W.codeRec_of kin hcd) (hb _ _ _ _ ?_)
  refine wpAny_newFunctionEnv_cells S.kind names fun env he s1 z => ?_
  subst he
  refine ⟨lim.keeps z.toInCall.keep, codeAny_func ?_⟩
  obtain ⟨t, ht, hq⟩ := hbody cdv A outer s H vs Q E g (hr.deeper _) hs
  have I : Inv (cxOf CX P w K mg base N qual (defScope st) f cdv A outer s H E) [] (start N vs) H s1 := inv_start S hr.hd e0 hl r z
  refine wpAny_mono (ht.run [] s1 (start N vs) H _ I hq) (fun fl s' h' => ?_) fun _ _ h' => h'
  match fl, h' with
  | .ret u, ⟨v, σ', H', J, rv, q⟩ => exact ⟨v, H', J.os, J.bare, J.base, J.hok, rv, q⟩
  | .next, ⟨σ', H', J, q⟩ => exact ⟨.non, H', J.os, J.bare, J.base, J.hok, rfl, q⟩
  | .brk, ⟨_, _, _, q⟩ => exact q.elim
  | .cont, ⟨_, _, _, q⟩ => exact q.elim
theorem FnAt.okG {x qual : Str} {st : Stmt} {N ps : List Str} (B : FnAt K x qual st f ps) (S : FnScope N ps (defScope st)) (len : ∀ vs H Q E, sp vs H Q E → vs.length = ps.length)
    (hbody : ∀ (cdv : Value) (A : Around) (outer : List Env) (s : Shared) (H : Hp) (vs : List V) (Q : VK) (E : XK), A.guards = some [] → Room k (A.deeper (envOfC qual (defScope st) s.heap.objs.size f cdv)) → sp vs H Q E →
      ∃ t, PSs (cxOf CX0 P w K mg base N qual (defScope st) f cdv A outer s H E).nox (defBody st) t ∧ t { nx := fun _ H' => Q .non H', rt := Q } (start N vs) H) : FnG P w K mg base CX0 (k + 1) f sp := by
  obtain ⟨fd, F, bi⟩ := B.ex
  intro A outer s H us vs Q E g hr e0 r hs
  have hl : (us ++ []).length = ps.length := by rw [List.append_nil, ← r.length]; exact len _ _ _ _ hs
  refine bodyG F S len (fun cdv A outer s H vs Q E g hr hs => ?_) A outer s H ⟨us, []⟩ us vs Q E g hr e0 ?_ r hs
  · obtain ⟨t, h, q⟩ := hbody cdv A outer s H vs Q E g hr hs
    exact ⟨t, h.nox, q⟩
  · have := bi s us (e0.mod.kin.keeps fun b o e => (e0.bs b o e).1) hl
    rw [List.append_nil] at this
    exact this
end
section
variable {X : Cx} {CX : CXT} {pins : List (Addr × Obj)} {σ : L2.St} {H : Hp} {s : Shared} {f : Addr} {k : Nat} {sp : Sp} {x : Str} {e : Expr} {es : List Expr} {t : TA} {pp pos : Pos}
/-! ### repr -/
/-- repr(v), v a None, a bool, an int, a text, lists and tuples of them -/
def rRepr (K : PySem.W.Frag) : List V → Hp → VK → Prop := fun xs H Q => ∃ v d, xs = [v] ∧ Dp K H v d ∧ d.showable = true ∧ d.hasDict = false ∧ d.depth ≤ 60 ∧ d.shown.length ≤ sizeLine ∧ Q (.str d.shown) H
theorem call_repr (g : X.A.guards = some []) (hu : X.A.units + 64 < cLine) : CallR X (.builtin "repr") (rRepr X.K) := by
  intro pins s σ H xs us Q I r h
  obtain ⟨v, d, rfl, hd, hs, hn, hdp, hz, q⟩ := h
  obtain ⟨u, rfl, ru⟩ := r.one
  obtain ⟨as, rd⟩ := Dp.reads I d v u hd ru
  cases rd with
  | none =>
    simp only [PyData.shown] at q
    exact PySem.P.repr_of_none ⟨.str _, H, I.tok _, ⟨_, rfl⟩, q⟩
  | bool b =>
    simp only [PyData.shown] at q
    exact PySem.P.repr_of_bool ⟨.str _, H, I.tok _, ⟨_, rfl⟩, q⟩
  | int i t =>
    simp only [PyData.shown] at q
    exact PySem.P.repr_of_int (by simpa [PyData.showable] using hs) ⟨.str _, H, I.tok _, ⟨_, rfl⟩, q⟩
  | str x t =>
    simp only [PyData.shown] at q hz
    exact PySem.P.repr_of_str ⟨.str _, H, I.tok _, ⟨_, rfl⟩, q⟩ hz
  | list h1 h2 h3 h4 => exact repr_of_reads' (.list h1 h2 h3 h4) hs (PyData.noDict_hsm hn) g (by omega) (fun _ _ e => e) (fun h' u tk hk => ⟨.str _, H, I.kept (t' := tk) hk, ⟨_, rfl⟩, q⟩) hz
  | tuple h1 h2 h3 h4 => exact repr_of_reads' (.tuple h1 h2 h3 h4) hs (PyData.noDict_hsm hn) g (by omega) (fun _ _ e => e) (fun h' u tk hk => ⟨.str _, H, I.kept (t' := tk) hk, ⟨_, rfl⟩, q⟩) hz
  | dict h1 h2 h3 h4 h5 => simp [PyData.hasDict] at hn
/-! ### a dict of ints, shown -/
end
end U
namespace U
open PySem PySem.Spec PyProof.Rows L2 StX
/-- what holds no other object -/
inductive Sc : V → PyData → Prop
  | non : Sc .non .none
  | bl (b : Bool) : Sc (.bl b) (.bool b)
  | int (i : Int) : Sc (.int i) (.int i)
  | str (x : Str) : Sc (.str x) (.str x)
def keyD : Key → PyData
  | .inl i => .int i
  | .inr x => .str x
theorem Sc.reads {h : Heap} {v : V} {d : PyData} {u : Value} (s : Sc v d) (r : RelV v u) : Reads h u d [] := by
  cases s with
  | non => cases r; exact .none
  | bl b => cases r; exact .bool b
  | int i => obtain ⟨t, rfl⟩ := r; exact .int i t
  | str x => obtain ⟨t, rfl⟩ := r; exact .str x t
def flatD (kvs : List (Key × V)) (ds : List PyData) : PyData := .dict ((kvs.map fun kv => keyD kv.1).zip ds)
end U
namespace U
open PySem PySem.Spec PyProof.Rows L2 StX
/-! ### the law's call, where no repr runs around it -/
section
variable {P : Program} {w : World} {K : PySem.W.Frag} {mg mb : Str → Option Value} {k : Nat} {fa sc : Addr} {sp : Sp} {s1 : Shared} {us : List Value} {ns : List Int}
/-- from an abstract heap that tracks at most the script -/
theorem law_core (inK : K.In s1.heap) (glob : s1.heap.Ns mainGlobals mg) (blt : s1.heap.Ns builtinsNs mb) (blt2 : ∀ x : Str, x ≠ "__name__" → mb x = bootBuiltins x) (lim : s1.heap.NoLimit) (gens : s1.gens = #[])
    (there : s1.heap.get? sc = some { cls := .type "list", data := .seq us.toArray }) (room : Room k callerA)
    (F : ∀ base : Heap, FnG P w K mg base CX0 k fa sp)
    (H : Hp) (only : Only H) (hok : HOk P w H s1.heap) (just : ∀ b, H b ≠ none → b = sc) (offK : H sc ≠ none → K.lookup sc = none)
    (prom : sp [.ref sc] H (fun v _ => v = .bl true) E0) :
    codeAny (model P w) callerA (.call (.ref fa) ⟨[.ref sc], []⟩) (fun r s' => r = .ok (.ret (.bool true)) ∧ OldK s1.heap s'.heap ∧ s'.os = s1.os ∧ AllBare s'.gens) s1 := by
  have isSc : ∀ {b : Addr} {u : HO}, H b = some u → b = sc := fun {b u} e => just b fun z => by rw [z] at e; cases e
  have free : ∀ {b : Addr} {o : Obj} {es : Array DictEntry} {ep : Nat}, s1.heap.get? b = some o → o.data = .dict es ep → H b = none := by
    intro b o es ep e d
    cases hb : H b with
    | none => rfl
    | some u =>
      have := isSc hb
      subst this
      rw [there] at e
      cases e
      exact absurd (show Data.seq us.toArray _ = Data.dict es ep from d) (by intro z; cases z)
  have spaces : ∀ {b : Addr} {m : Str → Option Value}, s1.heap.Ns b m → (hidT s1.heap H).Ns b m := by
    rintro b m ⟨o, es, ep, e, d, r⟩
    exact ⟨o, es, ep, hidT_get e (free e d), d, r⟩
  have inB : K.In (hidT s1.heap H) := by
    intro b o e
    refine hidT_get (inK b o e) ?_
    cases hb : H b with
    | none => rfl
    | some u =>
      have := isSc hb
      subst this
      have z := offK (by rw [hb]; intro z; cases z)
      rw [e] at z
      cases z
  have md : Mod K mg (hidT s1.heap H) := by
    obtain ⟨mc, l1, l2⟩ := lim
    exact ⟨inB, spaces glob, ⟨mb, spaces blt, blt2⟩, ⟨mc, spaces l1, l2⟩⟩
  have env : Env0 P w K mg (hidT s1.heap H) callerA [] s1 H := by
    refine ⟨rfl, md, fun b o e => of_hidT e, Nat.le_of_eq (hidT_size _ _), trivial, fun b hb => ?_, hok, .of_eq gens⟩
    exact absurd hb List.not_mem_nil
  refine codeAny_mono (F (hidT s1.heap H) callerA [] s1 H [.ref sc] [.ref sc] (fun v _ => v = .bl true) E0 rfl room env (.cons rfl .nil) prom) fun r s' h => ?_
  match r, h with
  | .error e, h => exact h.elim
  | .ok .next, h => exact h.elim
  | .ok .brk, h => exact h.elim
  | .ok .cont, h => exact h.elim
  | .ok (.ret u), ⟨v, H', os, bare, un, hok', rv, q⟩ =>
    subst q
    cases (show u = Value.bool true from rv)
    refine ⟨rfl, OldK.of_keep fun b o e => ?_, os, bare⟩
    cases hb : H b with
    | none => exact un.keep b o e hb (fun z => absurd z List.not_mem_nil) (by simp)
    | some u =>
      rcases only b with z | ⟨ob, xs, z⟩
      · rw [hb] at z
        cases z
      · have a1 := (hok b _ z).1
        have a2 := (hok' b _ (un.frzs b ob _ z)).1
        rw [e] at a1
        cases a1
        exact a2
theorem law_callG (inK : K.In s1.heap) (glob : s1.heap.Ns mainGlobals mg) (blt : s1.heap.Ns builtinsNs mb) (blt2 : ∀ x : Str, x ≠ "__name__" → mb x = bootBuiltins x) (lim : s1.heap.NoLimit) (gens : s1.gens = #[])
    (there : s1.heap.get? sc = some { cls := .type "list", data := .seq us.toArray }) (inS : IntsAre us ns) (len : ns.length ≤ sizeLine) (room : Room k callerA)
    (F : ∀ base : Heap, FnG P w K mg base CX0 k fa sp)
    (prom : ∀ H : Hp, SqL K H sc (ns.map V.int) → sp [.ref sc] H (fun v _ => v = .bl true) E0) :
    codeAny (model P w) callerA (.call (.ref fa) ⟨[.ref sc], []⟩) (fun r s' => r = .ok (.ret (.bool true)) ∧ OldK s1.heap s'.heap ∧ s'.os = s1.os ∧ AllBare s'.gens) s1 := by
  have rv := vals_ints inS
  have go := law_core (P := P) (w := w) (k := k) (fa := fa) (sp := sp) inK glob blt blt2 lim gens there room F
  cases hk : K.lookup sc with
  | some o =>
    have e := inK sc o hk
    rw [there] at e
    cases e
    refine go (fun _ => none) (fun _ => .inl rfl) (fun b u z => by cases (show (none : Option HO) = some u from z)) (fun b z => absurd rfl z) (fun z => absurd rfl z) (prom _ ?_)
    refine .inr ⟨_, us.toArray, _, hk, rfl, rfl, rfl, ?_, by simpa using rv⟩
    rw [List.size_toArray, inS.length]
    exact len
  | none =>
    have at_ : (fun b => if b = sc then some (HO.frz { cls := .type "list", data := .seq us.toArray } (.lst (ns.map V.int))) else none) sc = some (.frz { cls := .type "list", data := .seq us.toArray } (.lst (ns.map V.int))) := if_pos rfl
    refine go (fun b => if b = sc then some (.frz { cls := .type "list", data := .seq us.toArray } (.lst (ns.map V.int))) else none) (fun b => ?_) (fun b u z => ?_) (fun b z => ?_) (fun _ => hk) (prom _ (.inl (.inr ⟨_, at_⟩)))
    · by_cases hb : b = sc
      · subst hb
        exact .inr ⟨_, _, at_⟩
      · exact .inl (if_neg hb)
    · by_cases hb : b = sc
      · subst hb
        rw [at_] at z
        cases z
        refine ⟨there, ?_, us, _, rv, there⟩
        rw [List.length_map]
        exact len
      · have no := (if_neg hb).symm.trans z
        cases no
    · refine Classical.byContradiction fun hb => z (if_neg hb)
end
/-- the goal that k_head leaves, from the law's promise -/
theorem walkG {l : PySem.W.OpenLaw} {n k : Nat} {q : Program} {loose : List Str} {XP : (Str → Option Value) → Heap → Prop} {YP : World → Heap → Prop} {d : DefRec} {K : Params → PySem.W.Frag} {sp : PySem.W.Frag → Sp}
    (hn : l.most = some n) (hn2 : n ≤ sizeLine) (hdf : d.params.defaults = []) (room : Room k callerA) (hY : ∀ (w : World) (h : Heap), YP w h → (K w.params).In h)
    (F : ∀ (w : World) (mg : Str → Option Value) (fa : Addr) (h : Heap), (K w.params).In h → h.Ns mainGlobals mg → mg d.name = some (.ref fa) → ∀ base : Heap, FnG l.prog w (K w.params) mg base CX0 k fa (sp (K w.params)))
    (prom : ∀ (K : PySem.W.Frag) (H : Hp) (a : Addr) (ns : List Int), ns.length ≤ n → SqL K H a (ns.map V.int) → sp K [.ref a] H (fun v _ => v = .bl true) E0) :
    PySem.W.WalkO q loose XP YP l.row.toRowW d [] (fun f vs => PySem.call f vs) := by
  refine Att.attach_call hn hdf fun w s0 s1 mg mb fa o pm cd doc a vs ns G Y ho hd hcd hmg hobj hints hlen hg => ?_
  have inK := hY w _ Y
  exact law_callG inK G.T.g G.T.b G.T.builtins G.T.nolimit hg hobj hints (Nat.le_trans hlen hn2) room (F w mg fa _ inK G.T.g hmg) fun H hS => prom _ H a ns hlen hS
end U
namespace U
open PySem PySem.Spec PyProof.Rows L2 StX
theorem callR_or {X : Cx} {f : Value} {r1 r2 : List V → Hp → VK → Prop} (h1 : CallR X f r1) (h2 : CallR X f r2) : CallR X f (fun xs H Q => r1 xs H Q ∨ r2 xs H Q) := by
  intro pins s σ H xs us Q I r h
  rcases h with h | h
  · exact h1 pins s σ H xs us Q I r h
  · exact h2 pins s σ H xs us Q I r h
/-! ### defs called while an exception is handled -/
end U
namespace U
open PySem PySem.Spec PyProof.Rows L2 StX
end U
namespace U
open PySem PySem.Spec PyProof.Rows L2 StX
section
variable {X : Cx} {CX : CXT} {C g : Addr} {n : Nat} {sp : Sp} {E : XK}
/-- o[x], by the own __getitem__, what it raises told by the slots -/
def tIxO (C : Addr) (sp : Sp) (E : L2.St → XK) (ta tb : TE) : TE := fun σ H Q => ta σ H fun x H1 => tb σ H1 fun y H2 => ∃ a dx fs, x = .ref a ∧ H2 a = some (.ins C dx fs) ∧ sp [x, y] H2 Q (E σ)
theorem pe_ixO {E : L2.St → XK} {ea eb : Expr} {ta tb : TE} {pos : Pos} (hs : PySem.W.findIn X.K (.ref C) "__getitem__" = some (some (.ref g))) (hfi : PySem.W.fnIn X.K g = true) (hf : PySem.W.isFn X.K (.ref g) = true) (F : FnR X.prog X.w X.K X.mg X.base CX n g sp)
    (hr : Room (n + 1) X.A) (hx : ∀ σ, PassesAt CX X σ (E σ)) (ha : PE X ea ta) (hb : PE X eb tb)
    (hsl : ∀ a i, subscripted eb true (.ref a) i = runValue (.builtin "lifetime.subscript" ⟨[.ref a, i], []⟩) := by intro a i; with_unfolding_all rfl) : PE X (.Subscript ea eb pos) (tIxO C sp E ta tb) := by
  refine ⟨fun pins s σ H Q I h => Subscript_ (binT ha hb I h fun v u s2 x y H2 I2 rx ry q => ?_)⟩
  obtain ⟨a, dx, vs, rfl, h1, q⟩ := q
  cases (show v = Value.ref a from rx)
  obtain ⟨ox, od, J⟩ := ins_inst I2 h1
  obtain ⟨m, hF⟩ := I2.fr
  refine PySem.W.sub_K hF I2.ok.mod.kin J hs hfi hf ?_ (hsl a u)
  refine wpAny_call (codeAny_mono (F X.A.in1 X.stack s2 H2 [.ref a, u] [.ref a, y] Q (E σ) (Room.in1 hr) I2.env0.in1 (.cons rfl (.cons ry .nil)) q) fun z s' hq => ?_)
  match z, hq with
  | .error er, hq => exact hx σ pins H2 s2 er s' I2 hq
  | .ok (.ret w), hq => exact I2.after hq
  | .ok .next, hq => exact hq.elim
  | .ok .brk, hq => exact hq.elim
  | .ok .cont, hq => exact hq.elim
end
end U
namespace U
open PySem PySem.Spec PyProof.Rows L2 StX PySem.W
end U
namespace U
open PySem PySem.Spec PyProof.Rows L2 StX
/-! ### x op i, the class's own, i an int -/
/-! ### list(d.items()), the dict locked or not -/
end U
namespace U
open PySem PySem.Spec PyProof.Rows L2
/-! ### several clauses 'except x as n' -/
end U
namespace U
open PySem L2
/-! ### facts of heaps, for the search -/
theorem carry {H H' : Hp} {a : Addr} {o : HO} (s : L2.Same H H') (h : H a = some o) : H' a = some o := s a o h
theorem carryNew {H : Hp} {p a : Addr} {o u : HO} (hp : H p = none) (h : H a = some u) : upd H p o a = some u := (Same.new hp) a u h
theorem freeUp {H : Hp} {p q : Addr} {o : HO} (h : upd H q o p = none) : H p = none := by
  by_cases e : p = q
  · subst e; rw [upd_same] at h; cases h
  · rw [upd_ne e] at h; exact h
theorem freeVia {H H' : Hp} {p : Addr} (s : L2.Same H H') (h : H' p = none) : H p = none := s.free h
theorem sameUp {H H1 : Hp} {p : Addr} {o : HO} (hp : H1 p = none) (s : L2.Same H H1) : L2.Same H (upd H1 p o) := s.trans (Same.new hp)
theorem sameVia {H H1 H2 : Hp} (b : L2.Same H1 H2) (a : L2.Same H H1) : L2.Same H H2 := a.trans b
theorem upd_facts {H H1 : Hp} {p : Addr} {o : HO} (h : upd H p o = H1) (n : H p = none) : L2.Same H H1 ∧ H1 p = some o := by
  subst h
  exact ⟨Same.new n, upd_same⟩
theorem nil_le : ([] : List V).length ≤ sizeLine := by decide
theorem one_le {a : V} : [a].length ≤ sizeLine := by show 1 ≤ sizeLine; decide
theorem two_le {a b : V} : [a, b].length ≤ sizeLine := by show 2 ≤ sizeLine; decide
theorem three_le {a b c : V} : [a, b, c].length ≤ sizeLine := by show 3 ≤ sizeLine; decide
theorem le_line {n : Nat} (h : n ≤ 100000) : n ≤ sizeLine := Nat.le_trans h (by decide)
theorem lt_line {n : Nat} (h : n ≤ 100000) : n < sizeLine := Nat.lt_of_le_of_lt h (by decide)
end U
namespace U
open PySem PySem.Spec PyProof.Rows L2 GQ PySem.SeqAt MeetsSeq MeetsSeq2 MeetsSeq3 SeqRoads2
open AutoSeq1 (wpAny_loadPart')
/-! ### defs with a star parameter -/
structure StarAt (K : PySem.W.Frag) (x qual : Str) (st : Stmt) (f : Addr) (ps : List Str) (pv : Str) : Prop where
  ex : ∃ fd, Fun K x qual st f fd ∧ ∀ us rest : List Value, us.length = ps.length → bindArgs fd ⟨us ++ rest, []⟩ = (newTuple rest >>= fun t => pure (ps.zip us ++ [(pv, t)]))
theorem StarAt.kp {K : PySem.W.Frag} {x qual : Str} {st : Stmt} {f : Addr} {ps : List Str} {pv : Str} (A : StarAt K x qual st f ps pv) : PySem.W.keepIn K (.ref f) = true := by
  obtain ⟨_, F, _⟩ := A.ex
  exact F.kp
/-- what is asked of the arguments: the named ones, then a new tuple of the rest -/
def spStar (n : Nat) (sp : Sp) : Sp := fun vs H Q E => ∃ ws rest, vs = ws ++ rest ∧ ws.length = n ∧ rest.length ≤ sizeLine ∧ ∀ p, H p = none → sp (ws ++ [V.ref p]) (upd H p (.tup rest)) Q E
section
variable {P : Program} {w : World} {K : PySem.W.Frag} {mg : Str → Option Value} {base : Heap} {x qual pv : Str} {st : Stmt} {f : Addr} {N ps : List Str} {k : Nat} {sp : Sp}
theorem StarAt.okX (B : StarAt K x qual st f ps pv) (S : FnScope N (ps ++ [pv]) (defScope st))
    (walk : ∀ (cdv : Value) (A : Around) (outer : List Env) (s : Shared) (H : Hp) (vs : List V) (Q : VK) (E : XK), Room k (A.deeper (envOfC qual (defScope st) s.heap.objs.size f cdv)) → sp vs H Q E →
      ∃ t, PSs (cxOf (L2.CX P w) P w K mg base N qual (defScope st) f cdv A outer s H E) (defBody st) t ∧ t { nx := fun _ H' => Q .non H', rt := Q } (start N vs) H) : FnR P w K mg base (L2.CX P w) (k + 1) f (spStar ps.length sp) := by
  obtain ⟨fd, F, hb⟩ := B.ex
  obtain ⟨oc, od, kV, doc, pm, an, cdv, ct, osl, rfl, lk, hcd⟩ := F.ex
  exact StX.fn_star lk hcd S StX.cxUp hb fun A outer s H vs Q E hr h => walk cdv A outer s H vs Q E hr h
theorem StarAt.ok (B : StarAt K x qual st f ps pv) (S : FnScope N (ps ++ [pv]) (defScope st))
    (walk : ∀ (cdv : Value) (A : Around) (outer : List Env) (s : Shared) (H : Hp) (vs : List V) (Q : VK) (E : XK), Room k (A.deeper (envOfC qual (defScope st) s.heap.objs.size f cdv)) → sp vs H Q E →
      ∃ t, PSs (cxOf CX0 P w K mg base N qual (defScope st) f cdv A outer s H E).nox (defBody st) t ∧ t { nx := fun _ H' => Q .non H', rt := Q } (start N vs) H) : FnR P w K mg base CX0 (k + 1) f (spStar ps.length sp) := by
  obtain ⟨fd, F, hb⟩ := B.ex
  obtain ⟨oc, od, kV, doc, pm, an, cdv, ct, osl, rfl, lk, hcd⟩ := F.ex
  refine StX.fn_star lk hcd S StX.cxUp_none hb fun A outer s H vs Q E hr h => ?_
  obtain ⟨t, a, b⟩ := walk cdv A outer s H vs Q E hr h
  exact ⟨t, a.nox, b⟩
end
/-! ### == by an own __eq__, inside lists and tuples -/
end U
namespace U
open PySem PySem.Spec PyProof.Rows L2 StX LamX
/-! ### defs with lambdas: the code object's place is told -/
structure CodeAt (K : PySem.W.Frag) (x qual : Str) (st : Stmt) (f c : Addr) (ps : List Str) : Prop where
  ex : ∃ (oc : Value) (od : Option Addr) (kV doc pm : Value) (an : Option Addr) (ct : Value) (osl : Array (Option Value)),
    K.lookup f = some ⟨oc, od, .func (PySem.W.fnOf x qual (defArgs st) (defBody st) (defScope st) .none kV doc pm an (.ref c) ct), osl⟩ ∧ PySem.W.codeIn K (.ref c) qual = true ∧ Binds K (PySem.W.fnOf x qual (defArgs st) (defBody st) (defScope st) .none kV doc pm an (.ref c) ct) ps []
section
variable {P : Program} {w : World} {K : PySem.W.Frag} {mg : Str → Option Value} {base : Heap} {k : Nat} {f c : Addr} {sp : Sp} {x qual : Str} {st : Stmt} {N ps : List Str}
theorem CodeAt.okG (B : CodeAt K x qual st f c ps) (S : FnScope N ps (defScope st)) (len : ∀ vs H Q E, sp vs H Q E → vs.length = ps.length)
    (walk : ∀ (A : Around) (outer : List Env) (s : Shared) (H : Hp) (vs : List V) (Q : VK) (E : XK), A.guards = some [] → Room k (A.deeper (envOfC qual (defScope st) s.heap.objs.size f (.ref c))) → sp vs H Q E →
      ∃ t, PSs (cxOf CX0 P w K mg base N qual (defScope st) f (.ref c) A outer s H E).nox (defBody st) t ∧ t { nx := fun _ H' => Q .non H', rt := Q } (start N vs) H) : FnG P w K mg base CX0 (k + 1) f sp := by
  obtain ⟨oc, od, kV, doc, pm, an, ct, osl, lk, hcd, bi⟩ := B.ex
  intro A outer s H us vs Q E g hr e0 r hs
  have hl := len _ _ _ _ hs
  have kin : K.In s.heap := e0.mod.kin.keeps fun b o e => (e0.bs b o e).1
  have lim : s.heap.NoLimit := e0.mod.nolimit.keeps fun b o e => (e0.bs b o e).1
  have names : ∀ y ∈ ps.zip us, (defScope st).names.lookup y.1 = some .local ∨ ((defScope st).names.lookup y.1 = some .cell ∧ ((cellsFrom (s.heap.objs.size + 1) (defScope st).names []).lookup y.1).isSome = true) := by
    rintro ⟨n, v⟩ hy
    rcases S.par n (List.of_mem_zip hy).1 with q | q
    · exact .inl q
    · exact .inr ⟨q, PySem.W.cellsFrom_some _ _ _ (.inl q)⟩
  have hb : BindsTo s (PySem.W.fnOf x qual (defArgs st) (defBody st) (defScope st) .none kV doc pm an (.ref c) ct) ⟨us, []⟩ (ps.zip us) := by
    have := bi s us kin (by rw [List.append_nil, ← r.length]; exact hl)
    rw [List.append_nil] at this
    exact this
  refine codeAny_call_function hr.depth (kin _ _ lk) rfl S.co S.gen rfl (PySem.W.codeRec_of kin hcd) (hb _ _ _ _ ?_)
  refine wpAny_newFunctionEnv_cells S.kind names fun env he s1 z => ?_
  subst he
  refine ⟨lim.keeps z.toInCall.keep, codeAny_func ?_⟩
  obtain ⟨t, ht, hq⟩ := walk A outer s H vs Q E g (hr.deeper _) hs
  have I : Inv (cxOf CX0 P w K mg base N qual (defScope st) f (.ref c) A outer s H E) [] (start N vs) H s1 := inv_start S hr.hd e0 hl r z
  refine wpAny_mono (ht.nox.run [] s1 (start N vs) H _ I hq) (fun fl s' h' => ?_) fun _ _ h' => h'
  match fl, h' with
  | .ret u, ⟨v, σ', H', J, rv, q⟩ => exact ⟨v, H', J.os, J.bare, J.base, J.hok, rv, q⟩
  | .next, ⟨σ', H', J, q⟩ => exact ⟨.non, H', J.os, J.bare, J.base, J.hok, rfl, q⟩
  | .brk, ⟨_, _, _, q⟩ => exact q.elim
  | .cont, ⟨_, _, _, q⟩ => exact q.elim
end
/-! ### the law's call, tables tracked -/
/-! ### what a lambda's caller makes of its exceptions -/
/-! ### heaps that grow but for the tables -/
end U
namespace U
open PySem PySem.Spec PyProof.Rows L2 StX LamX
end U
namespace U
open PySem PySem.Spec PyProof.Rows L2
/-! ### x not in a tuple, data of any depth -/
def rNotInT (K : PySem.W.Frag) : R2 := fun x y H Q => ∃ (d : PyData) (p : Addr) (xs : List V) (ds : List PyData), y = .ref p ∧ Dp K H x d ∧ SqT K H p xs ∧ DpAll K H xs ds ∧ SeqAt.shaped d = true ∧ SeqAt.shaped (.list ds) = true ∧ Q (.bl (!ds.any fun z => PyData.eqv z d)) H
theorem op_notInT {X : Cx} (hu : X.A.units + 65 < cLine) : OpR X (compareOp .NotIn) (rNotInT X.K) := by
  intro pins s σ H x y v u Q I rx ry h
  obtain ⟨d, p, xs, ds, rfl, hd, hp, ha, sd, sl, q⟩ := h
  cases (show u = Value.ref p from ry)
  obtain ⟨as, r1⟩ := Dp.reads I d x v hd rx
  obtain ⟨its, rv, pl, hlen⟩ := I.tuple hp
  have lay : PyData.canLayAll0 ds = true := SeqAt.canLay_of_shaped sl
  have room : X.A.units + 1 + min (PyData.depthAll ds) d.depth < cLine := room_in_shaped sd hu
  obtain ⟨bs, r2⟩ := Dp.readsAll I ds _ its ha rv
  have hmap : its.map (SeqAt.readOf s.heap) = ds := SeqAt.readsAll_map ds its bs lay r2
  have items := SeqAt.items_eqAt (vs := its.toArray) (show ReadsAll s.heap its.toArray.toList ds bs from r2) r1 lay (SeqAt.canLay_of_shaped sd) room
  refine SeqAt.notIn_tupleAt (fun w => PyData.eqv (SeqAt.readOf s.heap w) d) pl items ⟨.bl _, H, I, rfl, ?_⟩
  have e : its.toArray.any (fun w => PyData.eqv (SeqAt.readOf s.heap w) d) = ds.any fun z => PyData.eqv z d := by
    rw [← hmap, List.any_map]
    simp
    rfl
  rw [e]
  exact q
end U
namespace U
open PySem PySem.Spec PyProof.Rows L2
/-! ### dicts of ints in a list: in, not in, index -/
end U
namespace U
open PySem PySem.Spec PyProof.Rows L2 StX
end U
namespace U
open PySem PySem.Spec PyProof.Rows L2 StX NdefX
/-! ### a def of a class whose first statement is super().m(..) -/
/-- what is asked of the program around: the file of its code objects, super not hidden at the top -/
structure SupP (P : Program) (file : Str) : Prop where
  file : ((P.main.file : Str) == file) = true
  top : (P.main.scope.names.lookup ("super" : Str)).isSome = false
structure SupAt (K : PySem.W.Frag) (x qual : Str) (st : Stmt) (f c cc D : Addr) (ps : List Str) (file : Str) : Prop where
  ex : ∃ (oc : Value) (od : Option Addr) (kV doc pm : Value) (an : Option Addr) (ct : Value) (osl : Array (Option Value)),
    K.lookup f = some ⟨oc, od, .func (PySem.W.fnX x qual (defArgs st) (defBody st) (defScope st) [("__class__", cc)] .none kV doc pm an (.ref c) ct), osl⟩ ∧ PySem.W.codeIn K (.ref c) qual = true ∧ Binds K (PySem.W.fnX x qual (defArgs st) (defBody st) (defScope st) [("__class__", cc)] .none kV doc pm an (.ref c) ct) ps []
  code : ∃ (ccl : Value) (cdd : Option Addr) (vs : Array Value) (ccs : Array (Option Value)) (tf : Tok), K.lookup c = some ⟨ccl, cdd, .fields vs, ccs⟩ ∧ vs[2]? = some (.str file tf)
  cell : ∃ (cl : Value) (cld : Option Addr) (csl : Array (Option Value)), K.lookup cc = some ⟨cl, cld, .cell (some (.ref D)), csl⟩
  cls : ∃ cd, PySem.W.clsIn K D = some cd
  pos : ((defArgs st).posonlyargs ++ (defArgs st).args).head?.map (·.arg) = ps[0]?
  nosuper : PySem.W.nsIn K mainGlobals "super" = some none
  noop : PySem.W.nsIn K cStatics "thirdparty.any" = some none
  scS : (defScope st).names.lookup ("super" : Str) = some .globalImplicit
  scC : (defScope st).names.lookup ("__class__" : Str) = some .free
/-- the method that super().m finds, for an instance of the class at C -/
structure SupM (K : PySem.W.Frag) (C D : Addr) (m : Str) (f2 : Addr) : Prop where
  sub : PySem.W.mroIn K C (.ref D) = some true
  at_ : PySem.W.ks_superIn K C D m = some (some (.ref f2))
  ty : PySem.W.typeIn K (.ref f2) = some (.type "function")
  fi : PySem.W.fnIn K f2 = true
  cl : (m == ("__class__" : Str)) = false
section
variable {X : Cx} {pins : List (Addr × Obj)} {σ : L2.St} {H : Hp} {s : Shared} {C D dx x f2 : Addr} {fs : List (Str × V)} {m : Str}
/-- super().m(..) run within the def's own code -/
theorem run_super {CX : CXT} {k2 : Nat} {sp2 : Sp} {Q : VK} {E : XK} {t : TA} {body : List Stmt} {p0 p1 apos pos epos : Pos} {e : Expr} {qual : Str} {st : Stmt} {name : Str} {f c cc : Addr} {ps : List Str} {file s0 : Str}
    (B : SupAt X.K name qual st f c cc D ps file) (hP : SupP X.prog file) (M : SupM X.K C D m f2) (F : FnR X.prog X.w X.K X.mg X.base CX k2 f2 sp2) (hr : Room k2 X.A) (hx : Passes CX X E)
    (hsc : X.env.scope = defScope st) (hfu : X.env.func = some f) (hco : X.env.code = .ref c) (hcl : X.env.cells.lookup ("__class__" : Str) = some cc) (hps : ps[0]? = some s0) (hN : X.N[0]? = some s0) (hloc : X.env.scope.names.lookup s0 = some .local)
    (I : Inv X pins σ H s) (hv : σ[0]? = some (some (.ref x))) (ea : H x = some (.ins C dx fs)) (ha : PA X [e] t)
    (h : t σ H fun vs H1 => sp2 (.ref x :: vs) H1 Q E)
    (hint : interactive X.env = false) (hsw : swapsWith (.Call (.Attribute (.Call (.Name "super" p0) [] [] p1) m apos) [e] [] pos) none epos.line X.env = pure false)
    (hst : starEach [e] X.env = [(false, eval e X.env)]) (pl : Sem Bool)
    (he : eval (.Call (.Attribute (.Call (.Name "super" p0) [] [] p1) m apos) [e] [] pos) X.env = (do
      let ov ← attributeBase (.Call (.Name "super" p0) [] [] p1) m X.env (eval (.Call (.Name "super" p0) [] [] p1) X.env)
      standAt apos.atName
      let (f, first) ← holding [ov] (getMethod ov m pl)
      callWith pos f first (backTo pos (starEach [e] X.env)) [])) :
    PySem.wpAt (model X.prog X.w) X.A (.func body X.env) (exec (.Expr (.Call (.Attribute (.Call (.Name "super" p0) [] [] p1) m apos) [e] [] pos) epos) X.env)
      (fun fl s' => fl = .next ∧ ∃ v H2, Inv X pins σ H2 s' ∧ Q v H2) X.xe s := by
  obtain ⟨oc, od, kV, doc, pm, an, ct, osl, lk, hcd, bi⟩ := B.ex
  obtain ⟨ccl, cdd, vs2, ccs, tf, hcode, hvs⟩ := B.code
  obtain ⟨cl0, cld, csl, hcell⟩ := B.cell
  obtain ⟨cdD, hD⟩ := B.cls
  have KX := I.kIn
  obtain ⟨oD, hD1, hD2⟩ : ∃ oD, s.heap.get? D = some oD ∧ oD.data = .cls cdD := by
    unfold PySem.W.clsIn at hD
    split at hD
    · rename_i c d cd' sl ho
      cases hD
      exact ⟨_, KX _ _ ho, rfl⟩
    · cases hD
  obtain ⟨ar, har, har2⟩ : ∃ ar : Arg, ((defArgs st).posonlyargs ++ (defArgs st).args).head? = some ar ∧ ar.arg = s0 := by
    have := B.pos
    rw [hps] at this
    cases z : ((defArgs st).posonlyargs ++ (defArgs st).args).head? with
    | none => rw [z] at this; cases this
    | some ar => rw [z] at this; exact ⟨ar, rfl, Option.some.inj this⟩
  obtain ⟨mA, O, _, _, _, _⟩ := ins_get I.hok ea
  obtain ⟨odx, J, _⟩ := O.look
  refine PySem.ks_wpAt_Expr_any ?_ hint hsw
  refine PySem.ks_wpAt_MethodCall (pl := pl) ?_ he
  refine PySem.ks_wpAt_super_base (env := X.env) (fd := PySem.W.fnX name qual (defArgs st) (defBody st) (defScope st) [("__class__", cc)] .none kV doc pm an (.ref c) ct) (by show X.env.scope.names.lookup _ = _; rw [hsc]; exact B.scS) (by show X.env.scope.names.lookup _ = _; rw [hsc]; exact B.scC) M.cl hfu (KX _ _ lk) rfl (ar := ar) har hco (KX _ _ hcode) rfl hvs hP.file hP.top ?_
  have hgs : X.env.kindOf ("super" : Str) = some .globalImplicit := by show X.env.scope.names.lookup _ = _; rw [hsc]; exact B.scS
  refine PySem.W.ks_loadName_global I.ok.kind hgs ?_
  obtain ⟨mb, h1, h2⟩ := I.mod.blt
  refine Calls.loadGlobal_builtin (by rw [I.ok.glob]; exact I.mod.glob.keeps I.bk) (PySem.W.mg_none_of I.mod.kin I.mod.glob B.nosuper) (by rw [I.ok.blt]; exact h1.keeps I.bk) ((h2 "super" (by decide +kernel)).trans (by rfl)) ⟨rfl, ?_⟩
  refine wpAny_loadName_free I.ok.kind (by show X.env.scope.names.lookup _ = _; rw [hsc]; exact B.scC) hcl ⟨_, KX _ _ hcell, rfl⟩ ?_
  obtain ⟨mL, hns, hal⟩ := I.loc
  obtain ⟨u, ru, hlook⟩ := hal 0 s0 (.ref x) hN hv (Or.inl hloc)
  obtain rfl : u = Value.ref x := ru
  have hmL : mL s0 = some (.ref x) := by
    rcases hlook with ⟨_, z⟩ | ⟨z, _⟩
    · exact z
    · rcases z with z | z
      · rw [show X.env.kindOf s0 = some .local from hloc] at z; cases z
      · rw [show X.env.kindOf s0 = some .local from hloc] at z; cases z
  rw [har2]
  refine wpAny_loadName_local I.ok.kind hloc hns hmL ?_
  obtain ⟨hh, g, d, t0, os⟩ := s
  refine PySem.ks_wpAny_isType_cls hD1 hD2 ⟨rfl, ?_⟩
  refine PySem.ks_wpAny_call_super hD1 hD2 J.at_ J.cls (fun c e => ?_) (PySem.W.looks_mroIn KX M.sub) (fun h' ee kk => ?_)
  · have := J.no
    unfold PySem.W.notCls at this
    rw [e] at this
    exact Bool.noConfusion this
  -- the super object stands; its method
  have I2 : Inv X pins σ H ⟨h', g, d, t0, os⟩ := I.kept (t' := t0) kk
  have KX2 := I2.kIn
  cases hc : PySem.W.clsIn X.K C with
  | none => have := M.at_; unfold PySem.W.ks_superIn at this; rw [hc] at this; cases this
  | some cd =>
    have hm := M.at_
    unfold PySem.W.ks_superIn at hm
    rw [hc] at hm
    obtain ⟨of, hof, hofc⟩ : ∃ of, h'.get? f2 = some of ∧ of.cls = .type "function" := by
      have ht' : (X.K.lookup f2).map (·.cls) = some (.type "function") := M.ty
      cases z : X.K.lookup f2 with
      | none => rw [z] at ht'; cases ht'
      | some of => rw [z] at ht'; exact ⟨of, KX2 _ _ z, Option.some.inj ht'⟩
    refine PySem.ks_wpAny_getMethod_super ee (PySem.W.looks_opaque KX2 B.noop) (l₀ := cd.mro) ?_ rfl KX2 hm hof hofc (PySem.W.ks_ne KX J hc) M.cl ?_
    · exact fun A Q E s k q => wpAny_bind ((PySem.W.looks_clsIn KX2 hc) A _ E s k (wpAny_pure q))
    · have I3 : Inv X ((h'.objs.size, PySem.W.methodObj (.ref f2) (.ref x)) :: pins) σ H ⟨h'.push (PySem.W.methodObj (.ref f2) (.ref x)), g, d, t0 + 1, os⟩ := ClX.met_new I2
      refine ClX.callwith_cm I3 (ClX.base_none I2 (Nat.le_refl _)) M.fi (thn (ha.run pos _ _ σ H _ I3 h) fun us s3 ⟨vs, H2, I4, rv, q2⟩ => ⟨⟨ClX.pin_at I4, I4.kIn⟩, ?_⟩) hst rfl
      exact thn (ClX.run_cm F hr hx I4 rv q2) fun v s4 ⟨z, H3, I5, _, q3⟩ => ⟨rfl, z, H3, I5, q3⟩
end
/-- the def, by its first statement super().m(e) and the rest -/
theorem SupAt.okX {P : Program} {w : World} {K : PySem.W.Frag} {mg : Str → Option Value} {base : Heap} {CX : CXT} {k k2 : Nat} {name qual : Str} {st : Stmt} {f c cc D C f2 : Addr} {N ps : List Str} {file s0 m : Str} {sp sp2 : Sp} {p0 p1 apos pos epos : Pos} {e : Expr} {rest : List Stmt}
    (B : SupAt K name qual st f c cc D ps file) (hP : SupP P file) (M : SupM K C D m f2) (F : FnR P w K mg base CX k2 f2 sp2) (hk : k2 ≤ k)
    (S : NScope N ps ["__class__"] (defScope st)) (hps : ps[0]? = some s0) (hb : defBody st = .Expr (.Call (.Attribute (.Call (.Name "super" p0) [] [] p1) m apos) [e] [] pos) epos :: rest)
    (len : ∀ vs H Q E, sp vs H Q E → vs.length = ps.length)
    (walk : ∀ (A : Around) (outer : List Env) (s : Shared) (H : Hp) (vs : List V) (Q : VK) (E : XK) (X : Cx), X = ncx CX P w K mg base N ⟨name, qual, defArgs st, defBody st, defScope st, [("__class__", cc)], c⟩ f A outer s H E → Room k X.A → sp vs H Q E →
      Passes CX X E ∧ interactive X.env = false ∧ swapsWith (.Call (.Attribute (.Call (.Name "super" p0) [] [] p1) m apos) [e] [] pos) none epos.line X.env = pure false ∧ starEach [e] X.env = [(false, eval e X.env)] ∧
      (∃ pl : Sem Bool, eval (.Call (.Attribute (.Call (.Name "super" p0) [] [] p1) m apos) [e] [] pos) X.env = (do
        let ov ← attributeBase (.Call (.Name "super" p0) [] [] p1) m X.env (eval (.Call (.Name "super" p0) [] [] p1) X.env)
        standAt apos.atName
        let (f, first) ← holding [ov] (getMethod ov m pl)
        callWith pos f first (backTo pos (starEach [e] X.env)) [])) ∧
      ∃ (x dx : Addr) (fs : List (Str × V)) (t : TA), vs[0]? = some (.ref x) ∧ H x = some (.ins C dx fs) ∧ PA X [e] t ∧
        t (startF N vs [none]) H fun us H1 => sp2 (.ref x :: us) H1 (fun _ H2 => ∃ tt, PSs X rest tt ∧ tt { nx := fun _ H' => Q .non H', rt := Q } (startF N vs [none]) H2) E) :
    FnR P w K mg base CX (k + 1) f sp := by
  obtain ⟨oc, od, kV, doc, pm, an, ct, osl, lk, hcd, bi⟩ := B.ex
  intro A outer s H us vs Q E hr e0 r hs
  have hl := len _ _ _ _ hs
  have kin : K.In s.heap := e0.mod.kin.keeps fun b o e => (e0.bs b o e).1
  have lim : s.heap.NoLimit := e0.mod.nolimit.keeps fun b o e => (e0.bs b o e).1
  have hbn : BindsTo s (PySem.W.fnX name qual (defArgs st) (defBody st) (defScope st) [("__class__", cc)] .none kV doc pm an (.ref c) ct) ⟨us, []⟩ (ps.zip us) := by
    have := bi s us kin (by rw [List.append_nil, ← r.length]; exact hl)
    rw [List.append_nil] at this
    exact this
  refine codeAny_call_function hr.depth (kin _ _ lk) rfl S.co S.gen rfl (PySem.W.codeRec_of kin hcd) (hbn _ _ _ _ ?_)
  refine wpAny_newFunctionEnv S.nocell (fun ⟨n, _⟩ hy => S.par n (List.of_mem_zip hy).1) (fun h₁ hns hsb => ⟨lim.fresh _ hsb, ?_⟩) S.kind
  generalize hF : (⟨name, qual, defArgs st, defBody st, defScope st, [(("__class__" : Str), cc)], c⟩ : NF) = FF at walk
  have hFc : FF.cl = [(("__class__" : Str), cc)] := by rw [← hF]
  have hFs : FF.scope = defScope st := by rw [← hF]
  have hFb : FF.body = defBody st := by rw [← hF]
  have hFcc : FF.c = c := by rw [← hF]
  have henv : envF FF f s.heap.objs.size = PySem.W.envX qual (defScope st) s.heap.objs.size f (.ref c) [(("__class__" : Str), cc)] := by rw [← hF]
  have kp : ∀ b o, s.heap.get? b = some o → h₁.get? b = some o := fun b o e => hsb.extBut b o (Nat.ne_of_lt (Heap.lt_size e)) (Heap.get?_push_of_some _ e)
  obtain ⟨cl0, cld, csl, hcell⟩ := B.cell
  have CA : CellsAt FF.cl ["__class__"] [none] s.heap H := by
    rw [hFc]
    refine ⟨rfl, fun y a hy => ?_, fun a b a' h1 h2 => ?_, fun i y hi => ?_⟩
    · have : a = cc := by
        have hm := PySem.mem_of_lookup hy
        simp only [List.mem_singleton] at hm
        exact (Prod.mk.inj hm).2
      subst this
      exact ⟨(e0.bs _ _ (e0.mod.kin _ _ hcell)).2, _, _, kin _ _ hcell, rfl⟩
    · have m1 := PySem.mem_of_lookup h1
      have m2 := PySem.mem_of_lookup h2
      simp only [List.mem_singleton] at m1 m2
      rw [(Prod.mk.inj m1).1, (Prod.mk.inj m2).1]
    · match i, hi with
      | 0, hi =>
        cases hi
        exact ⟨cc, by simp [List.lookup], fun v hv => by cases hv⟩
      | i + 1, hi => simp at hi
  have I : Inv (ncx CX P w K mg base N FF f A outer s H E) [] (startF N vs [none]) H { s with heap := h₁, toks := s.toks + (ps.zip us).length } := inv_startN (by rw [hFs]; exact S) hr.hd e0 hl r CA hns kp
  obtain ⟨hx, hint, hsw, hst, ⟨pl, he⟩, x, dx, fs, t, hv0, ea, ha, hq⟩ := walk A outer s H vs Q E _ rfl (hr.deeper _) hs
  show codeAny _ _ (.func (defBody st) (PySem.W.envX qual (defScope st) s.heap.objs.size f (.ref c) [(("__class__" : Str), cc)])) _ _
  rw [← henv]
  refine PySem.ks_codeAny_funcAt ?_
  rw [hb]
  refine PySem.ks_wpAt_execs_cons ?_
  have hps0 : ps.length ≠ 0 := by
    intro z
    cases ps with
    | nil => cases hps
    | cons a b => cases z
  have hv : (startF N vs [none])[0]? = some (some (.ref x)) := by
    unfold startF
    rw [List.getElem?_append_left (by rw [List.length_map]; omega), List.getElem?_map, hv0]
    rfl
  have hN0 : N[0]? = some s0 := by
    have : (ps ++ [("__class__" : Str)])[0]? = some s0 := by rw [List.getElem?_append_left (by omega)]; exact hps
    rw [← S.pre, List.getElem?_take_of_lt (by simp)] at this
    exact this
  have hloc0 : (defScope st).names.lookup s0 = some .local := S.par s0 (List.mem_of_getElem? hps)
  refine PySem.ks_wpAt_mono (run_super (X := ncx CX P w K mg base N FF f A outer s H E) (body := _) B hP M F ((hr.deeper _).mono hk) hx hFs rfl (by show Value.ref FF.c = _; rw [hFcc]) (by show FF.cl.lookup _ = _; rw [hFc]; simp [List.lookup]) hps hN0 (by show FF.scope.names.lookup s0 = _; rw [hFs]; exact hloc0) I hv ea ha hq hint hsw hst pl he) (fun fl s' hh => ?_) fun e s' hh => hh
  obtain ⟨rfl, _, H2, I2, tt, htt, hqq⟩ := hh
  refine wpAt_of_wpAny ?_
  have fin : ∀ {σ' : L2.St} {H' : Hp} {v : V} {u : Value} {s' : Shared}, Inv (ncx CX P w K mg base N FF f A outer s H E) [] σ' H' s' → L2.RelV v u → Q v H' → CE outer P w H s Q u s' :=
    fun {σ' H' v u s'} J rv q => ⟨v, H', J.os, J.bare, J.base, J.hok, rv, q⟩
  refine wpAny_mono (htt.run [] _ (startF N vs [none]) H2 _ I2 hqq) (fun fl s' hs => ?_) fun e s' hs => hs
  cases fl with
  | ret u =>
    obtain ⟨v, σ', H', J, rv, q⟩ := hs
    exact fin J rv q
  | next =>
    obtain ⟨σ', H', J, q⟩ := hs
    exact fin (v := V.non) (u := Value.none) J rfl q
  | brk =>
    obtain ⟨_, _, _, q⟩ := hs
    exact False.elim q
  | cont =>
    obtain ⟨_, _, _, q⟩ := hs
    exact False.elim q
end U
namespace U
open PySem PySem.Spec PyProof.Rows L2 StX
/-! ### {o!r}, o an instance with its own __repr__ -/
end U
namespace U
open PySem PySem.Spec PyProof.Rows L2 GQ PySem.SeqAt MeetsSeq MeetsSeq2 MeetsSeq3 SeqRoads2
open AutoSeq1 (wpAny_loadPart')
/-! ### == of lists and tuples, with either result -/
/-- D x y H c: == of the two gives c -/
abbrev EqvB := V → V → Hp → Bool → Prop
def MonB (D : EqvB) : Prop := ∀ x y H H' c, Ext H H' → D x y H c → D x y H' c
def EqH (X : Cx) (n : Nat) (D : EqvB) : Prop :=
  ∀ (A : Around) (pins : List (Addr × Obj)) (s : Shared) (σ : L2.St) (H : Hp) (x y : V) (u v : Value) (c : Bool), Sub X n A → Inv X pins σ H s → RelV x u → RelV y v → D x y H c →
    wpAny (model X.prog X.w) A (eqBool u v) (fun r s' => r = c ∧ ∃ H', Inv X pins σ H' s' ∧ Ext H H') X.xe s
section
variable {X : Cx} {n m : Nat} {D D' : EqvB}
theorem EqH.mono (h : EqH X n D) (hn : n ≤ m) : EqH X m D := fun A pins s σ H x y u v c sb => h A pins s σ H x y u v c (sb.mono hn)
theorem EqH.or (h : EqH X n D) (h' : EqH X n D') : EqH X n (fun x y H c => D x y H c ∨ D' x y H c) := fun A pins s σ H x y u v c sb I rx ry d => by
  rcases d with d | d
  · exact h A pins s σ H x y u v c sb I rx ry d
  · exact h' A pins s σ H x y u v c sb I rx ry d
theorem MonB.or (h : MonB D) (h' : MonB D') : MonB (fun x y H c => D x y H c ∨ D' x y H c) := fun x y H H' c e d => d.elim (fun d => .inl (h x y H H' c e d)) fun d => .inr (h' x y H H' c e d)
end
end U
namespace PySem.W
open PySem PySem.Calls PyProof.Rows
end PySem.W
namespace U
open PySem PySem.Spec PyProof.Rows L2 StX
end U
namespace U
open PySem PySem.Spec PyProof.Rows L2 StX
/-! ### C(*xs) -/
end U
namespace U
open PySem PySem.Spec PyProof.Rows L2 GQ PySem.SeqAt MeetsSeq MeetsSeq2 MeetsSeq3 SeqRoads2
open AutoSeq1 (wpAny_loadPart')
/-! ### != of lists, == and != of tuples of any lengths, in: with either result -/
/-- what != says, by what == says -/
def NeH (X : Cx) (n : Nat) (D : EqvB) : Prop :=
  ∀ (A : Around) (pins : List (Addr × Obj)) (s : Shared) (σ : L2.St) (H : Hp) (x y : V) (u v : Value) (c : Bool), Sub X n A → Inv X pins σ H s → RelV x u → RelV y v → D x y H c →
    wpAny (model X.prog X.w) A (richCompare .NotEq u v) (fun r s' => r = .bool (!c) ∧ ∃ H', Inv X pins σ H' s' ∧ Ext H H') X.xe s
section
variable {X : Cx} {n m : Nat} {D D' : EqvB}
theorem NeH.or (h : NeH X n D) (h' : NeH X n D') : NeH X n (fun x y H c => D x y H c ∨ D' x y H c) := fun A pins s σ H x y u v c sb I rx ry d => by
  rcases d with d | d
  · exact h A pins s σ H x y u v c sb I rx ry d
  · exact h' A pins s σ H x y u v c sb I rx ry d
end
end U
namespace U
open PySem PySem.Spec PyProof.Rows L2 StX
open PySem.AutoSeq1 (wpAny_loadPart')
/-! ### enumerate(a tuple) -/
/-! ### a tuple of one item, many times -/
end U
namespace PM
open U
/-! ### one-to-one maps between parts of 0 .. n - 1 -/
abbrev PF := Int → Option Int
structure WF (n : Int) (f : PF) : Prop where
  dom : ∀ x y, f x = some y → 0 ≤ x ∧ x < n ∧ 0 ≤ y ∧ y < n
  inj : ∀ x x' y, f x = some y → f x' = some y → x = x'
def tabN (f : PF) (n : Nat) : List (Int × Int) := (List.range n).filterMap fun (i : Nat) => (f (i : Int)).map fun y => ((i : Int), y)
def tab (n : Int) (f : PF) : List (Int × Int) := tabN f n.toNat
theorem mem_tabN {f : PF} {n : Nat} {x y : Int} : (x, y) ∈ tabN f n ↔ f x = some y ∧ ∃ i : Nat, i < n ∧ x = (i : Int) := by
  unfold tabN
  rw [List.mem_filterMap]
  constructor
  · rintro ⟨i, hi, e⟩
    rw [List.mem_range] at hi
    cases h : f (i : Int) with
    | none => rw [h] at e; cases e
    | some z => rw [h] at e; cases e; exact ⟨h, i, hi, rfl⟩
  · rintro ⟨h, i, hi, rfl⟩
    exact ⟨i, List.mem_range.mpr hi, by rw [h]; rfl⟩
theorem mem_tab {n : Int} {f : PF} (w : WF n f) {x y : Int} : (x, y) ∈ tab n f ↔ f x = some y := by
  unfold tab
  rw [mem_tabN]
  constructor
  · exact fun h => h.1
  · intro h
    have := w.dom x y h
    exact ⟨h, x.toNat, by omega, by omega⟩
theorem keys_tabN (f : PF) (n : Nat) : ((tabN f n).map (·.1)).Nodup := by
  induction n with
  | zero => exact List.nodup_nil
  | succ n ih =>
    have e : tabN f (n + 1) = tabN f n ++ ((f (n : Int)).map fun y => ((n : Int), y)).toList := by
      unfold tabN
      rw [List.range_succ, List.filterMap_append]
      cases h : f (n : Int) <;> simp [h]
    rw [e, List.map_append, List.nodup_append]
    refine ⟨ih, ?_, ?_⟩
    · cases f (n : Int) <;> simp
    · intro a ha b hb e
      subst e
      obtain ⟨p, hp, rfl⟩ := List.mem_map.mp ha
      obtain ⟨x, y⟩ := p
      obtain ⟨_, i, hi, ex⟩ := mem_tabN.mp hp
      cases h : f (n : Int) with
      | none => rw [h] at hb; simp at hb
      | some z =>
        rw [h] at hb
        simp at hb
        omega
theorem keys_tab (n : Int) (f : PF) : ((tab n f).map (·.1)).Nodup := keys_tabN f _
theorem lk_tab {n : Int} {f : PF} (w : WF n f) (x : Int) : lk (tab n f) x = f x := by
  cases h : f x with
  | some y => exact lk_some (keys_tab n f) ((mem_tab w).mpr h)
  | none =>
    cases e : lk (tab n f) x with
    | none => rfl
    | some y =>
      have := (mem_tab w).mp (lk_mem e)
      rw [h] at this; cases this
theorem tab_len (n : Int) (f : PF) : (tab n f).length ≤ n.toNat := by
  unfold tab tabN
  exact Nat.le_trans (List.length_filterMap_le _ _) (by simp)
theorem vals_tab {n : Int} {f : PF} (w : WF n f) : ((tab n f).map (·.2)).Nodup := by
  have k := keys_tab n f
  have key : ∀ l : List (Int × Int), (∀ p ∈ l, f p.1 = some p.2) → (l.map (·.1)).Nodup → (l.map (·.2)).Nodup := by
    intro l
    induction l with
    | nil => intro _ _; exact List.nodup_nil
    | cons p r ih =>
      intro h nd
      rw [List.map_cons, List.nodup_cons] at nd ⊢
      refine ⟨fun hm => ?_, ih (fun q hq => h q (List.mem_cons_of_mem _ hq)) nd.2⟩
      obtain ⟨q, hq, e⟩ := List.mem_map.mp hm
      have h1 := h p List.mem_cons_self
      have h2 := h q (List.mem_cons_of_mem _ hq)
      rw [e] at h2
      have := w.inj _ _ _ h1 h2
      exact nd.1 (by rw [this]; exact List.mem_map.mpr ⟨q, hq, rfl⟩)
  exact key _ (fun p hp => (mem_tab w).mp hp) k
/-! ### the operations -/
def mul (f g : PF) : PF := fun x => (f x).bind g
def idn (n : Int) : PF := fun x => if 0 ≤ x ∧ x < n then some x else none
def emp : PF := fun _ => none
def inv (n : Int) (f : PF) : PF := fun y => ((tab n f).find? fun p => decide (p.2 = y)).map (·.1)
def le (f g : PF) : Prop := ∀ x y, f x = some y → g x = some y
theorem wf_mul {n : Int} {f g : PF} (wf : WF n f) (wg : WF n g) : WF n (mul f g) := by
  refine ⟨fun x y h => ?_, fun x x' y h h' => ?_⟩
  · unfold mul at h
    cases e : f x with
    | none => rw [e] at h; cases h
    | some z =>
      rw [e] at h
      have h1 := wf.dom x z e
      have h2 := wg.dom z y h
      omega
  · unfold mul at h h'
    cases e : f x with
    | none => rw [e] at h; cases h
    | some z =>
      cases e' : f x' with
      | none => rw [e'] at h'; cases h'
      | some z' =>
        rw [e] at h; rw [e'] at h'
        have := wg.inj z z' y h h'
        subst this
        exact wf.inj _ _ _ e e'
theorem wf_idn (n : Int) : WF n (idn n) := by
  refine ⟨fun x y h => ?_, fun x x' y h h' => ?_⟩
  · unfold idn at h
    split at h
    · cases h; omega
    · cases h
  · unfold idn at h h'
    split at h
    · split at h'
      · cases h; cases h'; rfl
      · cases h'
    · cases h
theorem inv_iff {n : Int} {f : PF} (w : WF n f) {x y : Int} : inv n f y = some x ↔ f x = some y := by
  unfold inv
  constructor
  · intro h
    cases e : (tab n f).find? (fun p => decide (p.2 = y)) with
    | none => rw [e] at h; cases h
    | some p =>
      rw [e] at h
      obtain ⟨a, b⟩ := p
      have h1 := List.find?_some e
      simp only [decide_eq_true_eq] at h1
      have h2 : a = x := Option.some.inj h
      subst h1 h2
      exact (mem_tab w).mp (List.mem_of_find?_eq_some e)
  · intro h
    have hm := (mem_tab w).mpr h
    cases e : (tab n f).find? (fun p => decide (p.2 = y)) with
    | none =>
      have := List.find?_eq_none.mp e _ hm
      simp at this
    | some p =>
      obtain ⟨a, b⟩ := p
      have h1 := List.find?_some e
      simp only [decide_eq_true_eq] at h1
      subst h1
      have h3 := (mem_tab w).mp (List.mem_of_find?_eq_some e)
      show some a = some x
      rw [w.inj _ _ _ h3 h]
theorem wf_inv {n : Int} {f : PF} (w : WF n f) : WF n (inv n f) := by
  refine ⟨fun y x h => ?_, fun y y' x h h' => ?_⟩
  · have := w.dom x y ((inv_iff w).mp h)
    omega
  · have h1 := (inv_iff w).mp h
    have h2 := (inv_iff w).mp h'
    rw [h1] at h2
    exact Option.some.inj h2
/-- a dict of pairs tells f -/
structure DI (l : List (Int × Int)) (f : PF) : Prop where
  nd : (l.map (·.1)).Nodup
  at_ : ∀ x, lk l x = f x
theorem DI.mem {l : List (Int × Int)} {f : PF} (d : DI l f) {x y : Int} : (x, y) ∈ l ↔ f x = some y := by
  rw [← d.at_]
  exact ⟨lk_some d.nd, lk_mem⟩
theorem di_tab {n : Int} {f : PF} (w : WF n f) : DI (tab n f) f := ⟨keys_tab n f, lk_tab w⟩
theorem DI.vals {n : Int} {l : List (Int × Int)} {f : PF} (d : DI l f) (w : WF n f) : (l.map (·.2)).Nodup := by
  obtain ⟨nd, _⟩ := id d
  have key : ∀ r : List (Int × Int), (∀ p ∈ r, f p.1 = some p.2) → (r.map (·.1)).Nodup → (r.map (·.2)).Nodup := by
    intro r
    induction r with
    | nil => intro _ _; exact List.nodup_nil
    | cons p r ih =>
      intro h nd
      rw [List.map_cons, List.nodup_cons] at nd ⊢
      refine ⟨fun hm => ?_, ih (fun q hq => h q (List.mem_cons_of_mem _ hq)) nd.2⟩
      obtain ⟨q, hq, e⟩ := List.mem_map.mp hm
      have h1 := h p List.mem_cons_self
      have h2 := h q (List.mem_cons_of_mem _ hq)
      rw [e] at h2
      have := w.inj _ _ _ h1 h2
      exact nd.1 (by rw [this]; exact List.mem_map.mpr ⟨q, hq, rfl⟩)
  exact key l (fun p hp => d.mem.mp hp) nd
theorem di_of {l : List (Int × Int)} {f : PF} (nd : (l.map (·.1)).Nodup) (h : ∀ x y, (x, y) ∈ l ↔ f x = some y) : DI l f := by
  refine ⟨nd, fun x => ?_⟩
  cases e : f x with
  | some y => exact lk_some nd ((h x y).mpr e)
  | none =>
    cases e2 : lk l x with
    | none => rfl
    | some y =>
      have := (h x y).mp (lk_mem e2)
      rw [e] at this; cases this
end PM
namespace PM
open U
/-! ### powers -/
def iter (f : PF) : Nat → PF
  | 0 => fun x => some x
  | k + 1 => fun x => (iter f k x).bind f
theorem iter_add (f : PF) (a b : Nat) (x : Int) : iter f (a + b) x = (iter f a x).bind (iter f b) := by
  induction b with
  | zero => simp [iter]
  | succ b ih =>
    show (iter f (a + b) x).bind f = _
    rw [ih]
    cases iter f a x <;> rfl
theorem iter_head (f : PF) (k : Nat) (x : Int) : iter f (k + 1) x = (f x).bind (iter f k) := by
  rw [Nat.add_comm, iter_add]; rfl
structure Row (f : PF) (e : Int) (r : List Int) : Prop where
  h0 : r[0]? = some e
  st : ∀ (i : Nat) (a b : Int), r[i]? = some a → r[i + 1]? = some b → f a = some b ∧ b ≠ e
theorem Row.ne {f : PF} {e : Int} {r : List Int} (w : ∀ x x' y, f x = some y → f x' = some y → x = x') (R : Row f e r) : ∀ (i k : Nat) (a : Int), r[i]? = some a → r[i + k + 1]? = some a → False
  | 0, k, a, h1, h2 => by
    rw [R.h0] at h1
    cases h1
    have hk : ∃ b, r[k]? = some b := by
      have : 0 + k + 1 < r.length := (List.getElem?_eq_some_iff.mp h2).1
      exact ⟨_, List.getElem?_eq_getElem (by omega)⟩
    obtain ⟨b, hb⟩ := hk
    have := R.st k b e hb (by rw [Nat.zero_add] at h2; exact h2)
    exact this.2 rfl
  | i + 1, k, a, h1, h2 => by
    have l1 : i + 1 < r.length := (List.getElem?_eq_some_iff.mp h1).1
    have l2 : i + 1 + k + 1 < r.length := (List.getElem?_eq_some_iff.mp h2).1
    obtain ⟨b, hb⟩ : ∃ b, r[i]? = some b := ⟨_, List.getElem?_eq_getElem (by omega)⟩
    obtain ⟨c, hc⟩ : ∃ c, r[i + k + 1]? = some c := ⟨_, List.getElem?_eq_getElem (by omega)⟩
    have e1 := (R.st i b a hb h1).1
    have h2' : r[i + k + 1 + 1]? = some a := by rw [show i + k + 1 + 1 = i + 1 + k + 1 by omega]; exact h2
    have e2 := (R.st (i + k + 1) c a hc h2').1
    have : b = c := w _ _ _ e1 e2
    subst this
    exact Row.ne w R i k b hb hc
theorem nodup_of_get {l : List Int} (h : ∀ (i k : Nat) (a : Int), l[i]? = some a → l[i + k + 1]? = some a → False) : l.Nodup := by
  induction l with
  | nil => exact List.nodup_nil
  | cons x r ih =>
    rw [List.nodup_cons]
    refine ⟨fun hm => ?_, ih fun i k a h1 h2 => ?_⟩
    · obtain ⟨j, hj⟩ := List.mem_iff_getElem?.mp hm
      exact h 0 j x rfl (by rw [Nat.zero_add]; exact hj)
    · refine h (i + 1) k a h1 ?_
      rw [show i + 1 + k + 1 = (i + k + 1) + 1 by omega]
      exact h2
theorem Row.nd {n : Int} {f : PF} {e : Int} {r : List Int} (w : WF n f) (R : Row f e r) : r.Nodup := nodup_of_get (R.ne w.inj)
theorem Row.dom {n : Int} {f : PF} {e : Int} {r : List Int} (w : WF n f) (R : Row f e r) (h1 : 0 ≤ e) (h2 : e < n) : ∀ x ∈ r, 0 ≤ x ∧ x < n := by
  intro x hx
  obtain ⟨i, hi⟩ := List.mem_iff_getElem?.mp hx
  cases i with
  | zero => rw [R.h0] at hi; cases hi; exact ⟨h1, h2⟩
  | succ i =>
    have l1 : i + 1 < r.length := (List.getElem?_eq_some_iff.mp hi).1
    obtain ⟨b, hb⟩ : ∃ b, r[i]? = some b := ⟨_, List.getElem?_eq_getElem (by omega)⟩
    have := w.dom _ _ (R.st i b x hb hi).1
    omega
theorem len_range {l : List Int} {n : Int} (nd : l.Nodup) (h : ∀ x ∈ l, 0 ≤ x ∧ x < n) : l.length ≤ n.toNat := by
  have : l.length ≤ ((List.range n.toNat).map fun (i : Nat) => (i : Int)).length := List.Nodup.length_le_of_subset nd (by
    intro x hx
    have := h x hx
    exact List.mem_map.mpr ⟨x.toNat, List.mem_range.mpr (by omega), Int.toNat_of_nonneg this.1⟩)
  simpa using this
theorem Row.more {f : PF} {e : Int} {pre : List Int} {z y : Int} (R : Row f e (pre ++ [z])) (h : f z = some y) (ne : y ≠ e) : Row f e (pre ++ [z] ++ [y]) := by
  refine ⟨?_, fun i a b h1 h2 => ?_⟩
  · rw [List.getElem?_append_left (by simp)]
    exact R.h0
  · by_cases hi : i + 1 < (pre ++ [z]).length
    · rw [List.getElem?_append_left hi] at h2
      rw [List.getElem?_append_left (by omega)] at h1
      exact R.st i a b h1 h2
    · have l2 : i + 1 < (pre ++ [z] ++ [y]).length := (List.getElem?_eq_some_iff.mp h2).1
      have e1 : i = pre.length := by simp at hi l2; omega
      subst e1
      rw [List.getElem?_append_left (by simp)] at h1
      have z1 : (pre ++ [z])[pre.length]? = some z := by simp
      rw [z1] at h1
      cases h1
      have z2 : (pre ++ [z] ++ [y])[pre.length + 1]? = some y := by simp
      rw [z2] at h2
      cases h2
      exact ⟨h, ne⟩
/-- f along an open row -/
theorem Row.openAt {f : PF} {e : Int} {r : List Int} (R : Row f e r) {z : Int} (hz : r[r.length - 1]? = some z) (hl : 0 < r.length) (ho : f z = none) (i : Nat) (a : Int) (hi : r[i]? = some a) : ∀ j : Nat, iter f j a = r[i + j]?
  | 0 => by rw [Nat.add_zero, hi]; rfl
  | j + 1 => by
    show (iter f j a).bind f = _
    rw [Row.openAt R hz hl ho i a hi j]
    cases e1 : r[i + j]? with
    | none =>
      have h1 := List.getElem?_eq_none_iff.mp e1
      exact (List.getElem?_eq_none_iff.mpr (by omega)).symm
    | some b =>
      show f b = _
      have l1 : i + j < r.length := (List.getElem?_eq_some_iff.mp e1).1
      cases e2 : r[i + (j + 1)]? with
      | some c => exact (R.st (i + j) b c e1 e2).1
      | none =>
        have h2 := List.getElem?_eq_none_iff.mp e2
        have : i + j = r.length - 1 := by omega
        rw [this, hz] at e1
        cases e1
        exact ho
/-- f along a closed row -/
theorem Row.closedAt {f : PF} {e : Int} {r : List Int} (R : Row f e r) {z : Int} (hz : r[r.length - 1]? = some z) (hl : 0 < r.length) (hc : f z = some e) (i : Nat) (a : Int) (hi : r[i]? = some a) : ∀ j : Nat, iter f j a = r[(i + j) % r.length]?
  | 0 => by
    have l1 : i < r.length := (List.getElem?_eq_some_iff.mp hi).1
    rw [Nat.add_zero, Nat.mod_eq_of_lt l1, hi]; rfl
  | j + 1 => by
    show (iter f j a).bind f = _
    rw [Row.closedAt R hz hl hc i a hi j]
    have l1 : (i + j) % r.length < r.length := Nat.mod_lt _ hl
    obtain ⟨b, e1⟩ : ∃ b, r[(i + j) % r.length]? = some b := ⟨_, List.getElem?_eq_getElem l1⟩
    rw [e1]
    show f b = _
    by_cases h : (i + j) % r.length = r.length - 1
    · rw [h, hz] at e1
      cases e1
      rw [hc]
      have : (i + (j + 1)) % r.length = 0 := by
        rw [show i + (j + 1) = (i + j) + 1 by omega, Nat.add_mod, h]
        by_cases h1 : r.length = 1
        · rw [h1]
        · rw [Nat.mod_eq_of_lt (show 1 < r.length by omega), show r.length - 1 + 1 = r.length by omega, Nat.mod_self]
      rw [this, R.h0]
    · have : (i + (j + 1)) % r.length = (i + j) % r.length + 1 := by
        rw [show i + (j + 1) = (i + j) + 1 by omega, Nat.add_mod]
        rw [Nat.mod_eq_of_lt (show 1 < r.length by omega), Nat.mod_eq_of_lt (by omega)]
      rw [this]
      obtain ⟨c, e2⟩ : ∃ c, r[(i + j) % r.length + 1]? = some c := ⟨_, List.getElem?_eq_getElem (by omega)⟩
      rw [e2]
      exact (R.st _ b c e1 e2).1
theorem wf_iter {n : Int} {f : PF} (w : WF n f) : ∀ k : Nat, WF n (iter f (k + 1))
  | 0 => w
  | k + 1 => wf_mul (wf_iter w k) w
end PM
namespace PM
open U
/-! ### the rules of the operators -/
/-! ### parts -/
/-! ### powers -/
end PM
namespace PM
open U
/-! ### rows told by their first element -/
def IsRow (f : PF) (e : Int) (r : List Int) : Prop := ∃ pre z, r = pre ++ [z] ∧ Row f e r ∧ (f z = none ∨ f z = some e)
theorem IsRow.get {f : PF} {e : Int} {r r' : List Int} (h : IsRow f e r) (h' : IsRow f e r') : ∀ (i : Nat) (a : Int), r[i]? = some a → r'[i]? = some a
  | 0, a, e1 => by
    obtain ⟨_, _, _, R, _⟩ := h
    obtain ⟨_, _, _, R', _⟩ := h'
    rw [R.h0] at e1
    rw [R'.h0]
    exact e1
  | i + 1, a, e1 => by
    have ih := IsRow.get h h' i
    obtain ⟨_, _, _, R, _⟩ := h
    obtain ⟨pre', z', q', R', st'⟩ := h'
    have l1 : i + 1 < r.length := (List.getElem?_eq_some_iff.mp e1).1
    obtain ⟨b, hb⟩ : ∃ b, r[i]? = some b := ⟨_, List.getElem?_eq_getElem (by omega)⟩
    obtain ⟨f1, ne⟩ := R.st i b a hb e1
    have hb' := ih b hb
    cases e2 : r'[i + 1]? with
    | some c =>
      have := (R'.st i b c hb' e2).1
      rw [f1] at this
      exact this.symm
    | none =>
      exfalso
      have l2 : i < r'.length := (List.getElem?_eq_some_iff.mp hb').1
      have l3 := List.getElem?_eq_none_iff.mp e2
      subst q'
      rw [List.length_append, List.length_singleton] at l2 l3
      have ei : i = pre'.length := by omega
      subst ei
      have : (pre' ++ [z'])[pre'.length]? = some z' := by simp
      rw [this] at hb'
      cases hb'
      rcases st' with q | q
      · rw [f1] at q; cases q
      · rw [f1] at q; exact ne (Option.some.inj q)
theorem IsRow.uniq {f : PF} {e : Int} {r r' : List Int} (h : IsRow f e r) (h' : IsRow f e r') : r = r' := by
  apply List.ext_getElem?
  intro i
  cases e1 : r[i]? with
  | some a => exact (h.get h' i a e1).symm
  | none =>
    cases e2 : r'[i]? with
    | none => rfl
    | some a => rw [h'.get h i a e2] at e1; cases e1
theorem ex_row {n : Int} {f : PF} {e : Int} (w : WF n f) (h1 : 0 ≤ e) (h2 : e < n) : ∃ r, IsRow f e r := by
  refine Classical.byContradiction fun no => ?_
  have key : ∀ k : Nat, ∃ pre z, pre.length = k ∧ Row f e (pre ++ [z]) := by
    intro k
    induction k with
    | zero => exact ⟨[], e, rfl, rfl, fun i a b h1 h2 => by simp at h2⟩
    | succ k ih =>
      obtain ⟨pre, z, hl, R⟩ := ih
      cases hz : f z with
      | none => exact absurd ⟨_, pre, z, rfl, R, .inl hz⟩ no
      | some y =>
        by_cases hy : y = e
        · subst hy; exact absurd ⟨_, pre, z, rfl, R, .inr hz⟩ no
        · exact ⟨pre ++ [z], y, by simp [hl], R.more hz hy⟩
  obtain ⟨pre, z, hl, R⟩ := key n.toNat
  have := len_range (R.nd w) (R.dom w h1 h2)
  rw [List.length_append, List.length_singleton] at this
  omega
open Classical in
noncomputable def rowN (f : PF) (e : Int) : List Int := if h : ∃ r, IsRow f e r then h.choose else []
theorem rowN_eq {f : PF} {e : Int} {r : List Int} (h : IsRow f e r) : rowN f e = r := by
  have hx : ∃ r, IsRow f e r := ⟨r, h⟩
  unfold rowN
  rw [dif_pos hx]
  exact hx.choose_spec.uniq h
theorem rowN_is {n : Int} {f : PF} {e : Int} (w : WF n f) (h1 : 0 ≤ e) (h2 : e < n) : IsRow f e (rowN f e) := by
  obtain ⟨r, h⟩ := ex_row w h1 h2
  rw [rowN_eq h]
  exact h
theorem IsRow.head {f : PF} {e : Int} {r : List Int} (h : IsRow f e r) : r[0]? = some e := by
  obtain ⟨_, _, _, R, _⟩ := h
  exact R.h0
theorem IsRow.mem {f : PF} {e : Int} {r : List Int} (h : IsRow f e r) : e ∈ r := List.mem_of_getElem? h.head
theorem IsRow.dom {n : Int} {f : PF} {e : Int} {r : List Int} (w : WF n f) (h : IsRow f e r) (h1 : 0 ≤ e) (h2 : e < n) : ∀ x ∈ r, 0 ≤ x ∧ x < n := by
  obtain ⟨_, _, _, R, _⟩ := h
  exact R.dom w h1 h2
theorem IsRow.nd {n : Int} {f : PF} {e : Int} {r : List Int} (w : WF n f) (h : IsRow f e r) : r.Nodup := by
  obtain ⟨_, _, _, R, _⟩ := h
  exact R.nd w
/-! ### which rows are begun -/
noncomputable def seenL (f : PF) (s : List Int) : List Int := (s.map (rowN f)).flatten
theorem mem_seenL {f : PF} {s : List Int} {x : Int} : x ∈ seenL f s ↔ ∃ e ∈ s, x ∈ rowN f e := by
  unfold seenL
  rw [List.mem_flatten]
  constructor
  · rintro ⟨r, hr, hx⟩
    obtain ⟨e, he, rfl⟩ := List.mem_map.mp hr
    exact ⟨e, he, hx⟩
  · rintro ⟨e, he, hx⟩
    exact ⟨_, List.mem_map.mpr ⟨e, he, rfl⟩, hx⟩
theorem nodup_of_lt {l : List Int} (h : l.Pairwise (· < ·)) : l.Nodup := List.Pairwise.imp (fun {a b} h => by omega) h
/-! ### closed rows -/
noncomputable def clo (f : PF) (e : Int) : Bool := match (rowN f e).getLast? with
  | some z => (f z).isSome
  | none => false
theorem clo_eq {f : PF} {e z : Int} {pre : List Int} (h : IsRow f e (pre ++ [z])) : clo f e = (f z).isSome := by
  unfold clo
  rw [rowN_eq h, List.getLast?_append]
  rfl
/-! ### all parts -/
/-! ### ordered by the first elements -/
end PM
namespace PM
open U
/-! ### powers by the law's own way; great exponents -/
end PM
namespace PM
open U
/-! ### where powers repeat -/
end PM
namespace U
open PySem PySem.Spec PyProof.Rows L2
/-! ### 'except (A, B, C, D) as n', one clause -/
theorem flying_keeps {base h h' : Heap} {l : List Env} {e : Addr} {Z : Obj → Prop} (x : HandSPX.FlyingZ base l e Z h) (k : ∀ b o, h.get? b = some o → h'.get? b = some o) : HandSPX.FlyingZ base l e Z h' := by
  obtain ⟨f1, f2, f3, oe, vs, T, oT, ts, he, hz, hd, h1, hnT, hTe, hT, hdT, h3⟩ := x
  exact ⟨fun b o z => k _ _ (f1 b o z), f2, f3.of_keeps fun b o hb _ => ⟨o, k _ _ hb, rfl⟩, oe, vs, T, oT, ts, k _ _ he, hz, hd, h1, hnT, hTe, k _ _ hT, hdT, h3⟩
/-- what the clause wishes of an exception of the body -/
def wTup (K : PySem.W.Frag) (Wout : WX) (D : Ends) (cs : List Value) (i : Nat) (ts : Addr → Value → Option Addr → TS) : WX := fun cls d σ H => ∃ b, PySem.W.exmAny K cls cs = some b ∧
      (b = true → ∀ a, H a = none → ts a cls d { nx := fun σ' H' => D.nx (σ'.set i none) H', rt := D.rt, bk := fun σ' H' => D.bk (σ'.set i none) H', ct := fun σ' H' => D.ct (σ'.set i none) H' } (σ.set i (some (.ref a))) H) ∧
      (b = false → Wout cls d σ H)
theorem ps_try_tup4 {X : Cx} {body : List Stmt} {x1 x2 x3 x4 n : Str} {c1 c2 c3 c4 : Value} {i : Nat} {ts : Addr → Value → Option Addr → TS} {b₀ : Stmt} {suite : List Stmt} {p1 p2 p3 p4 tp pos pos' : Pos} {kk : Nat} {tb : WX → TS} {Wout : WX}
    (hs : X.stack = X.env :: X.outer) (hf : X.env.frame = some X.env.locals) (hN : X.N.Nodup) (tk : Takes X Wout)
    (hb : ∀ (W : WX) (pn : List (Addr × Obj)) (xe : Value → Shared → Prop), Takes (X.tr pn xe) W → PassesOwn (model X.prog X.w) X.A X.env xe → PSs (X.tr pn xe) body (tb W))
    (hi : X.N[i]? = some n) (hln : X.env.kindOf n = some .local)
    (n1 : Names X x1 c1) (n2 : Names X x2 c2) (n3 : Names X x3 c3) (n4 : Names X x4 c4)
    (hsu : ∀ (a : Addr) (oe : Obj) (cls : Value) (d : Option Addr) (pn : List (Addr × Obj)), Zc cls d oe → (∃ vs, oe.data = .fields vs) → PSs (X.suite a ((a, oe) :: pn)) (b₀ :: suite) (ts a cls d)) :
    PS X (.Try body [.ExceptHandler (some (.Tuple [.Name x1 p1, .Name x2 p2, .Name x3 p3, .Name x4 p4] kk tp)) (some n) (b₀ :: suite) pos'] [] [] pos) (fun D σ H => tb (wTup X.K Wout D [c1, c2, c3, c4] i ts) D σ H) := by
  refine ⟨fun pins s σ H D I h => ?_⟩
  have ok := I.ok
  have hfr : X.A.frames = some (X.env :: X.outer) := by rw [ok.frames, hs]
  refine wpAny_Try_except ?_
  refine wpAny_mono ((hb (wTup X.K Wout D [c1, c2, c3, c4] i ts) (X.pn ++ pins) (fun e s₁ => wpAny (model X.prog X.w) X.A (noteFrame e X.env) (fun _ s₂ => wpAny (model X.prog X.w) X.A (setFlight e none) (fun _ s₃ =>
    wpAny (model X.prog X.w) X.A (handleBy e X.env [.ExceptHandler (some (.Tuple [.Name x1 p1, .Name x2 p2, .Name x3 p3, .Name x4 p4] kk tp)) (some n) (b₀ :: suite) pos']) (SP X pins D) X.xe s₃) X.xe s₂) X.xe s₁) (fun u s' xx => ?_) PassesOwn.looking).run [] s σ H D (I.toTry _) h) (fun f s1 hsp => ?_) (fun e s1 he => he)
  · obtain ⟨a, B, sI, pins', σ', H', cls, d, rfl, J', nb, up, sky, na, os, ag, w⟩ := xx
    have J : Inv X pins σ' H' sI := J'.ofTry ok
    have sky' : Sky B (X.env :: X.outer) a (Zc cls d) X.env.locals s'.heap := by rw [← hs]; exact sky
    show wpAny (model X.prog X.w) X.A (noteFrame (.ref a) X.env) _ _ _
    refine Sky.land Zc.steady hfr hf sky' fun h3 fl3 up3 => ?_
    have J3 : Inv X pins σ' H' { s' with heap := h3 } := J.landed nb fl3.1 (up.trans up3) os ag
    obtain ⟨oe3, vs3, he3, hz3, hd3⟩ := fl3.there
    have notFr : ∀ {h : Heap} {o : Obj} {vs : Array Value}, h.FunFrames B (X.env :: X.outer) → h.get? a = some o → o.data = .fields vs → a ∉ frs (X.env :: X.outer) := fun {h o vs} ff e dd hm => by
      obtain ⟨_, o', e', hnf⟩ := ff.mem hm
      rw [e] at e'; cases e'
      exact hnf _ dd
    have nfr := notFr fl3.2.2.1 he3 hd3
    have nL : a ≠ X.env.locals := fun z => nfr (List.mem_filterMap.mpr ⟨X.env, List.mem_cons_self, by rw [hf, z]⟩)
    have nF : a ∉ X.fs := fun hm => by
      obtain ⟨e, he, q⟩ := List.mem_filterMap.mp hm
      exact nfr (List.mem_filterMap.mpr ⟨e, List.mem_cons_of_mem _ he, q⟩)
    have S3 := J3.suite he3 hd3 na nL nF
    obtain ⟨b, hb1, hyes, hno⟩ := w
    have hloc : Loc X.env.scope n := .inl hln
    refine wpAny_handleBy_cons (codeAny_handlers_test ?_) (by intro q; cases q)
    have LT : PySem.W.Looks (model X.prog X.w) h3 (typeOf (.ref a)) cls := fun A Q E s k q => wpAny_typeOf_ref (k _ _ he3) (by rw [hz3.1]; exact q)
    have test : ∀ {x : Str} {c : Value} {np : Pos} {Q : Value → Shared → Prop} {E : Value → Shared → Prop}, Names X x c → Q c { s' with heap := h3 } → wpAny (model X.prog X.w) (X.A.mark (some (.ref a))) (eval (.Name x np) X.env) Q E { s' with heap := h3 } := fun {x c np Q E} hc q => by
      obtain ⟨hg, hdbg, hm | ⟨hm, hv, hnn⟩⟩ := hc
      · exact ld_glob (X := X.suite a ((a, oe3) :: (X.pn ++ pins))) S3 hg hm q hdbg
      · exact ld_blt (X := X.suite a ((a, oe3) :: (X.pn ++ pins))) S3 hg hm hv q hnn hdbg
    refine wpAny_Tuple ?_
    refine wpAny_items_cons (test n1 ?_)
    refine wpAny_items_cons (test n2 ?_)
    refine wpAny_items_cons (test n3 ?_)
    refine wpAny_items_cons (test n4 ?_)
    refine wpAny_items_nil ⟨by size_fits, ?_⟩
    have kp : ∀ q o, h3.get? q = some o → (h3.push { cls := .type "tuple", data := .seq [c1, c2, c3, c4].toArray }).get? q = some o := fun _ _ z => Heap.get?_push_of_some _ z
    refine (PySem.W.exm_tup4 (J3.kIn.keeps kp) (LT.keeps kp) (Heap.get?_push_size h3 rfl) hb1).here ?_
    have fl5 := flying_keeps fl3 kp
    have up5 : s'.heap.UpToSlots (h3.push { cls := .type "tuple", data := .seq [c1, c2, c3, c4].toArray }) := up3.trans (Heap.UpToSlots.of_keeps kp)
    generalize (h3.push { cls := .type "tuple", data := .seq [c1, c2, c3, c4].toArray }) = h5 at fl5 up5 ⊢
    cases b with
    | true =>
      refine codeAny_handlers_suite_as ?_
      refine HandSPX.lands_againZ fl5 fun h4 fl4 up4 => ?_
      have J4 : Inv X pins σ' H' { s' with heap := h4 } := J.landed nb fl4.1 ((up.trans up5).trans up4) os ag
      obtain ⟨oe4, vs4, he4, hz4, hd4⟩ := fl4.there
      have S4 := J4.suite he4 hd4 na nL nF
      refine store_ok (X := X.suite a ((a, oe4) :: (X.pn ++ pins))) (v := .ref a) S4 hN hi hloc rfl (fun s5 S5 => ?_) (.inr hln)
      refine wpAny_mono ((hsu a oe4 cls d (X.pn ++ pins) hz4 ⟨_, hd4⟩).run [] s5 _ H' _ S5 (hyes rfl a na)) (fun f s6 hsp => ?_) (fun _ _ z => False.elim z)
      have end_ : ∀ {σ6 : L2.St} {H6 : Hp} {Q : Shared → Prop}, Inv (X.suite a ((a, oe4) :: (X.pn ++ pins))) [] σ6 H6 s6 → (∀ s7, Inv X pins (σ6.set i none) H6 s7 → Q s7) →
          wpAny (model X.prog X.w) X.A (do bindName X.env n .none; unbindBehindTheSuite X.env n pos') (fun _ s7 => Q s7) X.xe s6 := fun {σ6 H6 Q} S6 hq => gone_ok (S6.unsuite ok) hN hi hln hq
      cases f with
      | next =>
        obtain ⟨σ6, H6, S6, q6⟩ := hsp
        exact end_ S6 fun s7 J7 => ⟨_, _, J7, q6⟩
      | brk =>
        obtain ⟨σ6, H6, S6, q6⟩ := hsp
        exact end_ S6 fun s7 J7 => ⟨_, _, J7, q6⟩
      | cont =>
        obtain ⟨σ6, H6, S6, q6⟩ := hsp
        exact end_ S6 fun s7 J7 => ⟨_, _, J7, q6⟩
      | ret u =>
        obtain ⟨v6, σ6, H6, S6, r6, q6⟩ := hsp
        exact end_ S6 fun s7 J7 => ⟨_, _, _, J7, r6, q6⟩
    | false =>
      have w2 := hno rfl
      show wpAny _ X.A (handleBy (.ref a) X.env []) _ _ _
      refine wpAny_handleBy_nil ?_
      obtain ⟨k1, k2, k3, oe, vs, T, oT, ts', he, hz, hd, h1, hr⟩ := id fl5
      unfold PySem.passOn
      refine wpAny_bind (wpAny_field he hd h1 ?_)
      rw [if_neg (show ¬ ((Value.ref T == Value.none) = true) from by simp)]
      have fin : wpAny (model X.prog X.w) X.A (setFlight (.ref a) X.env.frame) (fun _ s4 => wpAny (model X.prog X.w) X.A (throw (.ref a) : Sem Flow) (SP X pins D) X.xe s4) X.xe { s' with heap := h5 } := by
        rw [hf]
        refine HandSPX.setFlight_upZ fl5 fun h4 hh4 up4 => wpAny_throw (tk _ _ ?_)
        exact ⟨a, B, sI, pins, σ', H', cls, d, rfl, J, nb, (up.trans up5).trans up4, .inr (.inr (by rw [hs]; exact hh4)), na, os, ag, w2⟩
      first
        | exact wpAny_bind (wpAny_pure (wpAny_bind fin))
        | exact wpAny_bind fin
  · cases f with
    | next =>
      obtain ⟨σ', H', J', q⟩ := hsp
      exact wpAny_execs_nil ⟨σ', H', J'.ofTry ok, q⟩
    | brk =>
      obtain ⟨σ', H', J', q⟩ := hsp
      exact ⟨σ', H', J'.ofTry ok, q⟩
    | cont =>
      obtain ⟨σ', H', J', q⟩ := hsp
      exact ⟨σ', H', J'.ofTry ok, q⟩
    | ret u =>
      obtain ⟨v, σ', H', J', r, q⟩ := hsp
      exact ⟨v, σ', H', J'.ofTry ok, r, q⟩
end U
/-! what is never reached; a list that is kept apart from the modules' table, repr of dicts that hold such lists -/
namespace U
open PySem PySem.Spec PyProof.Rows L2
theorem pss_dead {X : Cx} {ss : List Stmt} : PSs X ss (fun _ _ _ => False) := ⟨fun _ _ _ _ _ _ h => h.elim⟩
theorem gss_dead {X : Cx} {ss : List Stmt} : GSs X ss (fun _ _ _ _ => False) := ⟨fun _ _ _ _ _ _ _ _ _ _ _ _ _ _ _ _ _ _ _ _ _ h => h.elim⟩
/-- a list at q, q not the table of modules -/
def NestL (q : Addr) (xs : List V) : HO := .ext fun h => (q == sysModules) = false ∧ xs.length ≤ sizeLine ∧ ∃ (its : List Value) (n : Nat), Vals xs its ∧ h.get? q = some { cls := .type "list", data := .seq its.toArray n }
def tNList (t : TA) : TE := fun σ H Q => t σ H fun xs H1 => xs.length ≤ sizeLine ∧ ∀ q, H1 q = none → Q (.ref q) (upd H1 q (NestL q xs))
theorem pe_nlist {X : Cx} {es : List Expr} {t : TA} {pos : Pos} (h : PA X es t) : PE X (.List es pos) (tNList t) := by
  refine ⟨fun pins s σ H Q I hq => ?_⟩
  refine wpAny_List_spliced (thn (h.run pos pins s σ H _ I hq) fun us s1 ⟨xs, H1, I1, r, z, q⟩ => ⟨by rw [← r.length]; exact z, ?_⟩)
  have hf : H1 s1.heap.objs.size = none := I1.hok.fresh (Nat.le_refl _)
  refine ⟨.ref s1.heap.objs.size, upd H1 s1.heap.objs.size (NestL s1.heap.objs.size xs), I1.laid (t' := s1.toks) (fun b u e => Heap.get?_push_of_some _ e) (Nat.le_refl _) ?_, rfl, q _ hf⟩
  refine ⟨⟨beq_eq_false_iff_ne.mpr (Nat.ne_of_gt I1.big), z, us, 0, r, Heap.get?_push_size _ rfl⟩, ⟨_, Heap.get?_push_size _ rfl⟩, fun h1 h2 ⟨a1, a2, its, n, a3, a4⟩ k => ⟨a1, a2, its, n, a3, k _ a4⟩⟩
/-- a value of such a dict -/
def NSc (H : Hp) (v : V) (d : PyData) : Prop := Sc v d ∨ ∃ q xs ds, v = .ref q ∧ H q = some (NestL q xs) ∧ Paired Sc xs ds ∧ d = .list ds
theorem scs_reads {h : Heap} : ∀ {xs : List V} {us : List Value} {ds : List PyData}, Vals xs us → Paired Sc xs ds → ReadsAll h us ds []
  | [], _, _, .nil, z => by
    cases z
    exact .nil
  | _ :: _, _, _, .cons r rs, z => by
    cases z with
    | cons z zs => exact ReadsAll.cons (as := []) (bs := []) (z.reads r) (scs_reads rs zs)
theorem nsc_reads {X : Cx} {pins : List (Addr × Obj)} {σ : L2.St} {H : Hp} {s : Shared} (I : Inv X pins σ H s) {v : V} {d : PyData} {u : Value} (h : NSc H v d) (r : RelV v u) : ∃ as, Reads s.heap u d as ∧ sysModules ∉ as := by
  rcases h with h | ⟨q, xs, ds, rfl, e, z, rfl⟩
  · exact ⟨[], h.reads r, List.not_mem_nil⟩
  · cases (show u = Value.ref q from r)
    obtain ⟨⟨a1, _, its, n, a3, a4⟩, _⟩ := (show ObjOk X.prog X.w H s.heap q (NestL q xs) from I.hok q _ e)
    refine ⟨q :: [], .list a4 rfl rfl (by rw [List.toList_toArray]; exact scs_reads a3 z), fun m => ?_⟩
    rw [List.mem_singleton.mp m, beq_self_eq_true] at a1
    cases a1
theorem nflat_reads {X : Cx} {pins : List (Addr × Obj)} {σ : L2.St} {H : Hp} {s : Shared} (I : Inv X pins σ H s) : ∀ {es : List DictEntry} {va : List (Key × Value)} {kvs : List (Key × V)} {ds : List PyData}, Pairs (mixKind X.prog X.w) es va → KV kvs va → Paired (fun kv d => NSc H kv.2 d) kvs ds →
    ReadsAll s.heap (es.map (·.key)) (kvs.map fun kv => keyD kv.1) [] ∧ ∃ bs, ReadsAll s.heap (es.map (·.val)) ds bs ∧ sysModules ∉ bs
  | [], _, _, _, .nil, r, z => by
    cases r
    cases z
    exact ⟨.nil, [], .nil, List.not_mem_nil⟩
  | e :: es, _, _, _, .cons h1 h2 h3, r, z => by
    unfold KV at r
    cases r with
    | cons q r =>
      cases z with
      | cons zc z =>
        obtain ⟨g1, bs, g2, g3⟩ := nflat_reads I h3 r z
        obtain ⟨q1, q2⟩ := q
        obtain ⟨as, r1, r2⟩ := nsc_reads I zc q2
        refine ⟨.cons (as := []) ?_ g1, as ++ bs, .cons ?_ g2, fun m => (List.mem_append.mp m).elim r2 g3⟩
        · show Reads s.heap e.key (keyD _) []
          rw [q1]
          rcases keyIs_shape h1 with ⟨i, t, e1, e2⟩ | ⟨x, t, e1, e2⟩
          · rw [e1, e2]; exact .int i t
          · rw [e1, e2]; exact .str x t
        · show Reads s.heap e.val _ as
          rw [h2]
          exact r1
theorem ndict_reads {X : Cx} {pins : List (Addr × Obj)} {σ : L2.St} {H : Hp} {s : Shared} {a : Addr} {kvs : List (Key × V)} {ds : List PyData} (I : Inv X pins σ H s) (ea : H a = some (.dK kvs)) (z : Paired (fun kv d => NSc H kv.2 d) kvs ds) :
    ∃ as, Reads s.heap (.ref a) (flatD kvs ds) as ∧ sysModules ∉ as := by
  obtain ⟨_, ya, va, ra, o, es, ep, ho, hc, hd, _, hp, _⟩ := (show ObjOk X.prog X.w H s.heap a (.dK kvs) from I.hok a _ ea)
  obtain ⟨g1, bs, g2, g3⟩ := nflat_reads I hp ra z
  have lz : kvs.length = ds.length := Paired.length z
  have e1 : (((kvs.map fun kv => keyD kv.1).zip ds).map (·.1)) = kvs.map fun kv => keyD kv.1 := List.map_fst_zip (by rw [List.length_map, lz]; exact Nat.le_refl _)
  have e2 : (((kvs.map fun kv => keyD kv.1).zip ds).map (·.2)) = ds := List.map_snd_zip (by rw [List.length_map, lz]; exact Nat.le_refl _)
  refine ⟨a :: [] ++ bs, .dict ho hc.1 hd (by rw [e1]; exact g1) (by rw [e2]; exact g2), ?_⟩
  intro e
  rcases List.mem_cons.mp (show sysModules ∈ a :: bs from e) with e | e
  · rw [← e] at ya
    simp at ya
  · exact g3 e
/-- repr(d), a dict of scalars and such lists -/
def rReprN : List V → Hp → VK → Prop := fun xs H Q => ∃ a kvs ds, xs = [.ref a] ∧ H a = some (.dK kvs) ∧ Paired (fun kv d => NSc H kv.2 d) kvs ds ∧ (flatD kvs ds).showable = true ∧ (flatD kvs ds).depth ≤ 60 ∧ (flatD kvs ds).shown.length ≤ sizeLine ∧ Q (.str (flatD kvs ds).shown) H
theorem call_reprN {X : Cx} (g : X.A.guards = some []) (hu : X.A.units + 64 < cLine) : CallR X (.builtin "repr") rReprN := by
  intro pins s σ H xs us Q I r h
  obtain ⟨a, kvs, ds, rfl, ea, z, hs, hdp, hz, q⟩ := h
  obtain ⟨u, rfl, ru⟩ := r.one
  cases (show u = Value.ref a from ru)
  obtain ⟨as, rd, hn⟩ := ndict_reads I ea z
  exact repr_of_reads' rd hs (fun _ => hn) g (by omega) (fun _ _ e => e) (fun h' u tk hk => ⟨.str _, H, I.kept (t' := tk) hk, ⟨_, rfl⟩, q⟩) hz
end U
namespace My
open PySem L2
def top (i : Nat) : Stmt := PySem.Challenge.pw_chainmaps_k37_errors_keep_the_argument.main.body.getD i (.Pass ⟨0, 0, 0, 0⟩)
abbrev s_is_integer : Stmt := top 13
abbrev n_is_integer : List Str := ["value"]
theorem sc_is_integer : FnScope n_is_integer ["value"] (defScope s_is_integer) := ⟨rfl, rfl, rfl, by decide +kernel, rfl, by decide +kernel, by decide +kernel⟩
abbrev s_in_range : Stmt := top 14
abbrev n_in_range : List Str := ["value", "least", "most"]
theorem sc_in_range : FnScope n_in_range ["value", "least", "most"] (defScope s_in_range) := ⟨rfl, rfl, rfl, by decide +kernel, rfl, by decide +kernel, by decide +kernel⟩
abbrev s_check_size : Stmt := top 15
abbrev n_check_size : List Str := ["size"]
theorem sc_check_size : FnScope n_check_size ["size"] (defScope s_check_size) := ⟨rfl, rfl, rfl, by decide +kernel, rfl, by decide +kernel, by decide +kernel⟩
abbrev s_check_elements : Stmt := top 16
abbrev n_check_elements : List Str := ["size", "points", "seen", "element"]
theorem sc_check_elements : FnScope n_check_elements ["size", "points"] (defScope s_check_elements) := ⟨rfl, rfl, rfl, by decide +kernel, rfl, by decide +kernel, by decide +kernel⟩
abbrev s_are_arrows : Stmt := top 17
abbrev n_are_arrows : List Str := ["size", "arrows", "targets", "source", "target"]
theorem sc_are_arrows : FnScope n_are_arrows ["size", "arrows"] (defScope s_are_arrows) := ⟨rfl, rfl, rfl, by decide +kernel, rfl, by decide +kernel, by decide +kernel⟩
abbrev s_row_from : Stmt := top 19
abbrev n_row_from : List Str := ["arrows", "element", "row"]
theorem sc_row_from : FnScope n_row_from ["arrows", "element"] (defScope s_row_from) := ⟨rfl, rfl, rfl, by decide +kernel, rfl, by decide +kernel, by decide +kernel⟩
abbrev s_moved : Stmt := top 20
abbrev n_moved : List Str := ["arrows", "steps", "found", "seen", "targets", "source", "row", "closed", "place", "element", "target"]
theorem sc_moved : FnScope n_moved ["arrows", "steps"] (defScope s_moved) := ⟨rfl, rfl, rfl, by decide +kernel, rfl, by decide +kernel, by decide +kernel⟩
abbrev s_check_map : Stmt := top 24
abbrev n_check_map : List Str := ["value"]
theorem sc_check_map : FnScope n_check_map ["value"] (defScope s_check_map) := ⟨rfl, rfl, rfl, by decide +kernel, rfl, by decide +kernel, by decide +kernel⟩
abbrev s_are_counts : Stmt := top 32
abbrev n_are_counts : List Str := ["value", "one", "number"]
theorem sc_are_counts : FnScope n_are_counts ["value"] (defScope s_are_counts) := ⟨rfl, rfl, rfl, by decide +kernel, rfl, by decide +kernel, by decide +kernel⟩
abbrev s_ordered : Stmt := top 33
abbrev n_ordered : List Str := ["counts", "length"]
theorem sc_ordered : FnScope n_ordered ["counts"] (defScope s_ordered) := ⟨rfl, rfl, rfl, by decide +kernel, rfl, by decide +kernel, by decide +kernel⟩
abbrev s_check_shape : Stmt := top 40
abbrev n_check_shape : List Str := ["value"]
theorem sc_check_shape : FnScope n_check_shape ["value"] (defScope s_check_shape) := ⟨rfl, rfl, rfl, by decide +kernel, rfl, by decide +kernel, by decide +kernel⟩
abbrev s_are_lengths : Stmt := top 75
abbrev n_are_lengths : List Str := ["value", "length"]
theorem sc_are_lengths : FnScope n_are_lengths ["value"] (defScope s_are_lengths) := ⟨rfl, rfl, rfl, by decide +kernel, rfl, by decide +kernel, by decide +kernel⟩
abbrev s_fate : Stmt := top 43
abbrev n_fate : List Str := ["given", "element", "arrows", "row"]
theorem sc_fate : FnScope n_fate ["given", "element"] (defScope s_fate) := ⟨rfl, rfl, rfl, by decide +kernel, rfl, by decide +kernel, by decide +kernel⟩
abbrev s_count_extensions : Stmt := top 72
abbrev n_count_extensions : List Str := ["given", "arrows", "more", "free"]
theorem sc_count_extensions : FnScope n_count_extensions ["given", "arrows"] (defScope s_count_extensions) := ⟨rfl, rfl, rfl, by decide +kernel, rfl, by decide +kernel, by decide +kernel⟩
abbrev s_check_degree : Stmt := top 48
abbrev n_check_degree : List Str := ["degree"]
theorem sc_check_degree : FnScope n_check_degree ["degree"] (defScope s_check_degree) := ⟨rfl, rfl, rfl, by decide +kernel, rfl, by decide +kernel, by decide +kernel⟩
abbrev s_root : Stmt := top 58
abbrev n_root : List Str := ["given", "degree", "cycles", "chains", "arrows", "left", "group"]
theorem sc_root : FnScope n_root ["given", "degree"] (defScope s_root) := ⟨rfl, rfl, rfl, by decide +kernel, rfl, by decide +kernel, by decide +kernel⟩
abbrev s_is_root : Stmt := top 59
abbrev n_is_root : List Str := ["given", "degree", "value"]
theorem sc_is_root : FnScope n_is_root ["given", "degree", "value"] (defScope s_is_root) := ⟨rfl, rfl, rfl, by decide +kernel, rfl, by decide +kernel, by decide +kernel⟩
abbrev s_obstacle : Stmt := top 53
abbrev n_obstacle : List Str := ["given", "degree"]
theorem sc_obstacle : FnScope n_obstacle ["given", "degree"] (defScope s_obstacle) := ⟨rfl, rfl, rfl, by decide +kernel, rfl, by decide +kernel, by decide +kernel⟩
abbrev s_is_obstacle : Stmt := top 54
abbrev n_is_obstacle : List Str := ["given", "degree", "value", "shape"]
theorem sc_is_obstacle : FnScope n_is_obstacle ["given", "degree", "value"] (defScope s_is_obstacle) := ⟨rfl, rfl, rfl, by decide +kernel, rfl, by decide +kernel, by decide +kernel⟩
abbrev s_count_roots : Stmt := top 63
abbrev n_count_roots : List Str := ["given", "degree", "shape", "found", "length", "number", "longest", "counter"]
theorem sc_count_roots : FnScope n_count_roots ["given", "degree"] (defScope s_count_roots) := ⟨rfl, rfl, rfl, by decide +kernel, rfl, by decide +kernel, by decide +kernel⟩
abbrev s_roots : Stmt := top 70
abbrev n_roots : List Str := ["given", "degree", "number", "cycles", "chains", "some", "arrows", "others"]
theorem sc_roots : GScope n_roots ["given", "degree"] (defScope s_roots) := ⟨rfl, rfl, rfl, by decide +kernel, rfl, by decide +kernel, by decide +kernel⟩
abbrev s_has_root : Stmt := top 52
abbrev n_has_root : List Str := ["shape", "degree"]
theorem sc_has_root : FnScope n_has_root ["shape", "degree"] (defScope s_has_root) := ⟨rfl, rfl, rfl, by decide +kernel, rfl, by decide +kernel, by decide +kernel⟩
abbrev s_Map__init : Stmt := inClass (top 21) 0
abbrev n_Map__init : List Str := ["self", "size", "arrows", "source"]
theorem sc_Map__init : FnScope n_Map__init ["self", "size", "arrows"] (defScope s_Map__init) := ⟨rfl, rfl, rfl, by decide +kernel, rfl, by decide +kernel, by decide +kernel⟩
abbrev s_Map_identity : Stmt := inClass (top 21) 1
abbrev n_Map_identity : List Str := ["cls", "size", "element"]
theorem sc_Map_identity : FnScope n_Map_identity ["cls", "size"] (defScope s_Map_identity) := ⟨rfl, rfl, rfl, by decide +kernel, rfl, by decide +kernel, by decide +kernel⟩
abbrev s_Map_empty : Stmt := inClass (top 21) 2
abbrev n_Map_empty : List Str := ["cls", "size"]
theorem sc_Map_empty : FnScope n_Map_empty ["cls", "size"] (defScope s_Map_empty) := ⟨rfl, rfl, rfl, by decide +kernel, rfl, by decide +kernel, by decide +kernel⟩
abbrev s_Map_chain : Stmt := inClass (top 21) 3
abbrev n_Map_chain : List Str := ["cls", "size", "points"]
theorem sc_Map_chain : FnScope n_Map_chain ["cls", "size", "points"] (defScope s_Map_chain) := ⟨rfl, rfl, rfl, by decide +kernel, rfl, by decide +kernel, by decide +kernel⟩
abbrev s_Map_cycle : Stmt := inClass (top 21) 4
abbrev n_Map_cycle : List Str := ["cls", "size", "points"]
theorem sc_Map_cycle : FnScope n_Map_cycle ["cls", "size", "points"] (defScope s_Map_cycle) := ⟨rfl, rfl, rfl, by decide +kernel, rfl, by decide +kernel, by decide +kernel⟩
abbrev s_Map_swap : Stmt := inClass (top 21) 5
abbrev n_Map_swap : List Str := ["cls", "size", "one", "other", "arrows", "element"]
theorem sc_Map_swap : FnScope n_Map_swap ["cls", "size", "one", "other"] (defScope s_Map_swap) := ⟨rfl, rfl, rfl, by decide +kernel, rfl, by decide +kernel, by decide +kernel⟩
abbrev s_Map_size : Stmt := inClass (top 21) 6
abbrev n_Map_size : List Str := ["self"]
theorem sc_Map_size : FnScope n_Map_size ["self"] (defScope s_Map_size) := ⟨rfl, rfl, rfl, by decide +kernel, rfl, by decide +kernel, by decide +kernel⟩
abbrev s_Map_arrows : Stmt := inClass (top 21) 7
abbrev n_Map_arrows : List Str := ["self"]
theorem sc_Map_arrows : FnScope n_Map_arrows ["self"] (defScope s_Map_arrows) := ⟨rfl, rfl, rfl, by decide +kernel, rfl, by decide +kernel, by decide +kernel⟩
abbrev s_Map_power : Stmt := inClass (top 21) 10
abbrev n_Map_power : List Str := ["self", "exponent", "arrows", "source", "target"]
theorem sc_Map_power : FnScope n_Map_power ["self", "exponent"] (defScope s_Map_power) := ⟨rfl, rfl, rfl, by decide +kernel, rfl, by decide +kernel, by decide +kernel⟩
abbrev s_Map__getitem : Stmt := inClass (top 21) 19
abbrev n_Map__getitem : List Str := ["self", "element"]
theorem sc_Map__getitem : FnScope n_Map__getitem ["self", "element"] (defScope s_Map__getitem) := ⟨rfl, rfl, rfl, by decide +kernel, rfl, by decide +kernel, by decide +kernel⟩
abbrev s_Map_is_source : Stmt := inClass (top 21) 27
abbrev n_Map_is_source : List Str := ["self", "value"]
theorem sc_Map_is_source : FnScope n_Map_is_source ["self", "value"] (defScope s_Map_is_source) := ⟨rfl, rfl, rfl, by decide +kernel, rfl, by decide +kernel, by decide +kernel⟩
abbrev s_Shape__init : Stmt := inClass (top 37) 0
abbrev n_Shape__init : List Str := ["self", "cycles", "chains"]
theorem sc_Shape__init : FnScope n_Shape__init ["self", "cycles", "chains"] (defScope s_Shape__init) := ⟨rfl, rfl, rfl, by decide +kernel, rfl, by decide +kernel, by decide +kernel⟩
abbrev s_Shape_power : Stmt := inClass (top 37) 5
abbrev n_Shape_power : List Str := ["self", "exponent"]
theorem sc_Shape_power : FnScope n_Shape_power ["self", "exponent"] (defScope s_Shape_power) := ⟨rfl, rfl, rfl, by decide +kernel, rfl, by decide +kernel, by decide +kernel⟩
abbrev s_GreatMap__init : Stmt := inClass (top 77) 0
abbrev n_GreatMap__init : List Str := ["self", "cycles", "chains"]
theorem sc_GreatMap__init : FnScope n_GreatMap__init ["self", "cycles", "chains"] (defScope s_GreatMap__init) := ⟨rfl, rfl, rfl, by decide +kernel, rfl, by decide +kernel, by decide +kernel⟩
abbrev s_GreatMap_length_at : Stmt := inClass (top 77) 3
abbrev n_GreatMap_length_at : List Str := ["self", "place", "lengths"]
theorem sc_GreatMap_length_at : FnScope n_GreatMap_length_at ["self", "place"] (defScope s_GreatMap_length_at) := ⟨rfl, rfl, rfl, by decide +kernel, rfl, by decide +kernel, by decide +kernel⟩
abbrev s_GreatMap_after : Stmt := inClass (top 77) 4
abbrev n_GreatMap_after : List Str := ["self", "place", "exponent", "length", "kind", "index", "offset"]
theorem sc_GreatMap_after : FnScope n_GreatMap_after ["self", "place", "exponent"] (defScope s_GreatMap_after) := ⟨rfl, rfl, rfl, by decide +kernel, rfl, by decide +kernel, by decide +kernel⟩
abbrev s_InvalidMap__init : Stmt := inClass (top 2) 0
abbrev n_InvalidMap__init : List Str := ["self", "part"]
theorem sc_InvalidMap__init : FnScope n_InvalidMap__init ["self", "part"] (defScope s_InvalidMap__init) := ⟨rfl, rfl, rfl, by decide +kernel, rfl, by decide +kernel, by decide +kernel⟩
abbrev s_InvalidShape__init : Stmt := inClass (top 5) 0
abbrev s_InvalidElement__init : Stmt := inClass (top 4) 0
abbrev n_InvalidElement__init : List Str := ["self", "value"]
theorem sc_InvalidElement__init : FnScope n_InvalidElement__init ["self", "value"] (defScope s_InvalidElement__init) := ⟨rfl, rfl, rfl, by decide +kernel, rfl, by decide +kernel, by decide +kernel⟩
abbrev s_InvalidNumber__init : Stmt := inClass (top 6) 0
abbrev n_InvalidNumber__init : List Str := ["self", "value"]
theorem sc_InvalidNumber__init : FnScope n_InvalidNumber__init ["self", "value"] (defScope s_InvalidNumber__init) := ⟨rfl, rfl, rfl, by decide +kernel, rfl, by decide +kernel, by decide +kernel⟩
abbrev s_InvalidSize__init : Stmt := inClass (top 3) 0
abbrev n_InvalidSize__init : List Str := ["self", "value"]
theorem sc_InvalidSize__init : FnScope n_InvalidSize__init ["self", "value"] (defScope s_InvalidSize__init) := ⟨rfl, rfl, rfl, by decide +kernel, rfl, by decide +kernel, by decide +kernel⟩
abbrev s_Undefined__init : Stmt := inClass (top 9) 0
abbrev n_Undefined__init : List Str := ["self", "value"]
theorem sc_Undefined__init : FnScope n_Undefined__init ["self", "value"] (defScope s_Undefined__init) := ⟨rfl, rfl, rfl, by decide +kernel, rfl, by decide +kernel, by decide +kernel⟩
abbrev s_l_hand : Stmt := top 79
abbrev n_l_hand : List Str := ["_law_script", "_law_k", "_law_cell", "_law_seed"]
theorem sc_l_hand : FnScope n_l_hand ["_law_script", "_law_k"] (defScope s_l_hand) := ⟨rfl, rfl, rfl, by decide +kernel, rfl, by decide +kernel, by decide +kernel⟩
abbrev s_l_draw : Stmt := top 80
abbrev n_l_draw : List Str := ["_law_pool", "_law_size", "_law_found"]
theorem sc_l_draw : FnScope n_l_draw ["_law_pool", "_law_size"] (defScope s_l_draw) := ⟨rfl, rfl, rfl, by decide +kernel, rfl, by decide +kernel, by decide +kernel⟩
abbrev s_l_roots : Stmt := top 81
abbrev n_l_roots : List Str := ["_law_door", "_law_given", "_law_item"]
theorem sc_l_roots : FnScope n_l_roots ["_law_door", "_law_given", "_law_item"] (defScope s_l_roots) := ⟨rfl, rfl, rfl, by decide +kernel, rfl, by decide +kernel, by decide +kernel⟩
abbrev s_l_called : Stmt := top 82
abbrev n_l_called : List Str := ["_law_door", "_law_given", "_law_item"]
theorem sc_l_called : FnScope n_l_called ["_law_door", "_law_given", "_law_item"] (defScope s_l_called) := ⟨rfl, rfl, rfl, by decide +kernel, rfl, by decide +kernel, by decide +kernel⟩
abbrev s_l_kept : Stmt := top 83
abbrev n_l_kept : List Str := ["_law_door", "_law_given", "_law_item", "e"]
theorem sc_l_kept : FnScope n_l_kept ["_law_door", "_law_given", "_law_item"] (defScope s_l_kept) := ⟨rfl, rfl, rfl, by decide +kernel, rfl, by decide +kernel, by decide +kernel⟩
abbrev s_law : Stmt := top 84
abbrev n_law : List Str := ["_law_script", "_law_pool", "_law_given", "_law_door", "_law_item", "_law_found"]
theorem sc_law : FnScope n_law ["_law_script"] (defScope s_law) := ⟨rfl, rfl, rfl, by decide +kernel, rfl, by decide +kernel, by decide +kernel⟩
set_option genInjectivity false
set_option genSizeOf false
structure Txt (K : PySem.W.Frag) (mg : Str → Option Value) where
  f_is_integer : Addr
  f_in_range : Addr
  f_check_size : Addr
  f_check_elements : Addr
  f_are_arrows : Addr
  f_row_from : Addr
  f_moved : Addr
  f_check_map : Addr
  f_are_counts : Addr
  f_ordered : Addr
  f_check_shape : Addr
  f_are_lengths : Addr
  f_fate : Addr
  f_count_extensions : Addr
  f_check_degree : Addr
  f_root : Addr
  f_is_root : Addr
  f_obstacle : Addr
  f_is_obstacle : Addr
  f_count_roots : Addr
  f_roots : Addr
  f_has_root : Addr
  f_l_hand : Addr
  f_l_draw : Addr
  f_l_roots : Addr
  f_l_called : Addr
  f_l_kept : Addr
  f_law : Addr
  C_Shape : Addr
  f_Shape__init : Addr
  f_Shape_power : Addr
  C_GreatMap : Addr
  f_GreatMap__init : Addr
  f_GreatMap_length_at : Addr
  f_GreatMap_after : Addr
  C_Map : Addr
  f_Map__init : Addr
  p_Map_identity : Addr
  f_Map_identity : Addr
  p_Map_empty : Addr
  f_Map_empty : Addr
  p_Map_chain : Addr
  f_Map_chain : Addr
  p_Map_cycle : Addr
  f_Map_cycle : Addr
  p_Map_swap : Addr
  f_Map_swap : Addr
  p_Map_size : Addr
  f_Map_size : Addr
  p_Map_arrows : Addr
  f_Map_arrows : Addr
  f_Map_power : Addr
  f_Map__getitem : Addr
  f_Map_is_source : Addr
  C_InvalidMap : Addr
  f_InvalidMap__init : Addr
  C_InvalidShape : Addr
  f_InvalidShape__init : Addr
  C_InvalidElement : Addr
  f_InvalidElement__init : Addr
  C_InvalidNumber : Addr
  f_InvalidNumber__init : Addr
  C_InvalidSize : Addr
  f_InvalidSize__init : Addr
  C_Undefined : Addr
  f_Undefined__init : Addr
  A_is_integer : U.FnAt K "is_integer" "is_integer" s_is_integer f_is_integer ["value"]
  g_is_integer : mg "is_integer" = some (.ref f_is_integer)
  A_in_range : U.FnAt K "in_range" "in_range" s_in_range f_in_range ["value", "least", "most"]
  g_in_range : mg "in_range" = some (.ref f_in_range)
  A_check_size : U.FnAt K "check_size" "check_size" s_check_size f_check_size ["size"]
  g_check_size : mg "check_size" = some (.ref f_check_size)
  A_check_elements : U.FnAt K "check_elements" "check_elements" s_check_elements f_check_elements ["size", "points"]
  g_check_elements : mg "check_elements" = some (.ref f_check_elements)
  A_are_arrows : U.FnAt K "are_arrows" "are_arrows" s_are_arrows f_are_arrows ["size", "arrows"]
  g_are_arrows : mg "are_arrows" = some (.ref f_are_arrows)
  A_row_from : U.FnAt K "row_from" "row_from" s_row_from f_row_from ["arrows", "element"]
  g_row_from : mg "row_from" = some (.ref f_row_from)
  A_moved : U.FnAt K "moved" "moved" s_moved f_moved ["arrows", "steps"]
  g_moved : mg "moved" = some (.ref f_moved)
  A_check_map : U.FnAt K "check_map" "check_map" s_check_map f_check_map ["value"]
  g_check_map : mg "check_map" = some (.ref f_check_map)
  A_are_counts : U.FnAt K "are_counts" "are_counts" s_are_counts f_are_counts ["value"]
  g_are_counts : mg "are_counts" = some (.ref f_are_counts)
  A_ordered : U.FnAt K "ordered" "ordered" s_ordered f_ordered ["counts"]
  g_ordered : mg "ordered" = some (.ref f_ordered)
  A_check_shape : U.FnAt K "check_shape" "check_shape" s_check_shape f_check_shape ["value"]
  g_check_shape : mg "check_shape" = some (.ref f_check_shape)
  A_are_lengths : U.FnAt K "are_lengths" "are_lengths" s_are_lengths f_are_lengths ["value"]
  g_are_lengths : mg "are_lengths" = some (.ref f_are_lengths)
  A_fate : U.FnAt K "fate" "fate" s_fate f_fate ["given", "element"]
  g_fate : mg "fate" = some (.ref f_fate)
  A_count_extensions : U.FnAt K "count_extensions" "count_extensions" s_count_extensions f_count_extensions ["given", "arrows"]
  g_count_extensions : mg "count_extensions" = some (.ref f_count_extensions)
  A_check_degree : U.FnAt K "check_degree" "check_degree" s_check_degree f_check_degree ["degree"]
  g_check_degree : mg "check_degree" = some (.ref f_check_degree)
  A_root : U.FnAt K "root" "root" s_root f_root ["given", "degree"]
  g_root : mg "root" = some (.ref f_root)
  A_is_root : U.FnAt K "is_root" "is_root" s_is_root f_is_root ["given", "degree", "value"]
  g_is_root : mg "is_root" = some (.ref f_is_root)
  A_obstacle : U.FnAt K "obstacle" "obstacle" s_obstacle f_obstacle ["given", "degree"]
  g_obstacle : mg "obstacle" = some (.ref f_obstacle)
  A_is_obstacle : U.FnAt K "is_obstacle" "is_obstacle" s_is_obstacle f_is_obstacle ["given", "degree", "value"]
  g_is_obstacle : mg "is_obstacle" = some (.ref f_is_obstacle)
  A_count_roots : U.FnAt K "count_roots" "count_roots" s_count_roots f_count_roots ["given", "degree"]
  g_count_roots : mg "count_roots" = some (.ref f_count_roots)
  A_roots : U.FnAt K "roots" "roots" s_roots f_roots ["given", "degree"]
  g_roots : mg "roots" = some (.ref f_roots)
  A_has_root : U.FnAt K "has_root" "has_root" s_has_root f_has_root ["shape", "degree"]
  g_has_root : mg "has_root" = some (.ref f_has_root)
  A_l_hand : U.FnAt K "_law_hand" "_law_hand" s_l_hand f_l_hand ["_law_script", "_law_k"]
  g_l_hand : mg "_law_hand" = some (.ref f_l_hand)
  A_l_draw : U.FnAt K "_law_draw" "_law_draw" s_l_draw f_l_draw ["_law_pool", "_law_size"]
  g_l_draw : mg "_law_draw" = some (.ref f_l_draw)
  A_l_roots : U.FnAt K "_law_roots" "_law_roots" s_l_roots f_l_roots ["_law_door", "_law_given", "_law_item"]
  g_l_roots : mg "_law_roots" = some (.ref f_l_roots)
  A_l_called : U.FnAt K "_law_called" "_law_called" s_l_called f_l_called ["_law_door", "_law_given", "_law_item"]
  g_l_called : mg "_law_called" = some (.ref f_l_called)
  A_l_kept : U.FnAt K "_law_kept" "_law_kept" s_l_kept f_l_kept ["_law_door", "_law_given", "_law_item"]
  g_l_kept : mg "_law_kept" = some (.ref f_l_kept)
  A_law : U.FnAt K "law" "law" s_law f_law ["_law_script"]
  L_law : ∃ fd, Fun K "law" "law" s_law f_law fd ∧ ∀ (s : Shared) (u : Value), BindsTo s fd ⟨[u], []⟩ [("_law_script", u)]
  g_law : mg "law" = some (.ref f_law)
  g_Shape : mg "Shape" = some (.ref C_Shape)
  o_Shape : U.OwnC K C_Shape
  kit_int_Shape : PySem.W.kitOne K (.ref C_Shape) (.type "int") = some false
  kit_bool_Shape : PySem.W.kitOne K (.ref C_Shape) (.type "bool") = some false
  kn_NoneType_Shape : PySem.W.kitOne K (.type "NoneType") (.ref C_Shape) = some false
  nf_NoneType_Shape : PySem.W.notFirst K C_Shape (.type "NoneType") = true
  kn_int_Shape : PySem.W.kitOne K (.type "int") (.ref C_Shape) = some false
  nf_int_Shape : PySem.W.notFirst K C_Shape (.type "int") = true
  kn_bool_Shape : PySem.W.kitOne K (.type "bool") (.ref C_Shape) = some false
  nf_bool_Shape : PySem.W.notFirst K C_Shape (.type "bool") = true
  kn_str_Shape : PySem.W.kitOne K (.type "str") (.ref C_Shape) = some false
  nf_str_Shape : PySem.W.notFirst K C_Shape (.type "str") = true
  kn_list_Shape : PySem.W.kitOne K (.type "list") (.ref C_Shape) = some false
  nf_list_Shape : PySem.W.notFirst K C_Shape (.type "list") = true
  kn_dict_Shape : PySem.W.kitOne K (.type "dict") (.ref C_Shape) = some false
  nf_dict_Shape : PySem.W.notFirst K C_Shape (.type "dict") = true
  kn_tuple_Shape : PySem.W.kitOne K (.type "tuple") (.ref C_Shape) = some false
  nf_tuple_Shape : PySem.W.notFirst K C_Shape (.type "tuple") = true
  self_Shape : PySem.W.kitOne K (.ref C_Shape) (.ref C_Shape) = some true
  na_own_cycles_Shape : NoAttr K C_Shape "own_cycles"
  na_own_chains_Shape : NoAttr K C_Shape "own_chains"
  A_Shape__init : U.FnAt K "__init__" "Shape.__init__" s_Shape__init f_Shape__init ["self", "cycles", "chains"]
  m_Shape__init : PySem.W.findIn K (.ref C_Shape) "__init__" = some (some (.ref f_Shape__init))
  i_Shape__init : PySem.W.isFn K (.ref f_Shape__init) = true
  M_Shape : Mk K C_Shape f_Shape__init
  A_Shape_power : U.FnAt K "power" "Shape.power" s_Shape_power f_Shape_power ["self", "exponent"]
  m_Shape_power : PySem.W.findIn K (.ref C_Shape) "power" = some (some (.ref f_Shape_power))
  i_Shape_power : PySem.W.isFn K (.ref f_Shape_power) = true
  meth_Shape_power : Meth K C_Shape "power" f_Shape_power
  g_GreatMap : mg "GreatMap" = some (.ref C_GreatMap)
  o_GreatMap : U.OwnC K C_GreatMap
  kit_int_GreatMap : PySem.W.kitOne K (.ref C_GreatMap) (.type "int") = some false
  kit_bool_GreatMap : PySem.W.kitOne K (.ref C_GreatMap) (.type "bool") = some false
  kit_list_GreatMap : PySem.W.kitOne K (.ref C_GreatMap) (.type "list") = some false
  kit_tuple_GreatMap : PySem.W.kitOne K (.ref C_GreatMap) (.type "tuple") = some false
  kn_NoneType_GreatMap : PySem.W.kitOne K (.type "NoneType") (.ref C_GreatMap) = some false
  nf_NoneType_GreatMap : PySem.W.notFirst K C_GreatMap (.type "NoneType") = true
  kn_int_GreatMap : PySem.W.kitOne K (.type "int") (.ref C_GreatMap) = some false
  nf_int_GreatMap : PySem.W.notFirst K C_GreatMap (.type "int") = true
  kn_bool_GreatMap : PySem.W.kitOne K (.type "bool") (.ref C_GreatMap) = some false
  nf_bool_GreatMap : PySem.W.notFirst K C_GreatMap (.type "bool") = true
  kn_str_GreatMap : PySem.W.kitOne K (.type "str") (.ref C_GreatMap) = some false
  nf_str_GreatMap : PySem.W.notFirst K C_GreatMap (.type "str") = true
  kn_list_GreatMap : PySem.W.kitOne K (.type "list") (.ref C_GreatMap) = some false
  nf_list_GreatMap : PySem.W.notFirst K C_GreatMap (.type "list") = true
  kn_dict_GreatMap : PySem.W.kitOne K (.type "dict") (.ref C_GreatMap) = some false
  nf_dict_GreatMap : PySem.W.notFirst K C_GreatMap (.type "dict") = true
  kn_tuple_GreatMap : PySem.W.kitOne K (.type "tuple") (.ref C_GreatMap) = some false
  nf_tuple_GreatMap : PySem.W.notFirst K C_GreatMap (.type "tuple") = true
  self_GreatMap : PySem.W.kitOne K (.ref C_GreatMap) (.ref C_GreatMap) = some true
  na_own_cycles_GreatMap : NoAttr K C_GreatMap "own_cycles"
  na_own_chains_GreatMap : NoAttr K C_GreatMap "own_chains"
  A_GreatMap__init : U.FnAt K "__init__" "GreatMap.__init__" s_GreatMap__init f_GreatMap__init ["self", "cycles", "chains"]
  m_GreatMap__init : PySem.W.findIn K (.ref C_GreatMap) "__init__" = some (some (.ref f_GreatMap__init))
  i_GreatMap__init : PySem.W.isFn K (.ref f_GreatMap__init) = true
  M_GreatMap : Mk K C_GreatMap f_GreatMap__init
  A_GreatMap_length_at : U.FnAt K "length_at" "GreatMap.length_at" s_GreatMap_length_at f_GreatMap_length_at ["self", "place"]
  m_GreatMap_length_at : PySem.W.findIn K (.ref C_GreatMap) "length_at" = some (some (.ref f_GreatMap_length_at))
  i_GreatMap_length_at : PySem.W.isFn K (.ref f_GreatMap_length_at) = true
  meth_GreatMap_length_at : Meth K C_GreatMap "length_at" f_GreatMap_length_at
  A_GreatMap_after : U.FnAt K "after" "GreatMap.after" s_GreatMap_after f_GreatMap_after ["self", "place", "exponent"]
  m_GreatMap_after : PySem.W.findIn K (.ref C_GreatMap) "after" = some (some (.ref f_GreatMap_after))
  i_GreatMap_after : PySem.W.isFn K (.ref f_GreatMap_after) = true
  meth_GreatMap_after : Meth K C_GreatMap "after" f_GreatMap_after
  g_Map : mg "Map" = some (.ref C_Map)
  o_Map : U.OwnC K C_Map
  kit_int_Map : PySem.W.kitOne K (.ref C_Map) (.type "int") = some false
  kit_bool_Map : PySem.W.kitOne K (.ref C_Map) (.type "bool") = some false
  kn_NoneType_Map : PySem.W.kitOne K (.type "NoneType") (.ref C_Map) = some false
  nf_NoneType_Map : PySem.W.notFirst K C_Map (.type "NoneType") = true
  kn_int_Map : PySem.W.kitOne K (.type "int") (.ref C_Map) = some false
  nf_int_Map : PySem.W.notFirst K C_Map (.type "int") = true
  kn_bool_Map : PySem.W.kitOne K (.type "bool") (.ref C_Map) = some false
  nf_bool_Map : PySem.W.notFirst K C_Map (.type "bool") = true
  kn_str_Map : PySem.W.kitOne K (.type "str") (.ref C_Map) = some false
  nf_str_Map : PySem.W.notFirst K C_Map (.type "str") = true
  kn_list_Map : PySem.W.kitOne K (.type "list") (.ref C_Map) = some false
  nf_list_Map : PySem.W.notFirst K C_Map (.type "list") = true
  kn_dict_Map : PySem.W.kitOne K (.type "dict") (.ref C_Map) = some false
  nf_dict_Map : PySem.W.notFirst K C_Map (.type "dict") = true
  kn_tuple_Map : PySem.W.kitOne K (.type "tuple") (.ref C_Map) = some false
  nf_tuple_Map : PySem.W.notFirst K C_Map (.type "tuple") = true
  kx_Map_Shape : PySem.W.kitOne K (.ref C_Map) (.ref C_Shape) = some false
  self_Map : PySem.W.kitOne K (.ref C_Map) (.ref C_Map) = some true
  na_own_size_Map : NoAttr K C_Map "own_size"
  na_own_arrows_Map : NoAttr K C_Map "own_arrows"
  A_Map__init : U.FnAt K "__init__" "Map.__init__" s_Map__init f_Map__init ["self", "size", "arrows"]
  m_Map__init : PySem.W.findIn K (.ref C_Map) "__init__" = some (some (.ref f_Map__init))
  i_Map__init : PySem.W.isFn K (.ref f_Map__init) = true
  M_Map : Mk K C_Map f_Map__init
  R_Map : ClX.CRead K C_Map (.type "type")
  A_Map_identity : U.FnAt K "identity" "Map.identity" s_Map_identity f_Map_identity ["cls", "size"]
  cm_Map_identity : ClX.CMet K C_Map (.type "type") "identity" p_Map_identity f_Map_identity
  A_Map_empty : U.FnAt K "empty" "Map.empty" s_Map_empty f_Map_empty ["cls", "size"]
  cm_Map_empty : ClX.CMet K C_Map (.type "type") "empty" p_Map_empty f_Map_empty
  A_Map_chain : U.StarAt K "chain" "Map.chain" s_Map_chain f_Map_chain ["cls", "size"] "points"
  cm_Map_chain : ClX.CMet K C_Map (.type "type") "chain" p_Map_chain f_Map_chain
  A_Map_cycle : U.StarAt K "cycle" "Map.cycle" s_Map_cycle f_Map_cycle ["cls", "size"] "points"
  cm_Map_cycle : ClX.CMet K C_Map (.type "type") "cycle" p_Map_cycle f_Map_cycle
  A_Map_swap : U.FnAt K "swap" "Map.swap" s_Map_swap f_Map_swap ["cls", "size", "one", "other"]
  cm_Map_swap : ClX.CMet K C_Map (.type "type") "swap" p_Map_swap f_Map_swap
  A_Map_size : U.FnAt K "size" "Map.size" s_Map_size f_Map_size ["self"]
  P_Map_size : PropOf K C_Map "size" p_Map_size f_Map_size
  A_Map_arrows : U.FnAt K "arrows" "Map.arrows" s_Map_arrows f_Map_arrows ["self"]
  P_Map_arrows : PropOf K C_Map "arrows" p_Map_arrows f_Map_arrows
  A_Map_power : U.FnAt K "power" "Map.power" s_Map_power f_Map_power ["self", "exponent"]
  m_Map_power : PySem.W.findIn K (.ref C_Map) "power" = some (some (.ref f_Map_power))
  i_Map_power : PySem.W.isFn K (.ref f_Map_power) = true
  meth_Map_power : Meth K C_Map "power" f_Map_power
  A_Map__getitem : U.FnAt K "__getitem__" "Map.__getitem__" s_Map__getitem f_Map__getitem ["self", "element"]
  m_Map__getitem : PySem.W.findIn K (.ref C_Map) "__getitem__" = some (some (.ref f_Map__getitem))
  i_Map__getitem : PySem.W.isFn K (.ref f_Map__getitem) = true
  fi_Map__getitem : PySem.W.fnIn K f_Map__getitem = true
  A_Map_is_source : U.FnAt K "is_source" "Map.is_source" s_Map_is_source f_Map_is_source ["self", "value"]
  m_Map_is_source : PySem.W.findIn K (.ref C_Map) "is_source" = some (some (.ref f_Map_is_source))
  i_Map_is_source : PySem.W.isFn K (.ref f_Map_is_source) = true
  meth_Map_is_source : Meth K C_Map "is_source" f_Map_is_source
  g_InvalidMap : mg "InvalidMap" = some (.ref C_InvalidMap)
  x_InvalidMap : OexG K C_InvalidMap
  xf_InvalidMap : XfC K C_InvalidMap
  xe_InvalidMap : ExcC K C_InvalidMap
  te_InvalidMap : PySem.W.exmOne K (.ref C_InvalidMap) (.ref C_InvalidMap) = some true
  kit_ValueError_InvalidMap : PySem.W.kitOne K (.ref C_InvalidMap) (.type "ValueError") = some true
  na_part_InvalidMap : PySem.W.findIn K (.ref C_InvalidMap) "part" = some none
  A_InvalidMap__init : U.FnAt K "__init__" "InvalidMap.__init__" s_InvalidMap__init f_InvalidMap__init ["self", "part"]
  m_InvalidMap__init : PySem.W.findIn K (.ref C_InvalidMap) "__init__" = some (some (.ref f_InvalidMap__init))
  ti_InvalidMap__init : PySem.W.typeIn K (.ref f_InvalidMap__init) = some (.type "function")
  g_InvalidShape : mg "InvalidShape" = some (.ref C_InvalidShape)
  x_InvalidShape : OexG K C_InvalidShape
  xf_InvalidShape : XfC K C_InvalidShape
  xe_InvalidShape : ExcC K C_InvalidShape
  te_InvalidShape : PySem.W.exmOne K (.ref C_InvalidShape) (.ref C_InvalidShape) = some true
  kit_ValueError_InvalidShape : PySem.W.kitOne K (.ref C_InvalidShape) (.type "ValueError") = some true
  na_part_InvalidShape : PySem.W.findIn K (.ref C_InvalidShape) "part" = some none
  A_InvalidShape__init : U.FnAt K "__init__" "InvalidShape.__init__" s_InvalidShape__init f_InvalidShape__init ["self", "part"]
  m_InvalidShape__init : PySem.W.findIn K (.ref C_InvalidShape) "__init__" = some (some (.ref f_InvalidShape__init))
  ti_InvalidShape__init : PySem.W.typeIn K (.ref f_InvalidShape__init) = some (.type "function")
  g_InvalidElement : mg "InvalidElement" = some (.ref C_InvalidElement)
  x_InvalidElement : OexG K C_InvalidElement
  xf_InvalidElement : XfC K C_InvalidElement
  xe_InvalidElement : ExcC K C_InvalidElement
  te_InvalidElement : PySem.W.exmOne K (.ref C_InvalidElement) (.ref C_InvalidElement) = some true
  kit_ValueError_InvalidElement : PySem.W.kitOne K (.ref C_InvalidElement) (.type "ValueError") = some true
  te_InvalidElement_InvalidNumber : PySem.W.exmOne K (.ref C_InvalidElement) (.ref C_InvalidNumber) = some false
  te_InvalidElement_InvalidSize : PySem.W.exmOne K (.ref C_InvalidElement) (.ref C_InvalidSize) = some false
  te_InvalidElement_Undefined : PySem.W.exmOne K (.ref C_InvalidElement) (.ref C_Undefined) = some false
  na_value_InvalidElement : PySem.W.findIn K (.ref C_InvalidElement) "value" = some none
  A_InvalidElement__init : U.FnAt K "__init__" "InvalidElement.__init__" s_InvalidElement__init f_InvalidElement__init ["self", "value"]
  m_InvalidElement__init : PySem.W.findIn K (.ref C_InvalidElement) "__init__" = some (some (.ref f_InvalidElement__init))
  ti_InvalidElement__init : PySem.W.typeIn K (.ref f_InvalidElement__init) = some (.type "function")
  g_InvalidNumber : mg "InvalidNumber" = some (.ref C_InvalidNumber)
  x_InvalidNumber : OexG K C_InvalidNumber
  xf_InvalidNumber : XfC K C_InvalidNumber
  xe_InvalidNumber : ExcC K C_InvalidNumber
  te_InvalidNumber : PySem.W.exmOne K (.ref C_InvalidNumber) (.ref C_InvalidNumber) = some true
  kit_ValueError_InvalidNumber : PySem.W.kitOne K (.ref C_InvalidNumber) (.type "ValueError") = some true
  te_InvalidNumber_InvalidElement : PySem.W.exmOne K (.ref C_InvalidNumber) (.ref C_InvalidElement) = some false
  te_InvalidNumber_InvalidSize : PySem.W.exmOne K (.ref C_InvalidNumber) (.ref C_InvalidSize) = some false
  te_InvalidNumber_Undefined : PySem.W.exmOne K (.ref C_InvalidNumber) (.ref C_Undefined) = some false
  na_value_InvalidNumber : PySem.W.findIn K (.ref C_InvalidNumber) "value" = some none
  A_InvalidNumber__init : U.FnAt K "__init__" "InvalidNumber.__init__" s_InvalidNumber__init f_InvalidNumber__init ["self", "value"]
  m_InvalidNumber__init : PySem.W.findIn K (.ref C_InvalidNumber) "__init__" = some (some (.ref f_InvalidNumber__init))
  ti_InvalidNumber__init : PySem.W.typeIn K (.ref f_InvalidNumber__init) = some (.type "function")
  g_InvalidSize : mg "InvalidSize" = some (.ref C_InvalidSize)
  x_InvalidSize : OexG K C_InvalidSize
  xf_InvalidSize : XfC K C_InvalidSize
  xe_InvalidSize : ExcC K C_InvalidSize
  te_InvalidSize : PySem.W.exmOne K (.ref C_InvalidSize) (.ref C_InvalidSize) = some true
  kit_ValueError_InvalidSize : PySem.W.kitOne K (.ref C_InvalidSize) (.type "ValueError") = some true
  te_InvalidSize_InvalidElement : PySem.W.exmOne K (.ref C_InvalidSize) (.ref C_InvalidElement) = some false
  te_InvalidSize_InvalidNumber : PySem.W.exmOne K (.ref C_InvalidSize) (.ref C_InvalidNumber) = some false
  te_InvalidSize_Undefined : PySem.W.exmOne K (.ref C_InvalidSize) (.ref C_Undefined) = some false
  na_value_InvalidSize : PySem.W.findIn K (.ref C_InvalidSize) "value" = some none
  A_InvalidSize__init : U.FnAt K "__init__" "InvalidSize.__init__" s_InvalidSize__init f_InvalidSize__init ["self", "value"]
  m_InvalidSize__init : PySem.W.findIn K (.ref C_InvalidSize) "__init__" = some (some (.ref f_InvalidSize__init))
  ti_InvalidSize__init : PySem.W.typeIn K (.ref f_InvalidSize__init) = some (.type "function")
  g_Undefined : mg "Undefined" = some (.ref C_Undefined)
  x_Undefined : OexG K C_Undefined
  xf_Undefined : XfC K C_Undefined
  xe_Undefined : ExcC K C_Undefined
  te_Undefined : PySem.W.exmOne K (.ref C_Undefined) (.ref C_Undefined) = some true
  kit_LookupError_Undefined : PySem.W.kitOne K (.ref C_Undefined) (.type "LookupError") = some true
  te_Undefined_InvalidElement : PySem.W.exmOne K (.ref C_Undefined) (.ref C_InvalidElement) = some false
  te_Undefined_InvalidNumber : PySem.W.exmOne K (.ref C_Undefined) (.ref C_InvalidNumber) = some false
  te_Undefined_InvalidSize : PySem.W.exmOne K (.ref C_Undefined) (.ref C_InvalidSize) = some false
  na_value_Undefined : PySem.W.findIn K (.ref C_Undefined) "value" = some none
  A_Undefined__init : U.FnAt K "__init__" "Undefined.__init__" s_Undefined__init f_Undefined__init ["self", "value"]
  m_Undefined__init : PySem.W.findIn K (.ref C_Undefined) "__init__" = some (some (.ref f_Undefined__init))
  ti_Undefined__init : PySem.W.typeIn K (.ref f_Undefined__init) = some (.type "function")
  stop_IN : PySem.W.subIn K (.ref C_InvalidNumber) (.type "StopIteration") = some false
  n_isinstance : mg "isinstance" = none
  n_int : mg "int" = none
  n_bool : mg "bool" = none
  n_dict : mg "dict" = none
  n_len : mg "len" = none
  n_range : mg "range" = none
  n_list : mg "list" = none
  n_tuple : mg "tuple" = none
  n_max : mg "max" = none
  n_min : mg "min" = none
  n_sum : mg "sum" = none
  n_all : mg "all" = none
  n_sorted : mg "sorted" = none
  n_abs : mg "abs" = none
  n_enumerate : mg "enumerate" = none
  n_repr : mg "repr" = none
  n_zip : mg "zip" = none
  n_ValueError : mg "ValueError" = none
  n_LookupError : mg "LookupError" = none
  v_MAX_SIZE : ∃ t, mg "MAX_SIZE" = some (.int 300 t)
  v_MAX_PARTS : ∃ t, mg "MAX_PARTS" = some (.int 100 t)
  v_MAX_NUMBER : ∃ t, mg "MAX_NUMBER" = some (.int 1000000000000000000000000000000 t)
  v_MAX_DEGREE : ∃ t, mg "MAX_DEGREE" = some (.int 1000000000000000000000000000000 t)
theorem mk_txt {K : PySem.W.Frag} {h : Heap} {mg : Str → Option Value} (X : K.In h) (G : h.Ns mainGlobals mg)
    {f_is_integer : Addr} {oc_is_integer kV_is_integer dc_is_integer pm_is_integer cd_is_integer ct_is_integer : Value} {od_is_integer an_is_integer : Option Addr} {sl_is_integer : Array (Option Value)}
    {f_in_range : Addr} {oc_in_range kV_in_range dc_in_range pm_in_range cd_in_range ct_in_range : Value} {od_in_range an_in_range : Option Addr} {sl_in_range : Array (Option Value)}
    {f_check_size : Addr} {oc_check_size kV_check_size dc_check_size pm_check_size cd_check_size ct_check_size : Value} {od_check_size an_check_size : Option Addr} {sl_check_size : Array (Option Value)}
    {f_check_elements : Addr} {oc_check_elements kV_check_elements dc_check_elements pm_check_elements cd_check_elements ct_check_elements : Value} {od_check_elements an_check_elements : Option Addr} {sl_check_elements : Array (Option Value)}
    {f_are_arrows : Addr} {oc_are_arrows kV_are_arrows dc_are_arrows pm_are_arrows cd_are_arrows ct_are_arrows : Value} {od_are_arrows an_are_arrows : Option Addr} {sl_are_arrows : Array (Option Value)}
    {f_row_from : Addr} {oc_row_from kV_row_from dc_row_from pm_row_from cd_row_from ct_row_from : Value} {od_row_from an_row_from : Option Addr} {sl_row_from : Array (Option Value)}
    {f_moved : Addr} {oc_moved kV_moved dc_moved pm_moved cd_moved ct_moved : Value} {od_moved an_moved : Option Addr} {sl_moved : Array (Option Value)}
    {f_check_map : Addr} {oc_check_map kV_check_map dc_check_map pm_check_map cd_check_map ct_check_map : Value} {od_check_map an_check_map : Option Addr} {sl_check_map : Array (Option Value)}
    {f_are_counts : Addr} {oc_are_counts kV_are_counts dc_are_counts pm_are_counts cd_are_counts ct_are_counts : Value} {od_are_counts an_are_counts : Option Addr} {sl_are_counts : Array (Option Value)}
    {f_ordered : Addr} {oc_ordered kV_ordered dc_ordered pm_ordered cd_ordered ct_ordered : Value} {od_ordered an_ordered : Option Addr} {sl_ordered : Array (Option Value)}
    {f_check_shape : Addr} {oc_check_shape kV_check_shape dc_check_shape pm_check_shape cd_check_shape ct_check_shape : Value} {od_check_shape an_check_shape : Option Addr} {sl_check_shape : Array (Option Value)}
    {f_are_lengths : Addr} {oc_are_lengths kV_are_lengths dc_are_lengths pm_are_lengths cd_are_lengths ct_are_lengths : Value} {od_are_lengths an_are_lengths : Option Addr} {sl_are_lengths : Array (Option Value)}
    {f_fate : Addr} {oc_fate kV_fate dc_fate pm_fate cd_fate ct_fate : Value} {od_fate an_fate : Option Addr} {sl_fate : Array (Option Value)}
    {f_count_extensions : Addr} {oc_count_extensions kV_count_extensions dc_count_extensions pm_count_extensions cd_count_extensions ct_count_extensions : Value} {od_count_extensions an_count_extensions : Option Addr} {sl_count_extensions : Array (Option Value)}
    {f_check_degree : Addr} {oc_check_degree kV_check_degree dc_check_degree pm_check_degree cd_check_degree ct_check_degree : Value} {od_check_degree an_check_degree : Option Addr} {sl_check_degree : Array (Option Value)}
    {f_root : Addr} {oc_root kV_root dc_root pm_root cd_root ct_root : Value} {od_root an_root : Option Addr} {sl_root : Array (Option Value)}
    {f_is_root : Addr} {oc_is_root kV_is_root dc_is_root pm_is_root cd_is_root ct_is_root : Value} {od_is_root an_is_root : Option Addr} {sl_is_root : Array (Option Value)}
    {f_obstacle : Addr} {oc_obstacle kV_obstacle dc_obstacle pm_obstacle cd_obstacle ct_obstacle : Value} {od_obstacle an_obstacle : Option Addr} {sl_obstacle : Array (Option Value)}
    {f_is_obstacle : Addr} {oc_is_obstacle kV_is_obstacle dc_is_obstacle pm_is_obstacle cd_is_obstacle ct_is_obstacle : Value} {od_is_obstacle an_is_obstacle : Option Addr} {sl_is_obstacle : Array (Option Value)}
    {f_count_roots : Addr} {oc_count_roots kV_count_roots dc_count_roots pm_count_roots cd_count_roots ct_count_roots : Value} {od_count_roots an_count_roots : Option Addr} {sl_count_roots : Array (Option Value)}
    {f_roots : Addr} {oc_roots kV_roots dc_roots pm_roots cd_roots ct_roots : Value} {od_roots an_roots : Option Addr} {sl_roots : Array (Option Value)}
    {f_has_root : Addr} {oc_has_root kV_has_root dc_has_root pm_has_root cd_has_root ct_has_root : Value} {od_has_root an_has_root : Option Addr} {sl_has_root : Array (Option Value)}
    {f_l_hand : Addr} {oc_l_hand kV_l_hand dc_l_hand pm_l_hand cd_l_hand ct_l_hand : Value} {od_l_hand an_l_hand : Option Addr} {sl_l_hand : Array (Option Value)}
    {f_l_draw : Addr} {oc_l_draw kV_l_draw dc_l_draw pm_l_draw cd_l_draw ct_l_draw : Value} {od_l_draw an_l_draw : Option Addr} {sl_l_draw : Array (Option Value)}
    {f_l_roots : Addr} {oc_l_roots kV_l_roots dc_l_roots pm_l_roots cd_l_roots ct_l_roots : Value} {od_l_roots an_l_roots : Option Addr} {sl_l_roots : Array (Option Value)}
    {f_l_called : Addr} {oc_l_called kV_l_called dc_l_called pm_l_called cd_l_called ct_l_called : Value} {od_l_called an_l_called : Option Addr} {sl_l_called : Array (Option Value)}
    {f_l_kept : Addr} {oc_l_kept kV_l_kept dc_l_kept pm_l_kept cd_l_kept ct_l_kept : Value} {od_l_kept an_l_kept : Option Addr} {sl_l_kept : Array (Option Value)}
    {f_law : Addr} {oc_law kV_law dc_law pm_law cd_law ct_law : Value} {od_law an_law : Option Addr} {sl_law : Array (Option Value)}
    {C_Shape : Addr}
    {f_Shape__init : Addr} {oc_Shape__init kV_Shape__init dc_Shape__init pm_Shape__init cd_Shape__init ct_Shape__init : Value} {od_Shape__init an_Shape__init : Option Addr} {sl_Shape__init : Array (Option Value)}
    {f_Shape_power : Addr} {oc_Shape_power kV_Shape_power dc_Shape_power pm_Shape_power cd_Shape_power ct_Shape_power : Value} {od_Shape_power an_Shape_power : Option Addr} {sl_Shape_power : Array (Option Value)}
    {C_GreatMap : Addr}
    {f_GreatMap__init : Addr} {oc_GreatMap__init kV_GreatMap__init dc_GreatMap__init pm_GreatMap__init cd_GreatMap__init ct_GreatMap__init : Value} {od_GreatMap__init an_GreatMap__init : Option Addr} {sl_GreatMap__init : Array (Option Value)}
    {f_GreatMap_length_at : Addr} {oc_GreatMap_length_at kV_GreatMap_length_at dc_GreatMap_length_at pm_GreatMap_length_at cd_GreatMap_length_at ct_GreatMap_length_at : Value} {od_GreatMap_length_at an_GreatMap_length_at : Option Addr} {sl_GreatMap_length_at : Array (Option Value)}
    {f_GreatMap_after : Addr} {oc_GreatMap_after kV_GreatMap_after dc_GreatMap_after pm_GreatMap_after cd_GreatMap_after ct_GreatMap_after : Value} {od_GreatMap_after an_GreatMap_after : Option Addr} {sl_GreatMap_after : Array (Option Value)}
    {C_Map : Addr}
    {f_Map__init : Addr} {oc_Map__init kV_Map__init dc_Map__init pm_Map__init cd_Map__init ct_Map__init : Value} {od_Map__init an_Map__init : Option Addr} {sl_Map__init : Array (Option Value)}
    {p_Map_identity : Addr} {r_Map_identity : List Value}
    {f_Map_identity : Addr} {oc_Map_identity kV_Map_identity dc_Map_identity pm_Map_identity cd_Map_identity ct_Map_identity : Value} {od_Map_identity an_Map_identity : Option Addr} {sl_Map_identity : Array (Option Value)}
    {p_Map_empty : Addr} {r_Map_empty : List Value}
    {f_Map_empty : Addr} {oc_Map_empty kV_Map_empty dc_Map_empty pm_Map_empty cd_Map_empty ct_Map_empty : Value} {od_Map_empty an_Map_empty : Option Addr} {sl_Map_empty : Array (Option Value)}
    {p_Map_chain : Addr} {r_Map_chain : List Value}
    {f_Map_chain : Addr} {oc_Map_chain kV_Map_chain dc_Map_chain pm_Map_chain cd_Map_chain ct_Map_chain : Value} {od_Map_chain an_Map_chain : Option Addr} {sl_Map_chain : Array (Option Value)}
    {p_Map_cycle : Addr} {r_Map_cycle : List Value}
    {f_Map_cycle : Addr} {oc_Map_cycle kV_Map_cycle dc_Map_cycle pm_Map_cycle cd_Map_cycle ct_Map_cycle : Value} {od_Map_cycle an_Map_cycle : Option Addr} {sl_Map_cycle : Array (Option Value)}
    {p_Map_swap : Addr} {r_Map_swap : List Value}
    {f_Map_swap : Addr} {oc_Map_swap kV_Map_swap dc_Map_swap pm_Map_swap cd_Map_swap ct_Map_swap : Value} {od_Map_swap an_Map_swap : Option Addr} {sl_Map_swap : Array (Option Value)}
    {p_Map_size : Addr} {r_Map_size : List Value}
    {f_Map_size : Addr} {oc_Map_size kV_Map_size dc_Map_size pm_Map_size cd_Map_size ct_Map_size : Value} {od_Map_size an_Map_size : Option Addr} {sl_Map_size : Array (Option Value)}
    {p_Map_arrows : Addr} {r_Map_arrows : List Value}
    {f_Map_arrows : Addr} {oc_Map_arrows kV_Map_arrows dc_Map_arrows pm_Map_arrows cd_Map_arrows ct_Map_arrows : Value} {od_Map_arrows an_Map_arrows : Option Addr} {sl_Map_arrows : Array (Option Value)}
    {f_Map_power : Addr} {oc_Map_power kV_Map_power dc_Map_power pm_Map_power cd_Map_power ct_Map_power : Value} {od_Map_power an_Map_power : Option Addr} {sl_Map_power : Array (Option Value)}
    {f_Map__getitem : Addr} {oc_Map__getitem kV_Map__getitem dc_Map__getitem pm_Map__getitem cd_Map__getitem ct_Map__getitem : Value} {od_Map__getitem an_Map__getitem : Option Addr} {sl_Map__getitem : Array (Option Value)}
    {f_Map_is_source : Addr} {oc_Map_is_source kV_Map_is_source dc_Map_is_source pm_Map_is_source cd_Map_is_source ct_Map_is_source : Value} {od_Map_is_source an_Map_is_source : Option Addr} {sl_Map_is_source : Array (Option Value)}
    {C_InvalidMap : Addr} {nm_InvalidMap q_InvalidMap : Str} {N_InvalidMap : Addr} {bs_InvalidMap : List Value} {sn_InvalidMap : List Str} {sub_InvalidMap : List Value} {ab_InvalidMap : Bool} {col_InvalidMap : Option Bool} {dd_InvalidMap : Option Addr} {m0_InvalidMap m1_InvalidMap m2_InvalidMap m3_InvalidMap m5_InvalidMap : Option Value}
    {f_InvalidMap__init : Addr} {oc_InvalidMap__init kV_InvalidMap__init dc_InvalidMap__init pm_InvalidMap__init cd_InvalidMap__init ct_InvalidMap__init : Value} {od_InvalidMap__init an_InvalidMap__init : Option Addr} {sl_InvalidMap__init : Array (Option Value)}
    {C_InvalidShape : Addr} {nm_InvalidShape q_InvalidShape : Str} {N_InvalidShape : Addr} {bs_InvalidShape : List Value} {sn_InvalidShape : List Str} {sub_InvalidShape : List Value} {ab_InvalidShape : Bool} {col_InvalidShape : Option Bool} {dd_InvalidShape : Option Addr} {m0_InvalidShape m1_InvalidShape m2_InvalidShape m3_InvalidShape m5_InvalidShape : Option Value}
    {f_InvalidShape__init : Addr} {oc_InvalidShape__init kV_InvalidShape__init dc_InvalidShape__init pm_InvalidShape__init cd_InvalidShape__init ct_InvalidShape__init : Value} {od_InvalidShape__init an_InvalidShape__init : Option Addr} {sl_InvalidShape__init : Array (Option Value)}
    {C_InvalidElement : Addr} {nm_InvalidElement q_InvalidElement : Str} {N_InvalidElement : Addr} {bs_InvalidElement : List Value} {sn_InvalidElement : List Str} {sub_InvalidElement : List Value} {ab_InvalidElement : Bool} {col_InvalidElement : Option Bool} {dd_InvalidElement : Option Addr} {m0_InvalidElement m1_InvalidElement m2_InvalidElement m3_InvalidElement m5_InvalidElement : Option Value}
    {f_InvalidElement__init : Addr} {oc_InvalidElement__init kV_InvalidElement__init dc_InvalidElement__init pm_InvalidElement__init cd_InvalidElement__init ct_InvalidElement__init : Value} {od_InvalidElement__init an_InvalidElement__init : Option Addr} {sl_InvalidElement__init : Array (Option Value)}
    {C_InvalidNumber : Addr} {nm_InvalidNumber q_InvalidNumber : Str} {N_InvalidNumber : Addr} {bs_InvalidNumber : List Value} {sn_InvalidNumber : List Str} {sub_InvalidNumber : List Value} {ab_InvalidNumber : Bool} {col_InvalidNumber : Option Bool} {dd_InvalidNumber : Option Addr} {m0_InvalidNumber m1_InvalidNumber m2_InvalidNumber m3_InvalidNumber m5_InvalidNumber : Option Value}
    {f_InvalidNumber__init : Addr} {oc_InvalidNumber__init kV_InvalidNumber__init dc_InvalidNumber__init pm_InvalidNumber__init cd_InvalidNumber__init ct_InvalidNumber__init : Value} {od_InvalidNumber__init an_InvalidNumber__init : Option Addr} {sl_InvalidNumber__init : Array (Option Value)}
    {C_InvalidSize : Addr} {nm_InvalidSize q_InvalidSize : Str} {N_InvalidSize : Addr} {bs_InvalidSize : List Value} {sn_InvalidSize : List Str} {sub_InvalidSize : List Value} {ab_InvalidSize : Bool} {col_InvalidSize : Option Bool} {dd_InvalidSize : Option Addr} {m0_InvalidSize m1_InvalidSize m2_InvalidSize m3_InvalidSize m5_InvalidSize : Option Value}
    {f_InvalidSize__init : Addr} {oc_InvalidSize__init kV_InvalidSize__init dc_InvalidSize__init pm_InvalidSize__init cd_InvalidSize__init ct_InvalidSize__init : Value} {od_InvalidSize__init an_InvalidSize__init : Option Addr} {sl_InvalidSize__init : Array (Option Value)}
    {C_Undefined : Addr} {nm_Undefined q_Undefined : Str} {N_Undefined : Addr} {bs_Undefined : List Value} {sn_Undefined : List Str} {sub_Undefined : List Value} {ab_Undefined : Bool} {col_Undefined : Option Bool} {dd_Undefined : Option Addr} {m0_Undefined m1_Undefined m2_Undefined m3_Undefined m5_Undefined : Option Value}
    {f_Undefined__init : Addr} {oc_Undefined__init kV_Undefined__init dc_Undefined__init pm_Undefined__init cd_Undefined__init ct_Undefined__init : Value} {od_Undefined__init an_Undefined__init : Option Addr} {sl_Undefined__init : Array (Option Value)}
    {t_MAX_SIZE : Tok}
    {t_MAX_PARTS : Tok}
    {t_MAX_NUMBER : Tok}
    {t_MAX_DEGREE : Tok}
    (a_is_integer : PySem.W.nsIn K mainGlobals "is_integer" = some (some (.ref f_is_integer)))
    (l_is_integer : K.lookup f_is_integer = some ⟨oc_is_integer, od_is_integer, .func (PySem.W.fnOf "is_integer" "is_integer" (defArgs s_is_integer) (defBody s_is_integer) (defScope s_is_integer) .none kV_is_integer dc_is_integer pm_is_integer an_is_integer cd_is_integer ct_is_integer), sl_is_integer⟩)
    (c_is_integer : PySem.W.codeIn K cd_is_integer "is_integer" = true)
    (k_is_integer : PySem.W.keepIn K (.ref f_is_integer) = true)
    (a_in_range : PySem.W.nsIn K mainGlobals "in_range" = some (some (.ref f_in_range)))
    (l_in_range : K.lookup f_in_range = some ⟨oc_in_range, od_in_range, .func (PySem.W.fnOf "in_range" "in_range" (defArgs s_in_range) (defBody s_in_range) (defScope s_in_range) .none kV_in_range dc_in_range pm_in_range an_in_range cd_in_range ct_in_range), sl_in_range⟩)
    (c_in_range : PySem.W.codeIn K cd_in_range "in_range" = true)
    (k_in_range : PySem.W.keepIn K (.ref f_in_range) = true)
    (a_check_size : PySem.W.nsIn K mainGlobals "check_size" = some (some (.ref f_check_size)))
    (l_check_size : K.lookup f_check_size = some ⟨oc_check_size, od_check_size, .func (PySem.W.fnOf "check_size" "check_size" (defArgs s_check_size) (defBody s_check_size) (defScope s_check_size) .none kV_check_size dc_check_size pm_check_size an_check_size cd_check_size ct_check_size), sl_check_size⟩)
    (c_check_size : PySem.W.codeIn K cd_check_size "check_size" = true)
    (k_check_size : PySem.W.keepIn K (.ref f_check_size) = true)
    (a_check_elements : PySem.W.nsIn K mainGlobals "check_elements" = some (some (.ref f_check_elements)))
    (l_check_elements : K.lookup f_check_elements = some ⟨oc_check_elements, od_check_elements, .func (PySem.W.fnOf "check_elements" "check_elements" (defArgs s_check_elements) (defBody s_check_elements) (defScope s_check_elements) .none kV_check_elements dc_check_elements pm_check_elements an_check_elements cd_check_elements ct_check_elements), sl_check_elements⟩)
    (c_check_elements : PySem.W.codeIn K cd_check_elements "check_elements" = true)
    (k_check_elements : PySem.W.keepIn K (.ref f_check_elements) = true)
    (a_are_arrows : PySem.W.nsIn K mainGlobals "are_arrows" = some (some (.ref f_are_arrows)))
    (l_are_arrows : K.lookup f_are_arrows = some ⟨oc_are_arrows, od_are_arrows, .func (PySem.W.fnOf "are_arrows" "are_arrows" (defArgs s_are_arrows) (defBody s_are_arrows) (defScope s_are_arrows) .none kV_are_arrows dc_are_arrows pm_are_arrows an_are_arrows cd_are_arrows ct_are_arrows), sl_are_arrows⟩)
    (c_are_arrows : PySem.W.codeIn K cd_are_arrows "are_arrows" = true)
    (k_are_arrows : PySem.W.keepIn K (.ref f_are_arrows) = true)
    (a_row_from : PySem.W.nsIn K mainGlobals "row_from" = some (some (.ref f_row_from)))
    (l_row_from : K.lookup f_row_from = some ⟨oc_row_from, od_row_from, .func (PySem.W.fnOf "row_from" "row_from" (defArgs s_row_from) (defBody s_row_from) (defScope s_row_from) .none kV_row_from dc_row_from pm_row_from an_row_from cd_row_from ct_row_from), sl_row_from⟩)
    (c_row_from : PySem.W.codeIn K cd_row_from "row_from" = true)
    (k_row_from : PySem.W.keepIn K (.ref f_row_from) = true)
    (a_moved : PySem.W.nsIn K mainGlobals "moved" = some (some (.ref f_moved)))
    (l_moved : K.lookup f_moved = some ⟨oc_moved, od_moved, .func (PySem.W.fnOf "moved" "moved" (defArgs s_moved) (defBody s_moved) (defScope s_moved) .none kV_moved dc_moved pm_moved an_moved cd_moved ct_moved), sl_moved⟩)
    (c_moved : PySem.W.codeIn K cd_moved "moved" = true)
    (k_moved : PySem.W.keepIn K (.ref f_moved) = true)
    (a_check_map : PySem.W.nsIn K mainGlobals "check_map" = some (some (.ref f_check_map)))
    (l_check_map : K.lookup f_check_map = some ⟨oc_check_map, od_check_map, .func (PySem.W.fnOf "check_map" "check_map" (defArgs s_check_map) (defBody s_check_map) (defScope s_check_map) .none kV_check_map dc_check_map pm_check_map an_check_map cd_check_map ct_check_map), sl_check_map⟩)
    (c_check_map : PySem.W.codeIn K cd_check_map "check_map" = true)
    (k_check_map : PySem.W.keepIn K (.ref f_check_map) = true)
    (a_are_counts : PySem.W.nsIn K mainGlobals "are_counts" = some (some (.ref f_are_counts)))
    (l_are_counts : K.lookup f_are_counts = some ⟨oc_are_counts, od_are_counts, .func (PySem.W.fnOf "are_counts" "are_counts" (defArgs s_are_counts) (defBody s_are_counts) (defScope s_are_counts) .none kV_are_counts dc_are_counts pm_are_counts an_are_counts cd_are_counts ct_are_counts), sl_are_counts⟩)
    (c_are_counts : PySem.W.codeIn K cd_are_counts "are_counts" = true)
    (k_are_counts : PySem.W.keepIn K (.ref f_are_counts) = true)
    (a_ordered : PySem.W.nsIn K mainGlobals "ordered" = some (some (.ref f_ordered)))
    (l_ordered : K.lookup f_ordered = some ⟨oc_ordered, od_ordered, .func (PySem.W.fnOf "ordered" "ordered" (defArgs s_ordered) (defBody s_ordered) (defScope s_ordered) .none kV_ordered dc_ordered pm_ordered an_ordered cd_ordered ct_ordered), sl_ordered⟩)
    (c_ordered : PySem.W.codeIn K cd_ordered "ordered" = true)
    (k_ordered : PySem.W.keepIn K (.ref f_ordered) = true)
    (a_check_shape : PySem.W.nsIn K mainGlobals "check_shape" = some (some (.ref f_check_shape)))
    (l_check_shape : K.lookup f_check_shape = some ⟨oc_check_shape, od_check_shape, .func (PySem.W.fnOf "check_shape" "check_shape" (defArgs s_check_shape) (defBody s_check_shape) (defScope s_check_shape) .none kV_check_shape dc_check_shape pm_check_shape an_check_shape cd_check_shape ct_check_shape), sl_check_shape⟩)
    (c_check_shape : PySem.W.codeIn K cd_check_shape "check_shape" = true)
    (k_check_shape : PySem.W.keepIn K (.ref f_check_shape) = true)
    (a_are_lengths : PySem.W.nsIn K mainGlobals "are_lengths" = some (some (.ref f_are_lengths)))
    (l_are_lengths : K.lookup f_are_lengths = some ⟨oc_are_lengths, od_are_lengths, .func (PySem.W.fnOf "are_lengths" "are_lengths" (defArgs s_are_lengths) (defBody s_are_lengths) (defScope s_are_lengths) .none kV_are_lengths dc_are_lengths pm_are_lengths an_are_lengths cd_are_lengths ct_are_lengths), sl_are_lengths⟩)
    (c_are_lengths : PySem.W.codeIn K cd_are_lengths "are_lengths" = true)
    (k_are_lengths : PySem.W.keepIn K (.ref f_are_lengths) = true)
    (a_fate : PySem.W.nsIn K mainGlobals "fate" = some (some (.ref f_fate)))
    (l_fate : K.lookup f_fate = some ⟨oc_fate, od_fate, .func (PySem.W.fnOf "fate" "fate" (defArgs s_fate) (defBody s_fate) (defScope s_fate) .none kV_fate dc_fate pm_fate an_fate cd_fate ct_fate), sl_fate⟩)
    (c_fate : PySem.W.codeIn K cd_fate "fate" = true)
    (k_fate : PySem.W.keepIn K (.ref f_fate) = true)
    (a_count_extensions : PySem.W.nsIn K mainGlobals "count_extensions" = some (some (.ref f_count_extensions)))
    (l_count_extensions : K.lookup f_count_extensions = some ⟨oc_count_extensions, od_count_extensions, .func (PySem.W.fnOf "count_extensions" "count_extensions" (defArgs s_count_extensions) (defBody s_count_extensions) (defScope s_count_extensions) .none kV_count_extensions dc_count_extensions pm_count_extensions an_count_extensions cd_count_extensions ct_count_extensions), sl_count_extensions⟩)
    (c_count_extensions : PySem.W.codeIn K cd_count_extensions "count_extensions" = true)
    (k_count_extensions : PySem.W.keepIn K (.ref f_count_extensions) = true)
    (a_check_degree : PySem.W.nsIn K mainGlobals "check_degree" = some (some (.ref f_check_degree)))
    (l_check_degree : K.lookup f_check_degree = some ⟨oc_check_degree, od_check_degree, .func (PySem.W.fnOf "check_degree" "check_degree" (defArgs s_check_degree) (defBody s_check_degree) (defScope s_check_degree) .none kV_check_degree dc_check_degree pm_check_degree an_check_degree cd_check_degree ct_check_degree), sl_check_degree⟩)
    (c_check_degree : PySem.W.codeIn K cd_check_degree "check_degree" = true)
    (k_check_degree : PySem.W.keepIn K (.ref f_check_degree) = true)
    (a_root : PySem.W.nsIn K mainGlobals "root" = some (some (.ref f_root)))
    (l_root : K.lookup f_root = some ⟨oc_root, od_root, .func (PySem.W.fnOf "root" "root" (defArgs s_root) (defBody s_root) (defScope s_root) .none kV_root dc_root pm_root an_root cd_root ct_root), sl_root⟩)
    (c_root : PySem.W.codeIn K cd_root "root" = true)
    (k_root : PySem.W.keepIn K (.ref f_root) = true)
    (a_is_root : PySem.W.nsIn K mainGlobals "is_root" = some (some (.ref f_is_root)))
    (l_is_root : K.lookup f_is_root = some ⟨oc_is_root, od_is_root, .func (PySem.W.fnOf "is_root" "is_root" (defArgs s_is_root) (defBody s_is_root) (defScope s_is_root) .none kV_is_root dc_is_root pm_is_root an_is_root cd_is_root ct_is_root), sl_is_root⟩)
    (c_is_root : PySem.W.codeIn K cd_is_root "is_root" = true)
    (k_is_root : PySem.W.keepIn K (.ref f_is_root) = true)
    (a_obstacle : PySem.W.nsIn K mainGlobals "obstacle" = some (some (.ref f_obstacle)))
    (l_obstacle : K.lookup f_obstacle = some ⟨oc_obstacle, od_obstacle, .func (PySem.W.fnOf "obstacle" "obstacle" (defArgs s_obstacle) (defBody s_obstacle) (defScope s_obstacle) .none kV_obstacle dc_obstacle pm_obstacle an_obstacle cd_obstacle ct_obstacle), sl_obstacle⟩)
    (c_obstacle : PySem.W.codeIn K cd_obstacle "obstacle" = true)
    (k_obstacle : PySem.W.keepIn K (.ref f_obstacle) = true)
    (a_is_obstacle : PySem.W.nsIn K mainGlobals "is_obstacle" = some (some (.ref f_is_obstacle)))
    (l_is_obstacle : K.lookup f_is_obstacle = some ⟨oc_is_obstacle, od_is_obstacle, .func (PySem.W.fnOf "is_obstacle" "is_obstacle" (defArgs s_is_obstacle) (defBody s_is_obstacle) (defScope s_is_obstacle) .none kV_is_obstacle dc_is_obstacle pm_is_obstacle an_is_obstacle cd_is_obstacle ct_is_obstacle), sl_is_obstacle⟩)
    (c_is_obstacle : PySem.W.codeIn K cd_is_obstacle "is_obstacle" = true)
    (k_is_obstacle : PySem.W.keepIn K (.ref f_is_obstacle) = true)
    (a_count_roots : PySem.W.nsIn K mainGlobals "count_roots" = some (some (.ref f_count_roots)))
    (l_count_roots : K.lookup f_count_roots = some ⟨oc_count_roots, od_count_roots, .func (PySem.W.fnOf "count_roots" "count_roots" (defArgs s_count_roots) (defBody s_count_roots) (defScope s_count_roots) .none kV_count_roots dc_count_roots pm_count_roots an_count_roots cd_count_roots ct_count_roots), sl_count_roots⟩)
    (c_count_roots : PySem.W.codeIn K cd_count_roots "count_roots" = true)
    (k_count_roots : PySem.W.keepIn K (.ref f_count_roots) = true)
    (a_roots : PySem.W.nsIn K mainGlobals "roots" = some (some (.ref f_roots)))
    (l_roots : K.lookup f_roots = some ⟨oc_roots, od_roots, .func (PySem.W.fnOf "roots" "roots" (defArgs s_roots) (defBody s_roots) (defScope s_roots) .none kV_roots dc_roots pm_roots an_roots cd_roots ct_roots), sl_roots⟩)
    (c_roots : PySem.W.codeIn K cd_roots "roots" = true)
    (k_roots : PySem.W.keepIn K (.ref f_roots) = true)
    (a_has_root : PySem.W.nsIn K mainGlobals "has_root" = some (some (.ref f_has_root)))
    (l_has_root : K.lookup f_has_root = some ⟨oc_has_root, od_has_root, .func (PySem.W.fnOf "has_root" "has_root" (defArgs s_has_root) (defBody s_has_root) (defScope s_has_root) .none kV_has_root dc_has_root pm_has_root an_has_root cd_has_root ct_has_root), sl_has_root⟩)
    (c_has_root : PySem.W.codeIn K cd_has_root "has_root" = true)
    (k_has_root : PySem.W.keepIn K (.ref f_has_root) = true)
    (a_l_hand : PySem.W.nsIn K mainGlobals "_law_hand" = some (some (.ref f_l_hand)))
    (l_l_hand : K.lookup f_l_hand = some ⟨oc_l_hand, od_l_hand, .func (PySem.W.fnOf "_law_hand" "_law_hand" (defArgs s_l_hand) (defBody s_l_hand) (defScope s_l_hand) .none kV_l_hand dc_l_hand pm_l_hand an_l_hand cd_l_hand ct_l_hand), sl_l_hand⟩)
    (c_l_hand : PySem.W.codeIn K cd_l_hand "_law_hand" = true)
    (k_l_hand : PySem.W.keepIn K (.ref f_l_hand) = true)
    (a_l_draw : PySem.W.nsIn K mainGlobals "_law_draw" = some (some (.ref f_l_draw)))
    (l_l_draw : K.lookup f_l_draw = some ⟨oc_l_draw, od_l_draw, .func (PySem.W.fnOf "_law_draw" "_law_draw" (defArgs s_l_draw) (defBody s_l_draw) (defScope s_l_draw) .none kV_l_draw dc_l_draw pm_l_draw an_l_draw cd_l_draw ct_l_draw), sl_l_draw⟩)
    (c_l_draw : PySem.W.codeIn K cd_l_draw "_law_draw" = true)
    (k_l_draw : PySem.W.keepIn K (.ref f_l_draw) = true)
    (a_l_roots : PySem.W.nsIn K mainGlobals "_law_roots" = some (some (.ref f_l_roots)))
    (l_l_roots : K.lookup f_l_roots = some ⟨oc_l_roots, od_l_roots, .func (PySem.W.fnOf "_law_roots" "_law_roots" (defArgs s_l_roots) (defBody s_l_roots) (defScope s_l_roots) .none kV_l_roots dc_l_roots pm_l_roots an_l_roots cd_l_roots ct_l_roots), sl_l_roots⟩)
    (c_l_roots : PySem.W.codeIn K cd_l_roots "_law_roots" = true)
    (k_l_roots : PySem.W.keepIn K (.ref f_l_roots) = true)
    (a_l_called : PySem.W.nsIn K mainGlobals "_law_called" = some (some (.ref f_l_called)))
    (l_l_called : K.lookup f_l_called = some ⟨oc_l_called, od_l_called, .func (PySem.W.fnOf "_law_called" "_law_called" (defArgs s_l_called) (defBody s_l_called) (defScope s_l_called) .none kV_l_called dc_l_called pm_l_called an_l_called cd_l_called ct_l_called), sl_l_called⟩)
    (c_l_called : PySem.W.codeIn K cd_l_called "_law_called" = true)
    (k_l_called : PySem.W.keepIn K (.ref f_l_called) = true)
    (a_l_kept : PySem.W.nsIn K mainGlobals "_law_kept" = some (some (.ref f_l_kept)))
    (l_l_kept : K.lookup f_l_kept = some ⟨oc_l_kept, od_l_kept, .func (PySem.W.fnOf "_law_kept" "_law_kept" (defArgs s_l_kept) (defBody s_l_kept) (defScope s_l_kept) .none kV_l_kept dc_l_kept pm_l_kept an_l_kept cd_l_kept ct_l_kept), sl_l_kept⟩)
    (c_l_kept : PySem.W.codeIn K cd_l_kept "_law_kept" = true)
    (k_l_kept : PySem.W.keepIn K (.ref f_l_kept) = true)
    (a_law : PySem.W.nsIn K mainGlobals "law" = some (some (.ref f_law)))
    (l_law : K.lookup f_law = some ⟨oc_law, od_law, .func (PySem.W.fnOf "law" "law" (defArgs s_law) (defBody s_law) (defScope s_law) .none kV_law dc_law pm_law an_law cd_law ct_law), sl_law⟩)
    (c_law : PySem.W.codeIn K cd_law "law" = true)
    (k_law : PySem.W.keepIn K (.ref f_law) = true)
    (a_Shape : PySem.W.nsIn K mainGlobals "Shape" = some (some (.ref C_Shape)))
    (pg_Shape : PySem.W.plainGet K C_Shape Str.empty = true)
    (hd_Shape : PySem.W.hasDictIn K C_Shape = true)
    (po_Shape : PySem.W.plainOver K C_Shape = true)
    (sa_Shape : PySem.W.findIn K (.ref C_Shape) "__setattr__" = some (some (.builtin "object.__setattr__")))
    (sf_Shape : PySem.W.selfFirst K C_Shape = true)
    (ca_Shape : PySem.W.findIn K (.ref C_Shape) "__class__" = some (some (.builtin "object.__class__")))
    (cn_Shape : PySem.W.specialIn K (.builtin "object.__class__") "__get__" = some (some (.builtin "getset_descriptor.__get__")))
    (ct_Shape : PySem.W.takesIn K (.builtin "object.__class__") = some true)
    (cm_Shape : PySem.W.mroIn K C_Shape (.type "object") = some true)
    (kc_Shape : PySem.W.keepIn K (.ref C_Shape) = true)
    (kit_int_Shape : PySem.W.kitOne K (.ref C_Shape) (.type "int") = some false)
    (kit_bool_Shape : PySem.W.kitOne K (.ref C_Shape) (.type "bool") = some false)
    (kn_NoneType_Shape : PySem.W.kitOne K (.type "NoneType") (.ref C_Shape) = some false)
    (nf_NoneType_Shape : PySem.W.notFirst K C_Shape (.type "NoneType") = true)
    (kn_int_Shape : PySem.W.kitOne K (.type "int") (.ref C_Shape) = some false)
    (nf_int_Shape : PySem.W.notFirst K C_Shape (.type "int") = true)
    (kn_bool_Shape : PySem.W.kitOne K (.type "bool") (.ref C_Shape) = some false)
    (nf_bool_Shape : PySem.W.notFirst K C_Shape (.type "bool") = true)
    (kn_str_Shape : PySem.W.kitOne K (.type "str") (.ref C_Shape) = some false)
    (nf_str_Shape : PySem.W.notFirst K C_Shape (.type "str") = true)
    (kn_list_Shape : PySem.W.kitOne K (.type "list") (.ref C_Shape) = some false)
    (nf_list_Shape : PySem.W.notFirst K C_Shape (.type "list") = true)
    (kn_dict_Shape : PySem.W.kitOne K (.type "dict") (.ref C_Shape) = some false)
    (nf_dict_Shape : PySem.W.notFirst K C_Shape (.type "dict") = true)
    (kn_tuple_Shape : PySem.W.kitOne K (.type "tuple") (.ref C_Shape) = some false)
    (nf_tuple_Shape : PySem.W.notFirst K C_Shape (.type "tuple") = true)
    (self_Shape : PySem.W.kitOne K (.ref C_Shape) (.ref C_Shape) = some true)
    (na_own_cycles_Shape : PySem.W.findIn K (.ref C_Shape) "own_cycles" = some none)
    (na_own_chains_Shape : PySem.W.findIn K (.ref C_Shape) "own_chains" = some none)
    (m_Shape__init : PySem.W.findIn K (.ref C_Shape) "__init__" = some (some (.ref f_Shape__init)))
    (i_Shape__init : PySem.W.isFn K (.ref f_Shape__init) = true)
    (l_Shape__init : K.lookup f_Shape__init = some ⟨oc_Shape__init, od_Shape__init, .func (PySem.W.fnOf "__init__" "Shape.__init__" (defArgs s_Shape__init) (defBody s_Shape__init) (defScope s_Shape__init) .none kV_Shape__init dc_Shape__init pm_Shape__init an_Shape__init cd_Shape__init ct_Shape__init), sl_Shape__init⟩)
    (c_Shape__init : PySem.W.codeIn K cd_Shape__init "Shape.__init__" = true)
    (k_Shape__init : PySem.W.keepIn K (.ref f_Shape__init) = true)
    (mk_Shape : PySem.W.makesIn K C_Shape = true)
    (m_Shape_power : PySem.W.findIn K (.ref C_Shape) "power" = some (some (.ref f_Shape_power)))
    (i_Shape_power : PySem.W.isFn K (.ref f_Shape_power) = true)
    (l_Shape_power : K.lookup f_Shape_power = some ⟨oc_Shape_power, od_Shape_power, .func (PySem.W.fnOf "power" "Shape.power" (defArgs s_Shape_power) (defBody s_Shape_power) (defScope s_Shape_power) .none kV_Shape_power dc_Shape_power pm_Shape_power an_Shape_power cd_Shape_power ct_Shape_power), sl_Shape_power⟩)
    (c_Shape_power : PySem.W.codeIn K cd_Shape_power "Shape.power" = true)
    (k_Shape_power : PySem.W.keepIn K (.ref f_Shape_power) = true)
    (a_GreatMap : PySem.W.nsIn K mainGlobals "GreatMap" = some (some (.ref C_GreatMap)))
    (pg_GreatMap : PySem.W.plainGet K C_GreatMap Str.empty = true)
    (hd_GreatMap : PySem.W.hasDictIn K C_GreatMap = true)
    (po_GreatMap : PySem.W.plainOver K C_GreatMap = true)
    (sa_GreatMap : PySem.W.findIn K (.ref C_GreatMap) "__setattr__" = some (some (.builtin "object.__setattr__")))
    (sf_GreatMap : PySem.W.selfFirst K C_GreatMap = true)
    (ca_GreatMap : PySem.W.findIn K (.ref C_GreatMap) "__class__" = some (some (.builtin "object.__class__")))
    (cn_GreatMap : PySem.W.specialIn K (.builtin "object.__class__") "__get__" = some (some (.builtin "getset_descriptor.__get__")))
    (ct_GreatMap : PySem.W.takesIn K (.builtin "object.__class__") = some true)
    (cm_GreatMap : PySem.W.mroIn K C_GreatMap (.type "object") = some true)
    (kc_GreatMap : PySem.W.keepIn K (.ref C_GreatMap) = true)
    (kit_int_GreatMap : PySem.W.kitOne K (.ref C_GreatMap) (.type "int") = some false)
    (kit_bool_GreatMap : PySem.W.kitOne K (.ref C_GreatMap) (.type "bool") = some false)
    (kit_list_GreatMap : PySem.W.kitOne K (.ref C_GreatMap) (.type "list") = some false)
    (kit_tuple_GreatMap : PySem.W.kitOne K (.ref C_GreatMap) (.type "tuple") = some false)
    (kn_NoneType_GreatMap : PySem.W.kitOne K (.type "NoneType") (.ref C_GreatMap) = some false)
    (nf_NoneType_GreatMap : PySem.W.notFirst K C_GreatMap (.type "NoneType") = true)
    (kn_int_GreatMap : PySem.W.kitOne K (.type "int") (.ref C_GreatMap) = some false)
    (nf_int_GreatMap : PySem.W.notFirst K C_GreatMap (.type "int") = true)
    (kn_bool_GreatMap : PySem.W.kitOne K (.type "bool") (.ref C_GreatMap) = some false)
    (nf_bool_GreatMap : PySem.W.notFirst K C_GreatMap (.type "bool") = true)
    (kn_str_GreatMap : PySem.W.kitOne K (.type "str") (.ref C_GreatMap) = some false)
    (nf_str_GreatMap : PySem.W.notFirst K C_GreatMap (.type "str") = true)
    (kn_list_GreatMap : PySem.W.kitOne K (.type "list") (.ref C_GreatMap) = some false)
    (nf_list_GreatMap : PySem.W.notFirst K C_GreatMap (.type "list") = true)
    (kn_dict_GreatMap : PySem.W.kitOne K (.type "dict") (.ref C_GreatMap) = some false)
    (nf_dict_GreatMap : PySem.W.notFirst K C_GreatMap (.type "dict") = true)
    (kn_tuple_GreatMap : PySem.W.kitOne K (.type "tuple") (.ref C_GreatMap) = some false)
    (nf_tuple_GreatMap : PySem.W.notFirst K C_GreatMap (.type "tuple") = true)
    (self_GreatMap : PySem.W.kitOne K (.ref C_GreatMap) (.ref C_GreatMap) = some true)
    (na_own_cycles_GreatMap : PySem.W.findIn K (.ref C_GreatMap) "own_cycles" = some none)
    (na_own_chains_GreatMap : PySem.W.findIn K (.ref C_GreatMap) "own_chains" = some none)
    (m_GreatMap__init : PySem.W.findIn K (.ref C_GreatMap) "__init__" = some (some (.ref f_GreatMap__init)))
    (i_GreatMap__init : PySem.W.isFn K (.ref f_GreatMap__init) = true)
    (l_GreatMap__init : K.lookup f_GreatMap__init = some ⟨oc_GreatMap__init, od_GreatMap__init, .func (PySem.W.fnOf "__init__" "GreatMap.__init__" (defArgs s_GreatMap__init) (defBody s_GreatMap__init) (defScope s_GreatMap__init) .none kV_GreatMap__init dc_GreatMap__init pm_GreatMap__init an_GreatMap__init cd_GreatMap__init ct_GreatMap__init), sl_GreatMap__init⟩)
    (c_GreatMap__init : PySem.W.codeIn K cd_GreatMap__init "GreatMap.__init__" = true)
    (k_GreatMap__init : PySem.W.keepIn K (.ref f_GreatMap__init) = true)
    (mk_GreatMap : PySem.W.makesIn K C_GreatMap = true)
    (m_GreatMap_length_at : PySem.W.findIn K (.ref C_GreatMap) "length_at" = some (some (.ref f_GreatMap_length_at)))
    (i_GreatMap_length_at : PySem.W.isFn K (.ref f_GreatMap_length_at) = true)
    (l_GreatMap_length_at : K.lookup f_GreatMap_length_at = some ⟨oc_GreatMap_length_at, od_GreatMap_length_at, .func (PySem.W.fnOf "length_at" "GreatMap.length_at" (defArgs s_GreatMap_length_at) (defBody s_GreatMap_length_at) (defScope s_GreatMap_length_at) .none kV_GreatMap_length_at dc_GreatMap_length_at pm_GreatMap_length_at an_GreatMap_length_at cd_GreatMap_length_at ct_GreatMap_length_at), sl_GreatMap_length_at⟩)
    (c_GreatMap_length_at : PySem.W.codeIn K cd_GreatMap_length_at "GreatMap.length_at" = true)
    (k_GreatMap_length_at : PySem.W.keepIn K (.ref f_GreatMap_length_at) = true)
    (m_GreatMap_after : PySem.W.findIn K (.ref C_GreatMap) "after" = some (some (.ref f_GreatMap_after)))
    (i_GreatMap_after : PySem.W.isFn K (.ref f_GreatMap_after) = true)
    (l_GreatMap_after : K.lookup f_GreatMap_after = some ⟨oc_GreatMap_after, od_GreatMap_after, .func (PySem.W.fnOf "after" "GreatMap.after" (defArgs s_GreatMap_after) (defBody s_GreatMap_after) (defScope s_GreatMap_after) .none kV_GreatMap_after dc_GreatMap_after pm_GreatMap_after an_GreatMap_after cd_GreatMap_after ct_GreatMap_after), sl_GreatMap_after⟩)
    (c_GreatMap_after : PySem.W.codeIn K cd_GreatMap_after "GreatMap.after" = true)
    (k_GreatMap_after : PySem.W.keepIn K (.ref f_GreatMap_after) = true)
    (a_Map : PySem.W.nsIn K mainGlobals "Map" = some (some (.ref C_Map)))
    (pg_Map : PySem.W.plainGet K C_Map Str.empty = true)
    (hd_Map : PySem.W.hasDictIn K C_Map = true)
    (po_Map : PySem.W.plainOver K C_Map = true)
    (sa_Map : PySem.W.findIn K (.ref C_Map) "__setattr__" = some (some (.builtin "object.__setattr__")))
    (sf_Map : PySem.W.selfFirst K C_Map = true)
    (ca_Map : PySem.W.findIn K (.ref C_Map) "__class__" = some (some (.builtin "object.__class__")))
    (cn_Map : PySem.W.specialIn K (.builtin "object.__class__") "__get__" = some (some (.builtin "getset_descriptor.__get__")))
    (ct_Map : PySem.W.takesIn K (.builtin "object.__class__") = some true)
    (cm_Map : PySem.W.mroIn K C_Map (.type "object") = some true)
    (kc_Map : PySem.W.keepIn K (.ref C_Map) = true)
    (kit_int_Map : PySem.W.kitOne K (.ref C_Map) (.type "int") = some false)
    (kit_bool_Map : PySem.W.kitOne K (.ref C_Map) (.type "bool") = some false)
    (kn_NoneType_Map : PySem.W.kitOne K (.type "NoneType") (.ref C_Map) = some false)
    (nf_NoneType_Map : PySem.W.notFirst K C_Map (.type "NoneType") = true)
    (kn_int_Map : PySem.W.kitOne K (.type "int") (.ref C_Map) = some false)
    (nf_int_Map : PySem.W.notFirst K C_Map (.type "int") = true)
    (kn_bool_Map : PySem.W.kitOne K (.type "bool") (.ref C_Map) = some false)
    (nf_bool_Map : PySem.W.notFirst K C_Map (.type "bool") = true)
    (kn_str_Map : PySem.W.kitOne K (.type "str") (.ref C_Map) = some false)
    (nf_str_Map : PySem.W.notFirst K C_Map (.type "str") = true)
    (kn_list_Map : PySem.W.kitOne K (.type "list") (.ref C_Map) = some false)
    (nf_list_Map : PySem.W.notFirst K C_Map (.type "list") = true)
    (kn_dict_Map : PySem.W.kitOne K (.type "dict") (.ref C_Map) = some false)
    (nf_dict_Map : PySem.W.notFirst K C_Map (.type "dict") = true)
    (kn_tuple_Map : PySem.W.kitOne K (.type "tuple") (.ref C_Map) = some false)
    (nf_tuple_Map : PySem.W.notFirst K C_Map (.type "tuple") = true)
    (self_Map : PySem.W.kitOne K (.ref C_Map) (.ref C_Map) = some true)
    (na_own_size_Map : PySem.W.findIn K (.ref C_Map) "own_size" = some none)
    (na_own_arrows_Map : PySem.W.findIn K (.ref C_Map) "own_arrows" = some none)
    (m_Map__init : PySem.W.findIn K (.ref C_Map) "__init__" = some (some (.ref f_Map__init)))
    (i_Map__init : PySem.W.isFn K (.ref f_Map__init) = true)
    (l_Map__init : K.lookup f_Map__init = some ⟨oc_Map__init, od_Map__init, .func (PySem.W.fnOf "__init__" "Map.__init__" (defArgs s_Map__init) (defBody s_Map__init) (defScope s_Map__init) .none kV_Map__init dc_Map__init pm_Map__init an_Map__init cd_Map__init ct_Map__init), sl_Map__init⟩)
    (c_Map__init : PySem.W.codeIn K cd_Map__init "Map.__init__" = true)
    (k_Map__init : PySem.W.keepIn K (.ref f_Map__init) = true)
    (mk_Map : PySem.W.makesIn K C_Map = true)
    (rd_Map : PySem.W.readsIn K C_Map (.type "type") = true)
    (ga_Map : PySem.W.specialIn K (.ref C_Map) "__getattribute__" = some (some (.builtin "type.__getattribute__")))
    (at_Map_identity : PySem.W.findCls K (.ref C_Map) (.type "type") "identity" = some (.get (.builtin "classmethod.__get__") (.ref p_Map_identity) .none (.ref C_Map)))
    (rc_Map_identity : PySem.W.recIn K p_Map_identity "classmethod" = some (.ref f_Map_identity :: r_Map_identity))
    (fi_Map_identity : PySem.W.fnIn K f_Map_identity = true)
    (l_Map_identity : K.lookup f_Map_identity = some ⟨oc_Map_identity, od_Map_identity, .func (PySem.W.fnOf "identity" "Map.identity" (defArgs s_Map_identity) (defBody s_Map_identity) (defScope s_Map_identity) .none kV_Map_identity dc_Map_identity pm_Map_identity an_Map_identity cd_Map_identity ct_Map_identity), sl_Map_identity⟩)
    (c_Map_identity : PySem.W.codeIn K cd_Map_identity "Map.identity" = true)
    (k_Map_identity : PySem.W.keepIn K (.ref f_Map_identity) = true)
    (at_Map_empty : PySem.W.findCls K (.ref C_Map) (.type "type") "empty" = some (.get (.builtin "classmethod.__get__") (.ref p_Map_empty) .none (.ref C_Map)))
    (rc_Map_empty : PySem.W.recIn K p_Map_empty "classmethod" = some (.ref f_Map_empty :: r_Map_empty))
    (fi_Map_empty : PySem.W.fnIn K f_Map_empty = true)
    (l_Map_empty : K.lookup f_Map_empty = some ⟨oc_Map_empty, od_Map_empty, .func (PySem.W.fnOf "empty" "Map.empty" (defArgs s_Map_empty) (defBody s_Map_empty) (defScope s_Map_empty) .none kV_Map_empty dc_Map_empty pm_Map_empty an_Map_empty cd_Map_empty ct_Map_empty), sl_Map_empty⟩)
    (c_Map_empty : PySem.W.codeIn K cd_Map_empty "Map.empty" = true)
    (k_Map_empty : PySem.W.keepIn K (.ref f_Map_empty) = true)
    (at_Map_chain : PySem.W.findCls K (.ref C_Map) (.type "type") "chain" = some (.get (.builtin "classmethod.__get__") (.ref p_Map_chain) .none (.ref C_Map)))
    (rc_Map_chain : PySem.W.recIn K p_Map_chain "classmethod" = some (.ref f_Map_chain :: r_Map_chain))
    (fi_Map_chain : PySem.W.fnIn K f_Map_chain = true)
    (l_Map_chain : K.lookup f_Map_chain = some ⟨oc_Map_chain, od_Map_chain, .func (PySem.W.fnOf "chain" "Map.chain" (defArgs s_Map_chain) (defBody s_Map_chain) (defScope s_Map_chain) .none kV_Map_chain dc_Map_chain pm_Map_chain an_Map_chain cd_Map_chain ct_Map_chain), sl_Map_chain⟩)
    (c_Map_chain : PySem.W.codeIn K cd_Map_chain "Map.chain" = true)
    (k_Map_chain : PySem.W.keepIn K (.ref f_Map_chain) = true)
    (at_Map_cycle : PySem.W.findCls K (.ref C_Map) (.type "type") "cycle" = some (.get (.builtin "classmethod.__get__") (.ref p_Map_cycle) .none (.ref C_Map)))
    (rc_Map_cycle : PySem.W.recIn K p_Map_cycle "classmethod" = some (.ref f_Map_cycle :: r_Map_cycle))
    (fi_Map_cycle : PySem.W.fnIn K f_Map_cycle = true)
    (l_Map_cycle : K.lookup f_Map_cycle = some ⟨oc_Map_cycle, od_Map_cycle, .func (PySem.W.fnOf "cycle" "Map.cycle" (defArgs s_Map_cycle) (defBody s_Map_cycle) (defScope s_Map_cycle) .none kV_Map_cycle dc_Map_cycle pm_Map_cycle an_Map_cycle cd_Map_cycle ct_Map_cycle), sl_Map_cycle⟩)
    (c_Map_cycle : PySem.W.codeIn K cd_Map_cycle "Map.cycle" = true)
    (k_Map_cycle : PySem.W.keepIn K (.ref f_Map_cycle) = true)
    (at_Map_swap : PySem.W.findCls K (.ref C_Map) (.type "type") "swap" = some (.get (.builtin "classmethod.__get__") (.ref p_Map_swap) .none (.ref C_Map)))
    (rc_Map_swap : PySem.W.recIn K p_Map_swap "classmethod" = some (.ref f_Map_swap :: r_Map_swap))
    (fi_Map_swap : PySem.W.fnIn K f_Map_swap = true)
    (l_Map_swap : K.lookup f_Map_swap = some ⟨oc_Map_swap, od_Map_swap, .func (PySem.W.fnOf "swap" "Map.swap" (defArgs s_Map_swap) (defBody s_Map_swap) (defScope s_Map_swap) .none kV_Map_swap dc_Map_swap pm_Map_swap an_Map_swap cd_Map_swap ct_Map_swap), sl_Map_swap⟩)
    (c_Map_swap : PySem.W.codeIn K cd_Map_swap "Map.swap" = true)
    (k_Map_swap : PySem.W.keepIn K (.ref f_Map_swap) = true)
    (m_Map_size : PySem.W.findIn K (.ref C_Map) "size" = some (some (.ref p_Map_size)))
    (s_get_Map_size : PySem.W.specialIn K (.ref p_Map_size) "__get__" = some (some (.builtin "property.__get__")))
    (tk_Map_size : PySem.W.takesIn K (.ref p_Map_size) = some true)
    (rc_Map_size : PySem.W.recIn K p_Map_size "property" = some (.ref f_Map_size :: r_Map_size))
    (l_Map_size : K.lookup f_Map_size = some ⟨oc_Map_size, od_Map_size, .func (PySem.W.fnOf "size" "Map.size" (defArgs s_Map_size) (defBody s_Map_size) (defScope s_Map_size) .none kV_Map_size dc_Map_size pm_Map_size an_Map_size cd_Map_size ct_Map_size), sl_Map_size⟩)
    (c_Map_size : PySem.W.codeIn K cd_Map_size "Map.size" = true)
    (k_Map_size : PySem.W.keepIn K (.ref f_Map_size) = true)
    (m_Map_arrows : PySem.W.findIn K (.ref C_Map) "arrows" = some (some (.ref p_Map_arrows)))
    (s_get_Map_arrows : PySem.W.specialIn K (.ref p_Map_arrows) "__get__" = some (some (.builtin "property.__get__")))
    (tk_Map_arrows : PySem.W.takesIn K (.ref p_Map_arrows) = some true)
    (rc_Map_arrows : PySem.W.recIn K p_Map_arrows "property" = some (.ref f_Map_arrows :: r_Map_arrows))
    (l_Map_arrows : K.lookup f_Map_arrows = some ⟨oc_Map_arrows, od_Map_arrows, .func (PySem.W.fnOf "arrows" "Map.arrows" (defArgs s_Map_arrows) (defBody s_Map_arrows) (defScope s_Map_arrows) .none kV_Map_arrows dc_Map_arrows pm_Map_arrows an_Map_arrows cd_Map_arrows ct_Map_arrows), sl_Map_arrows⟩)
    (c_Map_arrows : PySem.W.codeIn K cd_Map_arrows "Map.arrows" = true)
    (k_Map_arrows : PySem.W.keepIn K (.ref f_Map_arrows) = true)
    (m_Map_power : PySem.W.findIn K (.ref C_Map) "power" = some (some (.ref f_Map_power)))
    (i_Map_power : PySem.W.isFn K (.ref f_Map_power) = true)
    (l_Map_power : K.lookup f_Map_power = some ⟨oc_Map_power, od_Map_power, .func (PySem.W.fnOf "power" "Map.power" (defArgs s_Map_power) (defBody s_Map_power) (defScope s_Map_power) .none kV_Map_power dc_Map_power pm_Map_power an_Map_power cd_Map_power ct_Map_power), sl_Map_power⟩)
    (c_Map_power : PySem.W.codeIn K cd_Map_power "Map.power" = true)
    (k_Map_power : PySem.W.keepIn K (.ref f_Map_power) = true)
    (m_Map__getitem : PySem.W.findIn K (.ref C_Map) "__getitem__" = some (some (.ref f_Map__getitem)))
    (i_Map__getitem : PySem.W.isFn K (.ref f_Map__getitem) = true)
    (l_Map__getitem : K.lookup f_Map__getitem = some ⟨oc_Map__getitem, od_Map__getitem, .func (PySem.W.fnOf "__getitem__" "Map.__getitem__" (defArgs s_Map__getitem) (defBody s_Map__getitem) (defScope s_Map__getitem) .none kV_Map__getitem dc_Map__getitem pm_Map__getitem an_Map__getitem cd_Map__getitem ct_Map__getitem), sl_Map__getitem⟩)
    (c_Map__getitem : PySem.W.codeIn K cd_Map__getitem "Map.__getitem__" = true)
    (k_Map__getitem : PySem.W.keepIn K (.ref f_Map__getitem) = true)
    (fi_Map__getitem : PySem.W.fnIn K f_Map__getitem = true)
    (m_Map_is_source : PySem.W.findIn K (.ref C_Map) "is_source" = some (some (.ref f_Map_is_source)))
    (i_Map_is_source : PySem.W.isFn K (.ref f_Map_is_source) = true)
    (l_Map_is_source : K.lookup f_Map_is_source = some ⟨oc_Map_is_source, od_Map_is_source, .func (PySem.W.fnOf "is_source" "Map.is_source" (defArgs s_Map_is_source) (defBody s_Map_is_source) (defScope s_Map_is_source) .none kV_Map_is_source dc_Map_is_source pm_Map_is_source an_Map_is_source cd_Map_is_source ct_Map_is_source), sl_Map_is_source⟩)
    (c_Map_is_source : PySem.W.codeIn K cd_Map_is_source "Map.is_source" = true)
    (k_Map_is_source : PySem.W.keepIn K (.ref f_Map_is_source) = true)
    (a_InvalidMap : PySem.W.nsIn K mainGlobals "InvalidMap" = some (some (.ref C_InvalidMap)))
    (xl_InvalidMap : K.lookup C_InvalidMap = some (excClassObj nm_InvalidMap q_InvalidMap C_InvalidMap N_InvalidMap bs_InvalidMap [.type "ValueError", .type "Exception", .type "BaseException", .type "object"] true sn_InvalidMap sub_InvalidMap ab_InvalidMap col_InvalidMap dd_InvalidMap m0_InvalidMap m1_InvalidMap m2_InvalidMap m3_InvalidMap m5_InvalidMap "ValueError.__new__"))
    (sa_InvalidMap : PySem.W.findIn K (.ref C_InvalidMap) "__setattr__" = some (some (.builtin "object.__setattr__")))
    (ex_InvalidMap : PySem.W.subIn K (.ref C_InvalidMap) (.type "BaseException") = some true)
    (ty_InvalidMap : PySem.W.typeIn K (.ref C_InvalidMap) = some (.type "type"))
    (kc_InvalidMap : PySem.W.keepIn K (.ref C_InvalidMap) = true)
    (hd_InvalidMap : PySem.W.hasDictIn K C_InvalidMap = true)
    (ga_InvalidMap : PySem.W.findIn K (.ref C_InvalidMap) "__getattribute__" = some (some (.builtin "BaseException.__getattribute__")))
    (gg_InvalidMap : PySem.W.findIn K (.ref C_InvalidMap) "__getattr__" = some none)
    (ss_InvalidMap : PySem.W.subIn K (.ref C_InvalidMap) (.ref C_InvalidMap) = some true)
    (ca_InvalidMap : PySem.W.findIn K (.ref C_InvalidMap) "__class__" = some (some (.builtin "object.__class__")))
    (cn_InvalidMap : PySem.W.specialIn K (.builtin "object.__class__") "__get__" = some (some (.builtin "getset_descriptor.__get__")))
    (ct_InvalidMap : PySem.W.takesIn K (.builtin "object.__class__") = some true)
    (cm_InvalidMap : PySem.W.mroIn K C_InvalidMap (.type "object") = some true)
    (kit_ValueError_InvalidMap : PySem.W.kitOne K (.ref C_InvalidMap) (.type "ValueError") = some true)
    (na_part_InvalidMap : PySem.W.findIn K (.ref C_InvalidMap) "part" = some none)
    (m_InvalidMap__init : PySem.W.findIn K (.ref C_InvalidMap) "__init__" = some (some (.ref f_InvalidMap__init)))
    (ti_InvalidMap__init : PySem.W.typeIn K (.ref f_InvalidMap__init) = some (.type "function"))
    (l_InvalidMap__init : K.lookup f_InvalidMap__init = some ⟨oc_InvalidMap__init, od_InvalidMap__init, .func (PySem.W.fnOf "__init__" "InvalidMap.__init__" (defArgs s_InvalidMap__init) (defBody s_InvalidMap__init) (defScope s_InvalidMap__init) .none kV_InvalidMap__init dc_InvalidMap__init pm_InvalidMap__init an_InvalidMap__init cd_InvalidMap__init ct_InvalidMap__init), sl_InvalidMap__init⟩)
    (c_InvalidMap__init : PySem.W.codeIn K cd_InvalidMap__init "InvalidMap.__init__" = true)
    (k_InvalidMap__init : PySem.W.keepIn K (.ref f_InvalidMap__init) = true)
    (a_InvalidShape : PySem.W.nsIn K mainGlobals "InvalidShape" = some (some (.ref C_InvalidShape)))
    (xl_InvalidShape : K.lookup C_InvalidShape = some (excClassObj nm_InvalidShape q_InvalidShape C_InvalidShape N_InvalidShape bs_InvalidShape [.type "ValueError", .type "Exception", .type "BaseException", .type "object"] true sn_InvalidShape sub_InvalidShape ab_InvalidShape col_InvalidShape dd_InvalidShape m0_InvalidShape m1_InvalidShape m2_InvalidShape m3_InvalidShape m5_InvalidShape "ValueError.__new__"))
    (sa_InvalidShape : PySem.W.findIn K (.ref C_InvalidShape) "__setattr__" = some (some (.builtin "object.__setattr__")))
    (ex_InvalidShape : PySem.W.subIn K (.ref C_InvalidShape) (.type "BaseException") = some true)
    (ty_InvalidShape : PySem.W.typeIn K (.ref C_InvalidShape) = some (.type "type"))
    (kc_InvalidShape : PySem.W.keepIn K (.ref C_InvalidShape) = true)
    (hd_InvalidShape : PySem.W.hasDictIn K C_InvalidShape = true)
    (ga_InvalidShape : PySem.W.findIn K (.ref C_InvalidShape) "__getattribute__" = some (some (.builtin "BaseException.__getattribute__")))
    (gg_InvalidShape : PySem.W.findIn K (.ref C_InvalidShape) "__getattr__" = some none)
    (ss_InvalidShape : PySem.W.subIn K (.ref C_InvalidShape) (.ref C_InvalidShape) = some true)
    (ca_InvalidShape : PySem.W.findIn K (.ref C_InvalidShape) "__class__" = some (some (.builtin "object.__class__")))
    (cn_InvalidShape : PySem.W.specialIn K (.builtin "object.__class__") "__get__" = some (some (.builtin "getset_descriptor.__get__")))
    (ct_InvalidShape : PySem.W.takesIn K (.builtin "object.__class__") = some true)
    (cm_InvalidShape : PySem.W.mroIn K C_InvalidShape (.type "object") = some true)
    (kit_ValueError_InvalidShape : PySem.W.kitOne K (.ref C_InvalidShape) (.type "ValueError") = some true)
    (na_part_InvalidShape : PySem.W.findIn K (.ref C_InvalidShape) "part" = some none)
    (m_InvalidShape__init : PySem.W.findIn K (.ref C_InvalidShape) "__init__" = some (some (.ref f_InvalidShape__init)))
    (ti_InvalidShape__init : PySem.W.typeIn K (.ref f_InvalidShape__init) = some (.type "function"))
    (l_InvalidShape__init : K.lookup f_InvalidShape__init = some ⟨oc_InvalidShape__init, od_InvalidShape__init, .func (PySem.W.fnOf "__init__" "InvalidShape.__init__" (defArgs s_InvalidShape__init) (defBody s_InvalidShape__init) (defScope s_InvalidShape__init) .none kV_InvalidShape__init dc_InvalidShape__init pm_InvalidShape__init an_InvalidShape__init cd_InvalidShape__init ct_InvalidShape__init), sl_InvalidShape__init⟩)
    (c_InvalidShape__init : PySem.W.codeIn K cd_InvalidShape__init "InvalidShape.__init__" = true)
    (k_InvalidShape__init : PySem.W.keepIn K (.ref f_InvalidShape__init) = true)
    (a_InvalidElement : PySem.W.nsIn K mainGlobals "InvalidElement" = some (some (.ref C_InvalidElement)))
    (xl_InvalidElement : K.lookup C_InvalidElement = some (excClassObj nm_InvalidElement q_InvalidElement C_InvalidElement N_InvalidElement bs_InvalidElement [.type "ValueError", .type "Exception", .type "BaseException", .type "object"] true sn_InvalidElement sub_InvalidElement ab_InvalidElement col_InvalidElement dd_InvalidElement m0_InvalidElement m1_InvalidElement m2_InvalidElement m3_InvalidElement m5_InvalidElement "ValueError.__new__"))
    (sa_InvalidElement : PySem.W.findIn K (.ref C_InvalidElement) "__setattr__" = some (some (.builtin "object.__setattr__")))
    (ex_InvalidElement : PySem.W.subIn K (.ref C_InvalidElement) (.type "BaseException") = some true)
    (ty_InvalidElement : PySem.W.typeIn K (.ref C_InvalidElement) = some (.type "type"))
    (kc_InvalidElement : PySem.W.keepIn K (.ref C_InvalidElement) = true)
    (hd_InvalidElement : PySem.W.hasDictIn K C_InvalidElement = true)
    (ga_InvalidElement : PySem.W.findIn K (.ref C_InvalidElement) "__getattribute__" = some (some (.builtin "BaseException.__getattribute__")))
    (gg_InvalidElement : PySem.W.findIn K (.ref C_InvalidElement) "__getattr__" = some none)
    (ss_InvalidElement : PySem.W.subIn K (.ref C_InvalidElement) (.ref C_InvalidElement) = some true)
    (ca_InvalidElement : PySem.W.findIn K (.ref C_InvalidElement) "__class__" = some (some (.builtin "object.__class__")))
    (cn_InvalidElement : PySem.W.specialIn K (.builtin "object.__class__") "__get__" = some (some (.builtin "getset_descriptor.__get__")))
    (ct_InvalidElement : PySem.W.takesIn K (.builtin "object.__class__") = some true)
    (cm_InvalidElement : PySem.W.mroIn K C_InvalidElement (.type "object") = some true)
    (kit_ValueError_InvalidElement : PySem.W.kitOne K (.ref C_InvalidElement) (.type "ValueError") = some true)
    (na_value_InvalidElement : PySem.W.findIn K (.ref C_InvalidElement) "value" = some none)
    (m_InvalidElement__init : PySem.W.findIn K (.ref C_InvalidElement) "__init__" = some (some (.ref f_InvalidElement__init)))
    (ti_InvalidElement__init : PySem.W.typeIn K (.ref f_InvalidElement__init) = some (.type "function"))
    (l_InvalidElement__init : K.lookup f_InvalidElement__init = some ⟨oc_InvalidElement__init, od_InvalidElement__init, .func (PySem.W.fnOf "__init__" "InvalidElement.__init__" (defArgs s_InvalidElement__init) (defBody s_InvalidElement__init) (defScope s_InvalidElement__init) .none kV_InvalidElement__init dc_InvalidElement__init pm_InvalidElement__init an_InvalidElement__init cd_InvalidElement__init ct_InvalidElement__init), sl_InvalidElement__init⟩)
    (c_InvalidElement__init : PySem.W.codeIn K cd_InvalidElement__init "InvalidElement.__init__" = true)
    (k_InvalidElement__init : PySem.W.keepIn K (.ref f_InvalidElement__init) = true)
    (a_InvalidNumber : PySem.W.nsIn K mainGlobals "InvalidNumber" = some (some (.ref C_InvalidNumber)))
    (xl_InvalidNumber : K.lookup C_InvalidNumber = some (excClassObj nm_InvalidNumber q_InvalidNumber C_InvalidNumber N_InvalidNumber bs_InvalidNumber [.type "ValueError", .type "Exception", .type "BaseException", .type "object"] true sn_InvalidNumber sub_InvalidNumber ab_InvalidNumber col_InvalidNumber dd_InvalidNumber m0_InvalidNumber m1_InvalidNumber m2_InvalidNumber m3_InvalidNumber m5_InvalidNumber "ValueError.__new__"))
    (sa_InvalidNumber : PySem.W.findIn K (.ref C_InvalidNumber) "__setattr__" = some (some (.builtin "object.__setattr__")))
    (ex_InvalidNumber : PySem.W.subIn K (.ref C_InvalidNumber) (.type "BaseException") = some true)
    (ty_InvalidNumber : PySem.W.typeIn K (.ref C_InvalidNumber) = some (.type "type"))
    (kc_InvalidNumber : PySem.W.keepIn K (.ref C_InvalidNumber) = true)
    (hd_InvalidNumber : PySem.W.hasDictIn K C_InvalidNumber = true)
    (ga_InvalidNumber : PySem.W.findIn K (.ref C_InvalidNumber) "__getattribute__" = some (some (.builtin "BaseException.__getattribute__")))
    (gg_InvalidNumber : PySem.W.findIn K (.ref C_InvalidNumber) "__getattr__" = some none)
    (ss_InvalidNumber : PySem.W.subIn K (.ref C_InvalidNumber) (.ref C_InvalidNumber) = some true)
    (ca_InvalidNumber : PySem.W.findIn K (.ref C_InvalidNumber) "__class__" = some (some (.builtin "object.__class__")))
    (cn_InvalidNumber : PySem.W.specialIn K (.builtin "object.__class__") "__get__" = some (some (.builtin "getset_descriptor.__get__")))
    (ct_InvalidNumber : PySem.W.takesIn K (.builtin "object.__class__") = some true)
    (cm_InvalidNumber : PySem.W.mroIn K C_InvalidNumber (.type "object") = some true)
    (kit_ValueError_InvalidNumber : PySem.W.kitOne K (.ref C_InvalidNumber) (.type "ValueError") = some true)
    (na_value_InvalidNumber : PySem.W.findIn K (.ref C_InvalidNumber) "value" = some none)
    (m_InvalidNumber__init : PySem.W.findIn K (.ref C_InvalidNumber) "__init__" = some (some (.ref f_InvalidNumber__init)))
    (ti_InvalidNumber__init : PySem.W.typeIn K (.ref f_InvalidNumber__init) = some (.type "function"))
    (l_InvalidNumber__init : K.lookup f_InvalidNumber__init = some ⟨oc_InvalidNumber__init, od_InvalidNumber__init, .func (PySem.W.fnOf "__init__" "InvalidNumber.__init__" (defArgs s_InvalidNumber__init) (defBody s_InvalidNumber__init) (defScope s_InvalidNumber__init) .none kV_InvalidNumber__init dc_InvalidNumber__init pm_InvalidNumber__init an_InvalidNumber__init cd_InvalidNumber__init ct_InvalidNumber__init), sl_InvalidNumber__init⟩)
    (c_InvalidNumber__init : PySem.W.codeIn K cd_InvalidNumber__init "InvalidNumber.__init__" = true)
    (k_InvalidNumber__init : PySem.W.keepIn K (.ref f_InvalidNumber__init) = true)
    (a_InvalidSize : PySem.W.nsIn K mainGlobals "InvalidSize" = some (some (.ref C_InvalidSize)))
    (xl_InvalidSize : K.lookup C_InvalidSize = some (excClassObj nm_InvalidSize q_InvalidSize C_InvalidSize N_InvalidSize bs_InvalidSize [.type "ValueError", .type "Exception", .type "BaseException", .type "object"] true sn_InvalidSize sub_InvalidSize ab_InvalidSize col_InvalidSize dd_InvalidSize m0_InvalidSize m1_InvalidSize m2_InvalidSize m3_InvalidSize m5_InvalidSize "ValueError.__new__"))
    (sa_InvalidSize : PySem.W.findIn K (.ref C_InvalidSize) "__setattr__" = some (some (.builtin "object.__setattr__")))
    (ex_InvalidSize : PySem.W.subIn K (.ref C_InvalidSize) (.type "BaseException") = some true)
    (ty_InvalidSize : PySem.W.typeIn K (.ref C_InvalidSize) = some (.type "type"))
    (kc_InvalidSize : PySem.W.keepIn K (.ref C_InvalidSize) = true)
    (hd_InvalidSize : PySem.W.hasDictIn K C_InvalidSize = true)
    (ga_InvalidSize : PySem.W.findIn K (.ref C_InvalidSize) "__getattribute__" = some (some (.builtin "BaseException.__getattribute__")))
    (gg_InvalidSize : PySem.W.findIn K (.ref C_InvalidSize) "__getattr__" = some none)
    (ss_InvalidSize : PySem.W.subIn K (.ref C_InvalidSize) (.ref C_InvalidSize) = some true)
    (ca_InvalidSize : PySem.W.findIn K (.ref C_InvalidSize) "__class__" = some (some (.builtin "object.__class__")))
    (cn_InvalidSize : PySem.W.specialIn K (.builtin "object.__class__") "__get__" = some (some (.builtin "getset_descriptor.__get__")))
    (ct_InvalidSize : PySem.W.takesIn K (.builtin "object.__class__") = some true)
    (cm_InvalidSize : PySem.W.mroIn K C_InvalidSize (.type "object") = some true)
    (kit_ValueError_InvalidSize : PySem.W.kitOne K (.ref C_InvalidSize) (.type "ValueError") = some true)
    (na_value_InvalidSize : PySem.W.findIn K (.ref C_InvalidSize) "value" = some none)
    (m_InvalidSize__init : PySem.W.findIn K (.ref C_InvalidSize) "__init__" = some (some (.ref f_InvalidSize__init)))
    (ti_InvalidSize__init : PySem.W.typeIn K (.ref f_InvalidSize__init) = some (.type "function"))
    (l_InvalidSize__init : K.lookup f_InvalidSize__init = some ⟨oc_InvalidSize__init, od_InvalidSize__init, .func (PySem.W.fnOf "__init__" "InvalidSize.__init__" (defArgs s_InvalidSize__init) (defBody s_InvalidSize__init) (defScope s_InvalidSize__init) .none kV_InvalidSize__init dc_InvalidSize__init pm_InvalidSize__init an_InvalidSize__init cd_InvalidSize__init ct_InvalidSize__init), sl_InvalidSize__init⟩)
    (c_InvalidSize__init : PySem.W.codeIn K cd_InvalidSize__init "InvalidSize.__init__" = true)
    (k_InvalidSize__init : PySem.W.keepIn K (.ref f_InvalidSize__init) = true)
    (a_Undefined : PySem.W.nsIn K mainGlobals "Undefined" = some (some (.ref C_Undefined)))
    (xl_Undefined : K.lookup C_Undefined = some (excClassObj nm_Undefined q_Undefined C_Undefined N_Undefined bs_Undefined [.type "LookupError", .type "Exception", .type "BaseException", .type "object"] true sn_Undefined sub_Undefined ab_Undefined col_Undefined dd_Undefined m0_Undefined m1_Undefined m2_Undefined m3_Undefined m5_Undefined "LookupError.__new__"))
    (sa_Undefined : PySem.W.findIn K (.ref C_Undefined) "__setattr__" = some (some (.builtin "object.__setattr__")))
    (ex_Undefined : PySem.W.subIn K (.ref C_Undefined) (.type "BaseException") = some true)
    (ty_Undefined : PySem.W.typeIn K (.ref C_Undefined) = some (.type "type"))
    (kc_Undefined : PySem.W.keepIn K (.ref C_Undefined) = true)
    (hd_Undefined : PySem.W.hasDictIn K C_Undefined = true)
    (ga_Undefined : PySem.W.findIn K (.ref C_Undefined) "__getattribute__" = some (some (.builtin "BaseException.__getattribute__")))
    (gg_Undefined : PySem.W.findIn K (.ref C_Undefined) "__getattr__" = some none)
    (ss_Undefined : PySem.W.subIn K (.ref C_Undefined) (.ref C_Undefined) = some true)
    (ca_Undefined : PySem.W.findIn K (.ref C_Undefined) "__class__" = some (some (.builtin "object.__class__")))
    (cn_Undefined : PySem.W.specialIn K (.builtin "object.__class__") "__get__" = some (some (.builtin "getset_descriptor.__get__")))
    (ct_Undefined : PySem.W.takesIn K (.builtin "object.__class__") = some true)
    (cm_Undefined : PySem.W.mroIn K C_Undefined (.type "object") = some true)
    (kit_LookupError_Undefined : PySem.W.kitOne K (.ref C_Undefined) (.type "LookupError") = some true)
    (na_value_Undefined : PySem.W.findIn K (.ref C_Undefined) "value" = some none)
    (m_Undefined__init : PySem.W.findIn K (.ref C_Undefined) "__init__" = some (some (.ref f_Undefined__init)))
    (ti_Undefined__init : PySem.W.typeIn K (.ref f_Undefined__init) = some (.type "function"))
    (l_Undefined__init : K.lookup f_Undefined__init = some ⟨oc_Undefined__init, od_Undefined__init, .func (PySem.W.fnOf "__init__" "Undefined.__init__" (defArgs s_Undefined__init) (defBody s_Undefined__init) (defScope s_Undefined__init) .none kV_Undefined__init dc_Undefined__init pm_Undefined__init an_Undefined__init cd_Undefined__init ct_Undefined__init), sl_Undefined__init⟩)
    (c_Undefined__init : PySem.W.codeIn K cd_Undefined__init "Undefined.__init__" = true)
    (k_Undefined__init : PySem.W.keepIn K (.ref f_Undefined__init) = true)
    (stop_IN : PySem.W.subIn K (.ref C_InvalidNumber) (.type "StopIteration") = some false)
    (z_isinstance : PySem.W.nsIn K mainGlobals "isinstance" = some none)
    (z_int : PySem.W.nsIn K mainGlobals "int" = some none)
    (z_bool : PySem.W.nsIn K mainGlobals "bool" = some none)
    (z_dict : PySem.W.nsIn K mainGlobals "dict" = some none)
    (z_len : PySem.W.nsIn K mainGlobals "len" = some none)
    (z_range : PySem.W.nsIn K mainGlobals "range" = some none)
    (z_list : PySem.W.nsIn K mainGlobals "list" = some none)
    (z_tuple : PySem.W.nsIn K mainGlobals "tuple" = some none)
    (z_max : PySem.W.nsIn K mainGlobals "max" = some none)
    (z_min : PySem.W.nsIn K mainGlobals "min" = some none)
    (z_sum : PySem.W.nsIn K mainGlobals "sum" = some none)
    (z_all : PySem.W.nsIn K mainGlobals "all" = some none)
    (z_sorted : PySem.W.nsIn K mainGlobals "sorted" = some none)
    (z_abs : PySem.W.nsIn K mainGlobals "abs" = some none)
    (z_enumerate : PySem.W.nsIn K mainGlobals "enumerate" = some none)
    (z_repr : PySem.W.nsIn K mainGlobals "repr" = some none)
    (z_zip : PySem.W.nsIn K mainGlobals "zip" = some none)
    (z_ValueError : PySem.W.nsIn K mainGlobals "ValueError" = some none)
    (z_LookupError : PySem.W.nsIn K mainGlobals "LookupError" = some none)
    (v_MAX_SIZE : PySem.W.nsIn K mainGlobals "MAX_SIZE" = some (some (.int 300 t_MAX_SIZE)))
    (v_MAX_PARTS : PySem.W.nsIn K mainGlobals "MAX_PARTS" = some (some (.int 100 t_MAX_PARTS)))
    (v_MAX_NUMBER : PySem.W.nsIn K mainGlobals "MAX_NUMBER" = some (some (.int 1000000000000000000000000000000 t_MAX_NUMBER)))
    (v_MAX_DEGREE : PySem.W.nsIn K mainGlobals "MAX_DEGREE" = some (some (.int 1000000000000000000000000000000 t_MAX_DEGREE)))
    (kit_x_Shape_Map : PySem.W.kitOne K (.ref C_Map) (.ref C_Shape) = some false)
    (te_InvalidNumber_InvalidElement : PySem.W.subIn K (.ref C_InvalidElement) (.ref C_InvalidNumber) = some false)
    (te_InvalidSize_InvalidElement : PySem.W.subIn K (.ref C_InvalidElement) (.ref C_InvalidSize) = some false)
    (te_Undefined_InvalidElement : PySem.W.subIn K (.ref C_InvalidElement) (.ref C_Undefined) = some false)
    (te_InvalidElement_InvalidNumber : PySem.W.subIn K (.ref C_InvalidNumber) (.ref C_InvalidElement) = some false)
    (te_InvalidSize_InvalidNumber : PySem.W.subIn K (.ref C_InvalidNumber) (.ref C_InvalidSize) = some false)
    (te_Undefined_InvalidNumber : PySem.W.subIn K (.ref C_InvalidNumber) (.ref C_Undefined) = some false)
    (te_InvalidElement_InvalidSize : PySem.W.subIn K (.ref C_InvalidSize) (.ref C_InvalidElement) = some false)
    (te_InvalidNumber_InvalidSize : PySem.W.subIn K (.ref C_InvalidSize) (.ref C_InvalidNumber) = some false)
    (te_Undefined_InvalidSize : PySem.W.subIn K (.ref C_InvalidSize) (.ref C_Undefined) = some false)
    (te_InvalidElement_Undefined : PySem.W.subIn K (.ref C_Undefined) (.ref C_InvalidElement) = some false)
    (te_InvalidNumber_Undefined : PySem.W.subIn K (.ref C_Undefined) (.ref C_InvalidNumber) = some false)
    (te_InvalidSize_Undefined : PySem.W.subIn K (.ref C_Undefined) (.ref C_InvalidSize) = some false) :
    Nonempty (Txt K mg) := ⟨{
    f_is_integer := f_is_integer,
    A_is_integer := ⟨_, fun_mk (st := s_is_integer) l_is_integer c_is_integer k_is_integer, (fun_mk (st := s_is_integer) l_is_integer c_is_integer k_is_integer).binds (ps := ["value"]) fun _ _ _ _ _ _ us hl => match us, hl with | [_], _ => rfl⟩,
    g_is_integer := PySem.W.mg_of X G a_is_integer,
    f_in_range := f_in_range,
    A_in_range := ⟨_, fun_mk (st := s_in_range) l_in_range c_in_range k_in_range, (fun_mk (st := s_in_range) l_in_range c_in_range k_in_range).binds (ps := ["value", "least", "most"]) fun _ _ _ _ _ _ us hl => match us, hl with | [_, _, _], _ => rfl⟩,
    g_in_range := PySem.W.mg_of X G a_in_range,
    f_check_size := f_check_size,
    A_check_size := ⟨_, fun_mk (st := s_check_size) l_check_size c_check_size k_check_size, (fun_mk (st := s_check_size) l_check_size c_check_size k_check_size).binds (ps := ["size"]) fun _ _ _ _ _ _ us hl => match us, hl with | [_], _ => rfl⟩,
    g_check_size := PySem.W.mg_of X G a_check_size,
    f_check_elements := f_check_elements,
    A_check_elements := ⟨_, fun_mk (st := s_check_elements) l_check_elements c_check_elements k_check_elements, (fun_mk (st := s_check_elements) l_check_elements c_check_elements k_check_elements).binds (ps := ["size", "points"]) fun _ _ _ _ _ _ us hl => match us, hl with | [_, _], _ => rfl⟩,
    g_check_elements := PySem.W.mg_of X G a_check_elements,
    f_are_arrows := f_are_arrows,
    A_are_arrows := ⟨_, fun_mk (st := s_are_arrows) l_are_arrows c_are_arrows k_are_arrows, (fun_mk (st := s_are_arrows) l_are_arrows c_are_arrows k_are_arrows).binds (ps := ["size", "arrows"]) fun _ _ _ _ _ _ us hl => match us, hl with | [_, _], _ => rfl⟩,
    g_are_arrows := PySem.W.mg_of X G a_are_arrows,
    f_row_from := f_row_from,
    A_row_from := ⟨_, fun_mk (st := s_row_from) l_row_from c_row_from k_row_from, (fun_mk (st := s_row_from) l_row_from c_row_from k_row_from).binds (ps := ["arrows", "element"]) fun _ _ _ _ _ _ us hl => match us, hl with | [_, _], _ => rfl⟩,
    g_row_from := PySem.W.mg_of X G a_row_from,
    f_moved := f_moved,
    A_moved := ⟨_, fun_mk (st := s_moved) l_moved c_moved k_moved, (fun_mk (st := s_moved) l_moved c_moved k_moved).binds (ps := ["arrows", "steps"]) fun _ _ _ _ _ _ us hl => match us, hl with | [_, _], _ => rfl⟩,
    g_moved := PySem.W.mg_of X G a_moved,
    f_check_map := f_check_map,
    A_check_map := ⟨_, fun_mk (st := s_check_map) l_check_map c_check_map k_check_map, (fun_mk (st := s_check_map) l_check_map c_check_map k_check_map).binds (ps := ["value"]) fun _ _ _ _ _ _ us hl => match us, hl with | [_], _ => rfl⟩,
    g_check_map := PySem.W.mg_of X G a_check_map,
    f_are_counts := f_are_counts,
    A_are_counts := ⟨_, fun_mk (st := s_are_counts) l_are_counts c_are_counts k_are_counts, (fun_mk (st := s_are_counts) l_are_counts c_are_counts k_are_counts).binds (ps := ["value"]) fun _ _ _ _ _ _ us hl => match us, hl with | [_], _ => rfl⟩,
    g_are_counts := PySem.W.mg_of X G a_are_counts,
    f_ordered := f_ordered,
    A_ordered := ⟨_, fun_mk (st := s_ordered) l_ordered c_ordered k_ordered, (fun_mk (st := s_ordered) l_ordered c_ordered k_ordered).binds (ps := ["counts"]) fun _ _ _ _ _ _ us hl => match us, hl with | [_], _ => rfl⟩,
    g_ordered := PySem.W.mg_of X G a_ordered,
    f_check_shape := f_check_shape,
    A_check_shape := ⟨_, fun_mk (st := s_check_shape) l_check_shape c_check_shape k_check_shape, (fun_mk (st := s_check_shape) l_check_shape c_check_shape k_check_shape).binds (ps := ["value"]) fun _ _ _ _ _ _ us hl => match us, hl with | [_], _ => rfl⟩,
    g_check_shape := PySem.W.mg_of X G a_check_shape,
    f_are_lengths := f_are_lengths,
    A_are_lengths := ⟨_, fun_mk (st := s_are_lengths) l_are_lengths c_are_lengths k_are_lengths, (fun_mk (st := s_are_lengths) l_are_lengths c_are_lengths k_are_lengths).binds (ps := ["value"]) fun _ _ _ _ _ _ us hl => match us, hl with | [_], _ => rfl⟩,
    g_are_lengths := PySem.W.mg_of X G a_are_lengths,
    f_fate := f_fate,
    A_fate := ⟨_, fun_mk (st := s_fate) l_fate c_fate k_fate, (fun_mk (st := s_fate) l_fate c_fate k_fate).binds (ps := ["given", "element"]) fun _ _ _ _ _ _ us hl => match us, hl with | [_, _], _ => rfl⟩,
    g_fate := PySem.W.mg_of X G a_fate,
    f_count_extensions := f_count_extensions,
    A_count_extensions := ⟨_, fun_mk (st := s_count_extensions) l_count_extensions c_count_extensions k_count_extensions, (fun_mk (st := s_count_extensions) l_count_extensions c_count_extensions k_count_extensions).binds (ps := ["given", "arrows"]) fun _ _ _ _ _ _ us hl => match us, hl with | [_, _], _ => rfl⟩,
    g_count_extensions := PySem.W.mg_of X G a_count_extensions,
    f_check_degree := f_check_degree,
    A_check_degree := ⟨_, fun_mk (st := s_check_degree) l_check_degree c_check_degree k_check_degree, (fun_mk (st := s_check_degree) l_check_degree c_check_degree k_check_degree).binds (ps := ["degree"]) fun _ _ _ _ _ _ us hl => match us, hl with | [_], _ => rfl⟩,
    g_check_degree := PySem.W.mg_of X G a_check_degree,
    f_root := f_root,
    A_root := ⟨_, fun_mk (st := s_root) l_root c_root k_root, (fun_mk (st := s_root) l_root c_root k_root).binds (ps := ["given", "degree"]) fun _ _ _ _ _ _ us hl => match us, hl with | [_, _], _ => rfl⟩,
    g_root := PySem.W.mg_of X G a_root,
    f_is_root := f_is_root,
    A_is_root := ⟨_, fun_mk (st := s_is_root) l_is_root c_is_root k_is_root, (fun_mk (st := s_is_root) l_is_root c_is_root k_is_root).binds (ps := ["given", "degree", "value"]) fun _ _ _ _ _ _ us hl => match us, hl with | [_, _, _], _ => rfl⟩,
    g_is_root := PySem.W.mg_of X G a_is_root,
    f_obstacle := f_obstacle,
    A_obstacle := ⟨_, fun_mk (st := s_obstacle) l_obstacle c_obstacle k_obstacle, (fun_mk (st := s_obstacle) l_obstacle c_obstacle k_obstacle).binds (ps := ["given", "degree"]) fun _ _ _ _ _ _ us hl => match us, hl with | [_, _], _ => rfl⟩,
    g_obstacle := PySem.W.mg_of X G a_obstacle,
    f_is_obstacle := f_is_obstacle,
    A_is_obstacle := ⟨_, fun_mk (st := s_is_obstacle) l_is_obstacle c_is_obstacle k_is_obstacle, (fun_mk (st := s_is_obstacle) l_is_obstacle c_is_obstacle k_is_obstacle).binds (ps := ["given", "degree", "value"]) fun _ _ _ _ _ _ us hl => match us, hl with | [_, _, _], _ => rfl⟩,
    g_is_obstacle := PySem.W.mg_of X G a_is_obstacle,
    f_count_roots := f_count_roots,
    A_count_roots := ⟨_, fun_mk (st := s_count_roots) l_count_roots c_count_roots k_count_roots, (fun_mk (st := s_count_roots) l_count_roots c_count_roots k_count_roots).binds (ps := ["given", "degree"]) fun _ _ _ _ _ _ us hl => match us, hl with | [_, _], _ => rfl⟩,
    g_count_roots := PySem.W.mg_of X G a_count_roots,
    f_roots := f_roots,
    A_roots := ⟨_, fun_mk (st := s_roots) l_roots c_roots k_roots, (fun_mk (st := s_roots) l_roots c_roots k_roots).binds (ps := ["given", "degree"]) fun _ _ _ _ _ _ us hl => match us, hl with | [_, _], _ => rfl⟩,
    g_roots := PySem.W.mg_of X G a_roots,
    f_has_root := f_has_root,
    A_has_root := ⟨_, fun_mk (st := s_has_root) l_has_root c_has_root k_has_root, (fun_mk (st := s_has_root) l_has_root c_has_root k_has_root).binds (ps := ["shape", "degree"]) fun _ _ _ _ _ _ us hl => match us, hl with | [_, _], _ => rfl⟩,
    g_has_root := PySem.W.mg_of X G a_has_root,
    f_l_hand := f_l_hand,
    A_l_hand := ⟨_, fun_mk (st := s_l_hand) l_l_hand c_l_hand k_l_hand, (fun_mk (st := s_l_hand) l_l_hand c_l_hand k_l_hand).binds (ps := ["_law_script", "_law_k"]) fun _ _ _ _ _ _ us hl => match us, hl with | [_, _], _ => rfl⟩,
    g_l_hand := PySem.W.mg_of X G a_l_hand,
    f_l_draw := f_l_draw,
    A_l_draw := ⟨_, fun_mk (st := s_l_draw) l_l_draw c_l_draw k_l_draw, (fun_mk (st := s_l_draw) l_l_draw c_l_draw k_l_draw).binds (ps := ["_law_pool", "_law_size"]) fun _ _ _ _ _ _ us hl => match us, hl with | [_, _], _ => rfl⟩,
    g_l_draw := PySem.W.mg_of X G a_l_draw,
    f_l_roots := f_l_roots,
    A_l_roots := ⟨_, fun_mk (st := s_l_roots) l_l_roots c_l_roots k_l_roots, (fun_mk (st := s_l_roots) l_l_roots c_l_roots k_l_roots).binds (ps := ["_law_door", "_law_given", "_law_item"]) fun _ _ _ _ _ _ us hl => match us, hl with | [_, _, _], _ => rfl⟩,
    g_l_roots := PySem.W.mg_of X G a_l_roots,
    f_l_called := f_l_called,
    A_l_called := ⟨_, fun_mk (st := s_l_called) l_l_called c_l_called k_l_called, (fun_mk (st := s_l_called) l_l_called c_l_called k_l_called).binds (ps := ["_law_door", "_law_given", "_law_item"]) fun _ _ _ _ _ _ us hl => match us, hl with | [_, _, _], _ => rfl⟩,
    g_l_called := PySem.W.mg_of X G a_l_called,
    f_l_kept := f_l_kept,
    A_l_kept := ⟨_, fun_mk (st := s_l_kept) l_l_kept c_l_kept k_l_kept, (fun_mk (st := s_l_kept) l_l_kept c_l_kept k_l_kept).binds (ps := ["_law_door", "_law_given", "_law_item"]) fun _ _ _ _ _ _ us hl => match us, hl with | [_, _, _], _ => rfl⟩,
    g_l_kept := PySem.W.mg_of X G a_l_kept,
    f_law := f_law,
    A_law := ⟨_, fun_mk (st := s_law) l_law c_law k_law, (fun_mk (st := s_law) l_law c_law k_law).binds (ps := ["_law_script"]) fun _ _ _ _ _ _ us hl => match us, hl with | [_], _ => rfl⟩,
    L_law := ⟨_, fun_mk (st := s_law) l_law c_law k_law, fun s v => .of_eq rfl⟩,
    g_law := PySem.W.mg_of X G a_law,
    C_Shape := C_Shape,
    g_Shape := PySem.W.mg_of X G a_Shape,
    o_Shape := ⟨⟨pg_Shape, hd_Shape, po_Shape, sa_Shape⟩, sf_Shape, ca_Shape, cn_Shape, ct_Shape, cm_Shape⟩,
    kit_int_Shape := kit_int_Shape,
    kit_bool_Shape := kit_bool_Shape,
    kn_NoneType_Shape := kn_NoneType_Shape,
    nf_NoneType_Shape := nf_NoneType_Shape,
    kn_int_Shape := kn_int_Shape,
    nf_int_Shape := nf_int_Shape,
    kn_bool_Shape := kn_bool_Shape,
    nf_bool_Shape := nf_bool_Shape,
    kn_str_Shape := kn_str_Shape,
    nf_str_Shape := nf_str_Shape,
    kn_list_Shape := kn_list_Shape,
    nf_list_Shape := nf_list_Shape,
    kn_dict_Shape := kn_dict_Shape,
    nf_dict_Shape := nf_dict_Shape,
    kn_tuple_Shape := kn_tuple_Shape,
    nf_tuple_Shape := nf_tuple_Shape,
    self_Shape := self_Shape,
    na_own_cycles_Shape := na_own_cycles_Shape,
    na_own_chains_Shape := na_own_chains_Shape,
    f_Shape__init := f_Shape__init,
    A_Shape__init := ⟨_, fun_mk (st := s_Shape__init) l_Shape__init c_Shape__init k_Shape__init, (fun_mk (st := s_Shape__init) l_Shape__init c_Shape__init k_Shape__init).binds (ps := ["self", "cycles", "chains"]) fun _ _ _ _ _ _ us hl => match us, hl with | [_, _, _], _ => rfl⟩,
    m_Shape__init := m_Shape__init,
    i_Shape__init := i_Shape__init,
    M_Shape := ⟨mk_Shape, m_Shape__init, i_Shape__init, kc_Shape⟩,
    f_Shape_power := f_Shape_power,
    A_Shape_power := ⟨_, fun_mk (st := s_Shape_power) l_Shape_power c_Shape_power k_Shape_power, (fun_mk (st := s_Shape_power) l_Shape_power c_Shape_power k_Shape_power).binds (ps := ["self", "exponent"]) fun _ _ _ _ _ _ us hl => match us, hl with | [_, _], _ => rfl⟩,
    m_Shape_power := m_Shape_power,
    i_Shape_power := i_Shape_power,
    meth_Shape_power := ⟨m_Shape_power, i_Shape_power, k_Shape_power⟩,
    C_GreatMap := C_GreatMap,
    g_GreatMap := PySem.W.mg_of X G a_GreatMap,
    o_GreatMap := ⟨⟨pg_GreatMap, hd_GreatMap, po_GreatMap, sa_GreatMap⟩, sf_GreatMap, ca_GreatMap, cn_GreatMap, ct_GreatMap, cm_GreatMap⟩,
    kit_int_GreatMap := kit_int_GreatMap,
    kit_bool_GreatMap := kit_bool_GreatMap,
    kit_list_GreatMap := kit_list_GreatMap,
    kit_tuple_GreatMap := kit_tuple_GreatMap,
    kn_NoneType_GreatMap := kn_NoneType_GreatMap,
    nf_NoneType_GreatMap := nf_NoneType_GreatMap,
    kn_int_GreatMap := kn_int_GreatMap,
    nf_int_GreatMap := nf_int_GreatMap,
    kn_bool_GreatMap := kn_bool_GreatMap,
    nf_bool_GreatMap := nf_bool_GreatMap,
    kn_str_GreatMap := kn_str_GreatMap,
    nf_str_GreatMap := nf_str_GreatMap,
    kn_list_GreatMap := kn_list_GreatMap,
    nf_list_GreatMap := nf_list_GreatMap,
    kn_dict_GreatMap := kn_dict_GreatMap,
    nf_dict_GreatMap := nf_dict_GreatMap,
    kn_tuple_GreatMap := kn_tuple_GreatMap,
    nf_tuple_GreatMap := nf_tuple_GreatMap,
    self_GreatMap := self_GreatMap,
    na_own_cycles_GreatMap := na_own_cycles_GreatMap,
    na_own_chains_GreatMap := na_own_chains_GreatMap,
    f_GreatMap__init := f_GreatMap__init,
    A_GreatMap__init := ⟨_, fun_mk (st := s_GreatMap__init) l_GreatMap__init c_GreatMap__init k_GreatMap__init, (fun_mk (st := s_GreatMap__init) l_GreatMap__init c_GreatMap__init k_GreatMap__init).binds (ps := ["self", "cycles", "chains"]) fun _ _ _ _ _ _ us hl => match us, hl with | [_, _, _], _ => rfl⟩,
    m_GreatMap__init := m_GreatMap__init,
    i_GreatMap__init := i_GreatMap__init,
    M_GreatMap := ⟨mk_GreatMap, m_GreatMap__init, i_GreatMap__init, kc_GreatMap⟩,
    f_GreatMap_length_at := f_GreatMap_length_at,
    A_GreatMap_length_at := ⟨_, fun_mk (st := s_GreatMap_length_at) l_GreatMap_length_at c_GreatMap_length_at k_GreatMap_length_at, (fun_mk (st := s_GreatMap_length_at) l_GreatMap_length_at c_GreatMap_length_at k_GreatMap_length_at).binds (ps := ["self", "place"]) fun _ _ _ _ _ _ us hl => match us, hl with | [_, _], _ => rfl⟩,
    m_GreatMap_length_at := m_GreatMap_length_at,
    i_GreatMap_length_at := i_GreatMap_length_at,
    meth_GreatMap_length_at := ⟨m_GreatMap_length_at, i_GreatMap_length_at, k_GreatMap_length_at⟩,
    f_GreatMap_after := f_GreatMap_after,
    A_GreatMap_after := ⟨_, fun_mk (st := s_GreatMap_after) l_GreatMap_after c_GreatMap_after k_GreatMap_after, (fun_mk (st := s_GreatMap_after) l_GreatMap_after c_GreatMap_after k_GreatMap_after).binds (ps := ["self", "place", "exponent"]) fun _ _ _ _ _ _ us hl => match us, hl with | [_, _, _], _ => rfl⟩,
    m_GreatMap_after := m_GreatMap_after,
    i_GreatMap_after := i_GreatMap_after,
    meth_GreatMap_after := ⟨m_GreatMap_after, i_GreatMap_after, k_GreatMap_after⟩,
    C_Map := C_Map,
    g_Map := PySem.W.mg_of X G a_Map,
    o_Map := ⟨⟨pg_Map, hd_Map, po_Map, sa_Map⟩, sf_Map, ca_Map, cn_Map, ct_Map, cm_Map⟩,
    kit_int_Map := kit_int_Map,
    kit_bool_Map := kit_bool_Map,
    kn_NoneType_Map := kn_NoneType_Map,
    nf_NoneType_Map := nf_NoneType_Map,
    kn_int_Map := kn_int_Map,
    nf_int_Map := nf_int_Map,
    kn_bool_Map := kn_bool_Map,
    nf_bool_Map := nf_bool_Map,
    kn_str_Map := kn_str_Map,
    nf_str_Map := nf_str_Map,
    kn_list_Map := kn_list_Map,
    nf_list_Map := nf_list_Map,
    kn_dict_Map := kn_dict_Map,
    nf_dict_Map := nf_dict_Map,
    kn_tuple_Map := kn_tuple_Map,
    nf_tuple_Map := nf_tuple_Map,
    kx_Map_Shape := kit_x_Shape_Map,
    self_Map := self_Map,
    na_own_size_Map := na_own_size_Map,
    na_own_arrows_Map := na_own_arrows_Map,
    f_Map__init := f_Map__init,
    A_Map__init := ⟨_, fun_mk (st := s_Map__init) l_Map__init c_Map__init k_Map__init, (fun_mk (st := s_Map__init) l_Map__init c_Map__init k_Map__init).binds (ps := ["self", "size", "arrows"]) fun _ _ _ _ _ _ us hl => match us, hl with | [_, _, _], _ => rfl⟩,
    m_Map__init := m_Map__init,
    i_Map__init := i_Map__init,
    M_Map := ⟨mk_Map, m_Map__init, i_Map__init, kc_Map⟩,
    R_Map := ⟨rd_Map, ga_Map⟩,
    p_Map_identity := p_Map_identity,
    f_Map_identity := f_Map_identity,
    A_Map_identity := ⟨_, fun_mk (st := s_Map_identity) l_Map_identity c_Map_identity k_Map_identity, (fun_mk (st := s_Map_identity) l_Map_identity c_Map_identity k_Map_identity).binds (ps := ["cls", "size"]) fun _ _ _ _ _ _ us hl => match us, hl with | [_, _], _ => rfl⟩,
    cm_Map_identity := ⟨at_Map_identity, ⟨_, rc_Map_identity⟩, fi_Map_identity⟩,
    p_Map_empty := p_Map_empty,
    f_Map_empty := f_Map_empty,
    A_Map_empty := ⟨_, fun_mk (st := s_Map_empty) l_Map_empty c_Map_empty k_Map_empty, (fun_mk (st := s_Map_empty) l_Map_empty c_Map_empty k_Map_empty).binds (ps := ["cls", "size"]) fun _ _ _ _ _ _ us hl => match us, hl with | [_, _], _ => rfl⟩,
    cm_Map_empty := ⟨at_Map_empty, ⟨_, rc_Map_empty⟩, fi_Map_empty⟩,
    p_Map_chain := p_Map_chain,
    f_Map_chain := f_Map_chain,
    A_Map_chain := ⟨_, fun_mk (st := s_Map_chain) l_Map_chain c_Map_chain k_Map_chain, StX.bind_star2 (B := fun us => bindArgs _ ⟨us, []⟩) (fun _ _ => rfl) (fun _ _ _ _ => rfl)⟩,
    cm_Map_chain := ⟨at_Map_chain, ⟨_, rc_Map_chain⟩, fi_Map_chain⟩,
    p_Map_cycle := p_Map_cycle,
    f_Map_cycle := f_Map_cycle,
    A_Map_cycle := ⟨_, fun_mk (st := s_Map_cycle) l_Map_cycle c_Map_cycle k_Map_cycle, StX.bind_star2 (B := fun us => bindArgs _ ⟨us, []⟩) (fun _ _ => rfl) (fun _ _ _ _ => rfl)⟩,
    cm_Map_cycle := ⟨at_Map_cycle, ⟨_, rc_Map_cycle⟩, fi_Map_cycle⟩,
    p_Map_swap := p_Map_swap,
    f_Map_swap := f_Map_swap,
    A_Map_swap := ⟨_, fun_mk (st := s_Map_swap) l_Map_swap c_Map_swap k_Map_swap, (fun_mk (st := s_Map_swap) l_Map_swap c_Map_swap k_Map_swap).binds (ps := ["cls", "size", "one", "other"]) fun _ _ _ _ _ _ us hl => match us, hl with | [_, _, _, _], _ => rfl⟩,
    cm_Map_swap := ⟨at_Map_swap, ⟨_, rc_Map_swap⟩, fi_Map_swap⟩,
    p_Map_size := p_Map_size,
    f_Map_size := f_Map_size,
    A_Map_size := ⟨_, fun_mk (st := s_Map_size) l_Map_size c_Map_size k_Map_size, (fun_mk (st := s_Map_size) l_Map_size c_Map_size k_Map_size).binds (ps := ["self"]) fun _ _ _ _ _ _ us hl => match us, hl with | [_], _ => rfl⟩,
    P_Map_size := ⟨m_Map_size, s_get_Map_size, tk_Map_size, _, rc_Map_size⟩,
    p_Map_arrows := p_Map_arrows,
    f_Map_arrows := f_Map_arrows,
    A_Map_arrows := ⟨_, fun_mk (st := s_Map_arrows) l_Map_arrows c_Map_arrows k_Map_arrows, (fun_mk (st := s_Map_arrows) l_Map_arrows c_Map_arrows k_Map_arrows).binds (ps := ["self"]) fun _ _ _ _ _ _ us hl => match us, hl with | [_], _ => rfl⟩,
    P_Map_arrows := ⟨m_Map_arrows, s_get_Map_arrows, tk_Map_arrows, _, rc_Map_arrows⟩,
    f_Map_power := f_Map_power,
    A_Map_power := ⟨_, fun_mk (st := s_Map_power) l_Map_power c_Map_power k_Map_power, (fun_mk (st := s_Map_power) l_Map_power c_Map_power k_Map_power).binds (ps := ["self", "exponent"]) fun _ _ _ _ _ _ us hl => match us, hl with | [_, _], _ => rfl⟩,
    m_Map_power := m_Map_power,
    i_Map_power := i_Map_power,
    meth_Map_power := ⟨m_Map_power, i_Map_power, k_Map_power⟩,
    f_Map__getitem := f_Map__getitem,
    A_Map__getitem := ⟨_, fun_mk (st := s_Map__getitem) l_Map__getitem c_Map__getitem k_Map__getitem, (fun_mk (st := s_Map__getitem) l_Map__getitem c_Map__getitem k_Map__getitem).binds (ps := ["self", "element"]) fun _ _ _ _ _ _ us hl => match us, hl with | [_, _], _ => rfl⟩,
    m_Map__getitem := m_Map__getitem,
    i_Map__getitem := i_Map__getitem,
    fi_Map__getitem := fi_Map__getitem,
    f_Map_is_source := f_Map_is_source,
    A_Map_is_source := ⟨_, fun_mk (st := s_Map_is_source) l_Map_is_source c_Map_is_source k_Map_is_source, (fun_mk (st := s_Map_is_source) l_Map_is_source c_Map_is_source k_Map_is_source).binds (ps := ["self", "value"]) fun _ _ _ _ _ _ us hl => match us, hl with | [_, _], _ => rfl⟩,
    m_Map_is_source := m_Map_is_source,
    i_Map_is_source := i_Map_is_source,
    meth_Map_is_source := ⟨m_Map_is_source, i_Map_is_source, k_Map_is_source⟩,
    C_InvalidMap := C_InvalidMap,
    g_InvalidMap := PySem.W.mg_of X G a_InvalidMap,
    x_InvalidMap := ⟨⟨"ValueError", _, _, _, _, _, _, _, _, _, _, _, _, _, _, _, _, _, _, PySem.F.store_ValueError, PySem.F.excBase_ValueError, xl_InvalidMap, by decide +kernel⟩, sa_InvalidMap, ex_InvalidMap, ty_InvalidMap, kc_InvalidMap⟩,
    xf_InvalidMap := ⟨ga_InvalidMap, gg_InvalidMap, ex_InvalidMap, hd_InvalidMap⟩,
    xe_InvalidMap := ⟨ga_InvalidMap, gg_InvalidMap, ex_InvalidMap, hd_InvalidMap, ca_InvalidMap, cn_InvalidMap, ct_InvalidMap, cm_InvalidMap⟩,
    te_InvalidMap := PySem.W.exm_ref ex_InvalidMap hd_InvalidMap ty_InvalidMap ss_InvalidMap,
    kit_ValueError_InvalidMap := kit_ValueError_InvalidMap,
    na_part_InvalidMap := na_part_InvalidMap,
    f_InvalidMap__init := f_InvalidMap__init,
    A_InvalidMap__init := ⟨_, fun_mk (st := s_InvalidMap__init) l_InvalidMap__init c_InvalidMap__init k_InvalidMap__init, (fun_mk (st := s_InvalidMap__init) l_InvalidMap__init c_InvalidMap__init k_InvalidMap__init).binds (ps := ["self", "part"]) fun _ _ _ _ _ _ us hl => match us, hl with | [_, _], _ => rfl⟩,
    m_InvalidMap__init := m_InvalidMap__init,
    ti_InvalidMap__init := ti_InvalidMap__init,
    C_InvalidShape := C_InvalidShape,
    g_InvalidShape := PySem.W.mg_of X G a_InvalidShape,
    x_InvalidShape := ⟨⟨"ValueError", _, _, _, _, _, _, _, _, _, _, _, _, _, _, _, _, _, _, PySem.F.store_ValueError, PySem.F.excBase_ValueError, xl_InvalidShape, by decide +kernel⟩, sa_InvalidShape, ex_InvalidShape, ty_InvalidShape, kc_InvalidShape⟩,
    xf_InvalidShape := ⟨ga_InvalidShape, gg_InvalidShape, ex_InvalidShape, hd_InvalidShape⟩,
    xe_InvalidShape := ⟨ga_InvalidShape, gg_InvalidShape, ex_InvalidShape, hd_InvalidShape, ca_InvalidShape, cn_InvalidShape, ct_InvalidShape, cm_InvalidShape⟩,
    te_InvalidShape := PySem.W.exm_ref ex_InvalidShape hd_InvalidShape ty_InvalidShape ss_InvalidShape,
    kit_ValueError_InvalidShape := kit_ValueError_InvalidShape,
    na_part_InvalidShape := na_part_InvalidShape,
    f_InvalidShape__init := f_InvalidShape__init,
    A_InvalidShape__init := ⟨_, fun_mk (st := s_InvalidShape__init) l_InvalidShape__init c_InvalidShape__init k_InvalidShape__init, (fun_mk (st := s_InvalidShape__init) l_InvalidShape__init c_InvalidShape__init k_InvalidShape__init).binds (ps := ["self", "part"]) fun _ _ _ _ _ _ us hl => match us, hl with | [_, _], _ => rfl⟩,
    m_InvalidShape__init := m_InvalidShape__init,
    ti_InvalidShape__init := ti_InvalidShape__init,
    C_InvalidElement := C_InvalidElement,
    g_InvalidElement := PySem.W.mg_of X G a_InvalidElement,
    x_InvalidElement := ⟨⟨"ValueError", _, _, _, _, _, _, _, _, _, _, _, _, _, _, _, _, _, _, PySem.F.store_ValueError, PySem.F.excBase_ValueError, xl_InvalidElement, by decide +kernel⟩, sa_InvalidElement, ex_InvalidElement, ty_InvalidElement, kc_InvalidElement⟩,
    xf_InvalidElement := ⟨ga_InvalidElement, gg_InvalidElement, ex_InvalidElement, hd_InvalidElement⟩,
    xe_InvalidElement := ⟨ga_InvalidElement, gg_InvalidElement, ex_InvalidElement, hd_InvalidElement, ca_InvalidElement, cn_InvalidElement, ct_InvalidElement, cm_InvalidElement⟩,
    te_InvalidElement := PySem.W.exm_ref ex_InvalidElement hd_InvalidElement ty_InvalidElement ss_InvalidElement,
    kit_ValueError_InvalidElement := kit_ValueError_InvalidElement,
    te_InvalidElement_InvalidNumber := PySem.W.exm_ref ex_InvalidNumber hd_InvalidNumber ty_InvalidNumber te_InvalidNumber_InvalidElement,
    te_InvalidElement_InvalidSize := PySem.W.exm_ref ex_InvalidSize hd_InvalidSize ty_InvalidSize te_InvalidSize_InvalidElement,
    te_InvalidElement_Undefined := PySem.W.exm_ref ex_Undefined hd_Undefined ty_Undefined te_Undefined_InvalidElement,
    na_value_InvalidElement := na_value_InvalidElement,
    f_InvalidElement__init := f_InvalidElement__init,
    A_InvalidElement__init := ⟨_, fun_mk (st := s_InvalidElement__init) l_InvalidElement__init c_InvalidElement__init k_InvalidElement__init, (fun_mk (st := s_InvalidElement__init) l_InvalidElement__init c_InvalidElement__init k_InvalidElement__init).binds (ps := ["self", "value"]) fun _ _ _ _ _ _ us hl => match us, hl with | [_, _], _ => rfl⟩,
    m_InvalidElement__init := m_InvalidElement__init,
    ti_InvalidElement__init := ti_InvalidElement__init,
    C_InvalidNumber := C_InvalidNumber,
    g_InvalidNumber := PySem.W.mg_of X G a_InvalidNumber,
    x_InvalidNumber := ⟨⟨"ValueError", _, _, _, _, _, _, _, _, _, _, _, _, _, _, _, _, _, _, PySem.F.store_ValueError, PySem.F.excBase_ValueError, xl_InvalidNumber, by decide +kernel⟩, sa_InvalidNumber, ex_InvalidNumber, ty_InvalidNumber, kc_InvalidNumber⟩,
    xf_InvalidNumber := ⟨ga_InvalidNumber, gg_InvalidNumber, ex_InvalidNumber, hd_InvalidNumber⟩,
    xe_InvalidNumber := ⟨ga_InvalidNumber, gg_InvalidNumber, ex_InvalidNumber, hd_InvalidNumber, ca_InvalidNumber, cn_InvalidNumber, ct_InvalidNumber, cm_InvalidNumber⟩,
    te_InvalidNumber := PySem.W.exm_ref ex_InvalidNumber hd_InvalidNumber ty_InvalidNumber ss_InvalidNumber,
    kit_ValueError_InvalidNumber := kit_ValueError_InvalidNumber,
    te_InvalidNumber_InvalidElement := PySem.W.exm_ref ex_InvalidElement hd_InvalidElement ty_InvalidElement te_InvalidElement_InvalidNumber,
    te_InvalidNumber_InvalidSize := PySem.W.exm_ref ex_InvalidSize hd_InvalidSize ty_InvalidSize te_InvalidSize_InvalidNumber,
    te_InvalidNumber_Undefined := PySem.W.exm_ref ex_Undefined hd_Undefined ty_Undefined te_Undefined_InvalidNumber,
    na_value_InvalidNumber := na_value_InvalidNumber,
    f_InvalidNumber__init := f_InvalidNumber__init,
    A_InvalidNumber__init := ⟨_, fun_mk (st := s_InvalidNumber__init) l_InvalidNumber__init c_InvalidNumber__init k_InvalidNumber__init, (fun_mk (st := s_InvalidNumber__init) l_InvalidNumber__init c_InvalidNumber__init k_InvalidNumber__init).binds (ps := ["self", "value"]) fun _ _ _ _ _ _ us hl => match us, hl with | [_, _], _ => rfl⟩,
    m_InvalidNumber__init := m_InvalidNumber__init,
    ti_InvalidNumber__init := ti_InvalidNumber__init,
    C_InvalidSize := C_InvalidSize,
    g_InvalidSize := PySem.W.mg_of X G a_InvalidSize,
    x_InvalidSize := ⟨⟨"ValueError", _, _, _, _, _, _, _, _, _, _, _, _, _, _, _, _, _, _, PySem.F.store_ValueError, PySem.F.excBase_ValueError, xl_InvalidSize, by decide +kernel⟩, sa_InvalidSize, ex_InvalidSize, ty_InvalidSize, kc_InvalidSize⟩,
    xf_InvalidSize := ⟨ga_InvalidSize, gg_InvalidSize, ex_InvalidSize, hd_InvalidSize⟩,
    xe_InvalidSize := ⟨ga_InvalidSize, gg_InvalidSize, ex_InvalidSize, hd_InvalidSize, ca_InvalidSize, cn_InvalidSize, ct_InvalidSize, cm_InvalidSize⟩,
    te_InvalidSize := PySem.W.exm_ref ex_InvalidSize hd_InvalidSize ty_InvalidSize ss_InvalidSize,
    kit_ValueError_InvalidSize := kit_ValueError_InvalidSize,
    te_InvalidSize_InvalidElement := PySem.W.exm_ref ex_InvalidElement hd_InvalidElement ty_InvalidElement te_InvalidElement_InvalidSize,
    te_InvalidSize_InvalidNumber := PySem.W.exm_ref ex_InvalidNumber hd_InvalidNumber ty_InvalidNumber te_InvalidNumber_InvalidSize,
    te_InvalidSize_Undefined := PySem.W.exm_ref ex_Undefined hd_Undefined ty_Undefined te_Undefined_InvalidSize,
    na_value_InvalidSize := na_value_InvalidSize,
    f_InvalidSize__init := f_InvalidSize__init,
    A_InvalidSize__init := ⟨_, fun_mk (st := s_InvalidSize__init) l_InvalidSize__init c_InvalidSize__init k_InvalidSize__init, (fun_mk (st := s_InvalidSize__init) l_InvalidSize__init c_InvalidSize__init k_InvalidSize__init).binds (ps := ["self", "value"]) fun _ _ _ _ _ _ us hl => match us, hl with | [_, _], _ => rfl⟩,
    m_InvalidSize__init := m_InvalidSize__init,
    ti_InvalidSize__init := ti_InvalidSize__init,
    C_Undefined := C_Undefined,
    g_Undefined := PySem.W.mg_of X G a_Undefined,
    x_Undefined := ⟨⟨"LookupError", _, _, _, _, _, _, _, _, _, _, _, _, _, _, _, _, _, _, PySem.F.store_LookupError, PySem.F.excBase_LookupError, xl_Undefined, by decide +kernel⟩, sa_Undefined, ex_Undefined, ty_Undefined, kc_Undefined⟩,
    xf_Undefined := ⟨ga_Undefined, gg_Undefined, ex_Undefined, hd_Undefined⟩,
    xe_Undefined := ⟨ga_Undefined, gg_Undefined, ex_Undefined, hd_Undefined, ca_Undefined, cn_Undefined, ct_Undefined, cm_Undefined⟩,
    te_Undefined := PySem.W.exm_ref ex_Undefined hd_Undefined ty_Undefined ss_Undefined,
    kit_LookupError_Undefined := kit_LookupError_Undefined,
    te_Undefined_InvalidElement := PySem.W.exm_ref ex_InvalidElement hd_InvalidElement ty_InvalidElement te_InvalidElement_Undefined,
    te_Undefined_InvalidNumber := PySem.W.exm_ref ex_InvalidNumber hd_InvalidNumber ty_InvalidNumber te_InvalidNumber_Undefined,
    te_Undefined_InvalidSize := PySem.W.exm_ref ex_InvalidSize hd_InvalidSize ty_InvalidSize te_InvalidSize_Undefined,
    na_value_Undefined := na_value_Undefined,
    f_Undefined__init := f_Undefined__init,
    A_Undefined__init := ⟨_, fun_mk (st := s_Undefined__init) l_Undefined__init c_Undefined__init k_Undefined__init, (fun_mk (st := s_Undefined__init) l_Undefined__init c_Undefined__init k_Undefined__init).binds (ps := ["self", "value"]) fun _ _ _ _ _ _ us hl => match us, hl with | [_, _], _ => rfl⟩,
    m_Undefined__init := m_Undefined__init,
    ti_Undefined__init := ti_Undefined__init,
    stop_IN := stop_IN,
    n_isinstance := PySem.W.mg_none_of X G z_isinstance,
    n_int := PySem.W.mg_none_of X G z_int,
    n_bool := PySem.W.mg_none_of X G z_bool,
    n_dict := PySem.W.mg_none_of X G z_dict,
    n_len := PySem.W.mg_none_of X G z_len,
    n_range := PySem.W.mg_none_of X G z_range,
    n_list := PySem.W.mg_none_of X G z_list,
    n_tuple := PySem.W.mg_none_of X G z_tuple,
    n_max := PySem.W.mg_none_of X G z_max,
    n_min := PySem.W.mg_none_of X G z_min,
    n_sum := PySem.W.mg_none_of X G z_sum,
    n_all := PySem.W.mg_none_of X G z_all,
    n_sorted := PySem.W.mg_none_of X G z_sorted,
    n_abs := PySem.W.mg_none_of X G z_abs,
    n_enumerate := PySem.W.mg_none_of X G z_enumerate,
    n_repr := PySem.W.mg_none_of X G z_repr,
    n_zip := PySem.W.mg_none_of X G z_zip,
    n_ValueError := PySem.W.mg_none_of X G z_ValueError,
    n_LookupError := PySem.W.mg_none_of X G z_LookupError,
    v_MAX_SIZE := ⟨_, PySem.W.mg_of X G v_MAX_SIZE⟩,
    v_MAX_PARTS := ⟨_, PySem.W.mg_of X G v_MAX_PARTS⟩,
    v_MAX_NUMBER := ⟨_, PySem.W.mg_of X G v_MAX_NUMBER⟩,
    v_MAX_DEGREE := ⟨_, PySem.W.mg_of X G v_MAX_DEGREE⟩ }⟩
end My
namespace My
open PySem L2 U StX
/-! ### values of any known form -/
def knownV (C : Addr) (H : Hp) : V → Prop
  | .non => True | .bl _ => True | .int _ => True | .str _ => True
  | .ref a => (∃ xs, H a = some (.lst xs)) ∨ (∃ xs, H a = some (.tup xs)) ∨ (∃ kvs, H a = some (.dK kvs)) ∨ ∃ dx fs, H a = some (.ins C dx fs)
  | _ => False
def isI : V → Bool | .int _ => true | _ => false
def isB : V → Bool | .bl _ => true | _ => false
def inR : V → Int → Int → Bool | .int i, a, b => decide (a ≤ i) && decide (i ≤ b) | _, _, _ => false
section
variable {P : Program} {w : World} {K : PySem.W.Frag} {mg : Str → Option Value} {base : Heap}
theorem tyx_ins {H : Hp} {a C dx : Addr} {fs : List (Str × V)} (o : OwnC K C) (e : H a = some (.ins C dx fs)) : TyX K H (.ref a) (.ref C) := .base (.ins e o.cl o.ca o.cn o.ct o.cm)
/-- the type of a known value, and what isinstance says of it -/
theorem ty_known (T : Txt K mg) {H : Hp} {x : V} (h : knownV T.C_Map H x) : ∃ t, TyX K H x t ∧ PySem.W.kitOne K t (.type "int") = some (isI x || isB x) ∧ PySem.W.kitOne K t (.type "bool") = some (isB x) := by
  cases x with
  | non => exact ⟨_, .base .non, kit_ty (r := false) (by decide +kernel), kit_ty (r := false) (by decide +kernel)⟩
  | bl b => exact ⟨_, .base (.bl b), kit_ty (r := true) (by decide +kernel), kit_ty (r := true) (by decide +kernel)⟩
  | int i => exact ⟨_, .base (.int i), kit_ty (r := true) (by decide +kernel), kit_ty (r := false) (by decide +kernel)⟩
  | str z => exact ⟨_, .base (.str z), kit_ty (r := false) (by decide +kernel), kit_ty (r := false) (by decide +kernel)⟩
  | ref a =>
    rcases h with ⟨xs, e⟩ | ⟨xs, e⟩ | ⟨xs, e⟩ | ⟨dx, fs, e⟩
    · exact ⟨_, .base (.lst e), kit_ty (r := false) (by decide +kernel), kit_ty (r := false) (by decide +kernel)⟩
    · exact ⟨_, .base (.tup e), kit_ty (r := false) (by decide +kernel), kit_ty (r := false) (by decide +kernel)⟩
    · exact ⟨_, .base (.dK e), kit_ty (r := false) (by decide +kernel), kit_ty (r := false) (by decide +kernel)⟩
    · exact ⟨_, tyx_ins T.o_Map e, T.kit_int_Map, T.kit_bool_Map⟩
  | byt b => exact h.elim
  | flt b => exact h.elim
  | ty b => exact h.elim
def spIsInt (C : Addr) : Sp := fun vs H Q _ => ∃ x, vs = [x] ∧ knownV C H x ∧ Q (.bl (isI x)) H
theorem ok_is_integer (T : Txt K mg) : FnR P w K mg base CX0 1 T.f_is_integer (spIsInt T.C_Map) := by
  refine T.A_is_integer.ok sc_is_integer (fun vs H Q E h => ?_) (fun cdv A outer s H vs Q E hr h => ?_)
  · obtain ⟨x, rfl, _⟩ := h
    rfl
  · obtain ⟨x, rfl, hx, q⟩ := h
    refine ⟨_, pss_one (ps_ret (pe_and (pe_callB call_isi (by rfl) T.n_isinstance (by decide +kernel) (pa_cons (pv 0) (pa_cons (pe_bltn (v := .ty "int") (u := .type "int") (by rfl) T.n_int (by decide +kernel) rfl) pa_nil)))
      (pe_one (pe_not (pe_callB call_isi (by rfl) T.n_isinstance (by decide +kernel) (pa_cons (pv 0) (pa_cons (pe_bltn (v := .ty "bool") (u := .type "bool") (by rfl) T.n_bool (by decide +kernel) rfl) pa_nil))))))), ?_⟩
    obtain ⟨t, ht, k1, k2⟩ := ty_known T hx
    refine ⟨_, rfl, x, _, t, _, _, rfl, .ty _, ht, k1, _, rfl, ?_⟩
    refine ifB (fun hc => ?_) (fun hc => ?_)
    · refine ⟨_, rfl, x, _, t, _, _, rfl, .ty _, ht, k2, _, rfl, ?_⟩
      have e : (!isB x) = isI x := by cases x <;> first | rfl | cases hc
      rw [e]
      exact q
    · have e : isI x = false := by cases x <;> first | rfl | cases hc
      rw [e] at q
      exact q
def spInR (C : Addr) : Sp := fun vs H Q _ => ∃ x a b, vs = [x, .int a, .int b] ∧ knownV C H x ∧ Q (.bl (inR x a b)) H
theorem ok_in_range (T : Txt K mg) : FnR P w K mg base CX0 2 T.f_in_range (spInR T.C_Map) := by
  refine T.A_in_range.ok sc_in_range (fun vs H Q E h => ?_) (fun cdv A outer s H vs Q E hr h => ?_)
  · obtain ⟨x, a, b, rfl, _⟩ := h
    rfl
  · obtain ⟨x, a, b, rfl, hx, q⟩ := h
    refine ⟨_, pss_one (ps_ret (pe_and (pe_callR (ok_is_integer T) hr T.A_is_integer.kp rfl T.g_is_integer pass0 (pa_cons (pv 0) pa_nil))
      (pe_one (pe_chain op_le op_le (pv 1) (pv 0) (pv 2))))), ?_⟩
    refine ⟨_, rfl, x, rfl, hx, _, rfl, ?_⟩
    cases x with
    | int i =>
      refine iteT ⟨_, rfl, _, rfl, _, _, rfl, rfl, _, rfl, ?_⟩
      refine ifD (fun h => ?_) (fun h => ?_)
      · refine ⟨_, rfl, _, _, rfl, rfl, ?_⟩
        have e : inR (.int i) a b = decide (i ≤ b) := by simp [inR, h]
        rw [e] at q
        exact q
      · have e : inR (.int i) a b = false := by simp [inR, h]
        rw [e] at q
        exact q
    | _ => exact iteF q
/-! ### the law's draws -/
def spDraw : Sp := fun vs H Q _ => ∃ (p : Addr) (a b n : Int), vs = [.ref p, .int n] ∧ H p = some (.lst [.int a, .int b]) ∧ 0 ≤ a ∧ 0 ≤ b ∧ b < 2147483647 ∧ 0 < n ∧ n < 1073741824 ∧
  ∀ a' b' r : Int, 0 ≤ a' → 0 ≤ b' → b' < 2147483647 → 0 ≤ r → r < n → Q (.int r) (upd H p (.lst [.int a', .int b']))
theorem ok_draw (T : Txt K mg) : FnR P w K mg base CX0 1 T.f_l_draw spDraw := by
  refine T.A_l_draw.ok sc_l_draw (fun vs H Q E h => ?_) (fun cdv A outer s H vs Q E hr h => ?_)
  · obtain ⟨p, a, b, n, rfl, _⟩ := h
    rfl
  · obtain ⟨p, a, b, n, rfl, hp, ha, hb, hb2, hn, hn2, k⟩ := h
    refine ⟨_, pss_cons (ps_if (pt_cmpR op_gt (pe_ix ix_list (pv 0) pe_int (fun _ _ => rfl)) pe_int (nomark _))
        (pss_cons (ps_set (i := 2) sc_l_draw.nd rfl (Or.inl rfl) (pe_op op_mod (pe_ix ix_list (pv 0) pe_int (fun _ _ => rfl)) (pv 1)))
        (pss_cons (ps_asg (pe_op op_fdiv (pe_ix ix_list (pv 0) pe_int (fun _ _ => rfl)) (pv 1)) (pg_sub (pv 0) pe_int set_list))
        (pss_one (ps_ret (pv 2))))) pss_nil)
      (pss_cons (ps_asg (pe_op op_mod (pe_op op_add (pe_op op_mul (pe_ix ix_list (pv 0) pe_int (fun _ _ => rfl)) pe_int) pe_int) pe_int) (pg_sub (pv 0) pe_int set_list))
      (pss_one (ps_ret (pe_op op_mod (pe_op op_fdiv (pe_op op_mod (pe_op op_mul (pe_ix ix_list (pv 0) pe_int (fun _ _ => rfl)) (pe_ix ix_list (pv 0) pe_int (fun _ _ => rfl))) pe_int) pe_int) (pv 1))))), ?_⟩
    refine ⟨_, rfl, p, _, 0, _, rfl, rfl, SqL.of hp, rfl, _, _, rfl, rfl, _, rfl, ?_⟩
    refine ifD (fun h => ?_) (fun h => ?_)
    · refine ⟨_, rfl, p, _, 0, _, rfl, rfl, SqL.of hp, rfl, _, rfl, _, _, rfl, rfl, hn, ?_⟩
      refine ⟨_, rfl, p, _, 0, _, rfl, rfl, SqL.of hp, rfl, _, rfl, _, _, rfl, rfl, ⟨hn, hn2⟩, _, rfl, p, _, 0, _, rfl, rfl, hp, rfl, ?_⟩
      refine ⟨_, rfl, ?_⟩
      exact k (a / n) b (a % n) (Int.ediv_nonneg ha (by omega)) hb hb2 (Int.emod_nonneg _ (by omega)) (Int.emod_lt_of_pos _ hn)
    · have m1 : 0 ≤ (b * 48271 + 11) % 2147483647 := Int.emod_nonneg _ (by decide)
      have m2 : (b * 48271 + 11) % 2147483647 < 2147483647 := Int.emod_lt_of_pos _ (by decide)
      refine ⟨_, rfl, p, _, 1, _, rfl, rfl, SqL.of hp, rfl, _, _, rfl, rfl, .inr ⟨by decide, by decide⟩, _, _, rfl, rfl, _, _, rfl, rfl, (by show (0 : Int) < 2147483647; decide), _, rfl, p, _, 1, _, rfl, rfl, hp, rfl, ?_⟩
      refine ⟨_, rfl, p, _, 1, _, rfl, rfl, SqL.of upd_same, rfl, _, rfl, p, _, 1, _, rfl, rfl, SqL.of upd_same, rfl, _, _, rfl, rfl, .inl ⟨by omega, by omega⟩, _, _, rfl, rfl, (by show (0 : Int) < 2147483629; decide), _, _, rfl, rfl, ⟨by decide, by decide⟩, _, rfl, _, _, rfl, rfl, hn, ?_⟩
      exact k a ((b * 48271 + 11) % 2147483647) _ ha m1 m2 (Int.emod_nonneg _ (by omega)) (Int.emod_lt_of_pos _ hn)
end
end My
namespace My
open PySem L2 U StX PM
section
variable {P : Program} {w : World} {K : PySem.W.Frag} {mg : Str → Option Value} {base : Heap}
theorem head_int (xs : List V) (h : ∀ v ∈ xs, ∃ i, v = V.int i) : ∃ c, atI (xs ++ [V.int 0]) 0 = some (V.int c) := by
  cases xs with
  | nil => exact ⟨0, rfl⟩
  | cons a r =>
    obtain ⟨i, rfl⟩ := h a List.mem_cons_self
    refine ⟨i, atI_nat (j := 0) ?_⟩
    rfl
theorem cut_int (ns : List Int) (lo hi : Option Int) : ∀ v ∈ cutV (ns.map V.int) lo hi, ∃ i, v = V.int i := by
  intro v hv
  unfold cutV at hv
  have h1 := List.mem_of_mem_drop (List.mem_of_mem_take hv)
  obtain ⟨i, _, rfl⟩ := List.mem_map.mp h1
  exact ⟨i, rfl⟩
def spHand (K : PySem.W.Frag) : Sp := fun vs H Q _ => ∃ (a : Addr) (ns : List Int) (k : Int), vs = [.ref a, .int k] ∧ SqL K H a (ns.map V.int) ∧ ns.length ≤ 63 ∧
  ∀ p H' x y, H p = none → H' p = some (.lst [.int x, .int y]) → Same H H' → 0 ≤ x → 0 ≤ y → y < 2147483647 → Q (.ref p) H'
theorem ok_hand (T : Txt K mg) : FnR P w K mg base CX0 1 T.f_l_hand (spHand K) := by
  refine T.A_l_hand.ok sc_l_hand (fun vs H Q E h => ?_) (fun cdv A outer s H vs Q E hr h => ?_)
  · obtain ⟨a, ns, k, rfl, _⟩ := h
    rfl
  · obtain ⟨a, ns, k, rfl, hS, hl, q⟩ := h
    refine ⟨_, pss_cons (ps_set (i := 2) sc_l_hand.nd rfl (Or.inl rfl) (pe_ix ix_list (pe_op op_cat (pe_slice sl_list (pv 0) (po_some (pv 1)) (po_some (pe_op op_add (pv 1) pe_int))) (pe_lst (pa_cons pe_int pa_nil))) pe_int (fun _ _ => rfl)))
      (pss_cons (ps_set (i := 3) sc_l_hand.nd rfl (Or.inl rfl) (pe_op op_mod (pe_op op_mul (pe_op op_add (pe_op op_add (pe_op op_mod (pv 2) pe_int) (pe_op op_mul pe_int (pv 1))) pe_int) pe_int) pe_int))
      (pss_one (ps_ret (pe_lst (pa_cons (pe_op op_mul (pe_callTy call_int1 (by rfl) T.n_int (by decide +kernel) (pa_cons (pe_cmpR op_ge (pv 2) (pe_op op_pow pe_int pe_int) (nomark _)) pa_nil)) (pv 2)) (pa_cons (pv 3) pa_nil)))))), ?_⟩
    refine ⟨_, rfl, _, rfl, _, rfl, _, rfl, _, _, rfl, rfl, _, rfl, a, _, rfl, hS, fun p1 n1 => ?_⟩
    refine ⟨(by show 1 ≤ sizeLine; decide), fun p2 n2 => ?_⟩
    have n12 : p1 ≠ p2 := ne_of_none upd_same n2
    have hcl := cutV_length (ns.map V.int) (some k) (some (k + 1))
    rw [List.length_map] at hcl
    refine ⟨p1, p2, cutV (ns.map V.int) (some k) (some (k + 1)), [.int 0], rfl, rfl, (by rw [upd_ne n12, upd_same]), upd_same, ?_, fun p3 n3 => ?_⟩
    · show _ + 1 ≤ sizeLine
      exact Nat.le_trans (by omega : _ ≤ 64) (by decide)
    obtain ⟨c, hc⟩ := head_int _ (cut_int ns (some k) (some (k + 1)))
    refine ⟨p3, _, 0, .int c, rfl, rfl, SqL.of upd_same, hc, ?_⟩
    refine ⟨_, rfl, _, _, rfl, rfl, (by show (0 : Int) < 2147483647; decide), _, rfl, _, _, rfl, rfl, .inl ⟨by decide, by decide⟩, _, _, rfl, rfl, _, _, rfl, rfl, _, _, rfl, rfl, .inr ⟨by decide, by decide⟩, _, _, rfl, rfl, (by show (0 : Int) < 2147483629; decide), ?_⟩
    refine ⟨_, rfl, _, _, rfl, rfl, ⟨by decide, by decide, by decide⟩, _, _, rfl, rfl, .inr ⟨_, rfl, _, rfl, _, _, rfl, rfl, .inl ?_, _, rfl, (by show 2 ≤ sizeLine; decide), fun p4 n4 => ?_⟩⟩
    · cases decide ((10 : Int) ^ (18 : Int).toNat ≤ c) <;> exact ⟨by decide, by decide⟩
    · have s3 := ((Same.new (o := .lst (cutV (ns.map V.int) (some k) (some (k + 1)))) n1).trans (Same.new (o := .lst [.int 0]) n2)).trans (Same.new (o := .lst (cutV (ns.map V.int) (some k) (some (k + 1)) ++ [.int 0])) n3)
      refine q p4 _ _ _ (s3.free n4) upd_same (s3.trans (Same.new n4)) ?_ (Int.emod_nonneg _ (by decide)) ?_
      · cases hd : decide ((10 : Int) ^ (18 : Int).toNat ≤ c) with
        | true =>
          have := of_decide_eq_true hd
          have h10 : (0 : Int) ≤ 10 ^ (18 : Int).toNat := by decide
          show 0 ≤ 1 * c
          omega
        | false => show 0 ≤ 0 * c; omega
      · have := Int.emod_lt_of_pos ((c % 2147483647 + 7919 * k + 1) * 48271) (show (0 : Int) < 2147483629 by decide)
        omega
end
end My
namespace My
open PySem L2 U StX PM
section
variable {P : Program} {w : World} {K : PySem.W.Frag} {mg : Str → Option Value} {base : Heap}
def rowOk (n : Int) (p : Int × Int) : Bool := inR (.int p.1) 0 (n - 1) && inR (.int p.2) 0 (n - 1)
def okArr (n : Int) (l : List (Int × Int)) : Bool := l.all (rowOk n) && decide (l.map (·.2)).Nodup
def tgt (l : List (Int × Int)) : List (Key × V) := l.map fun p => (Sum.inl p.2, V.bl true)
theorem tgt_key {l : List (Int × Int)} {y : Int} : (Sum.inl y : Key) ∈ (tgt l).map (·.1) ↔ y ∈ l.map (·.2) := by
  unfold tgt
  rw [List.map_map]
  constructor
  · intro h
    obtain ⟨p, hp, e⟩ := List.mem_map.mp h
    exact List.mem_map.mpr ⟨p, hp, Sum.inl.inj e⟩
  · intro h
    obtain ⟨p, hp, e⟩ := List.mem_map.mp h
    exact List.mem_map.mpr ⟨p, hp, congrArg Sum.inl e⟩
theorem tgt_val {l : List (Int × Int)} {y : Int} : (valV (tgt l) (Sum.inl y : Key)).isSome = decide (y ∈ l.map (·.2)) := by
  by_cases h : y ∈ l.map (·.2)
  · have h' := tgt_key.mpr h
    rw [decide_eq_true h]
    cases e : valV (tgt l) (Sum.inl y : Key) with
    | some v => rfl
    | none =>
      obtain ⟨p, hp, e2⟩ := List.mem_map.mp h'
      exfalso
      unfold valV at e
      rw [Option.map_eq_none_iff, List.find?_eq_none] at e
      exact e p hp (by simp [e2])
  · rw [decide_eq_false h, valV_none fun z => h (tgt_key.mp z)]
    rfl
theorem okArr_step {n : Int} {l : List (Int × Int)} {i : Nat} {p : Int × Int} (h : l[i]? = some p) : okArr n (l.take (i + 1)) = (okArr n (l.take i) && (rowOk n p && !decide (p.2 ∈ (l.take i).map (·.2)))) := by
  rw [take_more h]
  unfold okArr
  rw [List.all_append, List.map_append]
  have e : decide (((l.take i).map (·.2) ++ [p].map (·.2)).Nodup) = (decide ((l.take i).map (·.2)).Nodup && !decide (p.2 ∈ (l.take i).map (·.2))) := by
    rw [Bool.eq_iff_iff]
    simp only [decide_eq_true_eq, Bool.and_eq_true, Bool.not_eq_true', decide_eq_false_iff_not]
    rw [List.nodup_append]
    constructor
    · rintro ⟨h1, _, h2⟩
      exact ⟨h1, fun hm => h2 _ hm _ (by simp) rfl⟩
    · rintro ⟨h1, h2⟩
      refine ⟨h1, by simp, fun a ha b hb e => ?_⟩
      simp at hb
      subst hb
      exact h2 (e ▸ ha)
  rw [e]
  simp only [List.all_cons, List.all_nil, Bool.and_true]
  cases (l.take i).all (rowOk n) <;> cases rowOk n p <;> cases decide ((l.take i).map (·.2)).Nodup <;> simp
theorem okArr_cut {n : Int} {l : List (Int × Int)} {i : Nat} (h : okArr n (l.take i) = false) : okArr n l = false := by
  cases e : okArr n l with
  | false => rfl
  | true =>
    unfold okArr at e h
    rw [Bool.and_eq_true] at e
    have h1 : (l.take i).all (rowOk n) = true := by
      rw [List.all_eq_true] at e ⊢
      exact fun p hp => e.1 p (List.mem_of_mem_take hp)
    have h2 : ((l.take i).map (·.2)).Nodup := by
      have := of_decide_eq_true e.2
      rw [List.map_take]
      exact List.Sublist.nodup (List.take_sublist _ _) this
    rw [h1, decide_eq_true h2] at h
    cases h
def spArr : Sp := fun vs H Q _ => ∃ (n : Int) (d : Addr) (l : List (Int × Int)), vs = [.int n, .ref d] ∧ H d = some (.dK (kvI l)) ∧ l.length ≤ 1000 ∧ ∀ H', Same H H' → Q (.bl (okArr n l)) H'
theorem ok_are_arrows (T : Txt K mg) : FnR P w K mg base CX0 3 T.f_are_arrows spArr := by
  refine T.A_are_arrows.ok sc_are_arrows (fun vs H Q E h => ?_) (fun cdv A outer s H vs Q E hr h => ?_)
  · obtain ⟨n, d, l, rfl, _⟩ := h
    rfl
  · obtain ⟨n, d, l, rfl, hd, hl, q⟩ := h
    have hu := hu_of hr
    refine ⟨_, pss_cons (ps_if (pt_not (pt_val (pe_callB call_isi (by rfl) T.n_isinstance (by decide +kernel) (pa_cons (pv 1) (pa_cons (pe_bltn (v := .ty "dict") (u := .type "dict") (by rfl) T.n_dict (by decide +kernel) rfl) pa_nil))))) (pss_one (ps_ret pe_bl)) pss_nil)
      (pss_cons (ps_set (i := 2) sc_are_arrows.nd rfl (Or.inl rfl) pe_dnewK)
      (pss_cons (ps_lock (ps_for PassesOwn.never rfl (pi_items (pv 1)) (pg_tup rfl (pgs_cons (pg_name (i := 3) sc_are_arrows.nd rfl (Or.inl rfl)) (pgs_cons (pg_name (i := 4) sc_are_arrows.nd rfl (Or.inl rfl)) pgs_nil)))
        (pss_cons (ps_if (PW.pt (pw_or (pt_not (pt_val (pe_callR (ok_in_range T) hr T.A_in_range.kp rfl T.g_in_range pass0 (pa_cons (pv 3) (pa_cons pe_int (pa_cons (pe_op op_sub (pv 0) pe_int) pa_nil))))))
            (pw_or (pt_not (pt_val (pe_callR (ok_in_range T) hr T.A_in_range.kp rfl T.g_in_range pass0 (pa_cons (pv 4) (pa_cons pe_int (pa_cons (pe_op op_sub (pv 0) pe_int) pa_nil))))))
            (pw_or1 (pt_cmp (pc_din hu (pv 4) (pv 2))))))) (pss_one (ps_ret pe_bl)) pss_nil)
        (pss_one (ps_dput hu (pv 2) (pv 4) pe_bl rfl)))))
      (pss_one (ps_ret pe_bl)))), ?_⟩
    refine ⟨_, rfl, _, _, _, _, true, rfl, .ty _, .base (.dK hd), kit_ty (by decide +kernel), _, rfl, ?_⟩
    refine iteF ?_
    intro t ht
    have ntd : t ≠ d := fun e => by rw [e, hd] at ht; cases ht
    have hd1 : (upd H t (.dK [])) d = some (.dK (kvI l)) := by rw [upd_ne ntd.symm]; exact hd
    refine ⟨d, _, hd1, trivial, fun od => ?_⟩
    refine ⟨_, rfl, d, od, kvI l, rfl, upd_same, ?_⟩
    refine for_it walk_items (fun i σ H' => ∃ v3 v4, σ = [some (.int n), some (.ref d), some (.ref t), v3, v4] ∧ H' d = some (.frz od (.dK (kvI l))) ∧ Off d H H' ∧ H' t = some (.dK (tgt (l.take i))) ∧ okArr n (l.take i) = true)
      ⟨none, none, rfl, upd_same, (Off.new ht).tr Off.lock, (by rw [upd_ne ntd]; exact upd_same), rfl⟩ (fun i σ H' _ ⟨_, _, _, p, _⟩ => p) ?_ ?_
    · rintro i v σ H' H'' hi ⟨v3, v4, rfl, p1, p2, p3, p4⟩ ⟨U, a, b, rfl, hU, rfl, e1, e2⟩
      rw [kvI_length] at hi
      obtain ⟨⟨x, y⟩, exy⟩ : ∃ p, l[i]? = some p := ⟨_, List.getElem?_eq_getElem hi⟩
      have ek : (kvI l)[i]? = some (Sum.inl x, V.int y) := by unfold kvI; rw [List.getElem?_map, exy]; rfl
      dsimp only at e1 e2
      rw [ek] at e1 e2
      cases e1; cases e2
      have nUd : d ≠ U := ne_of_none p1 hU
      have nUt : t ≠ U := ne_of_none p3 hU
      have d3 : (upd H' U (.tup [kV (Sum.inl x), .int y])) d = some (.frz od (.dK (kvI l))) := by rw [upd_ne nUd]; exact p1
      have t3 : (upd H' U (.tup [kV (Sum.inl x), .int y])) t = some (.dK (tgt (l.take i))) := by rw [upd_ne nUt]; exact p3
      have o3 : Off d H (upd H' U (.tup [kV (Sum.inl x), .int y])) := p2.tr (Off.new hU)
      have bad : (rowOk n (x, y) && !decide (y ∈ (l.take i).map (·.2))) = false → Q (.bl false) (upd (upd H' U (.tup [kV (Sum.inl x), .int y])) d (.dK (kvI l))) := by
        intro hb
        have h1 := okArr_step (n := n) exy
        rw [p4, hb] at h1
        have := q _ (o3.back hd)
        rw [okArr_cut h1] at this
        exact this
      refine ⟨U, [.int x, .int y], rfl, SqT.of upd_same, rfl, .int x, [.int y], rfl, .int y, [], rfl, rfl, ?_⟩
      refine ⟨_, rfl, _, rfl, _, _, rfl, rfl, .int x, 0, n - 1, rfl, trivial, _, rfl, ?_⟩
      refine ifNB (fun hc => iteT ⟨d3, bad ?_⟩) (fun hc => ?_)
      · simp [rowOk, hc]
      refine ⟨_, rfl, _, rfl, _, _, rfl, rfl, .int y, 0, n - 1, rfl, trivial, _, rfl, ?_⟩
      refine ifNB (fun hc2 => iteT ⟨d3, bad ?_⟩) (fun hc2 => ?_)
      · simp [rowOk, hc2]
      refine ⟨_, rfl, _, rfl, t, _, rfl, DGet.k (k := Sum.inl y) t3, _, rfl, ?_⟩
      rw [tgt_val]
      refine ifD (fun hm => ⟨d3, bad ?_⟩) (fun hm => ?_)
      · rw [decide_eq_true hm]; simp
      have hlen : (tgt (l.take i)).length ≤ 1000 := by unfold tgt; rw [List.length_map, List.length_take]; omega
      refine ⟨_, rfl, _, rfl, t, _, rfl, DPut.k (k := Sum.inl y) t3 (small1000 hlen), ?_⟩
      refine ⟨_, _, rfl, ?_, o3.mut ht, ?_, ?_⟩
      · rw [upd_ne ntd.symm]; exact d3
      · rw [upd_same, putK_new _ (valV_none fun z => hm (tgt_key.mp z)), take_more exy]
        unfold tgt
        rw [List.map_append]
        rfl
      · rw [okArr_step exy, p4, decide_eq_false hm]
        simp [rowOk, hc, hc2]
    · rintro σ H' ⟨v3, v4, rfl, p1, p2, p3, p4⟩
      rw [kvI_length, List.take_length] at p4
      have := q _ (p2.back hd)
      rw [p4] at this
      exact ⟨p1, this⟩
end
end My
namespace My
open PySem L2 U StX PM
section
variable {P : Program} {w : World} {K : PySem.W.Frag} {mg : Str → Option Value} {base : Heap}
theorem ne_fld : ¬ (("own_size" : Str) = "own_arrows") := by decide +kernel
/-- a map's attributes -/
def flds (n : Int) (D : Addr) : List (Str × V) := putF "own_arrows" (.ref D) (putF "own_size" (.int n) [])
theorem flds_size (n : Int) (D : Addr) : (flds n D).lookup ("own_size" : Str) = some (.int n) := by
  unfold flds
  rw [lookup_putF, if_neg ne_fld, lookup_putF, if_pos rfl]
theorem flds_arrows (n : Int) (D : Addr) : (flds n D).lookup ("own_arrows" : Str) = some (.ref D) := by
  unfold flds
  rw [lookup_putF, if_pos rfl]
theorem flds_no (n : Int) (D : Addr) {m : Str} (h1 : ¬ m = "own_arrows") (h2 : ¬ m = "own_size") : (flds n D).lookup m = none := by
  unfold flds
  rw [lookup_putF, if_neg h1, lookup_putF, if_neg h2]
  all_goals rfl
/-- a Map of n elements stands at m: the map f -/
structure IsMap (C : Addr) (H : Hp) (m : Addr) (n : Int) (f : PF) : Prop where
  ob : ∃ dx D, H m = some (.ins C dx (flds n D)) ∧ H D = some (.dK (kvI (tab n f)))
  wf : WF n f
  lo : 1 ≤ n
  hi : n ≤ 300
theorem IsMap.same {C : Addr} {H H' : Hp} {m : Addr} {n : Int} {f : PF} (a : IsMap C H m n f) (s : Same H H') : IsMap C H' m n f := by
  obtain ⟨⟨dx, D, h1, h2⟩, wf, lo, hi⟩ := a
  exact ⟨⟨dx, D, s _ _ h1, s _ _ h2⟩, wf, lo, hi⟩
theorem okArr_of {n : Int} {l : List (Int × Int)} {f : PF} (d : DI l f) (w : WF n f) : okArr n l = true := by
  unfold okArr
  rw [Bool.and_eq_true]
  refine ⟨List.all_eq_true.mpr fun p hp => ?_, decide_eq_true (d.vals w)⟩
  obtain ⟨x, y⟩ := p
  have h := w.dom x y (d.mem.mp hp)
  simp only [rowOk, inR, Bool.and_eq_true, decide_eq_true_eq]
  omega
theorem madeR_tab {l : List (Int × Int)} {f : PF} (d : DI l f) (n : Nat) : madeR (fun k => (lk l k).isSome) (fun x => x) (fun k => ((lk l k).map V.int).getD .non) n = kvI (tabN f n) := by
  induction n with
  | zero => rfl
  | succ n ih =>
    rw [madeR_succ, ih]
    have e : tabN f (n + 1) = tabN f n ++ ((f (n : Int)).map fun y => ((n : Int), y)).toList := by
      unfold tabN
      rw [List.range_succ, List.filterMap_append]
      cases h : f (n : Int) <;> simp [h]
    rw [e, d.at_]
    cases h : f (n : Int) with
    | none => simp
    | some y => simp [kvI]
def spInit (C : Addr) : Sp := fun vs H Q _ => ∃ (p dx d : Addr) (n : Int) (l : List (Int × Int)) (f : PF), vs = [.ref p, .int n, .ref d] ∧ H p = some (.ins C dx []) ∧ H d = some (.dK (kvI l)) ∧ DI l f ∧ WF n f ∧ 1 ≤ n ∧ n ≤ 300 ∧ l.length ≤ 1000 ∧
  ∀ (H' : Hp) (D : Addr), Off p H H' → H D = none → H' p = some (.ins C dx (flds n D)) → H' D = some (.dK (kvI (tab n f))) → Q .non H'
theorem ok_init (T : Txt K mg) : FnR P w K mg base CX0 4 T.f_Map__init (spInit T.C_Map) := by
  refine T.A_Map__init.ok sc_Map__init (fun vs H Q E h => ?_) (fun cdv A outer s H vs Q E hr h => ?_)
  · obtain ⟨p, dx, d, n, l, f, rfl, _⟩ := h
    rfl
  · obtain ⟨p, dx, d, n, l, f, rfl, hp, hd, di, wf, h1, h3, hl, q⟩ := h
    have hu := hu_of hr
    obtain ⟨tk, hms⟩ := T.v_MAX_SIZE
    refine ⟨_, pss_cons (ps_if (pt_not (pt_val (pe_callR (ok_in_range T) (hr.mono (by decide)) T.A_in_range.kp rfl T.g_in_range pass0 (pa_cons (pv 1) (pa_cons pe_int (pa_cons (pe_glob (v := .int 300) rfl hms ⟨_, rfl⟩) pa_nil)))))) (pss_one ps_never) pss_nil)
      (pss_cons (ps_if (pt_not (pt_val (pe_callR (ok_are_arrows T) hr T.A_are_arrows.kp rfl T.g_are_arrows pass0 (pa_cons (pv 1) (pa_cons (pv 2) pa_nil))))) (pss_one ps_never) pss_nil)
      (pss_cons (ps_fld (pv 0) (pv 1) rfl)
      (pss_one (ps_fld (pv 0) (pe_dc (own := [("source", 3)]) (g := gName 3) rfl sc_Map__init.nd (pi_range1 rfl T.n_range (pa_cons (pv 1) pa_nil)) (blkOk_by (own := [("source", 3)]) (N := n_Map__init) (sc := defScope s_Map__init) (by decide +kernel))
        (fun _ _ _ _ _ => pg_name (i := 3) sc_Map__init.nd rfl (Or.inl rfl)) (fun _ _ _ _ _ => pts_one (pt_cmp (pc_din hu (pv 3) (pv 2)))) (fun _ _ _ _ _ => pv 3) (fun _ _ _ _ _ => pe_dget hu (pv 2) (pv 3) (fun _ _ => rfl))) rfl)))), ?_⟩
    refine ⟨_, rfl, .int n, 1, 300, rfl, trivial, _, rfl, ?_⟩
    have e1 : inR (.int n) 1 300 = true := by simp [inR, h1, h3]
    rw [e1]
    refine iteF ⟨_, rfl, _, rfl, n, d, l, rfl, hd, hl, fun H1 s1 => ⟨_, rfl, ?_⟩⟩
    rw [okArr_of di wf]
    refine iteF ?_
    have hp1 := s1 _ _ hp
    have npd : p ≠ d := ne_of hp hd (by intro z; cases z)
    refine ⟨_, rfl, _, rfl, p, T.C_Map, dx, [], rfl, hp1, T.o_Map.cl, T.na_own_size_Map, (by show 0 < 1000; decide), ?_⟩
    have hd1 : (upd H1 p (.ins T.C_Map dx (putF "own_size" (.int n) []))) d = some (.dK (kvI l)) := by rw [upd_ne npd.symm]; exact s1 _ _ hd
    dsimp only [sFld]
    refine dc_range (n := n.toNat) (fun k => (lk l k).isSome) (fun k => ((lk l k).map V.int).getD .non) (fun R r => ⟨_, rfl, n, rfl, by omega, by omega, r⟩) (fun _ => rfl) ?_ (small1000 (by omega)) ?_
    · intro k hk H2 s2
      have hd2 := s2 _ _ hd1
      refine ⟨fun R r => ?_, fun hc => ⟨fun R r => ?_, fun R r => ?_⟩⟩
      · refine ⟨_, rfl, _, rfl, d, _, rfl, DGet.k (k := Sum.inl (0 + (k : Int))) hd2, _, rfl, ?_⟩
        rw [valV_kvI, Option.isSome_map, Int.zero_add]
        exact r
      · refine ⟨_, rfl, ?_⟩
        rw [Int.zero_add]
        exact r
      · cases hv : lk l (k : Int) with
        | none => rw [hv] at hc; cases hc
        | some y =>
          rw [hv] at r
          refine ⟨_, rfl, _, rfl, d, .int y, rfl, ?_, r⟩
          have := DGet.k (k := Sum.inl (0 + (k : Int))) hd2
          rw [valV_kvI, Int.zero_add, hv] at this
          rw [Int.zero_add]
          exact this
    · intro D H2 nD hD s2
      rw [madeR_tab di] at hD
      have hp2 := s2 _ _ (upd_same : (upd H1 p (.ins T.C_Map dx (putF "own_size" (.int n) []))) p = _)
      refine ⟨_, rfl, p, T.C_Map, dx, _, rfl, hp2, T.o_Map.cl, T.na_own_arrows_Map, (by show 1 < 1000; decide), ?_⟩
      have nDp : D ≠ p := fun e => by rw [e, upd_same] at nD; cases nD
      have nD1 : H1 D = none := by rw [upd_ne nDp] at nD; exact nD
      refine q _ D (fun b o hb e => ?_) (s1.free nD1) upd_same ?_
      · rw [upd_ne hb]
        refine s2 _ _ ?_
        rw [upd_ne hb]
        exact s1 _ _ e
      · rw [upd_ne nDp]
        exact hD
end
end My
namespace My
open PySem L2 U StX PM
/-! ### what a comprehension over pairs of ints makes -/
def madeI (c : Int → Int → Bool) (kf vi : Int → Int → Int) (l : List (Int × Int)) : List (Int × Int) := (l.filter fun p => c p.1 p.2).map fun p => (kf p.1 p.2, vi p.1 p.2)
theorem madeD_I (c : Int → Int → Bool) (kf vi : Int → Int → Int) (l : List (Int × Int)) : madeD c kf (fun x y => .int (vi x y)) l = kvI (madeI c kf vi l) := by
  unfold madeD madeI kvI
  rw [List.map_map]
  rfl
theorem kvI_keys (l : List (Int × Int)) : (kvI l).map (·.1) = (l.map (·.1)).map Sum.inl := by
  unfold kvI
  rw [List.map_map, List.map_map]
  rfl
theorem nd_inl {l : List Int} (h : l.Nodup) : (l.map (Sum.inl : Int → Key)).Nodup := by
  induction l with
  | nil => exact List.nodup_nil
  | cons a r ih =>
    rw [List.nodup_cons] at h
    rw [List.map_cons, List.nodup_cons]
    refine ⟨fun hm => ?_, ih h.2⟩
    obtain ⟨b, hb, e⟩ := List.mem_map.mp hm
    exact h.1 (Sum.inl.inj e ▸ hb)
theorem mem_madeI {c : Int → Int → Bool} {kf vi : Int → Int → Int} {l : List (Int × Int)} {a b : Int} : (a, b) ∈ madeI c kf vi l ↔ ∃ x y, (x, y) ∈ l ∧ c x y = true ∧ kf x y = a ∧ vi x y = b := by
  unfold madeI
  rw [List.mem_map]
  constructor
  · rintro ⟨⟨x, y⟩, h, e⟩
    have h1 := List.mem_filter.mp h
    cases e
    exact ⟨x, y, h1.1, h1.2, rfl, rfl⟩
  · rintro ⟨x, y, h1, h2, rfl, rfl⟩
    exact ⟨(x, y), List.mem_filter.mpr ⟨h1, h2⟩, rfl⟩
theorem madeI_len (c : Int → Int → Bool) (kf vi : Int → Int → Int) (l : List (Int × Int)) : (madeI c kf vi l).length ≤ l.length := by
  unfold madeI
  rw [List.length_map]
  exact List.length_filter_le _ _
/-- the targets for sources -/
theorem nd_tgt {c : Int → Int → Bool} {vi : Int → Int → Int} {l : List (Int × Int)} (h : (l.map (·.2)).Nodup) : ((madeI c (fun _ y => y) vi l).map (·.1)).Nodup := by
  unfold madeI
  rw [List.map_map]
  exact List.Sublist.nodup ((List.filter_sublist (p := fun p : Int × Int => c p.1 p.2)).map (·.2)) h
section
variable {P : Program} {w : World} {K : PySem.W.Frag} {mg : Str → Option Value} {base : Heap}
theorem mk_map {C : Addr} {H : Hp} {d : Addr} {n : Int} {l : List (Int × Int)} {f : PF} {Q : VK} {E : XK} (hd : H d = some (.dK (kvI l))) (di : DI l f) (wf : WF n f) (h1 : 1 ≤ n) (h3 : n ≤ 300) (hl : l.length ≤ 1000)
    (q : ∀ r H', H r = none → Same H H' → IsMap C H' r n f → Q (.ref r) H') (x dx : Addr) (hx : H x = none) (hdx : H dx = none) (ne : dx ≠ x) :
    spInit C [.ref x, .int n, .ref d] (upd (upd H dx (.own x)) x (.ins C dx [])) (fun v H2 => v = .non ∧ Q (.ref x) H2) E := by
  have s0 : Same H (upd (upd H dx (.own x)) x (.ins C dx [])) := fun b o e => by
    rw [upd_ne (ne_of_none e hx), upd_ne (ne_of_none e hdx)]
    exact e
  refine ⟨x, dx, d, n, l, f, rfl, upd_same, s0 _ _ hd, di, wf, h1, h3, hl, fun H' D o nD hp hD => ⟨rfl, ?_⟩⟩
  refine q x H' hx (fun b u e => o b u (ne_of_none e hx) (s0 b u e)) ⟨⟨dx, D, hp, hD⟩, wf, h1, h3⟩
/-! ### size, arrows, common_size -/
def spSize (C : Addr) : Sp := fun vs H Q _ => ∃ m n f, vs = [.ref m] ∧ IsMap C H m n f ∧ Q (.int n) H
theorem ok_size (T : Txt K mg) : FnR P w K mg base CX0 1 T.f_Map_size (spSize T.C_Map) := by
  refine T.A_Map_size.ok sc_Map_size (fun vs H Q E h => ?_) (fun cdv A outer s H vs Q E hr h => ?_)
  · obtain ⟨m, n, f, rfl, _⟩ := h
    rfl
  · obtain ⟨m, n, f, rfl, ⟨⟨dx, D, h1, h2⟩, _⟩, q⟩ := h
    refine ⟨_, pss_one (ps_ret (pe_fld (pv 0) rfl)), ?_⟩
    exact ⟨_, rfl, m, _, dx, _, _, rfl, h1, T.o_Map.cl, T.na_own_size_Map, flds_size _ _, q⟩
def spArrows (C : Addr) : Sp := fun vs H Q _ => ∃ m n f, vs = [.ref m] ∧ IsMap C H m n f ∧ ∀ p, H p = none → Q (.ref p) (upd H p (.dK (kvI (tab n f))))
theorem ok_arrows (T : Txt K mg) : FnR P w K mg base CX0 1 T.f_Map_arrows (spArrows T.C_Map) := by
  refine T.A_Map_arrows.ok sc_Map_arrows (fun vs H Q E h => ?_) (fun cdv A outer s H vs Q E hr h => ?_)
  · obtain ⟨m, n, f, rfl, _⟩ := h
    rfl
  · obtain ⟨m, n, f, rfl, ⟨⟨dx, D, h1, h2⟩, _⟩, q⟩ := h
    refine ⟨_, pss_one (ps_ret (pe_callTy call_dictD (by rfl) T.n_dict (by decide +kernel) (pa_cons (pe_fld (pv 0) rfl) pa_nil))), ?_⟩
    exact ⟨_, rfl, m, _, dx, _, _, rfl, h1, T.o_Map.cl, T.na_own_arrows_Map, flds_arrows _ _, D, _, rfl, Rd.of h2, q⟩
theorem at_map {C : Addr} {H : Hp} {m : Addr} {n : Int} {f : PF} (h : IsMap C H m n f) : ∃ dx fs, H m = some (.ins C dx fs) := by
  obtain ⟨⟨dx, D, h1, _⟩, _⟩ := h
  exact ⟨dx, _, h1⟩
/-! ### the operators -/
end
end My
namespace My
open PySem L2 U StX PM
section
variable {P : Program} {w : World} {K : PySem.W.Frag} {mg : Str → Option Value} {base : Heap}
/-! ### ~f -/
theorem inv_di {n : Int} {f : PF} (wf : WF n f) : DI (madeI (fun _ _ => true) (fun _ y => y) (fun x _ => x) (tab n f)) (inv n f) := by
  refine di_of (nd_tgt (vals_tab wf)) fun a b => ?_
  rw [mem_madeI, inv_iff wf]
  constructor
  · rintro ⟨x, y, h1, _, rfl, rfl⟩
    exact (mem_tab wf).mp h1
  · intro h
    exact ⟨b, a, (mem_tab wf).mpr h, rfl, rfl, rfl⟩
/-! ### f & g, f - g -/
end
end My
namespace My
open PySem L2 U StX PM
section
variable {P : Program} {w : World} {K : PySem.W.Frag} {mg : Str → Option Value} {base : Heap}
def spChk : Sp := fun vs H Q _ => ∃ n : Int, vs = [.int n] ∧ 1 ≤ n ∧ n ≤ 300 ∧ Q .non H
theorem ok_check_size (T : Txt K mg) : FnR P w K mg base CX0 3 T.f_check_size spChk := by
  refine T.A_check_size.ok sc_check_size (fun vs H Q E h => ?_) (fun cdv A outer s H vs Q E hr h => ?_)
  · obtain ⟨n, rfl, _⟩ := h
    rfl
  · obtain ⟨n, rfl, h1, h3, q⟩ := h
    obtain ⟨tk, hms⟩ := T.v_MAX_SIZE
    refine ⟨_, pss_one (ps_if (pt_not (pt_val (pe_callR (ok_in_range T) hr T.A_in_range.kp rfl T.g_in_range pass0 (pa_cons (pv 0) (pa_cons pe_int (pa_cons (pe_glob (v := .int 300) rfl hms ⟨_, rfl⟩) pa_nil)))))) (pss_one ps_never) pss_nil), ?_⟩
    refine ⟨_, rfl, .int n, 1, 300, rfl, trivial, _, rfl, ?_⟩
    have e1 : inR (.int n) 1 300 = true := by simp [inR, h1, h3]
    rw [e1]
    exact iteF q
theorem di_id (N : Nat) : DI ((List.range N).map fun (i : Nat) => ((i : Int), (i : Int))) (idn (N : Int)) := by
  refine di_of ?_ fun a b => ?_
  · rw [List.map_map]
    have : ∀ n : Nat, ((List.range n).map ((fun p : Int × Int => p.1) ∘ fun (i : Nat) => ((i : Int), (i : Int)))).Nodup := by
      intro n
      induction n with
      | zero => exact List.nodup_nil
      | succ n ih =>
        rw [List.range_succ, List.map_append, List.nodup_append]
        refine ⟨ih, by simp, fun a ha b hb e => ?_⟩
        obtain ⟨i, hi, rfl⟩ := List.mem_map.mp ha
        rw [List.mem_range] at hi
        simp at hb
        have e' : (i : Int) = b := e
        omega
    exact this N
  · rw [List.mem_map]
    unfold idn
    constructor
    · rintro ⟨i, hi, e⟩
      rw [List.mem_range] at hi
      cases e
      rw [if_pos ⟨by omega, by omega⟩]
    · intro h
      split at h
      · rename_i hc
        cases h
        exact ⟨a.toNat, List.mem_range.mpr (by omega), by rw [Int.toNat_of_nonneg hc.1]⟩
      · cases h
theorem madeR_id (N : Nat) : madeR (fun _ => true) (fun x => x) (fun k => .int k) N = kvI ((List.range N).map fun (i : Nat) => ((i : Int), (i : Int))) := by
  unfold madeR kvI
  rw [List.map_map]
  congr 1
  exact List.filter_eq_self.mpr fun _ _ => rfl
def spNew (C : Addr) (op : Int → PF) : Sp := fun vs H Q _ => ∃ n : Int, vs = [.ref C, .int n] ∧ 1 ≤ n ∧ n ≤ 300 ∧ ∀ r H', H r = none → Same H H' → IsMap C H' r n (op n) → Q (.ref r) H'
theorem ok_identity (T : Txt K mg) : FnR P w K mg base CX0 6 T.f_Map_identity (spNew T.C_Map idn) := by
  refine T.A_Map_identity.ok sc_Map_identity (fun vs H Q E h => ?_) (fun cdv A outer s H vs Q E hr h => ?_)
  · obtain ⟨n, rfl, _⟩ := h
    rfl
  · obtain ⟨n, rfl, h1, h3, q⟩ := h
    refine ⟨_, pss_cons (ps_expr (pe_callR (ok_check_size T) (hr.mono (by decide)) T.A_check_size.kp rfl T.g_check_size pass0 (pa_cons (pv 1) pa_nil)))
      (pss_one (ps_ret (pe_makeL (i := 0) T.M_Map (ok_init T) hr rfl (Or.inl rfl) pass0 (pa_cons (pv 1) (pa_cons (pe_dc (own := [("element", 2)]) (g := gName 2) (tt := tYes) rfl sc_Map_identity.nd (pi_range1 rfl T.n_range (pa_cons (pv 1) pa_nil)) (blkOk_by (own := [("element", 2)]) (N := n_Map_identity) (sc := defScope s_Map_identity) (by decide +kernel))
        (fun _ _ _ _ _ => pg_name (i := 2) sc_Map_identity.nd rfl (Or.inl rfl)) (fun _ _ _ _ _ => pts_nil) (fun _ _ _ _ _ => pv 2) (fun _ _ _ _ _ => pv 2)) pa_nil))))), ?_⟩
    refine ⟨_, rfl, n, rfl, h1, h3, rfl, _, rfl, ?_⟩
    refine dc_range (n := n.toNat) (fun _ => true) (fun k => .int k) (fun R r => ⟨_, rfl, n, rfl, by omega, by omega, r⟩) (fun _ => rfl) ?_ (small1000 (by omega)) ?_
    · intro k hk H1 s1
      refine ⟨fun R r => r, fun _ => ⟨fun R r => ⟨_, rfl, ?_⟩, fun R r => ⟨_, rfl, ?_⟩⟩⟩
      · rw [Int.zero_add]; exact r
      · rw [Int.zero_add]; exact r
    · intro D H1 nD hD s1
      rw [madeR_id] at hD
      have e : ((n.toNat : Nat) : Int) = n := Int.toNat_of_nonneg (by omega)
      have di := di_id n.toNat
      rw [e] at di
      refine mk_map hD di (wf_idn n) h1 h3 (by simp; omega) fun r H3 nr s3 hm => ?_
      exact q r H3 (s1.free nr) (s1.trans s3) hm
/-! ### first_clash where there is none, | -/
theorem merge_lk : ∀ (r l : List (Int × Int)), (r.map (·.1)).Nodup → ∃ l', mergeK (kvI l) (kvI r) = kvI l' ∧ l'.length ≤ l.length + r.length ∧ ((l.map (·.1)).Nodup → (l'.map (·.1)).Nodup) ∧ ∀ z, lk l' z = (lk r z).or (lk l z)
  | [], l, _ => ⟨l, rfl, by simp, fun h => h, fun z => rfl⟩
  | (x, y) :: r, l, nd => by
    rw [List.map_cons, List.nodup_cons] at nd
    obtain ⟨l1, e1, n1, d1, k1⟩ := putK_lk (l := l) (x := x) (y := y)
    obtain ⟨l2, e2, n2, d2, k2⟩ := merge_lk r l1 nd.2
    refine ⟨l2, ?_, by simp; omega, fun h => d2 (d1 h), fun z => ?_⟩
    · show mergeK (putK (kvI l) (Sum.inl x) (V.int y)) (kvI r) = _
      rw [e1, e2]
    · rw [k2, k1, lk_cons]
      by_cases h : z = x
      · subst h
        rw [if_pos rfl, if_pos rfl, lk_none nd.1]
        rfl
      · have h' : ¬ x = z := fun q => h q.symm
        rw [if_neg h, if_neg h']
end
end My
namespace My
open PySem L2 U StX PM
section
variable {P : Program} {w : World} {K : PySem.W.Frag} {mg : Str → Option Value} {base : Heap}
theorem dgetI {H : Hp} {d : Addr} {l : List (Int × Int)} {f : PF} (h : H d = some (.dK (kvI l))) (di : DI l f) (x : Int) : DGet H d (.int x) ((f x).map V.int) := by
  have := DGet.k (k := Sum.inl x) h
  rw [valV_kvI, di.2] at this
  exact this
theorem lastI (pre : List Int) (z : Int) : atI ((pre ++ [z]).map V.int) (-1) = some (V.int z) := by
  rw [List.map_append]
  exact atI_last _ _
def spRow : Sp := fun vs H Q _ => ∃ d l n f e, vs = [.ref d, .int e] ∧ H d = some (.dK (kvI l)) ∧ DI l f ∧ WF n f ∧ n ≤ 300 ∧ 0 ≤ e ∧ e < n ∧
  ∀ r H' pre z, H r = none → Same H H' → H' r = some (.lst ((pre ++ [z]).map V.int)) → Row f e (pre ++ [z]) → (f z = none ∨ f z = some e) → Q (.ref r) H'
theorem ok_row_from (T : Txt K mg) : FnR P w K mg base CX0 1 T.f_row_from spRow := by
  refine T.A_row_from.ok sc_row_from (fun vs H Q E h => ?_) (fun cdv A outer s H vs Q E hr h => ?_)
  · obtain ⟨d, l, n, f, e, rfl, _⟩ := h
    rfl
  · obtain ⟨d, l, n, f, e, rfl, hd, di, wf, hn, e0, e1, q⟩ := h
    have hu := hu_of hr
    refine ⟨_, pss_cons (ps_set (i := 2) sc_row_from.nd rfl (Or.inl rfl) (pe_lst (pa_cons (pv 1) pa_nil)))
      (pss_cons (ps_while PassesOwn.never (PW.pt (pw_and (pt_cmp (pc_din hu (pe_ix ix_list (pv 2) (pe_un un_neg pe_int) (fun _ _ => rfl)) (pv 0)))
          (pw_and1 (pt_cmpR op_ne (pe_dget hu (pv 0) (pe_ix ix_list (pv 2) (pe_un un_neg pe_int) (fun _ _ => rfl)) (fun _ _ => rfl)) (pv 1) (nomark _)))))
        (pss_one (ps_expr (pe_bm PySem.F.plainAttrs_list PySem.F.slot_list_append PySem.F.type_list_append mt_append (pv 2) (pa_cons (pe_dget hu (pv 0) (pe_ix ix_list (pv 2) (pe_un un_neg pe_int) (fun _ _ => rfl)) (fun _ _ => rfl)) pa_nil)))))
      (pss_one (ps_ret (pv 2)))), ?_⟩
    refine ⟨_, rfl, (by show 1 ≤ sizeLine; decide), fun r hr0 => ?_⟩
    have row0 : Row f e ([] ++ [e]) := ⟨rfl, fun i a b h1 h2 => by simp at h2⟩
    refine ⟨fun m σ H' => ∃ pre z, σ = [some (.ref d), some (.int e), some (.ref r)] ∧ H' r = some (.lst ((pre ++ [z]).map V.int)) ∧ Same H H' ∧ Row f e (pre ++ [z]) ∧ m = 300 - pre.length, ⟨300, [], e, rfl, upd_same, Same.new hr0, row0, rfl⟩, ?_⟩
    rintro m σ H' ⟨pre, z, rfl, p1, p2, p3, rfl⟩
    have hd' := p2 _ _ hd
    have hlen := len_range (p3.nd wf) (p3.dom wf e0 e1)
    rw [List.length_append, List.length_singleton] at hlen
    refine ⟨_, rfl, 1, rfl, r, _, -1, .int z, rfl, rfl, SqL.of p1, lastI _ _, _, rfl, d, _, rfl, dgetI hd' di z, _, rfl, ?_⟩
    cases hz : f z with
    | none =>
      refine iteF ?_
      refine iteF ?_
      exact ⟨_, rfl, q r H' pre z hr0 p2 p1 p3 (.inl hz)⟩
    | some y =>
      refine iteT ?_
      refine ⟨_, rfl, _, rfl, 1, rfl, r, _, -1, .int z, rfl, rfl, SqL.of p1, lastI _ _, d, .int y, rfl, ?_, _, rfl, rfl, _, rfl, ?_⟩
      · have := dgetI hd' di z
        rw [hz] at this
        exact this
      have nr : d ≠ r := ne_of_none hd hr0
      refine ifN (fun hne => ?_) (fun heq => ?_)
      · have hne' : y ≠ e := fun z => hne (congrArg V.int z)
        have row' := p3.more hz hne'
        have hlen' := len_range (row'.nd wf) (row'.dom wf e0 e1)
        rw [List.length_append, List.length_append, List.length_singleton, List.length_singleton] at hlen'
        refine ⟨fun σ' H2 => ∃ m', m' < 300 - pre.length ∧ _, fun _ _ h => h, ?_⟩
        refine ⟨_, rfl, .inl ⟨rfl, _, SqL.of p1⟩, _, rfl, _, rfl, 1, rfl, r, _, -1, .int z, rfl, rfl, SqL.of p1, lastI _ _, d, .int y, rfl, ?_, r, _, .int y, rfl, rfl, p1, ?_, ?_⟩
        · have := dgetI hd' di z
          rw [hz] at this
          exact this
        · rw [List.length_map, List.length_append, List.length_singleton]
          exact small1000 (by omega)
        · refine ⟨300 - (pre ++ [z]).length, by rw [List.length_append, List.length_singleton]; omega, pre ++ [z], y, rfl, ?_, ?_, row', rfl⟩
          · rw [upd_same, List.map_append (l₁ := pre ++ [z])]
            rfl
          · intro b o h
            rw [upd_ne (ne_of_none h hr0)]
            exact p2 b o h
      · have : y = e := V.int.inj heq
        subst this
        exact ⟨_, rfl, q r H' pre z hr0 p2 p1 p3 (.inr hz)⟩
end
end My
namespace My
open PySem L2 U StX PM
/-! ### comprehensions over values and keys -/
theorem tgt_len (l : List (Int × Int)) (i : Nat) : (tgt (l.take i)).length ≤ l.length := by
  unfold tgt; rw [List.length_map, List.length_take]; omega
theorem dc_vals {d : Addr} {l : List (Int × Int)} {te : TE} {i : Nat} {tt : TT} {tk tv : TE} {vs : List Nat} {σ : L2.St} {H : Hp} {Q : VK}
    (hd : H d = some (.dK (kvI l))) (hte : ∀ H' (R : VK), R (.ref d) H' → Off d H H' → te σ H' R)
    (hw : ∀ a, wipe ((wipe σ vs).set i a) vs = wipe σ vs)
    (ht : ∀ (y : Int) (H1 : Hp) (R : Bool → Hp → Prop), R true H1 → tt ((wipe σ vs).set i (some (.int y))) H1 R) (hk : ∀ (y : Int) (H1 : Hp) (R : VK), R (.int y) H1 → tk ((wipe σ vs).set i (some (.int y))) H1 R) (hv : ∀ (y : Int) (H1 : Hp) (R : VK), R (.bl true) H1 → tv ((wipe σ vs).set i (some (.int y))) H1 R)
    (nd : (l.map (·.2)).Nodup) (hz : l.length < sizeLine)
    (hq : ∀ D H', H D = none → H' D = some (.dK (tgt l)) → L2.Same H H' → Q (.ref D) H') :
    tLockE (tDc (iVals te) (gName i) tt tk tv vs) σ H Q := by
  refine ⟨d, _, hd, trivial, fun od => ?_⟩
  refine hte _ _ ⟨d, od, kvI l, rfl, upd_same, fun D hD => ?_⟩ Off.lock
  have hDd : D ≠ d := fun e => by rw [e, upd_same] at hD; cases hD
  have hD0 : H D = none := by rw [upd_ne hDd] at hD; exact hD
  refine dc_it walk_values (fun k H' => H' d = some (.frz od (.dK (kvI l))) ∧ Off d H H' ∧ H' D = some (.dK (tgt (l.take k)))) ⟨?_, Off.lock.mut hD0, upd_same⟩ (fun k H' _ p => p.1) ?_ ?_
  · rw [upd_ne hDd.symm]; exact upd_same
  · rintro k v H' H'' hk1 ⟨p1, p2, p3⟩ ⟨rfl, kk, e1⟩
    obtain ⟨x, y, exy, rfl, rfl⟩ := kvI_get e1
    refine ⟨hw _, ?_⟩
    refine ht y _ _ ?_
    refine iteT ?_
    refine hk _ _ _ (hv _ _ _ ⟨_, Sum.inl y, rfl, p3, Nat.lt_of_le_of_lt (tgt_len ..) hz, ?_⟩)
    refine ⟨?_, p2.mut hD0, ?_⟩
    · rw [upd_ne hDd.symm]; exact p1
    · have nin : y ∉ (l.take k).map (·.2) := by
        intro hm
        have e2 : l.map (·.2) = (l.take k).map (·.2) ++ (l.drop k).map (·.2) := by rw [← List.map_append, List.take_append_drop]
        rw [e2, List.nodup_append] at nd
        refine nd.2.2 _ hm y (List.mem_map.mpr ⟨(x, y), ?_, rfl⟩) rfl
        refine List.mem_iff_getElem?.mpr ⟨0, ?_⟩
        rw [List.getElem?_drop]
        exact exy
      rw [upd_same, putK_new _ (valV_none fun z => nin (tgt_key.mp z)), take_more exy]
      unfold tgt
      rw [List.map_append]
      rfl
  · rintro H' ⟨p1, p2, p3⟩
    rw [kvI_length, List.take_length] at p3
    refine ⟨p1, hq D _ hD0 ?_ (p2.back hd)⟩
    rw [upd_ne hDd]
    exact p3
theorem lc_keys {d : Addr} {l : List (Int × Int)} {te : TE} {i : Nat} {tt : TT} {tv : TE} {vs : List Nat} {σ : L2.St} {H : Hp} {Q : VK} (c : Int → Bool) (vf : Int → V)
    (hd : H d = some (.dK (kvI l))) (hte : ∀ H' (R : VK), R (.ref d) H' → Off d H H' → te σ H' R)
    (hw : ∀ a, wipe ((wipe σ vs).set i a) vs = wipe σ vs)
    (hb : ∀ (x : Int) (H1 : Hp), Off d H H1 → (∀ R : Bool → Hp → Prop, R (c x) H1 → tt ((wipe σ vs).set i (some (.int x))) H1 R) ∧ (∀ R : VK, R (vf x) H1 → tv ((wipe σ vs).set i (some (.int x))) H1 R))
    (hz : l.length < sizeLine)
    (hq : ∀ D H', H D = none → H' D = some (.lst (madeL (fun x _ => c x) (fun x _ => vf x) l)) → L2.Same H H' → Q (.ref D) H') :
    tLockE (tLc (iKeys te) (gName i) tt tv vs) σ H Q := by
  refine ⟨d, _, hd, trivial, fun od => ?_⟩
  refine hte _ _ ⟨d, od, rfl, .inl ⟨kvI l, upd_same, fun D hD => ?_⟩⟩ Off.lock
  have hDd : D ≠ d := fun e => by rw [e, upd_same] at hD; cases hD
  have hD0 : H D = none := by rw [upd_ne hDd] at hD; exact hD
  refine lc_it walk_keys (fun k H' => H' d = some (.frz od (.dK (kvI l))) ∧ Off d H H' ∧ H' D = some (.lst (madeL (fun x _ => c x) (fun x _ => vf x) (l.take k)))) ⟨?_, Off.lock.mut hD0, upd_same⟩ (fun k H' _ p => p.1) ?_ ?_
  · rw [upd_ne hDd.symm]; exact upd_same
  · rintro k v H' H'' hk1 ⟨p1, p2, p3⟩ ⟨rfl, kk, vv, e1, rfl⟩
    obtain ⟨x, y, exy, rfl, rfl⟩ := kvI_get e1
    refine ⟨hw _, ?_⟩
    obtain ⟨b1, b2⟩ := hb x _ p2
    refine b1 _ ?_
    have st := madeL_step (c := fun x _ => c x) (vf := fun x _ => vf x) exy
    cases hc : c x with
    | true =>
      rw [hc, if_pos rfl] at st
      refine iteT (b2 _ ⟨_, p3, Nat.lt_of_le_of_lt (madeL_len ..) hz, ?_⟩)
      refine ⟨?_, p2.mut hD0, ?_⟩
      · rw [upd_ne hDd.symm]; exact p1
      · rw [upd_same, st]
    | false =>
      rw [hc, if_neg Bool.false_ne_true, List.append_nil] at st
      refine iteF ⟨p1, p2, ?_⟩
      rw [st]
      exact p3
  · rintro H' ⟨p1, p2, p3⟩
    rw [kvI_length, List.take_length] at p3
    refine ⟨p1, hq D _ hD0 ?_ (p2.back hd)⟩
    rw [upd_ne hDd]
    exact p3
/-! ### seen and found -/
def kvB (sl : List Int) : List (Key × V) := sl.map fun x => (Sum.inl x, V.bl true)
theorem kvB_key {sl : List Int} {x : Int} : (Sum.inl x : Key) ∈ (kvB sl).map (·.1) ↔ x ∈ sl := by
  unfold kvB
  rw [List.map_map]
  constructor
  · intro h
    obtain ⟨p, hp, e⟩ := List.mem_map.mp h
    cases Sum.inl.inj e
    exact hp
  · intro h
    exact List.mem_map.mpr ⟨x, h, rfl⟩
theorem kvB_val (sl : List Int) (x : Int) : (valV (kvB sl) (Sum.inl x : Key)).isSome = decide (x ∈ sl) := by
  by_cases h : x ∈ sl
  · rw [decide_eq_true h, ← valV_any, List.any_eq_true]
    exact ⟨(Sum.inl x, V.bl true), List.mem_map.mpr ⟨x, h, rfl⟩, by simp⟩
  · rw [decide_eq_false h, valV_none fun z => h (kvB_key.mp z)]
    rfl
theorem kvB_put (sl : List Int) (x : Int) : ∃ sl', putK (kvB sl) (Sum.inl x : Key) (V.bl true) = kvB sl' ∧ (∀ z, z ∈ sl' ↔ z ∈ sl ∨ z = x) ∧ (sl.Nodup → sl'.Nodup) := by
  by_cases h : x ∈ sl
  · refine ⟨sl, ?_, fun z => ⟨.inl, fun hz => ?_⟩, id⟩
    · unfold putK
      have e : ((kvB sl).any fun kv => decide (kv.1 = (Sum.inl x : Key))) = true := by
        rw [valV_any, kvB_val, decide_eq_true h]
      rw [if_pos e]
      unfold kvB
      rw [List.map_map]
      refine List.map_congr_left fun a _ => ?_
      show (if (Sum.inl a : Key) = Sum.inl x then ((Sum.inl a : Key), V.bl true) else (Sum.inl a, V.bl true)) = _
      split <;> rfl
    · rcases hz with hz | rfl
      · exact hz
      · exact h
  · refine ⟨sl ++ [x], ?_, fun z => by simp, fun nd => ?_⟩
    · rw [putK_new _ (valV_none fun z => h (kvB_key.mp z))]
      unfold kvB
      rw [List.map_append]
      rfl
    · rw [List.nodup_append]
      refine ⟨nd, by simp, fun a ha b hb e => ?_⟩
      simp at hb
      subst hb
      exact h (e ▸ ha)
structure Fnd (n : Int) (f : PF) (k : Nat) (fl : List (Int × Int)) (sl : List Int) : Prop where
  nd : (fl.map (·.1)).Nodup
  at_ : ∀ x, lk fl x = if x ∈ sl then iter f k x else none
  sn : sl.Nodup
  dm : ∀ x ∈ sl, 0 ≤ x ∧ x < n
theorem Fnd.len {n : Int} {f : PF} {k : Nat} {fl : List (Int × Int)} {sl : List Int} (h : Fnd n f k fl sl) : fl.length ≤ n.toNat := by
  have := len_range (n := n) h.nd (fun x hx => by
    obtain ⟨⟨a, b⟩, hp, rfl⟩ := List.mem_map.mp hx
    have e := lk_some h.nd hp
    rw [h.at_] at e
    by_cases hm : a ∈ sl
    · exact h.dm _ hm
    · rw [if_neg hm] at e; cases e)
  rw [List.length_map] at this
  exact this
theorem Fnd.slen {n : Int} {f : PF} {k : Nat} {fl : List (Int × Int)} {sl : List Int} (h : Fnd n f k fl sl) : sl.length ≤ n.toNat := len_range h.sn h.dm
theorem Fnd.put {n : Int} {f : PF} {k : Nat} {fl fl' : List (Int × Int)} {sl sl' : List Int} {x y : Int} (h : Fnd n f k fl sl) (h1 : ∀ z, z ∈ sl' ↔ z ∈ sl ∨ z = x) (h2 : sl.Nodup → sl'.Nodup) (hx : 0 ≤ x ∧ x < n)
    (e : iter f k x = some y) (n1 : (fl.map (·.1)).Nodup → (fl'.map (·.1)).Nodup) (a1 : ∀ z, lk fl' z = if z = x then some y else lk fl z) : Fnd n f k fl' sl' := by
  refine ⟨n1 h.nd, fun z => ?_, h2 h.sn, fun z hz => ?_⟩
  · rw [a1]
    by_cases hz : z = x
    · subst hz
      rw [if_pos rfl, if_pos ((h1 z).mpr (.inr rfl)), e]
    · rw [if_neg hz, h.at_]
      by_cases hs : z ∈ sl
      · rw [if_pos hs, if_pos ((h1 z).mpr (.inl hs))]
      · rw [if_neg hs, if_neg fun q => ((h1 z).mp q).elim hs hz]
  · rcases (h1 z).mp hz with q | rfl
    · exact h.dm z q
    · exact hx
theorem Fnd.skip {n : Int} {f : PF} {k : Nat} {fl : List (Int × Int)} {sl sl' : List Int} {x : Int} (h : Fnd n f k fl sl) (h1 : ∀ z, z ∈ sl' ↔ z ∈ sl ∨ z = x) (h2 : sl.Nodup → sl'.Nodup) (hx : 0 ≤ x ∧ x < n)
    (e : iter f k x = none) : Fnd n f k fl sl' := by
  refine ⟨h.nd, fun z => ?_, h2 h.sn, fun z hz => ?_⟩
  · rw [h.at_]
    by_cases hs : z ∈ sl
    · rw [if_pos hs, if_pos ((h1 z).mpr (.inl hs))]
    · rw [if_neg hs]
      by_cases hz : z = x
      · subst hz
        rw [if_pos ((h1 z).mpr (.inr rfl)), e]
      · rw [if_neg fun q => ((h1 z).mp q).elim hs hz]
  · rcases (h1 z).mp hz with q | rfl
    · exact h.dm z q
    · exact hx
theorem Fnd.di {n : Int} {f : PF} {k : Nat} {fl : List (Int × Int)} {sl : List Int} (h : Fnd n f (k + 1) fl sl) (all : ∀ x y, f x = some y → x ∈ sl) : DI fl (iter f (k + 1)) := by
  refine ⟨h.nd, fun x => ?_⟩
  rw [h.at_]
  by_cases hs : x ∈ sl
  · rw [if_pos hs]
  · rw [if_neg hs, iter_head]
    cases e : f x with
    | none => rfl
    | some y => exact absurd (all x y e) hs
end My
namespace My
open PySem L2 U StX PM
section
variable {P : Program} {w : World} {K : PySem.W.Frag} {mg : Str → Option Value} {base : Heap}
def spMoved : Sp := fun vs H Q _ => ∃ d l n f, ∃ k : Nat, vs = [.ref d, .int ((k + 1 : Nat) : Int)] ∧ H d = some (.dK (kvI l)) ∧ DI l f ∧ WF n f ∧ n ≤ 300 ∧ l.length ≤ 300 ∧
  ∀ r H' l', H r = none → Same H H' → H' r = some (.dK (kvI l')) → DI l' (iter f (k + 1)) → l'.length ≤ 300 → Q (.ref r) H'
theorem get_map {xs : List Int} {i : Nat} {a : Int} (h : xs[i]? = some a) : (xs.map V.int)[i]? = some (V.int a) := by
  rw [List.getElem?_map, h]; rfl
theorem for_cat {K : PySem.W.Frag} {t u : TE} {g : TG} {tb : TS} {D : Ends} {σ : L2.St} {H : Hp} (h : tLockE t σ H (fun x H1 => u σ H1 fun y H2 => rCat x y H2 fun z H3 => ∃ a, z = .ref a ∧ (∃ xs, SqL K H3 a xs) ∧ tFor (fun _ H R => R (Itl K a) H) g tb D σ H3)) :
    tFor (iList K (tOp rCat (tLockE t) u)) g tb D σ H := h
theorem Same.put {H H' : Hp} {p : Addr} {o : HO} (s : Same H H') (h : H p = none) : Same H (upd H' p o) := fun b u e => by rw [upd_ne (ne_of_none e h)]; exact s b u e
theorem at_mod {row : List Int} {j k : Nat} {y : Int} (h : row[(j + k) % row.length]? = some y) : atI (row.map V.int) ((((j : Nat) : Int) + ((k : Nat) : Int)) % (((row.map V.int).length : Nat) : Int)) = some (V.int y) := by
  have e : (((j : Nat) : Int) + ((k : Nat) : Int)) % (((row.map V.int).length : Nat) : Int) = (((j + k) % row.length : Nat) : Int) := by
    rw [List.length_map]
    push_cast
    rfl
  rw [e]
  exact atI_nat (get_map h)
theorem at_add {row : List Int} {j k : Nat} {y : Int} (h : row[j + k]? = some y) : atI (row.map V.int) (((j : Nat) : Int) + ((k : Nat) : Int)) = some (V.int y) := by
  have e : (((j : Nat) : Int) + ((k : Nat) : Int)) = ((j + k : Nat) : Int) := by
    push_cast
    rfl
  rw [e]
  exact atI_nat (get_map h)
theorem srcs {l : List (Int × Int)} {f : PF} (di : DI l f) {c : Int → Bool} {v : V} (h : v ∈ madeL (fun x _ => c x) (fun x _ => V.int x) l ++ (kvI l).map (fun kv => kV kv.1)) : ∃ x y, v = .int x ∧ f x = some y := by
  rcases List.mem_append.mp h with h | h
  · unfold madeL at h
    obtain ⟨⟨x, y⟩, hp, rfl⟩ := List.mem_map.mp h
    exact ⟨x, y, rfl, di.mem.mp (List.mem_filter.mp hp).1⟩
  · unfold kvI at h
    rw [List.map_map] at h
    obtain ⟨⟨x, y⟩, hp, rfl⟩ := List.mem_map.mp h
    exact ⟨x, y, rfl, di.mem.mp hp⟩
theorem srcs_all {l : List (Int × Int)} {f : PF} (di : DI l f) {c : Int → Bool} {x y : Int} (h : f x = some y) : V.int x ∈ madeL (fun x _ => c x) (fun x _ => V.int x) l ++ (kvI l).map (fun kv => kV kv.1) := by
  refine List.mem_append.mpr (.inr ?_)
  unfold kvI
  rw [List.map_map]
  exact List.mem_map.mpr ⟨(x, y), di.mem.mpr h, rfl⟩
theorem ok_moved (T : Txt K mg) : FnR P w K mg base CX0 2 T.f_moved spMoved := by
  refine T.A_moved.ok sc_moved (fun vs H Q E h => ?_) (fun cdv A outer s H vs Q E hr h => ?_)
  · obtain ⟨d, l, n, f, k, rfl, _⟩ := h
    rfl
  · obtain ⟨d, l, n, f, k, rfl, hd, di, wf, hn, hl, q⟩ := h
    have hu := hu_of hr
    refine ⟨_, pss_cons (ps_set (i := 2) sc_moved.nd rfl (Or.inl rfl) pe_dnewK)
      (pss_cons (ps_set (i := 3) sc_moved.nd rfl (Or.inl rfl) pe_dnewK)
      (pss_cons (ps_set (i := 4) sc_moved.nd rfl (Or.inr rfl) (pe_lock (pe_dc (own := [("target", 10)]) (g := gName 10) (tt := tYes) rfl sc_moved.nd (pi_values (pv 0))
          (blkOk_by (own := [("target", 10)]) (N := n_moved) (sc := defScope s_moved) (by decide +kernel))
          (fun _ _ _ _ _ => pg_name (i := 10) sc_moved.nd rfl (Or.inl rfl)) (fun _ _ _ _ _ => pts_nil) (fun _ _ _ _ _ => pv 10) (fun _ _ _ _ _ => pe_bl))))
      (pss_cons (ps_for PassesOwn.never rfl (pi_list (pe_op op_cat (pe_lock (pe_lc (own := [("element", 9)]) (g := gName 9) rfl sc_moved.nd (pi_keys (pv 0))
          (blkOk_by (own := [("element", 9)]) (N := n_moved) (sc := defScope s_moved) (by decide +kernel))
          (fun _ _ _ _ _ => pg_name (i := 9) sc_moved.nd rfl (Or.inl rfl)) (fun _ _ _ _ _ => pts_one (pt_cmp (pc_dnotin hu (pv 9) (pv 4)))) (fun _ _ _ _ _ => pv 9)))
          (pe_callTy (call_list_dK rfl) (by rfl) T.n_list (by decide +kernel) (pa_cons (pv 0) pa_nil)))) (pg_name (i := 5) sc_moved.nd rfl (Or.inl rfl))
        (pss_one (ps_if (pt_cmp (pc_dnotin hu (pv 5) (pv 3)))
          (pss_cons (ps_set (i := 6) sc_moved.nd rfl (Or.inl rfl) (pe_callR (ok_row_from T) hr T.A_row_from.kp rfl T.g_row_from pass0 (pa_cons (pv 0) (pa_cons (pv 5) pa_nil))))
          (pss_cons (ps_set (i := 7) sc_moved.nd rfl (Or.inl rfl) (pe_cmp (pc_din hu (pe_ix ix_list (pv 6) (pe_un un_neg pe_int) (fun _ _ => rfl)) (pv 0))))
          (pss_one (ps_for PassesOwn.never rfl (pi_enum rfl T.n_enumerate (pa_cons (pv 6) pa_nil)) (pg_tup rfl (pgs_cons (pg_name (i := 8) sc_moved.nd rfl (Or.inl rfl)) (pgs_cons (pg_name (i := 9) sc_moved.nd rfl (Or.inl rfl)) pgs_nil)))
            (pss_cons (ps_dput hu (pv 3) (pv 9) pe_bl rfl)
            (pss_one (ps_if (pt_val (pv 7))
              (pss_one (ps_dput hu (pv 2) (pv 9) (pe_ix ix_list (pv 6) (pe_op op_mod (pe_op op_add (pv 8) (pv 1)) (pe_callB call_len_seq (by rfl) T.n_len (by decide +kernel) (pa_cons (pv 6) pa_nil))) (fun _ _ => rfl)) rfl))
              (pss_one (ps_if (pt_cmpR op_lt (pe_op op_add (pv 8) (pv 1)) (pe_callB call_len_seq (by rfl) T.n_len (by decide +kernel) (pa_cons (pv 6) pa_nil)) (nomark _))
                (pss_one (ps_dput hu (pv 2) (pv 9) (pe_ix ix_list (pv 6) (pe_op op_add (pv 8) (pv 1)) (fun _ _ => rfl)) rfl)) pss_nil))))))))) pss_nil)))
      (pss_one (ps_ret (pv 2)))))), ?_⟩
    intro fo hfo
    intro se hse
    have nfs : fo ≠ se := ne_of_none upd_same hse
    have s1 : Same H (upd (upd H fo (.dK [])) se (.dK [])) := (Same.new hfo).trans (Same.new hse)
    have se0 : H se = none := (Same.new hfo).free hse
    have fo1 : (upd (upd H fo (.dK [])) se (.dK [])) fo = some (.dK (kvI [])) := by rw [upd_ne nfs, upd_same]; rfl
    have se1 : (upd (upd H fo (.dK [])) se (.dK [])) se = some (.dK (kvB [])) := upd_same
    have vnd := di.vals wf
    refine dc_vals (s1 _ _ hd) (fun H' R r o => ⟨_, rfl, r⟩) (fun _ => rfl) (fun _ _ _ r => r) (fun _ _ _ r => ⟨_, rfl, r⟩) (fun _ _ _ r => r) vnd (small1000 (by omega)) (fun tg H2 ntg htg s2 => ?_)
    have s12 := s1.trans s2
    have cd : ∀ (x : Int) (H1 : Hp), H1 tg = some (.dK (tgt l)) → DGet H1 tg (.int x) (valV (tgt l) (Sum.inl x)) := fun x H1 h => DGet.k (k := Sum.inl x) h
    have ntd : tg ≠ d := fun e => by rw [e, s1 _ _ hd] at ntg; cases ntg
    dsimp only [tSeq]
    refine for_cat ?_
    refine lc_keys (fun x => !decide (x ∈ l.map (·.2))) (fun x => .int x) (s12 _ _ hd) (fun H' R r o => ⟨_, rfl, r⟩) (fun _ => rfl) (fun x H1 o => ⟨fun R r => ?_, fun R r => ⟨_, rfl, r⟩⟩) (small1000 (by omega)) (fun L1 H3 nL1 hL1 s3 => ?_)
    · refine ⟨_, rfl, _, rfl, tg, _, rfl, cd x H1 (o _ _ ntd htg), _, rfl, ?_⟩
      rw [tgt_val]
      exact r
    have s13 := s12.trans s3
    refine ⟨_, rfl, d, _, rfl, s13 _ _ hd, fun L2 hL2 => ?_⟩
    have hlen1 := madeL_len (fun x _ => !decide (x ∈ l.map (·.2))) (fun x _ => V.int x) l l.length
    rw [List.take_length] at hlen1
    refine ⟨L1, L2, _, _, rfl, rfl, (by rw [upd_ne (ne_of_none hL1 hL2)]; exact hL1), upd_same, ?_, fun L3 hL3 => ?_⟩
    · rw [List.length_map, kvI_length]
      exact Nat.le_trans (by omega : _ ≤ 1000) (by decide)
    have s14 : Same H (upd H3 L2 (.lst ((kvI l).map fun kv => kV kv.1))) := s13.trans (Same.new hL2)
    have L30 : H L3 = none := s14.free hL3
    obtain ⟨S, eS⟩ : ∃ S, S = madeL (fun x _ => !decide (x ∈ l.map (·.2))) (fun x _ => V.int x) l ++ (kvI l).map (fun kv => kV kv.1) := ⟨_, rfl⟩
    have hS1 : ∀ v ∈ S, ∃ x y, v = .int x ∧ f x = some y := fun v hv => srcs di (eS ▸ hv)
    have hS2 : ∀ x y, f x = some y → V.int x ∈ S := fun x y h => eS ▸ srcs_all di h
    rw [← eS]
    refine ⟨L3, rfl, ⟨_, SqL.of upd_same⟩, ?_⟩
    have fo4 : (upd (upd H3 L2 (.lst ((kvI l).map fun kv => kV kv.1))) L3 (.lst S)) fo = some (.dK (kvI [])) := ((s2.trans s3).trans ((Same.new hL2).trans (Same.new hL3))) _ _ fo1
    have se4 : (upd (upd H3 L2 (.lst ((kvI l).map fun kv => kV kv.1))) L3 (.lst S)) se = some (.dK (kvB [])) := ((s2.trans s3).trans ((Same.new hL2).trans (Same.new hL3))) _ _ se1
    have nLf : L3 ≠ fo := fun e => by
      have := ((s2.trans s3).trans (Same.new (o := .lst ((kvI l).map fun kv => kV kv.1)) hL2)) _ _ fo1
      rw [← e, hL3] at this; cases this
    have nLs : L3 ≠ se := fun e => by
      have := ((s2.trans s3).trans (Same.new (o := .lst ((kvI l).map fun kv => kV kv.1)) hL2)) _ _ se1
      rw [← e, hL3] at this; cases this
    refine for_it (walk_list (xs := S)) (fun i σ H' => ∃ v5 v6 v7 v8 v9 v10 fl sl, σ = [some (.ref d), some (.int ((k + 1 : Nat) : Int)), some (.ref fo), some (.ref se), some (.ref tg), v5, v6, v7, v8, v9, v10] ∧ Same H H' ∧ H' L3 = some (.lst S) ∧ H' fo = some (.dK (kvI fl)) ∧ H' se = some (.dK (kvB sl)) ∧ Fnd n f (k + 1) fl sl ∧ ∀ x, V.int x ∈ S.take i → x ∈ sl)
      ⟨none, none, none, none, none, none, [], [], rfl, Same.put s14 L30, upd_same, fo4, se4, ⟨List.nodup_nil, fun _ => rfl, List.nodup_nil, fun _ h => nomatch h⟩, fun x h => by simp at h⟩ (fun i σ H' _ ⟨_, _, _, _, _, _, _, _, _, _, p, _⟩ => SqL.of p) ?_ ?_
    · rintro i v σ H' H'' hi ⟨v5, v6, v7, v8, v9, v10, fl, sl, rfl, p1, p2, p3, p4, p5, p6⟩ ⟨rfl, ev⟩
      obtain ⟨x, y, rfl, hxy⟩ := hS1 v (List.mem_of_getElem? ev)
      have hdx := wf.dom x y hxy
      have hd' := p1 _ _ hd
      refine ⟨_, rfl, _, rfl, se, _, rfl, DGet.k (k := Sum.inl x) p4, _, rfl, ?_⟩
      rw [kvB_val]
      refine ifNB (fun hc => ?_) (fun hc => ?_)
      · refine ⟨_, rfl, _, rfl, d, l, n, f, x, rfl, hd', di, wf, hn, hdx.1, hdx.2.1, fun r H2 pre z hr0 sr hr2 row ho => ?_⟩
        have q1 := p1.trans sr
        refine ⟨_, rfl, 1, rfl, r, _, -1, .int z, rfl, rfl, SqL.of hr2, lastI _ _, _, rfl, d, _, rfl, dgetI (q1 _ _ hd) di z, ?_⟩
        refine ⟨_, rfl, r, _, rfl, SqL.of hr2, ?_⟩
        have r0 : H r = none := p1.free hr0
        have nrL : r ≠ L3 := fun e => by rw [e, p2] at hr0; cases hr0
        have nrf : r ≠ fo := fun e => by rw [e, p3] at hr0; cases hr0
        have nrs : r ≠ se := fun e => by rw [e, p4] at hr0; cases hr0
        have hlast : (pre ++ [z])[(pre ++ [z]).length - 1]? = some z := by simp
        have hpos : 0 < (pre ++ [z]).length := by simp
        refine for_it (walk_enum (xs := (pre ++ [z]).map V.int)) (fun j σ H3 => ∃ v8 v9 fl' sl', σ = [some (.ref d), some (.int ((k + 1 : Nat) : Int)), some (.ref fo), some (.ref se), some (.ref tg), some (.int x), some (.ref r), some (.bl ((f z).map V.int).isSome), v8, v9, v10] ∧ Same H H3 ∧ H3 L3 = some (.lst S) ∧ H3 r = some (.lst ((pre ++ [z]).map V.int)) ∧ H3 fo = some (.dK (kvI fl')) ∧ H3 se = some (.dK (kvB sl')) ∧ Fnd n f (k + 1) fl' sl' ∧ (∀ a ∈ sl, a ∈ sl') ∧ ∀ a ∈ (pre ++ [z]).take j, a ∈ sl')
          ⟨v8, v9, fl, sl, rfl, q1, sr _ _ p2, hr2, sr _ _ p3, sr _ _ p4, p5, fun _ h => h, fun a h => by simp at h⟩ (fun j σ H3 _ ⟨_, _, _, _, _, _, _, p, _⟩ => SqL.of p) ?_ ?_
        · rintro j v σ H3 H4 hj ⟨w8, w9, fl', sl', rfl, t1, t2, t3, t4, t5, t6, t7, t8⟩ ⟨U, a, b, rfl, hU, rfl, e1, e2⟩
          rw [List.length_map] at hj
          obtain ⟨a0, ea⟩ : ∃ a, (pre ++ [z])[j]? = some a := ⟨_, List.getElem?_eq_getElem hj⟩
          dsimp only at e1 e2
          rw [get_map ea] at e2
          cases e1; cases e2
          have hda := row.dom wf hdx.1 hdx.2.1 a0 (List.mem_of_getElem? ea)
          refine ⟨U, [.int (j : Int), .int a0], rfl, SqT.of upd_same, rfl, .int (j : Int), [.int a0], rfl, .int a0, [], rfl, rfl, ?_⟩
          have u1 : Same H (upd H3 U (.tup [.int (j : Int), .int a0])) := t1.trans (Same.new hU)
          have u2 : (upd H3 U (.tup [.int (j : Int), .int a0])) L3 = _ := (Same.new hU) _ _ t2
          have u3 : (upd H3 U (.tup [.int (j : Int), .int a0])) r = _ := (Same.new hU) _ _ t3
          have u4 : (upd H3 U (.tup [.int (j : Int), .int a0])) fo = _ := (Same.new hU) _ _ t4
          have u5 : (upd H3 U (.tup [.int (j : Int), .int a0])) se = _ := (Same.new hU) _ _ t5
          have hsl := t6.slen
          have hfl := t6.len
          refine ⟨_, rfl, _, rfl, se, _, rfl, DPut.k (k := Sum.inl a0) u5 (small1000 (by unfold kvB; rw [List.length_map]; omega)), ?_⟩
          obtain ⟨sl2, es, hs1, hs2⟩ := kvB_put sl' a0
          rw [es]
          obtain ⟨H5, eH5⟩ : ∃ H5, H5 = upd (upd H3 U (.tup [.int (j : Int), .int a0])) se (.dK (kvB sl2)) := ⟨_, rfl⟩
          have w1 : Same H H5 := by rw [eH5]; exact Same.put u1 se0
          have w2 : H5 L3 = some (.lst S) := by rw [eH5, upd_ne nLs]; exact u2
          have w3 : H5 r = some (.lst ((pre ++ [z]).map V.int)) := by rw [eH5, upd_ne nrs]; exact u3
          have w4 : H5 fo = some (.dK (kvI fl')) := by rw [eH5, upd_ne nfs]; exact u4
          have w5 : H5 se = some (.dK (kvB sl2)) := by rw [eH5, upd_same]
          have m1 : ∀ a ∈ sl, a ∈ sl2 := fun a h => (hs1 a).mpr (.inl (t7 a h))
          have m2 : ∀ a ∈ (pre ++ [z]).take (j + 1), a ∈ sl2 := by
            intro a ha
            rw [take_more ea] at ha
            rcases List.mem_append.mp ha with h | h
            · exact (hs1 a).mpr (.inl (t8 a h))
            · simp at h
              exact (hs1 a).mpr (.inr h)
          rw [← eH5]
          refine ⟨_, rfl, _, rfl, ?_⟩
          rcases ho with ho | ho
          · rw [ho]
            refine iteF ?_
            have op := row.openAt hlast hpos ho j a0 ea (k + 1)
            refine ⟨_, rfl, _, rfl, _, _, rfl, rfl, _, rfl, r, _, rfl, .inl (SqL.of w3), _, _, rfl, rfl, _, rfl, ?_⟩
            refine ifD (fun hlt => ?_) (fun hge => ?_)
            · obtain ⟨y2, ey2⟩ : ∃ y2, (pre ++ [z])[j + (k + 1)]? = some y2 := ⟨_, List.getElem?_eq_getElem (by rw [List.length_map] at hlt; omega)⟩
              refine ⟨_, rfl, _, rfl, _, rfl, _, _, rfl, rfl, r, _, _, .int y2, rfl, rfl, SqL.of w3, at_add ey2, _, rfl, _, rfl, fo, _, rfl, DPut.k (k := Sum.inl a0) w4 (small1000 (by rw [kvI_length]; omega)), ?_⟩
              obtain ⟨fl2, ef, _, fn, fa⟩ := putK_lk (l := fl') (x := a0) (y := y2)
              rw [ef]
              rw [ey2] at op
              refine ⟨_, _, fl2, sl2, rfl, Same.put w1 hfo, ?_, ?_, upd_same, ?_, t6.put hs1 hs2 hda op fn fa, m1, m2⟩
              · rw [upd_ne nLf]; exact w2
              · rw [upd_ne nrf]; exact w3
              · rw [upd_ne nfs.symm]; exact w5
            · have : (pre ++ [z])[j + (k + 1)]? = none := List.getElem?_eq_none (by rw [List.length_map] at hge; omega)
              rw [this] at op
              exact ⟨_, _, fl', sl2, rfl, w1, w2, w3, w4, w5, t6.skip hs1 hs2 hda op, m1, m2⟩
          · rw [ho]
            refine iteT ?_
            have cl := row.closedAt hlast hpos ho j a0 ea (k + 1)
            obtain ⟨y2, ey2⟩ : ∃ y2, (pre ++ [z])[(j + (k + 1)) % (pre ++ [z]).length]? = some y2 := ⟨_, List.getElem?_eq_getElem (Nat.mod_lt _ hpos)⟩
            refine ⟨_, rfl, _, rfl, _, rfl, _, _, rfl, rfl, _, rfl, r, _, rfl, .inl (SqL.of w3), _, _, rfl, rfl, ?_, r, _, _, .int y2, rfl, rfl, SqL.of w3, at_mod ey2, _, rfl, _, rfl, fo, _, rfl, DPut.k (k := Sum.inl a0) w4 (small1000 (by rw [kvI_length]; omega)), ?_⟩
            · rw [List.length_map]
              omega
            obtain ⟨fl2, ef, _, fn, fa⟩ := putK_lk (l := fl') (x := a0) (y := y2)
            rw [ef]
            rw [ey2] at cl
            refine ⟨_, _, fl2, sl2, rfl, Same.put w1 hfo, ?_, ?_, upd_same, ?_, t6.put hs1 hs2 hda cl fn fa, m1, m2⟩
            · rw [upd_ne nLf]; exact w2
            · rw [upd_ne nrf]; exact w3
            · rw [upd_ne nfs.symm]; exact w5
        · rintro σ H3 ⟨w8, w9, fl', sl', rfl, t1, t2, t3, t4, t5, t6, t7, t8⟩
          rw [List.length_map, List.take_length] at t8
          refine ⟨_, _, _, _, _, _, fl', sl', rfl, t1, t2, t4, t5, t6, fun a ha => ?_⟩
          rw [take_more ev] at ha
          rcases List.mem_append.mp ha with h | h
          · exact t7 a (p6 a h)
          · simp at h
            subst h
            exact t8 a (List.mem_of_getElem? row.h0)
      · refine ⟨_, _, _, _, _, _, fl, sl, rfl, p1, p2, p3, p4, p5, fun a ha => ?_⟩
        rw [take_more ev] at ha
        rcases List.mem_append.mp ha with h | h
        · exact p6 a h
        · simp at h
          subst h
          exact of_decide_eq_true hc
    · rintro σ H' ⟨v5, v6, v7, v8, v9, v10, fl, sl, rfl, p1, p2, p3, p4, p5, p6⟩
      rw [List.take_length] at p6
      have hfl := p5.len
      exact ⟨_, rfl, q fo H' fl hfo p1 p3 (p5.di fun x y h => p6 x (hS2 x y h)) (by omega)⟩
end
end My
namespace My
open PySem L2 U StX PM
/-! ### f.power(e) -/
def pw (n : Int) (f : PF) (e : Int) : PF := if e = 0 then idn n else if e < 0 then iter (inv n f) e.natAbs else iter f e.natAbs
end My
namespace My
open PySem L2 U StX PM
/-! ### a drawn map -/
structure Drw (n : Int) (i : Nat) (l : List (Int × Int)) (ns : List Int) : Prop where
  kn : (l.map (·.1)).Nodup
  vn : (l.map (·.2)).Nodup
  nn : ns.Nodup
  lt : ∀ p ∈ l, 0 ≤ p.1 ∧ p.1 < i ∧ 0 ≤ p.2 ∧ p.2 < n
  nt : ∀ y ∈ ns, 0 ≤ y ∧ y < n ∧ y ∉ l.map (·.2)
  ln : l.length ≤ i
  le : l.length + ns.length = n.toNat
theorem Drw.more {n : Int} {i : Nat} {l : List (Int × Int)} {ns : List Int} (h : Drw n i l ns) : Drw n (i + 1) l ns := by
  refine ⟨h.kn, h.vn, h.nn, fun p hp => ?_, h.nt, Nat.le_succ_of_le h.ln, h.le⟩
  have := h.lt p hp
  omega
theorem not_erase {ns : List Int} {k : Nat} {y : Int} (nd : ns.Nodup) (h : ns[k]? = some y) : y ∉ ns.eraseIdx k := by
  obtain ⟨hk, e⟩ := List.getElem?_eq_some_iff.mp h
  have e1 : ns = ns.take k ++ y :: ns.drop (k + 1) := by
    rw [← e]
    simp
  rw [List.eraseIdx_eq_take_drop_succ]
  intro hm
  rw [e1, List.nodup_append, List.nodup_cons] at nd
  rcases List.mem_append.mp hm with h1 | h1
  · exact nd.2.2 y h1 y List.mem_cons_self rfl
  · exact nd.2.1.1 h1
theorem Drw.put {n : Int} {i : Nat} {l : List (Int × Int)} {ns : List Int} (h : Drw n i l ns) {k : Nat} {y : Int} (hy : ns[k]? = some y) : Drw n (i + 1) (l ++ [((i : Int), y)]) (ns.eraseIdx k) ∧ (i : Int) ∉ l.map (·.1) := by
  have hm := h.nt y (List.mem_of_getElem? hy)
  have hi : (i : Int) ∉ l.map (·.1) := by
    intro hm
    obtain ⟨p, hp, e⟩ := List.mem_map.mp hm
    have := h.lt p hp
    omega
  obtain ⟨hk, _⟩ := List.getElem?_eq_some_iff.mp hy
  refine ⟨⟨?_, ?_, ?_, ?_, ?_, ?_, ?_⟩, hi⟩
  · rw [List.map_append, List.nodup_append]
    refine ⟨h.kn, by simp, fun a ha b hb e => ?_⟩
    simp at hb
    subst hb
    exact hi (e ▸ ha)
  · rw [List.map_append, List.nodup_append]
    refine ⟨h.vn, by simp, fun a ha b hb e => ?_⟩
    simp at hb
    subst hb
    exact hm.2.2 (e ▸ ha)
  · exact List.Sublist.nodup (List.eraseIdx_sublist _ _) h.nn
  · intro p hp
    rcases List.mem_append.mp hp with hp | hp
    · have := h.lt p hp
      omega
    · simp at hp
      subst hp
      dsimp only
      omega
  · intro z hz
    have h1 := h.nt z (List.mem_of_mem_eraseIdx hz)
    refine ⟨h1.1, h1.2.1, fun hq => ?_⟩
    rw [List.map_append] at hq
    rcases List.mem_append.mp hq with hq | hq
    · exact h1.2.2 hq
    · simp at hq
      subst hq
      exact not_erase h.nn hy hz
  · have := h.ln
    simp
    omega
  · have := h.le
    rw [List.length_append, List.length_singleton, List.length_eraseIdx, if_pos hk]
    omega
theorem two_in {l : List (Int × Int)} (vn : (l.map (·.2)).Nodup) : ∀ {x x' y : Int}, (x, y) ∈ l → (x', y) ∈ l → x = x' := by
  induction l with
  | nil => intro _ _ _ h; cases h
  | cons p r ih =>
    intro x x' y h1 h2
    rw [List.map_cons, List.nodup_cons] at vn
    rcases List.mem_cons.mp h1 with e1 | e1 <;> rcases List.mem_cons.mp h2 with e2 | e2
    · subst e1; cases e2; rfl
    · subst e1; exact absurd (List.mem_map.mpr ⟨(x', y), e2, rfl⟩) vn.1
    · subst e2; exact absurd (List.mem_map.mpr ⟨(x, y), e1, rfl⟩) vn.1
    · exact ih vn.2 e1 e2
theorem Drw.wf {n : Int} {l : List (Int × Int)} {ns : List Int} (h0 : 0 ≤ n) (h : Drw n n.toNat l ns) : WF n (lk l) := by
  refine ⟨fun x y e => ?_, fun x x' y e e' => two_in h.vn (lk_mem e) (lk_mem e')⟩
  have := h.lt _ (lk_mem e)
  dsimp only at this
  omega
section
variable {P : Program} {w : World} {K : PySem.W.Frag} {mg : Str → Option Value} {base : Heap}
def PoolAt (H : Hp) (p : Addr) : Prop := ∃ a b : Int, H p = some (.lst [.int a, .int b]) ∧ 0 ≤ a ∧ 0 ≤ b ∧ b < 2147483647
theorem Off.put {p q : Addr} {H H' : Hp} {o : HO} (a : Off p H H') (h : H q = none) : Off p H (upd H' q o) := a.mut h
theorem Off.at {p : Addr} {H H' : Hp} {o : HO} (a : Off p H H') : Off p H (upd H' p o) := fun b u hb e => by rw [upd_ne hb]; exact a b u hb e
end
end My
namespace My
open PySem L2 U StX PM
/-! ### values that are no maps; check_map -/
def nonMapV (H : Hp) : V → Prop
  | .non => True | .bl _ => True | .int _ => True | .str _ => True
  | .ref a => (∃ xs, H a = some (.lst xs)) ∨ (∃ xs, H a = some (.tup xs)) ∨ (∃ kvs, H a = some (.dK kvs))
  | _ => False
def spChkM (C CE : Addr) : Sp := fun vs H Q E => ∃ x, vs = [x] ∧ ((∃ a n f, x = .ref a ∧ IsMap C H a n f ∧ Q .non H) ∨ (nonMapV H x ∧ ∀ d, H d = none → E (.ref CE) (some d) (upd H d (.xd [("part", .str "map")]))))
section
variable {P : Program} {w : World} {K : PySem.W.Frag} {mg : Str → Option Value} {base : Heap}
theorem ok_ini_InvalidMap (T : Txt K mg) : FnR P w K mg base CX0 1 T.f_InvalidMap__init (spIni1 T.C_InvalidMap "part") := by
  refine T.A_InvalidMap__init.ok sc_InvalidMap__init (fun vs H Q E h => ?_) (fun cdv A outer s H vs Q E hr h => ?_)
  · obtain ⟨a, v, rfl, _⟩ := h
    rfl
  · obtain ⟨a, v, rfl, ha, q⟩ := h
    refine ⟨_, pss_one (ps_ostG (pv 0) (pv 1)), ?_⟩
    exact ⟨_, rfl, _, rfl, a, T.C_InvalidMap, rfl, T.x_InvalidMap, T.na_part_InvalidMap, .inl ⟨ha, fun dx h1 h2 => q dx h1 h2⟩⟩
theorem ty_nonmap (T : Txt K mg) {H : Hp} {x : V} (h : nonMapV H x) : ∃ t, TyX K H x t ∧ PySem.W.kitOne K t (.ref T.C_Map) = some false := by
  cases x with
  | non => exact ⟨_, .base .non, T.kn_NoneType_Map⟩
  | bl b => exact ⟨_, .base (.bl b), T.kn_bool_Map⟩
  | int i => exact ⟨_, .base (.int i), T.kn_int_Map⟩
  | str z => exact ⟨_, .base (.str z), T.kn_str_Map⟩
  | ref a =>
    rcases h with ⟨xs, e⟩ | ⟨xs, e⟩ | ⟨xs, e⟩
    · exact ⟨_, .base (.lst e), T.kn_list_Map⟩
    · exact ⟨_, .base (.tup e), T.kn_tuple_Map⟩
    · exact ⟨_, .base (.dK e), T.kn_dict_Map⟩
  | byt b => exact h.elim
  | flt b => exact h.elim
  | ty b => exact h.elim
theorem ok_check_map (T : Txt K mg) : FnR P w K mg base (L2.CX P w) 3 T.f_check_map (spChkM T.C_Map T.C_InvalidMap) := by
  refine T.A_check_map.okX sc_check_map (fun vs H Q E h => ?_) (fun cdv A outer s H vs Q E hr h => ?_)
  · obtain ⟨x, rfl, _⟩ := h
    rfl
  · obtain ⟨x, rfl, hx⟩ := h
    refine ⟨_, pss_one (ps_if (pt_not (pt_val (pe_callB call_isi (by rfl) T.n_isinstance (by decide +kernel) (pa_cons (pv 0) (pa_cons (pe_glob (v := .ref T.C_Map) rfl T.g_Map rfl) pa_nil)))))
      (pss_one (ps_raise rfl (takes_of rfl rfl rfl rfl) (pmk_oexG T.x_InvalidMap T.m_InvalidMap__init T.ti_InvalidMap__init (ok_ini_InvalidMap T) (hr.mono (by decide)) pass0 rfl T.g_InvalidMap (pa_cons pe_str pa_nil)))) pss_nil), ?_⟩
    rcases hx with ⟨a, n, f, rfl, hm, q⟩ | ⟨hx, q⟩
    · obtain ⟨dx, fs, h1⟩ := at_map hm
      exact ⟨_, rfl, _, _, _, _, true, rfl, .own _, tyx_ins T.o_Map h1, T.self_Map, _, rfl, iteF q⟩
    · obtain ⟨t, ht, hk⟩ := ty_nonmap T hx
      exact ⟨_, rfl, _, _, _, _, false, rfl, .own _, ht, hk, _, rfl, iteT (mk_one fun d hd => q d hd)⟩
end
/-! ### lists of rows -/
def RowsAt (H : Hp) : List Addr → List (List Int) → Prop
  | [], [] => True
  | a :: as, r :: rs => H a = some (.lst (r.map V.int)) ∧ RowsAt H as rs
  | _, _ => False
theorem RowsAt.len {H : Hp} : ∀ {as : List Addr} {rs : List (List Int)}, RowsAt H as rs → as.length = rs.length
  | [], [], _ => rfl
  | _ :: as, _ :: rs, h => by rw [List.length_cons, List.length_cons, RowsAt.len h.2]
  | [], _ :: _, h => h.elim
  | _ :: _, [], h => h.elim
theorem RowsAt.map {H H' : Hp} : ∀ {as : List Addr} {rs : List (List Int)}, RowsAt H as rs → (∀ a ∈ as, ∀ xs, H a = some (.lst xs) → H' a = some (.lst xs)) → RowsAt H' as rs
  | [], [], _, _ => trivial
  | _ :: as, _ :: rs, h, k => ⟨k _ List.mem_cons_self _ h.1, RowsAt.map h.2 fun a ha => k a (List.mem_cons_of_mem _ ha)⟩
  | [], _ :: _, h, _ => h.elim
  | _ :: _, [], h, _ => h.elim
theorem RowsAt.same {H H' : Hp} {as : List Addr} {rs : List (List Int)} (h : RowsAt H as rs) (s : Same H H') : RowsAt H' as rs := h.map fun a _ xs e => s a _ e
theorem RowsAt.off {H : Hp} {as : List Addr} {rs : List (List Int)} {p : Addr} {o : HO} (h : RowsAt H as rs) (n : p ∉ as) : RowsAt (upd H p o) as rs := h.map fun a ha xs e => by
  have hne : a ≠ p := fun z => n (z ▸ ha)
  rw [upd_ne hne]; exact e
theorem RowsAt.snoc {H : Hp} {a : Addr} {r : List Int} : ∀ {as : List Addr} {rs : List (List Int)}, RowsAt H as rs → H a = some (.lst (r.map V.int)) → RowsAt H (as ++ [a]) (rs ++ [r])
  | [], [], _, e => ⟨e, trivial⟩
  | _ :: as, _ :: rs, h, e => ⟨h.1, RowsAt.snoc h.2 e⟩
  | [], _ :: _, h, _ => h.elim
  | _ :: _, [], h, _ => h.elim
theorem RowsAt.get {H : Hp} : ∀ {as : List Addr} {rs : List (List Int)}, RowsAt H as rs → ∀ (i : Nat) (a : Addr), as[i]? = some a → ∃ r, rs[i]? = some r ∧ H a = some (.lst (r.map V.int))
  | [], [], _, i, a, e => by simp at e
  | b :: as, r :: rs, h, 0, a, e => by cases e; exact ⟨r, rfl, h.1⟩
  | _ :: as, _ :: rs, h, i + 1, a, e => RowsAt.get h.2 i a e
  | [], _ :: _, h, _, _, _ => h.elim
  | _ :: _, [], h, _, _, _ => h.elim
theorem RowsAt.mem {H : Hp} {as : List Addr} {rs : List (List Int)} (h : RowsAt H as rs) {a : Addr} (ha : a ∈ as) : ∃ r ∈ rs, H a = some (.lst (r.map V.int)) := by
  obtain ⟨i, hi⟩ := List.mem_iff_getElem?.mp ha
  obtain ⟨r, e1, e2⟩ := h.get i a hi
  exact ⟨r, List.mem_of_getElem? e1, e2⟩
end My
namespace My
open PySem L2 U StX PM
section
variable {P : Program} {w : World} {K : PySem.W.Frag} {mg : Str → Option Value} {base : Heap}
structure Prt (n : Int) (f : PF) (H H' : Hp) (lh se : Addr) (ex : List Addr) (b : List Int) (hs : List Addr) (sl : List Int) (st : List Int) : Prop where
  sm : Same H H'
  l : H' lh = some (.lst (hs.map V.ref))
  s : H' se = some (.dK (kvB sl))
  r : RowsAt H' hs (st.map (rowN f))
  m : ∀ x, x ∈ sl ↔ x ∈ seenL f (b ++ st)
  nd : sl.Nodup
  nw : ∀ a ∈ hs, H a = none ∧ a ≠ lh ∧ a ≠ se ∧ a ∉ ex
theorem Prt.slen {n : Int} {f : PF} {H H' : Hp} {lh se : Addr} {ex hs : List Addr} {b sl st : List Int} (wf : WF n f) (p : Prt n f H H' lh se ex b hs sl st) (h : ∀ e ∈ b ++ st, 0 ≤ e ∧ e < n) : sl.length ≤ n.toNat := by
  refine len_range p.nd fun x hx => ?_
  obtain ⟨e, he, hm⟩ := mem_seenL.mp ((p.m x).mp hx)
  have := h e he
  exact (rowN_is wf this.1 this.2).dom wf this.1 this.2 x hm
/-- one row more, from a new list r, its marks merged -/
theorem Prt.more {n : Int} {f : PF} {H H1 H2 H3 : Hp} {lh se : Addr} {ex hs : List Addr} {b sl sl' st : List Int} {e : Int} {r : Addr} (p : Prt n f H H1 lh se ex b hs sl st) (hl0 : H lh = none) (hs0 : H se = none) (nls : lh ≠ se) (hex : ∀ a ∈ ex, H1 a ≠ none)
    (hr : H1 r = none) (s2 : Same H1 H2) (hr2 : H2 r = some (.lst ((rowN f e).map V.int))) (m1 : ∀ z, z ∈ sl' ↔ z ∈ sl ∨ z ∈ rowN f e) (n1 : sl.Nodup → sl'.Nodup) (s3 : Same (upd H2 lh (.lst (hs.map V.ref ++ [.ref r]))) H3) :
    Prt n f H (upd H3 se (.dK (kvB sl'))) lh se ex b (hs ++ [r]) sl' (st ++ [e]) := by
  have rl : r ≠ lh := fun z => by rw [z, p.l] at hr; cases hr
  have rs : r ≠ se := fun z => by rw [z, p.s] at hr; cases hr
  have r0 : H r = none := p.sm.free hr
  have rx : r ∉ ex := fun z => hex r z hr
  refine ⟨?_, ?_, upd_same, ?_, ?_, n1 p.nd, ?_⟩
  · refine Same.put ?_ hs0
    exact (Same.put (p.sm.trans s2) hl0).trans s3
  · rw [upd_ne nls, s3 _ _ upd_same, List.map_append]
    rfl
  · rw [List.map_append]
    refine RowsAt.snoc ?_ ?_
    · have h1 := (p.r.same s2).off (p := lh) (o := .lst (hs.map V.ref ++ [.ref r])) (fun z => (p.nw lh z).2.1 rfl)
      exact (h1.same s3).off fun z => (p.nw se z).2.2.1 rfl
    · rw [upd_ne rs]
      exact s3 _ _ (by rw [upd_ne rl]; exact hr2)
  · intro x
    rw [m1, p.m, mem_seenL, mem_seenL]
    constructor
    · rintro (⟨e', h1, h2⟩ | h)
      · exact ⟨e', by rw [← List.append_assoc]; exact List.mem_append_left _ h1, h2⟩
      · exact ⟨e, by simp, h⟩
    · rintro ⟨e', h1, h2⟩
      rw [← List.append_assoc] at h1
      rcases List.mem_append.mp h1 with h1 | h1
      · exact .inl ⟨e', h1, h2⟩
      · rw [List.mem_singleton] at h1
        subst h1
        exact .inr h2
  · intro a ha
    rcases List.mem_append.mp ha with ha | ha
    · exact p.nw a ha
    · rw [List.mem_singleton] at ha
      subst ha
      exact ⟨r0, rl, rs, rx⟩
/-! ### cycles_of, chains_of -/
end
end My
namespace My
open PySem L2 U StX PM
/-! ### lists of ints: in, comprehensions -/
/-! ### rows with marks -/
def PairsAt (H : Hp) : List Addr → List Addr → List Bool → Prop
  | [], [], [] => True
  | p :: ps, a :: as, b :: bs => H p = some (.tup [.ref a, .bl b]) ∧ PairsAt H ps as bs
  | _, _, _ => False
theorem PairsAt.map {H H' : Hp} : ∀ {ps as : List Addr} {bs : List Bool}, PairsAt H ps as bs → (∀ p ∈ ps, ∀ xs, H p = some (.tup xs) → H' p = some (.tup xs)) → PairsAt H' ps as bs
  | [], [], [], _, _ => trivial
  | _ :: ps, _ :: as, _ :: bs, h, k => ⟨k _ List.mem_cons_self _ h.1, PairsAt.map h.2 fun a ha => k a (List.mem_cons_of_mem _ ha)⟩
  | [], [], _ :: _, h, _ => h.elim
  | [], _ :: _, _, h, _ => h.elim
  | _ :: _, [], _, h, _ => h.elim
  | _ :: _, _ :: _, [], h, _ => h.elim
theorem PairsAt.same {H H' : Hp} {ps as : List Addr} {bs : List Bool} (h : PairsAt H ps as bs) (s : Same H H') : PairsAt H' ps as bs := h.map fun a _ xs e => s a _ e
theorem PairsAt.off {H : Hp} {ps as : List Addr} {bs : List Bool} {q : Addr} {o u : HO} (h : PairsAt H ps as bs) (hq : H q = some u) (nt : ∀ xs, u ≠ .tup xs) : PairsAt (upd H q o) ps as bs := h.map fun a ha xs e => by
  have hne : a ≠ q := fun z => by subst z; rw [hq] at e; exact nt _ (Option.some.inj e)
  rw [upd_ne hne]; exact e
theorem PairsAt.len {H : Hp} : ∀ {ps as : List Addr} {bs : List Bool}, PairsAt H ps as bs → ps.length = as.length ∧ ps.length = bs.length
  | [], [], [], _ => ⟨rfl, rfl⟩
  | _ :: ps, _ :: as, _ :: bs, h => by
    have := PairsAt.len h.2
    simp [this.1.symm, this.2.symm]
  | [], [], _ :: _, h => h.elim
  | [], _ :: _, _, h => h.elim
  | _ :: _, [], _, h => h.elim
  | _ :: _, _ :: _, [], h => h.elim
theorem PairsAt.get {H : Hp} : ∀ {ps as : List Addr} {bs : List Bool}, PairsAt H ps as bs → ∀ (i : Nat) (p : Addr), ps[i]? = some p → ∃ a b, as[i]? = some a ∧ bs[i]? = some b ∧ H p = some (.tup [.ref a, .bl b])
  | [], [], [], _, i, a, e => by simp at e
  | _ :: ps, a :: as, b :: bs, h, 0, p, e => by cases e; exact ⟨a, b, rfl, rfl, h.1⟩
  | _ :: ps, _ :: as, _ :: bs, h, i + 1, p, e => PairsAt.get h.2 i p e
  | [], [], _ :: _, h, _, _, _ => h.elim
  | [], _ :: _, _, h, _, _, _ => h.elim
  | _ :: _, [], _, h, _, _, _ => h.elim
  | _ :: _, _ :: _, [], h, _, _, _ => h.elim
end My
namespace My
open PySem L2 U StX PM
/-- [v for .. in xs if ..], any list, the tests and parts reading alone -/
theorem lc_lst {α : Type} {K : PySem.W.Frag} {te : TE} {g : TG} {tt : TT} {tv : TE} {vs : List Nat} {σ : L2.St} {H0 H : Hp} {Q : VK} {a : Addr} {xs : List α} (e : α → V) (sx : α → L2.St) (c : α → Bool) (vf : α → V) (hte : ∀ R : VK, R (.ref a) H → te σ H0 R) (ha : H a = some (.lst (xs.map e)))
    (hg : ∀ x ∈ xs, ∀ (H1 : Hp), L2.Same H H1 → ∀ R : L2.St → Hp → Prop, R (sx x) H1 → g (e x) (wipe σ vs) H1 R) (hw : ∀ x ∈ xs, wipe (sx x) vs = wipe σ vs)
    (hb : ∀ x ∈ xs, ∀ (H1 : Hp), L2.Same H H1 → (∀ R : Bool → Hp → Prop, R (c x) H1 → tt (sx x) H1 R) ∧ (c x = true → ∀ R : VK, R (vf x) H1 → tv (sx x) H1 R))
    (hz : xs.length < sizeLine)
    (hq : ∀ D H', H D = none → H' D = some (.lst ((xs.filter c).map vf)) → L2.Same H H' → Q (.ref D) H') :
    tLc (iList K te) g tt tv vs σ H0 Q := by
  refine hte _ ⟨a, rfl, ⟨_, SqL.of ha⟩, fun D hD => ?_⟩
  refine lc_it (walk_list (xs := xs.map e)) (fun k H' => L2.Same H H' ∧ H' D = some (.lst (((xs.take k).filter c).map vf))) ⟨Same.new hD, upd_same⟩ (fun k H' _ p => SqL.of (p.1 _ _ ha)) ?_ ?_
  · rintro k v H' H'' hk1 ⟨p1, p2⟩ ⟨rfl, ev⟩
    rw [List.length_map] at hk1
    obtain ⟨y, ey⟩ : ∃ y, xs[k]? = some y := ⟨_, List.getElem?_eq_getElem hk1⟩
    have ev' : v = e y := by
      rw [List.getElem?_map, ey] at ev
      exact (Option.some.inj ev).symm
    subst ev'
    have hy := List.mem_of_getElem? ey
    refine hg y hy _ p1 _ ⟨hw y hy, ?_⟩
    obtain ⟨b1, b2⟩ := hb y hy _ p1
    refine b1 _ ?_
    have st : (xs.take (k + 1)).filter c = (xs.take k).filter c ++ (if c y = true then [y] else []) := by
      rw [take_more ey, List.filter_append]
      by_cases h : c y = true
      · simp [h]
      · have h' : c y = false := by simpa using h
        simp [h']
    cases hc : c y with
    | true =>
      refine iteT (b2 hc _ ⟨_, p2, ?_, Same.put p1 hD, ?_⟩)
      · refine Nat.lt_of_le_of_lt ?_ hz
        rw [List.length_map]
        exact Nat.le_trans (List.length_filter_le _ _) (by rw [List.length_take]; omega)
      · rw [upd_same, st, if_pos hc, List.map_append]
        rfl
    | false =>
      refine iteF ⟨p1, ?_⟩
      rw [st, hc, if_neg Bool.false_ne_true, List.append_nil]
      exact p2
  · rintro H' ⟨p1, p2⟩
    rw [List.length_map, List.take_length] at p2
    exact hq D _ hD p2 p1
/-! ### rows by their first elements -/
def RowsZ (f : PF) (H : Hp) (zs : List (Addr × Int)) : Prop := ∀ z ∈ zs, H z.1 = some (.lst ((rowN f z.2).map V.int))
theorem RowsZ.at {f : PF} {H : Hp} : ∀ {zs : List (Addr × Int)}, RowsZ f H zs → RowsAt H (zs.map (·.1)) ((zs.map (·.2)).map (rowN f))
  | [], _ => trivial
  | z :: zs, h => ⟨h z List.mem_cons_self, RowsZ.at fun x hx => h x (List.mem_cons_of_mem _ hx)⟩
/-! ### data that may be compared -/
end My
namespace My
open PySem L2 U StX PM
theorem SqL.same {K : PySem.W.Frag} {H H' : Hp} {a : Addr} {xs : List V} (h : SqL K H a xs) (s : Same H H') : SqL K H' a xs := by
  rcases h with (h | ⟨o, h⟩) | h
  · exact .inl (.inl (s _ _ h))
  · exact .inl (.inr ⟨o, s _ _ h⟩)
  · exact .inr h
theorem Same.off {H H1 H2 : Hp} {p : Addr} (s : Same H H1) (o : Off p H1 H2) (h : H p = none) : Same H H2 := fun b u e => o b u (ne_of_none e h) (s b u e)
theorem yes_ {σ : L2.St} {H : Hp} {A B : Hp → Prop} (h : A H) : tYes σ H (fun b H3 => if b = true then A H3 else B H3) := by
  show (if true = true then A H else B H)
  rw [if_pos rfl]
  exact h
theorem PoolAt.same {H H' : Hp} {p : Addr} (h : PoolAt H p) (s : Same H H') : PoolAt H' p := by
  obtain ⟨a, b, e, r⟩ := h
  exact ⟨a, b, s _ _ e, r⟩
theorem PoolAt.lst {H : Hp} {p : Addr} (h : PoolAt H p) : ∃ xs, H p = some (.lst xs) := by
  obtain ⟨a, b, e, r⟩ := h
  exact ⟨_, e⟩
theorem PoolAt.ne {H : Hp} {p q : Addr} (h : PoolAt H p) (hq : H q = none) : p ≠ q := by
  obtain ⟨xs, e⟩ := h.lst
  exact ne_of_none e hq
def spLaw (K : PySem.W.Frag) : Sp := fun vs H Q _ => ∃ (a : Addr) (ns : List Int), vs = [.ref a] ∧ SqL K H a (ns.map V.int) ∧ ns.length ≤ 63 ∧ ∀ H', Q (.bl true) H'
theorem IsMap.off {C p : Addr} {H H' : Hp} {m : Addr} {n : Int} {f : PF} (a : IsMap C H m n f) (o : Off p H H') (h : ∃ xs, H p = some (.lst xs)) : IsMap C H' m n f := by
  obtain ⟨⟨dx, D, h1, h2⟩, wf, lo, hi⟩ := a
  obtain ⟨xs, h⟩ := h
  exact ⟨⟨dx, D, o _ _ (fun e => by rw [e, h] at h1; cases h1) h1, o _ _ (fun e => by rw [e, h] at h2; cases h2) h2⟩, wf, lo, hi⟩
/-- Map(n, d) -/
theorem init_of {C : Addr} {H : Hp} {d : Addr} {n : Int} {l : List (Int × Int)} {f : PF} {R : VK} {E : XK} {x dx : Addr} (hd : H d = some (.dK (kvI l))) (di : DI l f) (wf : WF n f) (h1 : 1 ≤ n) (h3 : n ≤ 300) (hl : l.length ≤ 1000)
    (hx : H x = none) (hdx : H dx = none) (ne : dx ≠ x) (q : ∀ H', Same H H' → IsMap C H' x n f → R .non H') :
    spInit C [.ref x, .int n, .ref d] (upd (upd H dx (.own x)) x (.ins C dx [])) R E := by
  have s0 : Same H (upd (upd H dx (.own x)) x (.ins C dx [])) := fun b o e => by
    rw [upd_ne (ne_of_none e hx), upd_ne (ne_of_none e hdx)]
    exact e
  refine ⟨x, dx, d, n, l, f, rfl, upd_same, s0 _ _ hd, di, wf, h1, h3, hl, fun H' D o nD hp hD => ?_⟩
  exact q H' (fun b u e => o b u (ne_of_none e hx) (s0 b u e)) ⟨⟨dx, D, hp, hD⟩, wf, h1, h3⟩
/-- the law's draw, told by the pool alone -/
theorem draw_of {H : Hp} {p : Addr} {n : Int} {Q : VK} {E : XK} (h : PoolAt H p) (n0 : 0 < n) (n1 : n < 1073741824) (k : ∀ r H', 0 ≤ r → r < n → PoolAt H' p → Off p H H' → (∃ xs, H' = upd H p (.lst xs)) → Q (.int r) H') : spDraw [.ref p, .int n] H Q E := by
  obtain ⟨a, b, e, ha, hb, hc⟩ := h
  exact ⟨p, a, b, n, rfl, e, ha, hb, hc, n0, n1, fun a' b' r h1 h2 h3 h4 h5 => k r _ h4 h5 ⟨a', b', upd_same, h1, h2, h3⟩ Off.lock ⟨_, rfl⟩⟩
end My
namespace My
open PySem L2 U StX PM
theorem paired_at {α β : Type} {R : α → β → Prop} {xs : List α} {ys : List β} (h : Paired R xs ys) {i : Nat} {x : α} (e : xs[i]? = some x) : ∃ y, ys[i]? = some y ∧ R x y := by
  induction h generalizing i with
  | nil => cases e
  | cons r _ ih =>
    cases i with
    | zero => cases e; exact ⟨_, rfl, r⟩
    | succ i => exact ih e
theorem PoolAt.put {H : Hp} {p q : Addr} {o : HO} (h : PoolAt H p) (n : p ≠ q) : PoolAt (upd H q o) p := by
  obtain ⟨a, b, e, r⟩ := h
  exact ⟨a, b, by rw [upd_ne n]; exact e, r⟩
theorem draw_R {i : Nat} {tb : TE} {σ : L2.St} {H : Hp} {Q : VK} {p : Addr} {n : Int} (hi : σ[i]? = some (some (.ref p))) (hb : ∀ R : VK, R (.int n) H → tb σ H R) (h : PoolAt H p) (n0 : 0 < n) (n1 : n < 1073741824)
    (k : ∀ r H', 0 ≤ r → r < n → PoolAt H' p → Off p H H' → Q (.int r) H') : tCallR spDraw E0 (tCons (tVar i) (tCons tb tNil)) σ H Q :=
  ⟨_, hi, hb _ (draw_of (E := E0) h n0 n1 fun r H' h1 h2 h3 h4 _ => k r H' h1 h2 h3 h4)⟩
theorem dgetL {H : Hp} {d : Addr} {l : List (Int × Int)} {f : PF} (h : H d = some (.dK (kvI l))) (di : DI l f) (i : Int) : DGet H d (.int i) ((f i).map V.int) := by
  have := DGet.k (k := Sum.inl i) h
  rw [valV_kvI, di.at_] at this
  exact this
end My
namespace My
open PySem L2 U StX PM
theorem nonMapV.same {H H' : Hp} {x : V} (h : nonMapV H x) (s : L2.Same H H') : nonMapV H' x := by
  cases x with
  | ref b =>
    rcases h with ⟨xs, e⟩ | ⟨xs, e⟩ | ⟨xs, e⟩
    · exact .inl ⟨_, s _ _ e⟩
    · exact .inr (.inl ⟨_, s _ _ e⟩)
    · exact .inr (.inr ⟨_, s _ _ e⟩)
  | _ => exact h
end My
namespace My
open PySem L2 U StX PM
/-! ### dict([(a, b) for x, y in d.items() if ..]) -/
theorem _root_.PySem.Paired.map {α β : Type} {R S : α → β → Prop} : ∀ {xs : List α} {ys : List β}, Paired R xs ys → (∀ x ∈ xs, ∀ y, R x y → S x y) → Paired S xs ys
  | _, _, .nil, _ => .nil
  | _, _, .cons h r, k => .cons (k _ List.mem_cons_self _ h) (PySem.Paired.map r fun x hx => k x (List.mem_cons_of_mem _ hx))
theorem dict_of {m : List (Int × Int)} {g : PF} (di : DI m g) : ∃ l, mergeK [] (kvI m) = kvI l ∧ l.length ≤ m.length ∧ DI l g := by
  obtain ⟨l', e', n', d', k'⟩ := merge_lk m [] di.nd
  refine ⟨l', e', by simpa using n', d' (by simp), fun z => ?_⟩
  rw [k', ← di.at_]
  cases lk m z <;> rfl
end My
namespace My
open PySem L2 U StX PM
def spPowX (C CE : Addr) : Sp := fun vs H Q E => ∃ a n f x, vs = [.ref a, x] ∧ IsMap C H a n f ∧ ((∃ e, x = .int e ∧ ∀ r H', H r = none → Same H H' → IsMap C H' r n (pw n f e) → Q (.ref r) H') ∨
  (knownV C H x ∧ isI x = false ∧ ∀ d, H d = none → E (.ref CE) (some d) (upd H d (.xd [("value", x)]))))
section
variable {P : Program} {w : World} {K : PySem.W.Frag} {mg : Str → Option Value} {base : Heap}
theorem ok_ini_InvalidNumber (T : Txt K mg) : FnR P w K mg base CX0 1 T.f_InvalidNumber__init (spIni1 T.C_InvalidNumber "value") := by
  refine T.A_InvalidNumber__init.ok sc_InvalidNumber__init (fun vs H Q E h => ?_) (fun cdv A outer s H vs Q E hr h => ?_)
  · obtain ⟨a, v, rfl, _⟩ := h
    rfl
  · obtain ⟨a, v, rfl, ha, q⟩ := h
    refine ⟨_, pss_one (ps_ostG (pv 0) (pv 1)), ?_⟩
    exact ⟨_, rfl, _, rfl, a, T.C_InvalidNumber, rfl, T.x_InvalidNumber, T.na_value_InvalidNumber, .inl ⟨ha, fun dx h1 h2 => q dx h1 h2⟩⟩
theorem okX_power (T : Txt K mg) : FnR P w K mg base (L2.CX P w) 7 T.f_Map_power (spPowX T.C_Map T.C_InvalidNumber) := by
  refine T.A_Map_power.okX sc_Map_power (fun vs H Q E h => ?_) (fun cdv A outer s H vs Q E hr h => ?_)
  · obtain ⟨a, n, f, x, rfl, _⟩ := h
    rfl
  · obtain ⟨a, n, f, x, rfl, ha, hx⟩ := h
    have hu := hu_of hr
    refine ⟨_, pss_cons (ps_if (pt_not (pt_val (pe_callR (ok_is_integer T) (hr.mono (by decide)) T.A_is_integer.kp rfl T.g_is_integer pass0 (pa_cons (pv 1) pa_nil)))) (pss_one (ps_raise rfl (takes_of rfl rfl rfl rfl) (pmk_oexG T.x_InvalidNumber T.m_InvalidNumber__init T.ti_InvalidNumber__init (ok_ini_InvalidNumber T) (hr.mono (by decide)) pass0 rfl T.g_InvalidNumber (pa_cons (pv 1) pa_nil)))) pss_nil)
      (pss_cons (ps_set (i := 2) sc_Map_power.nd rfl (Or.inl rfl) (pe_fld (pv 0) rfl))
      (pss_cons (ps_if (pt_cmpR op_lt (pv 1) pe_int (nomark _)) (pss_one (ps_lock (ps_setDc (i := 2) (own := [("source", 3), ("target", 4)]) (g := gTup K 2 (gCons (gName 3) (gCons (gName 4) gNil))) (tt := tYes) rfl sc_Map_power.nd rfl rfl (sw_dict rfl rfl rfl (by decide +kernel)) (pi_items (pe_fld (pv 0) rfl))
        (blkOk_by (own := [("source", 3), ("target", 4)]) (N := n_Map_power) (sc := defScope s_Map_power) (by decide +kernel))
        (fun _ _ _ _ _ => pg_tup rfl (pgs_cons (pg_name (i := 3) sc_Map_power.nd rfl (Or.inl rfl)) (pgs_cons (pg_name (i := 4) sc_Map_power.nd rfl (Or.inl rfl)) pgs_nil)))
        (fun _ _ _ _ _ => pts_nil) (fun _ _ _ _ _ => pv 4) (fun _ _ _ _ _ => pv 3)))) pss_nil)
      (pss_cons (ps_if (pt_cmpR op_eq (pv 1) pe_int (nomark _)) (pss_one (ps_ret (ClX.pe_cmeth (pe_glob (v := .ref T.C_Map) rfl T.g_Map rfl) T.R_Map T.cm_Map_identity (ok_identity T) hr pass0 (pa_cons (pe_fld (pv 0) rfl) pa_nil)))) pss_nil)
      (pss_one (ps_ret (pe_makeR T.M_Map (ok_init T) (hr.mono (by decide)) rfl T.g_Map pass0 (pa_cons (pe_fld (pv 0) rfl) (pa_cons (pe_callR (ok_moved T) (hr.mono (by decide)) T.A_moved.kp rfl T.g_moved pass0 (pa_cons (pv 2) (pa_cons (pe_callB call_abs (by rfl) T.n_abs (by decide +kernel) (pa_cons (pv 1) pa_nil)) pa_nil))) pa_nil)))))))), ?_⟩
    obtain ⟨dx, D, h1, h2⟩ := id ha.ob
    have h9 := ha.hi
    have ht := tab_len n f
    rcases hx with ⟨e, rfl, q⟩ | ⟨hk, hi, qx⟩
    rotate_left
    · refine ⟨_, rfl, x, rfl, hk, _, rfl, ?_⟩
      rw [hi]
      exact iteT ⟨_, rfl, mk_one fun d hd => qx d hd⟩
    refine ⟨_, rfl, .int e, rfl, trivial, _, rfl, iteF ?_⟩
    refine ⟨_, rfl, a, _, dx, _, _, rfl, h1, T.o_Map.cl, T.na_own_arrows_Map, flds_arrows _ _, ?_⟩
    refine ⟨_, rfl, _, _, rfl, rfl, _, rfl, ?_⟩
    refine ifD (fun hneg => ?_) (fun hpos => ?_)
    · refine lock_asg ?_
      refine dc_items (fun _ _ => true) (fun _ y => y) (fun x _ => .int x) h2 (fun H' R r o => ?_) (fun _ _ => rfl) ?_ ?_ ?_ ?_
      · refine ⟨_, rfl, a, _, dx, _, _, rfl, o _ _ (ne_of h1 h2 (by intro z; cases z)) h1, T.o_Map.cl, T.na_own_arrows_Map, flds_arrows _ _, r⟩
      · intro x y hxy H1 o
        exact ⟨fun R r => r, fun _ => ⟨fun R r => ⟨_, rfl, r⟩, fun R r => ⟨_, rfl, r⟩⟩⟩
      · rw [madeD_I, kvI_keys]
        exact nd_inl (nd_tgt (vals_tab ha.wf))
      · exact small1000 (Nat.le_trans (tab_len n f) (by omega))
      · intro D2 H2 nD2 hD2 s2
        rw [madeD_I] at hD2
        refine ⟨_, rfl, rfl, _, rfl, ?_⟩
        refine ifD (fun h0 => ?_) (fun _ => ?_)
        · have : e = 0 := V.int.inj h0
          omega
        refine ⟨_, rfl, a, _, dx, _, _, rfl, s2 _ _ h1, T.o_Map.cl, T.na_own_size_Map, flds_size _ _, ?_⟩
        have ek : (if e < 0 then -e else e) = ((e.natAbs - 1 + 1 : Nat) : Int) := by rw [if_pos hneg]; omega
        refine ⟨_, rfl, _, rfl, _, rfl, ?_⟩
        rw [ek]
        refine ⟨D2, _, n, _, _, rfl, hD2, inv_di ha.wf, wf_inv ha.wf, ha.hi, Nat.le_trans (madeI_len ..) (by omega), fun r3 H3 l3 n3 s3 hr3 di3 hl3 => ?_⟩
        have ei : pw n f e = iter (inv n f) (e.natAbs - 1 + 1) := by
          unfold pw
          rw [if_neg (by omega), if_pos hneg, show e.natAbs - 1 + 1 = e.natAbs by omega]
        refine mk_map hr3 di3 (wf_iter (wf_inv ha.wf) _) ha.lo ha.hi (by omega) fun r H5 nr s5 hm => ?_
        rw [← ei] at hm
        exact q r H5 ((s2.trans s3).free nr) ((s2.trans s3).trans s5) hm
    · refine ⟨_, rfl, rfl, _, rfl, ?_⟩
      refine ifD (fun h0 => ?_) (fun hne => ?_)
      · have e0 : e = 0 := V.int.inj h0
        refine ⟨rfl, _, rfl, a, _, dx, _, _, rfl, h1, T.o_Map.cl, T.na_own_size_Map, flds_size _ _, n, rfl, ha.lo, ha.hi, fun r H' nr s1 hm => ?_⟩
        refine q r H' nr s1 ?_
        unfold pw
        rw [if_pos e0]
        exact hm
      · have hne' : e ≠ 0 := fun z => hne (congrArg V.int z)
        refine ⟨_, rfl, a, _, dx, _, _, rfl, h1, T.o_Map.cl, T.na_own_size_Map, flds_size _ _, ?_⟩
        have ek : (if e < 0 then -e else e) = ((e.natAbs - 1 + 1 : Nat) : Int) := by rw [if_neg hpos]; omega
        refine ⟨_, rfl, _, rfl, _, rfl, ?_⟩
        rw [ek]
        refine ⟨D, _, n, _, _, rfl, h2, di_tab ha.wf, ha.wf, ha.hi, by omega, fun r3 H3 l3 n3 s3 hr3 di3 hl3 => ?_⟩
        have ei : pw n f e = iter f (e.natAbs - 1 + 1) := by
          unfold pw
          rw [if_neg hne', if_neg hpos, show e.natAbs - 1 + 1 = e.natAbs by omega]
        refine mk_map hr3 di3 (wf_iter ha.wf _) ha.lo ha.hi (by omega) fun r H5 nr s5 hm => ?_
        rw [← ei] at hm
        exact q r H5 (s3.free nr) (s3.trans s5) hm
/-! ### repr while an exception is handled -/
/-! ### what repr says of a value -/
end
end My
local macro_rules | `(tactic| array_get_dec) => `(tactic| first | assumption | exact L2.upd_same | (refine U.carryNew (by assumption) ?_; array_get_dec) | (refine U.carry (by assumption) ?_; array_get_dec))
local macro_rules | `(tactic| array_mem_dec) => `(tactic| first | exact L2.Same.refl _ | assumption | (refine U.sameUp (by assumption) ?_; array_mem_dec) | (refine U.sameVia (by assumption) ?_; array_mem_dec))
local macro_rules | `(tactic| sizeOf_list_dec) => `(tactic| first | assumption | (refine U.freeVia (by assumption) ?_; sizeOf_list_dec) | (refine U.freeUp (o := _) (q := _) ?_; assumption))
local macro_rules | `(tactic| deriving_LawfulEq_tactic_step) => `(tactic| first | exact rfl | exact U.nil_le | exact U.one_le | exact U.two_le | exact U.three_le | exact L2.SqL.of (by array_get_dec) | exact L2.SqT.of (by array_get_dec) | exact ⟨_, L2.SqL.of (by array_get_dec)⟩ | exact ⟨_, L2.SqT.of (by array_get_dec)⟩ | exact Or.inl (by array_get_dec) | array_get_dec)
local macro_rules | `(tactic| and_intros) => `(tactic| repeat (first | refine And.intro (by deriving_LawfulEq_tactic_step) ?_ | (apply Exists.intro; refine And.intro (by deriving_LawfulEq_tactic_step) ?_) | (apply Exists.intro; apply Exists.intro; refine And.intro (by deriving_LawfulEq_tactic_step) ?_) | (apply Exists.intro; apply Exists.intro; apply Exists.intro; refine And.intro (by deriving_LawfulEq_tactic_step) ?_) | (apply Exists.intro; apply Exists.intro; apply Exists.intro; apply Exists.intro; refine And.intro (by deriving_LawfulEq_tactic_step) ?_)))
namespace My
open PySem L2 U StX PM
/-! ### several maps -/
def MapsAt (C : Addr) (H : Hp) (n : Int) (xs : List V) (fs : List PF) : Prop := Paired (fun v f => ∃ a, v = V.ref a ∧ IsMap C H a n f) xs fs
theorem MapsAt.same {C : Addr} {H H' : Hp} {n : Int} {xs : List V} {fs : List PF} (h : MapsAt C H n xs fs) (s : Same H H') : MapsAt C H' n xs fs := PySem.Paired.map h fun v _ f ⟨a, e, m⟩ => ⟨a, e, m.same s⟩
theorem MapsAt.get {C : Addr} {H : Hp} {n : Int} {xs : List V} {fs : List PF} (h : MapsAt C H n xs fs) {i : Nat} {v : V} (e : xs[i]? = some v) : ∃ a f, v = .ref a ∧ fs[i]? = some f ∧ IsMap C H a n f := by
  obtain ⟨f, e2, a, e3, m⟩ := paired_at h e
  exact ⟨a, f, e3, e2, m⟩
end My
namespace My
open PySem L2 U StX PM
section
variable {P : Program} {w : World} {K : PySem.W.Frag} {mg : Str → Option Value} {base : Heap}
theorem ok_ini_InvalidElement (T : Txt K mg) : FnR P w K mg base CX0 1 T.f_InvalidElement__init (spIni1 T.C_InvalidElement "value") := by
  refine T.A_InvalidElement__init.ok sc_InvalidElement__init (fun vs H Q E h => ?_) (fun cdv A outer s H vs Q E hr h => ?_)
  · obtain ⟨a, v, rfl, _⟩ := h
    rfl
  · obtain ⟨a, v, rfl, ha, q⟩ := h
    refine ⟨_, pss_one (ps_ostG (pv 0) (pv 1)), ?_⟩
    exact ⟨_, rfl, _, rfl, a, T.C_InvalidElement, rfl, T.x_InvalidElement, T.na_value_InvalidElement, .inl ⟨ha, fun dx h1 h2 => q dx h1 h2⟩⟩
def spChkE (C CE : Addr) : Sp := fun vs H Q E => ∃ (n : Int) (l : Addr) (x : V), vs = [.int n, .ref l] ∧ H l = some (.lst [x]) ∧ knownV C H x ∧
  ((inR x 0 (n - 1) = true ∧ ∀ H', Same H H' → Q .non H') ∨ (inR x 0 (n - 1) = false ∧ ∀ H', Same H H' → ∀ d, H' d = none → E (.ref CE) (some d) (upd H' d (.xd [("value", x)]))))
theorem okX_check_elements (T : Txt K mg) : FnR P w K mg base (L2.CX P w) 4 T.f_check_elements (spChkE T.C_Map T.C_InvalidElement) := by
  refine T.A_check_elements.okX sc_check_elements (fun vs H Q E h => ?_) (fun cdv A outer s H vs Q E hr h => ?_)
  · obtain ⟨n, l, x, rfl, _⟩ := h
    rfl
  · obtain ⟨n, l, x, rfl, hl, hk, h⟩ := h
    have hu := hu_of hr
    refine ⟨_, (pss_cons (ps_set (i := 2) sc_check_elements.nd rfl (Or.inl rfl) pe_dnewK)
      (pss_one (ps_for (passes_of rfl) rfl (pi_list (pv 1)) (pg_name (i := 3) sc_check_elements.nd rfl (Or.inl rfl))
        (pss_cons (ps_if (PW.pt (pw_or (pt_not (pt_val (pe_callR (ok_in_range T) (hr.mono (by decide)) T.A_in_range.kp rfl T.g_in_range pass0 (pa_cons (pv 3) (pa_cons pe_int (pa_cons (pe_op op_sub (pv 0) pe_int) pa_nil)))))) (pw_or1 (pt_cmp (pc_din hu (pv 3) (pv 2))))))
        (pss_one (ps_raise rfl (takes_of rfl rfl rfl rfl) (pmk_oexG T.x_InvalidElement T.m_InvalidElement__init T.ti_InvalidElement__init (ok_ini_InvalidElement T) (hr.mono (by decide)) pass0 rfl T.g_InvalidElement (pa_cons (pv 3) pa_nil)))) pss_nil)
      (pss_one (ps_dput hu (pv 2) (pv 3) pe_bl rfl)))))), ?_⟩
    refine fun se n_se => ?_
    generalize g_se : L2.upd _ se _ = H1
    obtain ⟨s_H1, e_se⟩ := U.upd_facts g_se n_se
    clear g_se
    have hl1 := s_H1 _ _ hl
    refine ⟨_, rfl, l, rfl, ⟨_, SqL.of hl1⟩, ?_⟩
    refine for_it (walk_list (xs := [x])) (fun i σ H' => ∃ v3, σ = [some (.int n), some (.ref l), some (.ref se), v3] ∧ Same H H' ∧ (i = 0 → H' = H1) ∧ (i = 1 → inR x 0 (n - 1) = true)) ⟨_, rfl, s_H1, fun _ => rfl, fun z => nomatch z⟩ (fun i σ H' _ ⟨_, _, z, _⟩ => SqL.of (z _ _ hl)) ?_ ?_
    · rintro i v σ H0 H' hi ⟨v3, rfl, sh, h0, _⟩ ⟨rfl, ev⟩
      have i0 : i = 0 := by simp at hi; exact hi
      subst i0
      cases ev
      cases h0 rfl
      refine ⟨_, rfl, _, rfl, _, _, rfl, rfl, x, 0, n - 1, rfl, ?_, _, rfl, ?_⟩
      · cases x with
        | ref a =>
          rcases hk with ⟨xs, e⟩ | ⟨xs, e⟩ | ⟨xs, e⟩ | ⟨dx, fs, e⟩
          · exact .inl ⟨_, s_H1 _ _ e⟩
          · exact .inr (.inl ⟨_, s_H1 _ _ e⟩)
          · exact .inr (.inr (.inl ⟨_, s_H1 _ _ e⟩))
          · exact .inr (.inr (.inr ⟨_, _, s_H1 _ _ e⟩))
        | _ => exact hk
      rcases h with ⟨hr1, q⟩ | ⟨hr1, q⟩
      · rw [hr1]
        refine iteF ?_
        obtain ⟨i, rfl⟩ : ∃ i, x = .int i := by cases x <;> first | exact ⟨_, rfl⟩ | cases hr1
        refine ⟨_, rfl, _, rfl, se, _, rfl, dgetI (l := []) (f := emp) e_se ⟨List.Pairwise.nil, fun _ => rfl⟩ i, _, rfl, iteF ?_⟩
        exact ⟨_, rfl, _, rfl, se, _, rfl, .k (k := Sum.inl i) e_se (by show 0 < sizeLine; decide), _, rfl, Same.put s_H1 n_se, (fun z => nomatch z), (fun _ => rfl)⟩
      · rw [hr1]
        exact iteT (iteT ⟨_, rfl, mk_one fun d hd => q _ s_H1 d hd⟩)
    · rintro σ H' ⟨v3, rfl, sh, _, h1⟩
      rcases h with ⟨_, q⟩ | ⟨hr1, _⟩
      · exact q _ sh
      · rw [h1 rfl] at hr1
        cases hr1
noncomputable def fateV (f : PF) (e : Int) : V := if clo f e then .non else .int (((rowN f e).length : Int) - 1)
def spFate (C CM CE : Addr) : Sp := fun vs H Q E => ∃ x e, vs = [x, e] ∧ ((nonMapV H x ∧ ∀ d, H d = none → E (.ref CM) (some d) (upd H d (.xd [("part", .str "map")]))) ∨
  ∃ a n f, x = .ref a ∧ IsMap C H a n f ∧ knownV C H e ∧ ((inR e 0 (n - 1) = false ∧ ∀ H', Same H H' → ∀ d, H' d = none → E (.ref CE) (some d) (upd H' d (.xd [("value", e)]))) ∨
    (∃ i, e = .int i ∧ 0 ≤ i ∧ i < n ∧ ∀ H', Same H H' → Q (fateV f i) H')))
theorem okX_fate (T : Txt K mg) : FnR P w K mg base (L2.CX P w) 7 T.f_fate (spFate T.C_Map T.C_InvalidMap T.C_InvalidElement) := by
  refine T.A_fate.okX sc_fate (fun vs H Q E h => ?_) (fun cdv A outer s H vs Q E hr h => ?_)
  · obtain ⟨x, e, rfl, _⟩ := h
    rfl
  · obtain ⟨x, e, rfl, h⟩ := h
    have hu := hu_of hr
    refine ⟨_, (pss_cons (ps_expr (pe_callR (ok_check_map T) (hr.mono (by decide)) T.A_check_map.kp rfl T.g_check_map (passes_call (takes_of rfl rfl rfl rfl) (fun _ _ _ _ h => h)) (pa_cons (pv 0) pa_nil)))
      (pss_cons (ps_expr (pe_callR (okX_check_elements T) (hr.mono (by decide)) T.A_check_elements.kp rfl T.g_check_elements (passes_call (takes_of rfl rfl rfl rfl) (fun _ _ _ _ h => h)) (pa_cons (pe_propR (pv 0) T.o_Map.cl T.P_Map_size (ok_size T) (hr.mono (by decide))) (pa_cons (pe_lst (pa_cons (pv 1) pa_nil)) pa_nil))))
      (pss_cons (ps_set (i := 2) sc_fate.nd rfl (Or.inl rfl) (pe_propR (pv 0) T.o_Map.cl T.P_Map_arrows (ok_arrows T) (hr.mono (by decide))))
      (pss_cons (ps_set (i := 3) sc_fate.nd rfl (Or.inl rfl) (pe_callR (ok_row_from T) (hr.mono (by decide)) T.A_row_from.kp rfl T.g_row_from pass0 (pa_cons (pv 2) (pa_cons (pv 1) pa_nil))))
      (pss_one (ps_ret (pe_ifExp (pt_cmp (pc_din hu (pe_ix ix_list (pv 3) (pe_un un_neg pe_int) (fun _ _ => rfl)) (pv 2))) pe_non (pe_op op_sub (pe_callB call_len_seq (by rfl) T.n_len (by decide +kernel) (pa_cons (pv 3) pa_nil)) pe_int)))))))), ?_⟩
    rcases h with ⟨hx, q⟩ | ⟨a, n, f, rfl, hm, hk, h⟩
    · exact ⟨_, rfl, _, rfl, .inr ⟨hx, q⟩⟩
    refine ⟨_, rfl, _, rfl, .inl ⟨a, n, f, rfl, hm, ?_⟩⟩
    obtain ⟨dx, fs, em⟩ := at_map hm
    refine ⟨_, rfl, a, dx, fs, rfl, em, a, n, f, rfl, hm, _, rfl, one_le, ?_⟩
    refine fun l1 n_l1 => ?_
    generalize g_l1 : L2.upd _ l1 _ = H1
    obtain ⟨s_H1, e_l1⟩ := U.upd_facts g_l1 n_l1
    clear g_l1
    have kn : knownV T.C_Map H1 e := by
      cases e with
      | ref a =>
        rcases hk with ⟨xs, e⟩ | ⟨xs, e⟩ | ⟨xs, e⟩ | ⟨dx, fs, e⟩
        · exact .inl ⟨_, s_H1 _ _ e⟩
        · exact .inr (.inl ⟨_, s_H1 _ _ e⟩)
        · exact .inr (.inr (.inl ⟨_, s_H1 _ _ e⟩))
        · exact .inr (.inr (.inr ⟨_, _, s_H1 _ _ e⟩))
      | _ => exact hk
    refine ⟨n, l1, e, rfl, e_l1, kn, ?_⟩
    rcases h with ⟨hr1, q⟩ | ⟨i, rfl, i0, i1, q⟩
    · exact .inr ⟨hr1, fun H' s' d nd => q H' (s_H1.trans s') d nd⟩
    refine .inl ⟨by simp only [inR, Bool.and_eq_true, decide_eq_true_eq]; omega, fun H2 s2 => ?_⟩
    have hm2 := (hm.same s_H1).same s2
    obtain ⟨dy, fy, em2⟩ := at_map hm2
    refine ⟨_, rfl, a, dy, fy, rfl, em2, a, n, f, rfl, hm2, ?_⟩
    refine fun p np => ?_
    refine ⟨_, rfl, _, rfl, p, _, n, f, i, rfl, upd_same, di_tab hm2.wf, hm2.wf, hm2.hi, i0, i1, fun r H3 pre z nr s3 er R st => ?_⟩
    have ep := s3 _ _ (upd_same (H := H2) (a := p) (o := .dK (kvI (tab n f))))
    refine ⟨_, rfl, 1, rfl, r, _, -1, .int z, rfl, rfl, SqL.of er, lastI _ _, _, rfl, p, _, rfl, dgetI ep (di_tab hm2.wf) z, _, rfl, ?_⟩
    have row : IsRow f i (pre ++ [z]) := ⟨pre, z, rfl, R, st⟩
    have fin := q H3 (((s_H1.trans s2).trans (Same.new np)).trans s3)
    unfold fateV at fin
    rw [clo_eq row, rowN_eq row] at fin
    rcases st with st | st
    · rw [st] at fin ⊢
      refine iteF ⟨_, rfl, r, _, rfl, .inl (SqL.of er), _, _, rfl, rfl, ?_⟩
      rw [List.length_map]
      exact fin
    · rw [st] at fin ⊢
      exact iteT fin
end
end My
namespace My
open PM
/-! ### maps made of blocks, one behind the other -/
abbrev Blk := Bool × Nat × Nat
def nxt (b : Blk) (x : Int) : Option Int := if x + 1 < (b.2.1 : Int) + (b.2.2 : Int) then some (x + 1) else if b.1 then some (b.2.1 : Int) else none
/-! ### its rows -/
end My
namespace My
open PySem L2 U StX PM
/-! ### counts -/
def Pos (l : List (Int × Int)) : Prop := ∀ p ∈ l, 0 < p.1 ∧ 0 < p.2 ∧ p.2 < 2 ^ 64
def Asc (l : List (Int × Int)) : Prop := (l.map (·.1)).Pairwise (· < ·) ∧ Pos l
theorem Asc.nd {l : List (Int × Int)} (h : Asc l) : (l.map (·.1)).Nodup := nodup_of_lt h.1
def spAreC : Sp := fun vs H Q _ => ∃ (d : Addr) (l : List (Int × Int)), vs = [.ref d] ∧ H d = some (.dK (kvI l)) ∧ Pos l ∧ l.length ≤ 1000 ∧ ∀ H', Same H H' → Q (.bl true) H'
def spOrd : Sp := fun vs H Q _ => ∃ (d : Addr) (l : List (Int × Int)), vs = [.ref d] ∧ H d = some (.dK (kvI l)) ∧ (l.map (·.1)).Nodup ∧ Pos l ∧ l.length ≤ 1000 ∧ ∀ p cs H', Same H H' → H p = none → H' p = some (.dK (kvI cs)) → cs.Perm l → Asc cs → Q (.ref p) H'
/-- {x: .. for x in a list of ints that is made here} -/
theorem dc_intsX {K : PySem.W.Frag} {te : TE} {i : Nat} {tk tv : TE} {vs : List Nat} {σ : L2.St} {H0 : Hp} {Q : VK} (vf : Int → Int) (Φ : Addr → List Int → Hp → Prop) (hte : ∀ R : VK, (∀ a xs H, Φ a xs H → R (.ref a) H) → te σ H0 R) (ha : ∀ a xs H, Φ a xs H → H a = some (.lst (xs.map V.int)) ∧ xs.Nodup ∧ xs.length < sizeLine)
    (hw : ∀ a, wipe ((wipe σ vs).set i a) vs = wipe σ vs)
    (hk : ∀ (y : Int) (H1 : Hp) (R : VK), R (.int y) H1 → tk ((wipe σ vs).set i (some (.int y))) H1 R) (hv : ∀ a xs H, Φ a xs H → ∀ y ∈ xs, ∀ (H1 : Hp), L2.Same H H1 → ∀ (R : VK), R (.int (vf y)) H1 → tv ((wipe σ vs).set i (some (.int y))) H1 R)
    (hq : ∀ a xs H, Φ a xs H → ∀ D H', H D = none → H' D = some (.dK (kvI (xs.map fun x => (x, vf x)))) → L2.Same H H' → Q (.ref D) H') :
    tDc (iList K te) (gName i) tYes tk tv vs σ H0 Q := by
  refine hte _ fun a xs H φ => ?_
  obtain ⟨hx, nd, hz⟩ := ha a xs H φ
  refine ⟨a, rfl, ⟨_, SqL.of hx⟩, fun D hD => ?_⟩
  refine dc_it (walk_list (xs := xs.map V.int)) (fun k H' => L2.Same H H' ∧ H' D = some (.dK (kvI ((xs.take k).map fun x => (x, vf x))))) ⟨Same.new hD, upd_same⟩ (fun k H' _ p => SqL.of (p.1 _ _ hx)) ?_ ?_
  · rintro k v H' H'' hk1 ⟨p1, p2⟩ ⟨rfl, ev⟩
    rw [List.length_map] at hk1
    obtain ⟨y, ey⟩ : ∃ y, xs[k]? = some y := ⟨_, List.getElem?_eq_getElem hk1⟩
    have ev' : v = .int y := by
      have := get_map ey
      rw [this] at ev
      exact (Option.some.inj ev).symm
    subst ev'
    refine ⟨hw _, yes_ ?_⟩
    refine hk y _ _ (hv a xs H φ y (List.mem_of_getElem? ey) _ p1 _ ⟨_, Sum.inl y, rfl, p2, ?_, ?_, ?_⟩)
    · refine Nat.lt_of_le_of_lt ?_ hz
      rw [kvI_length, List.length_map, List.length_take]
      omega
    · exact Same.put p1 hD
    · have nin : y ∉ ((xs.take k).map fun x => (x, vf x)).map (·.1) := by
        rw [List.map_map]
        have : ((xs.take k).map ((fun p : Int × Int => p.1) ∘ fun x => (x, vf x))) = xs.take k := by
          rw [show ((fun p : Int × Int => p.1) ∘ fun x => (x, vf x)) = id from rfl, List.map_id]
        rw [this]
        intro hm
        have e2 : xs = xs.take k ++ xs.drop k := (List.take_append_drop k xs).symm
        rw [e2, List.nodup_append] at nd
        refine nd.2.2 y hm y (List.mem_iff_getElem?.mpr ⟨0, ?_⟩) rfl
        rw [List.getElem?_drop]
        exact ey
      rw [upd_same, putK_kvI nin, take_more ey, List.map_append]
      rfl
  · rintro H' ⟨p1, p2⟩
    rw [List.length_map, List.take_length] at p2
    exact hq a xs H φ D H' hD p2 p1
theorem keys_madeL (l : List (Int × Int)) : madeL (fun _ _ => true) (fun x _ => V.int x) l = (l.map (·.1)).map V.int := by
  unfold madeL
  rw [List.map_map, List.filter_eq_self.mpr fun _ _ => rfl]
  rfl
theorem ord_perm {l : List (Int × Int)} (nd : (l.map (·.1)).Nodup) {ns : List Int} (hp : ns.Perm (l.map (·.1))) (hs : ns.Pairwise (· ≤ ·)) : (ns.map fun x => (x, (lk l x).getD 0)).Perm l ∧ ((ns.map fun x => (x, (lk l x).getD 0)).map (·.1)).Pairwise (· < ·) := by
  have di : DI l (lk l) := ⟨nd, fun _ => rfl⟩
  have hnd : ns.Nodup := hp.nodup_iff.mpr nd
  constructor
  · have h1 := hp.map (fun x => (x, (lk l x).getD 0))
    refine h1.trans ?_
    rw [List.map_map]
    have : l.map ((fun x => (x, (lk l x).getD 0)) ∘ fun p : Int × Int => p.1) = l := by
      conv => rhs; rw [← List.map_id l]
      refine List.map_congr_left fun p hp' => ?_
      have := di.mem.mp (show (p.1, p.2) ∈ l from hp')
      show (p.1, (lk l p.1).getD 0) = p
      rw [this]
      rfl
    rw [this]
  · rw [List.map_map, show ((fun p : Int × Int => p.1) ∘ fun x => (x, (lk l x).getD 0)) = id from rfl, List.map_id]
    have := List.Pairwise.and hs hnd
    exact this.imp fun {a b} h => by omega
section
variable {P : Program} {w : World} {K : PySem.W.Frag} {mg : Str → Option Value} {base : Heap}
theorem ok_are_counts (T : Txt K mg) : FnR P w K mg base CX0 3 T.f_are_counts spAreC := by
  refine T.A_are_counts.ok sc_are_counts (fun vs H Q E h => ?_) (fun cdv A outer s H vs Q E hr h => ?_)
  · obtain ⟨d, l, rfl, _⟩ := h
    rfl
  · obtain ⟨d, l, rfl, hd, hp, hl, q⟩ := h
    refine ⟨_, (pss_cons (ps_if (pt_not (pt_val (pe_callB call_isi (by rfl) T.n_isinstance (by decide +kernel) (pa_cons (pv 0) (pa_cons (pe_bltn (v := .ty "dict") (u := .type "dict") (by rfl) T.n_dict (by decide +kernel) rfl) pa_nil)))))
        (pss_one (ps_ret pe_bl)) pss_nil)
      (pss_one (ps_ret (pe_callB (cr_all rfl) (by rfl) T.n_all (by decide +kernel) (pa_cons (pe_lock (pe_lc (own := [("one", 1), ("number", 2)]) (g := (gTup K 2 (gCons (gName 1) (gCons (gName 2) gNil)))) (tt := tYes) rfl sc_are_counts.nd (pi_items (pv 0)) (blkOk_by (own := [("one", 1), ("number", 2)]) (N := n_are_counts) (sc := defScope s_are_counts) (by decide +kernel)) (fun _ _ _ _ _ => (pg_tup rfl (pgs_cons (pg_name (i := 1) sc_are_counts.nd rfl (Or.inl rfl)) (pgs_cons (pg_name (i := 2) sc_are_counts.nd rfl (Or.inl rfl)) pgs_nil)))) (fun _ _ _ _ _ => pts_nil) (fun _ _ _ _ _ => (pe_and (pe_callR (ok_is_integer T) (hr.mono (by decide)) T.A_is_integer.kp rfl T.g_is_integer pass0 (pa_cons (pv 1) pa_nil)) (pe_and (pe_callR (ok_is_integer T) (hr.mono (by decide)) T.A_is_integer.kp rfl T.g_is_integer pass0 (pa_cons (pv 2) pa_nil)) (pe_and (pe_cmpR op_gt (pv 1) pe_int (nomark _)) (pe_one (pe_cmpR op_gt (pv 2) pe_int (nomark _))))))))) pa_nil))))), ?_⟩
    refine ⟨_, rfl, _, _, _, _, true, rfl, .ty _, .base (.dK hd), kit_ty (by decide +kernel), _, rfl, iteF ?_⟩
    refine lc_items (fun _ _ => true) (fun x y => .bl true) hd (fun H' R r o => ⟨_, rfl, r⟩) (fun _ _ => rfl) (fun x y hxy H1 o => ⟨fun R r => r, fun _ R r => ?_⟩) (small1000 hl) (fun D H1 nD hD s1 => ?_)
    · obtain ⟨h1, h2, _⟩ := hp _ hxy
      dsimp only at h1 h2
      refine ⟨_, rfl, _, rfl, trivial, _, rfl, iteT ⟨_, rfl, _, rfl, trivial, _, rfl, iteT ⟨_, rfl, _, _, rfl, rfl, _, rfl, ?_⟩⟩⟩
      rw [decide_eq_true h1]
      refine iteT ⟨_, rfl, _, _, rfl, rfl, ?_⟩
      show R (.bl (decide (0 < y))) H1
      rw [decide_eq_true h2]
      exact r
    · refine ⟨D, List.replicate l.length true, rfl, SqL.of ?_, ?_⟩
      · rw [hD]
        congr 2
        unfold madeL
        simp [List.map_const']
      · have : (List.replicate l.length true).all id = true := List.all_eq_true.mpr fun x hx => by rw [List.eq_of_mem_replicate hx]; rfl
        rw [this]
        exact q H1 s1
theorem ok_ordered (T : Txt K mg) : FnR P w K mg base CX0 3 T.f_ordered spOrd := by
  refine T.A_ordered.ok sc_ordered (fun vs H Q E h => ?_) (fun cdv A outer s H vs Q E hr h => ?_)
  · obtain ⟨d, l, rfl, _⟩ := h
    rfl
  · obtain ⟨d, l, rfl, hd, nd, hp, hl, q⟩ := h
    have hu := hu_of hr
    refine ⟨_, (pss_one (ps_ret (pe_dc (own := [("length", 1)]) (g := (gName 1)) (tt := tYes) rfl sc_ordered.nd (pi_list (pe_callB cr_sortedI (by rfl) T.n_sorted (by decide +kernel) (pa_cons (pe_lock (pe_lc (own := [("length", 1)]) (g := (gName 1)) (tt := tYes) rfl sc_ordered.nd (pi_keys (pv 0)) (blkOk_by (own := [("length", 1)]) (N := n_ordered) (sc := defScope s_ordered) (by decide +kernel)) (fun _ _ _ _ _ => (pg_name (i := 1) sc_ordered.nd rfl (Or.inl rfl))) (fun _ _ _ _ _ => pts_nil) (fun _ _ _ _ _ => (pe_callTy call_int1 (by rfl) T.n_int (by decide +kernel) (pa_cons (pv 1) pa_nil))))) pa_nil))) (blkOk_by (own := [("length", 1)]) (N := n_ordered) (sc := defScope s_ordered) (by decide +kernel)) (fun _ _ _ _ _ => (pg_name (i := 1) sc_ordered.nd rfl (Or.inl rfl))) (fun _ _ _ _ _ => pts_nil) (fun _ _ _ _ _ => (pv 1)) (fun _ _ _ _ _ => (pe_dget hu (pv 0) (pv 1) (fun _ _ => rfl)))))), ?_⟩
    refine dc_intsX (fun x => (lk l x).getD 0) (fun a xs H' => H' a = some (.lst (xs.map V.int)) ∧ xs.Perm (l.map (·.1)) ∧ xs.Pairwise (· ≤ ·) ∧ Same H H') (fun R rr => ?_) (fun a xs H' ⟨e, hp', _, _⟩ => ⟨e, hp'.nodup_iff.mpr nd, ?_⟩) (fun _ => rfl) (fun y H1 R r => ⟨_, rfl, r⟩) (fun a xs H' ⟨e, hp', _, s'⟩ y hy H1 s1 R r => ?_) (fun a xs H' ⟨e, hp', hs', s'⟩ D H1 nD hD s1 => ?_)
    · refine lc_keys (fun _ => true) (fun x => .int x) hd (fun H' R r o => ⟨_, rfl, r⟩) (fun _ => rfl) (fun x H1 o => ⟨fun R r => r, fun R r => ?_⟩) (small1000 hl) (fun D H1 nD hD s1 => ?_)
      · exact ⟨_, rfl, .inl ⟨_, rfl, r⟩⟩
      · rw [keys_madeL] at hD
        exact ⟨D, _, rfl, SqL.of hD, fun ns' p hp' hs' np => rr p ns' _ ⟨upd_same, hp', hs', s1.trans (Same.new np)⟩⟩
    · have := hp'.length_eq
      rw [List.length_map] at this
      exact small1000 (by omega)
    · have hm : y ∈ l.map (·.1) := hp'.mem_iff.mp hy
      obtain ⟨⟨y', z⟩, hz, rfl⟩ := List.mem_map.mp hm
      have di : DI l (lk l) := ⟨nd, fun _ => rfl⟩
      have e1 := di.mem.mp hz
      have g := dgetL (s1 _ _ (s' _ _ hd)) di y'
      dsimp only at r ⊢
      rw [e1] at g r
      exact ⟨_, rfl, _, rfl, d, .int z, rfl, g, r⟩
    · obtain ⟨o1, o2⟩ := ord_perm nd hp' hs'
      exact q D _ H1 (s'.trans s1) (s'.free nD) hD o1 ⟨o2, fun p hp2 => hp p (o1.mem_iff.mp hp2)⟩
end
end My
namespace My
open PySem L2 U StX PM
/-! ### shapes -/
def shf (D1 D2 : Addr) : List (Str × V) := [("own_cycles", .ref D1), ("own_chains", .ref D2)]
structure IsShape (C : Addr) (H : Hp) (s : Addr) (cs hs : List (Int × Int)) : Prop where
  ob : ∃ dx D1 D2, H s = some (.ins C dx (shf D1 D2)) ∧ H D1 = some (.dK (kvI cs)) ∧ H D2 = some (.dK (kvI hs))
  a1 : Asc cs
  a2 : Asc hs
  l1 : cs.length ≤ 1000
  l2 : hs.length ≤ 1000
theorem IsShape.same {C : Addr} {H H' : Hp} {s : Addr} {cs hs : List (Int × Int)} (h : IsShape C H s cs hs) (x : Same H H') : IsShape C H' s cs hs := by
  obtain ⟨⟨dx, D1, D2, h1, h2, h3⟩, a1, a2, l1, l2⟩ := h
  exact ⟨⟨dx, D1, D2, x _ _ h1, x _ _ h2, x _ _ h3⟩, a1, a2, l1, l2⟩
theorem Off.ofS {p : Addr} {H H' : Hp} (s : Same H H') : Off p H H' := fun _ _ _ h => s _ _ h
theorem stF {p : Addr} {H H' : Hp} {o : HO} (g : upd H p o = H') : Off p H H' ∧ H' p = some o := by
  subst g
  exact ⟨Off.lock, upd_same⟩
def spInitSh (C : Addr) : Sp := fun vs H Q _ => ∃ (s dx d1 d2 : Addr) (l1 l2 : List (Int × Int)), vs = [.ref s, .ref d1, .ref d2] ∧ H s = some (.ins C dx []) ∧ H d1 = some (.dK (kvI l1)) ∧ H d2 = some (.dK (kvI l2)) ∧ (l1.map (·.1)).Nodup ∧ (l2.map (·.1)).Nodup ∧ Pos l1 ∧ Pos l2 ∧ l1.length ≤ 1000 ∧ l2.length ≤ 1000 ∧
  ∀ cs hs H', Off s H H' → cs.Perm l1 → hs.Perm l2 → IsShape C H' s cs hs → Q .non H'
section
variable {P : Program} {w : World} {K : PySem.W.Frag} {mg : Str → Option Value} {base : Heap}
theorem ok_sh_init (T : Txt K mg) : FnR P w K mg base CX0 5 T.f_Shape__init (spInitSh T.C_Shape) := by
  refine T.A_Shape__init.ok sc_Shape__init (fun vs H Q E h => ?_) (fun cdv A outer s H vs Q E hr h => ?_)
  · obtain ⟨s, dx, d1, d2, l1, l2, rfl, _⟩ := h
    rfl
  · obtain ⟨s, dx, d1, d2, l1, l2, rfl, hs, hd1, hd2, n1, n2, p1, p2, b1, b2, q⟩ := h
    refine ⟨_, (pss_cons (ps_if (pt_not (pt_val (pe_callR (ok_are_counts T) (hr.mono (by decide)) T.A_are_counts.kp rfl T.g_are_counts pass0 (pa_cons (pv 1) pa_nil))))
        (pss_one ps_never) pss_nil)
      (pss_cons (ps_if (pt_not (pt_val (pe_callR (ok_are_counts T) (hr.mono (by decide)) T.A_are_counts.kp rfl T.g_are_counts pass0 (pa_cons (pv 2) pa_nil))))
        (pss_one ps_never) pss_nil)
      (pss_cons (ps_fld (pv 0) (pe_callR (ok_ordered T) (hr.mono (by decide)) T.A_ordered.kp rfl T.g_ordered pass0 (pa_cons (pv 1) pa_nil)) rfl)
      (pss_one (ps_fld (pv 0) (pe_callR (ok_ordered T) (hr.mono (by decide)) T.A_ordered.kp rfl T.g_ordered pass0 (pa_cons (pv 2) pa_nil)) rfl))))), ?_⟩
    refine ⟨_, rfl, d1, l1, rfl, hd1, p1, b1, fun H1 s1 => ⟨_, rfl, iteF ?_⟩⟩
    refine ⟨_, rfl, d2, l2, rfl, s1 _ _ hd2, p2, b2, fun H2 s2 => ⟨_, rfl, iteF ?_⟩⟩
    have s12 := s1.trans s2
    refine ⟨_, rfl, d1, l1, rfl, s12 _ _ hd1, n1, p1, b1, fun D1 cs H3 s3 nD1 hD1 pm1 as1 => ?_⟩
    have s13 := s12.trans s3
    have hs3 := s13 _ _ hs
    refine ⟨_, rfl, s, _, dx, _, rfl, hs3, T.o_Shape.cl, T.na_own_cycles_Shape, (by show 0 < 1000; decide), ?_⟩
    generalize g4 : upd _ s _ = H4
    obtain ⟨o4, e4⟩ := stF g4
    clear g4
    have nd2 : d2 ≠ s := ne_of hd2 hs (by intro z; cases z)
    have hd24 := o4 _ _ nd2 (s13 _ _ hd2)
    have nD1s : D1 ≠ s := (ne_of_none (s12 _ _ hs) nD1).symm
    have hD14 := o4 _ _ nD1s hD1
    refine ⟨_, rfl, d2, l2, rfl, hd24, n2, p2, b2, fun D2 hs' H5 s5 nD2 hD2 pm2 as2 => ?_⟩
    refine ⟨_, rfl, s, _, dx, _, rfl, s5 _ _ e4, T.o_Shape.cl, T.na_own_chains_Shape, (by show 1 < 1000; decide), ?_⟩
    generalize g6 : upd _ s _ = H6
    obtain ⟨o6, e6⟩ := stF g6
    clear g6
    have nD2s : D2 ≠ s := (ne_of_none e4 nD2).symm
    refine q cs hs' H6 ((((Off.ofS s13).tr o4).tr (Off.ofS s5)).tr o6) pm1 pm2 ⟨⟨dx, D1, D2, e6, o6 _ _ nD1s (s5 _ _ hD14), o6 _ _ nD2s hD2⟩, as1, as2, by rw [pm1.length_eq]; exact b1, by rw [pm2.length_eq]; exact b2⟩
end
end My
namespace My
open PySem L2 U StX PM
def isSrc (f : PF) : V → Bool | .int i => (f i).isSome | _ => false
def tgtV (f : PF) : V → Option Int | .int i => f i | _ => none
theorem isSrc_tgt (f : PF) (x : V) : isSrc f x = (tgtV f x).isSome := by cases x <;> rfl
def spSrc (C : Addr) : Sp := fun vs H Q _ => ∃ a n f x, vs = [.ref a, x] ∧ IsMap C H a n f ∧ knownV C H x ∧ Q (.bl (isSrc f x)) H
def spGet (C CE : Addr) : Sp := fun vs H Q E => ∃ a n f x, vs = [.ref a, x] ∧ IsMap C H a n f ∧ knownV C H x ∧ (∀ y, tgtV f x = some y → Q (.int y) H) ∧ (tgtV f x = none → ∀ d, H d = none → E (.ref CE) (some d) (upd H d (.xd [("value", x)])))
section
variable {P : Program} {w : World} {K : PySem.W.Frag} {mg : Str → Option Value} {base : Heap}
theorem ok_ini_Undefined (T : Txt K mg) : FnR P w K mg base CX0 1 T.f_Undefined__init (spIni1 T.C_Undefined "value") := by
  refine T.A_Undefined__init.ok sc_Undefined__init (fun vs H Q E h => ?_) (fun cdv A outer s H vs Q E hr h => ?_)
  · obtain ⟨a, v, rfl, _⟩ := h
    rfl
  · obtain ⟨a, v, rfl, ha, q⟩ := h
    refine ⟨_, pss_one (ps_ostG (pv 0) (pv 1)), ?_⟩
    exact ⟨_, rfl, _, rfl, a, T.C_Undefined, rfl, T.x_Undefined, T.na_value_Undefined, .inl ⟨ha, fun dx h1 h2 => q dx h1 h2⟩⟩
theorem dget_tab {H : Hp} {D : Addr} {n : Int} {f : PF} (h : H D = some (.dK (kvI (tab n f)))) (wf : WF n f) (i : Int) : DGet H D (.int i) ((f i).map V.int) := by
  have := DGet.k (k := Sum.inl i) h
  rw [valV_kvI, lk_tab wf] at this
  exact this
theorem ok_is_source (T : Txt K mg) : FnR P w K mg base CX0 3 T.f_Map_is_source (spSrc T.C_Map) := by
  refine T.A_Map_is_source.ok sc_Map_is_source (fun vs H Q E h => ?_) (fun cdv A outer s H vs Q E hr h => ?_)
  · obtain ⟨a, n, f, x, rfl, _⟩ := h
    rfl
  · obtain ⟨a, n, f, x, rfl, ha, hx, q⟩ := h
    have hu := hu_of hr
    refine ⟨_, (pss_one (ps_ret (pe_and (pe_callR (ok_in_range T) (hr.mono (by decide)) T.A_in_range.kp rfl T.g_in_range pass0 (pa_cons (pv 1) (pa_cons pe_int (pa_cons (pe_op op_sub (pe_fld (pv 0) rfl) pe_int) pa_nil)))) (pe_one (pe_cmp (pc_din hu (pv 1) (pe_fld (pv 0) rfl))))))), ?_⟩
    obtain ⟨dx, D, h1, h2⟩ := id ha.ob
    refine ⟨_, rfl, _, rfl, a, _, dx, _, _, rfl, h1, T.o_Map.cl, T.na_own_size_Map, flds_size _ _, _, _, rfl, rfl, x, 0, n - 1, rfl, hx, _, rfl, ?_⟩
    cases x with
    | int i =>
      refine ifB (fun hc => ?_) (fun hc => ?_)
      · refine ⟨_, rfl, _, rfl, a, _, dx, _, _, rfl, h1, T.o_Map.cl, T.na_own_arrows_Map, flds_arrows _ _, D, _, rfl, dget_tab h2 ha.wf i, ?_⟩
        rw [Option.isSome_map]
        exact q
      · have e : f i = none := by
          cases h : f i with
          | none => rfl
          | some y =>
            have := ha.wf.dom i y h
            simp only [inR, Bool.and_eq_false_iff, decide_eq_false_iff_not] at hc
            omega
        have e2 : isSrc f (.int i) = false := by show (f i).isSome = false; rw [e]; rfl
        rw [e2] at q
        exact q
    | _ => exact iteF q
theorem okX_getitem (T : Txt K mg) : FnR P w K mg base (L2.CX P w) 4 T.f_Map__getitem (spGet T.C_Map T.C_Undefined) := by
  refine T.A_Map__getitem.okX sc_Map__getitem (fun vs H Q E h => ?_) (fun cdv A outer s H vs Q E hr h => ?_)
  · obtain ⟨a, n, f, x, rfl, _⟩ := h
    rfl
  · obtain ⟨a, n, f, x, rfl, ha, hx, q, qx⟩ := h
    have hu := hu_of hr
    refine ⟨_, (pss_cons (ps_if (pt_not (pt_val (pe_methR (pv 0) T.o_Map.cl T.meth_Map_is_source (ok_is_source T) (hr.mono (by decide)) pass0 (pa_cons (pv 1) pa_nil))))
        (pss_one (ps_raise rfl (takes_of rfl rfl rfl rfl) (pmk_oexG T.x_Undefined T.m_Undefined__init T.ti_Undefined__init (ok_ini_Undefined T) (hr.mono (by decide)) pass0 rfl T.g_Undefined (pa_cons (pv 1) pa_nil)))) pss_nil)
      (pss_one (ps_ret (pe_dget hu (pe_fld (pv 0) rfl) (pv 1) (fun _ _ => rfl))))), ?_⟩
    obtain ⟨dx, D, h1, h2⟩ := id ha.ob
    refine ⟨_, rfl, a, dx, _, rfl, h1, flds_no _ _ (by decide +kernel) (by decide +kernel), _, rfl, a, n, f, x, rfl, ha, hx, _, rfl, ?_⟩
    rw [isSrc_tgt]
    cases ht : tgtV f x with
    | none => exact iteT ⟨_, rfl, mk_one fun d hd => qx ht d hd⟩
    | some y =>
      refine iteF ?_
      cases x with
      | int i =>
        have hf : f i = some y := ht
        have := dget_tab h2 ha.wf i
        rw [hf] at this
        exact ⟨_, rfl, a, _, dx, _, _, rfl, h1, T.o_Map.cl, T.na_own_arrows_Map, flds_arrows _ _, _, rfl, D, .int y, rfl, this, q y ht⟩
      | _ => cases ht
/-! ### repr, the empty dict too -/
end
end My
namespace U
open PySem PySem.Spec PyProof.Rows L2
/-! ### dict(zip(a, b, strict=True)), dict(zip(a, b)): lists or tuples -/
/-- one draw, strict or not -/
def drw (st : Bool) (it : Value) : Sem (Option Value) := do
  if st then Builtin.SmallTypes.nextOrEnd it else return some (← Builtin.SmallTypes.nextOf it)
def SIt (tup : Bool) (g : Heap) (it l : Addr) (k : Nat) : Prop := match tup with | true => g.IsTupleIter it l k | false => g.IsListIter it l k
def SSq (tup : Bool) (g : Heap) (l : Addr) (xs : Array Value) : Prop := match tup with | true => g.IsTuple l xs | false => g.IsList l xs
theorem SIt.mv {tup : Bool} {g g' : Heap} {it l : Addr} {k : Nat} (x : SIt tup g it l k) (e : ∀ o, g.get? it = some o → g'.get? it = some o) : SIt tup g' it l k := by
  cases tup
  · exact Heap.IsListIter.at x e
  · exact Heap.IsTupleIter.at x e
theorem SSq.mv {tup : Bool} {g g' : Heap} {l : Addr} {xs : Array Value} (x : SSq tup g l xs) (e : ∀ o, g.get? l = some o → g'.get? l = some o) : SSq tup g' l xs := by
  cases tup
  · exact Heap.IsList.at x e
  · exact Heap.IsTuple.at x e
theorem SIt.ob {tup : Bool} {g : Heap} {it l : Addr} {k : Nat} (x : SIt tup g it l k) : ∃ o, g.get? it = some o := by
  cases tup
  · obtain ⟨o, e, _⟩ := x
    exact ⟨o, e⟩
  · obtain ⟨o, e, _⟩ := x
    exact ⟨o, e⟩
theorem SSq.ob {tup : Bool} {g : Heap} {l : Addr} {xs : Array Value} (x : SSq tup g l xs) : ∃ o, g.get? l = some o := by
  cases tup
  · obtain ⟨o, e, _⟩ := x
    exact ⟨o, e⟩
  · obtain ⟨o, e, _⟩ := x
    exact ⟨o, e⟩
/-- the zip object: held, that its tuple is out -/
def IsZ (st : Bool) (g : Heap) (z TI TO : Addr) (v : Value) (hd : Bool) : Prop :=
  g.get? z = some { cls := .type "zip", dict := none, data := .fields #[v, .bool hd, .bool st, .ref TI, .ref TO], slots := #[] }
section
variable {prog : Program} {w : World} {A : Around} {E : Value → Shared → Prop} {s : Shared} {st tup : Bool} {it l : Addr} {i : Nat} {items : Array Value}
theorem stop_it {Q : PySem.Fin → Shared → Prop} (hn : A.handled = none) (q : ∀ g e, (∀ c o, s.heap.get? c = some o → g.get? c = some o) → (∃ o, g.get? e = some o ∧ o.cls = .type "StopIteration") → E (.ref e) { s with heap := g }) :
    wpAny (model prog w) A (Builtin.SmallTypes.stopIteration) Q E s := by
  show wpAny _ _ (newExc (.type "StopIteration") [] >>= _) _ _ s
  refine wpAny_bind ?_
  simp only [newExc, newTuple]; refine wpAny_bind (wpAny_newObj_type ?_ (by size_fits))
  refine wpAny_bind (m := firstArgMember _ _) (wpAny_of_eq (a := Value.none) (by first | (simp only [firstArgMember]; rfl) | rfl) ?_)
  refine wpAny_newObj_type ?_ (by size_fits); simp only [raiseNew]
  refine wpAny_bind (wpAny_handled ?_); rw [hn]
  refine wpAny_bind (wpAny_pure (wpAny_throw (q _ _ (fun c o e => Heap.get?_push_of_some _ (Heap.get?_push_of_some _ e)) ⟨_, Heap.get?_push_size _ rfl, rfl⟩)))
theorem sit_item {x : Value} {Q : Value → Shared → Prop} (a : SIt tup s.heap it l i) (b : SSq tup s.heap l items) (c : items[i]? = some x)
    (q : ∀ g, SIt tup g it l (i + 1) → Heap.SameBut it s.heap g → Q x { s with heap := g }) : wpAny (model prog w) A (Builtin.SmallTypes.nextOf (.ref it)) Q E s := by
  cases tup
  · exact wpAny_nextOf_list_item a b c q
  · exact RZ.nextOf_tuple_item a b c q
theorem sit_end {Q : Value → Shared → Prop} (hn : A.handled = none) (a : SIt tup s.heap it l i) (b : SSq tup s.heap l items) (c : items[i]? = none)
    (q : ∀ g e, Heap.ExtBut it s.heap g → (∃ o, g.get? e = some o ∧ o.cls = .type "StopIteration") → E (.ref e) { s with heap := g }) : wpAny (model prog w) A (Builtin.SmallTypes.nextOf (.ref it)) Q E s := by
  cases tup
  · exact wpAny_nextOf_list_end hn a b c q
  · exact RZ.nextOf_tuple_end hn a b c q
theorem drw_item {x : Value} {Q : Option Value → Shared → Prop} (a : SIt tup s.heap it l i) (b : SSq tup s.heap l items) (c : items[i]? = some x)
    (q : ∀ g, SIt tup g it l (i + 1) → Heap.SameBut it s.heap g → Q (some x) { s with heap := g }) : wpAny (model prog w) A (drw st (.ref it)) Q E s := by
  cases st
  · exact wpAny_bind (sit_item a b c fun g g1 g2 => wpAny_pure (q g g1 g2))
  · exact wpAny_bind (wpAny_attempt (sit_item a b c fun g g1 g2 => wpAny_pure (q g g1 g2)))
theorem drw_end {Q : Option Value → Shared → Prop} (hn : A.handled = none) (a : SIt tup s.heap it l i) (b : SSq tup s.heap l items) (c : items[i]? = none)
    (q : ∀ g, Heap.ExtBut it s.heap g → Q none { s with heap := g }) : wpAny (model prog w) A (Builtin.SmallTypes.nextOrEnd (.ref it)) Q E s := by
  refine wpAny_bind (wpAny_attempt (sit_end hn a b c fun g e g1 ⟨o, ho, hc⟩ => ?_))
  show wpAny _ _ (isInstance (.ref e) (.type "StopIteration") >>= _) _ _ _
  refine wpAny_bind (wpAny_isInstance (T := "StopIteration") (b := true) ⟨o, ho, hc⟩ isSubtype_stop ?_)
  exact wpAny_pure (q g g1)
variable {Z J O a1 a2 b1 b2 : Addr} {k1 k2 : Nat} {xs ys : Array Value} {x y u v : Value}
/-- what is reached by one more item -/
def ZGot (st tup : Bool) (h : Heap) (Z J O a1 a2 b1 b2 : Addr) (k1 k2 : Nat) (x y T : Value) (f : Bool) (g : Heap) : Prop :=
  IsZ st g Z J O T f ∧ SIt tup g a1 b1 (k1 + 1) ∧ SIt tup g a2 b2 (k2 + 1) ∧ IsPair g h.objs.size x y ∧ g.objs.size = h.objs.size + 1
theorem zz_item {Q : Value → Shared → Prop} (D : ZipApart Z J O a1 a2 b1 b2) (ez : IsZ st s.heap Z J O .none false) (eJ : IsPair s.heap J (.ref a1) (.ref a2)) (eO : IsPair s.heap O u v)
    (p1 : SIt tup s.heap a1 b1 k1) (p2 : SIt tup s.heap a2 b2 k2) (q1 : SSq tup s.heap b1 xs) (q2 : SSq tup s.heap b2 ys) (ex : xs[k1]? = some x) (ey : ys[k2]? = some y)
    (q : ∀ g, ZGot st tup s.heap Z J O a1 a2 b1 b2 k1 k2 x y (rawInt s.heap.objs.size) false g → (∀ c o, c ≠ Z → c ≠ O → c ≠ a1 → c ≠ a2 → s.heap.get? c = some o → g.get? c = some o) → Q (.ref s.heap.objs.size) { s with heap := g }) :
    wpAny (model prog w) A (Builtin.«zip.__next__» ⟨[.ref Z], []⟩) (fun fin s' => ∃ v, fin = .done (.ret v) ∧ Q v s') E s := by
  show wpAny _ _ (field (.ref Z) 2 >>= _) _ _ _
  refine wpAny_bind (wpAny_field ez rfl (x := .bool st) rfl ?_)
  show wpAny _ _ (field (.ref Z) 3 >>= _) _ _ _
  refine wpAny_bind (wpAny_field ez rfl (x := .ref J) rfl ?_)
  refine wpAny_bind (wpAny_seqItems eJ rfl ?_)
  show wpAny _ _ (Builtin.SmallTypes.ownedTupleIsFree (.ref Z) >>= _) _ _ _
  refine wpAny_bind ?_
  unfold Builtin.SmallTypes.ownedTupleIsFree
  refine wpAny_bind (wpAny_field ez rfl (x := .none) rfl (wpAny_pure ?_))
  simp only [if_true]
  refine wpAny_bind (wpAny_rule ?_)
  refine wpAny_bind (wpAny_field ez rfl (x := .ref O) rfl ?_)
  refine wpAny_bind (wpAny_setField_rec ez (by simp) fun g1 ez1 c1 => ?_)
  replace ez1 : IsZ st g1 Z J O .ellipsis false := ez1
  refine wpAny_bind ?_
  simp only [List.zipIdx_cons, List.zipIdx_nil, List.forIn_cons, List.forIn_nil]
  have hs : (Value.bool st == Value.bool true) = st := by cases st <;> rfl
  rw [hs]
  refine wpAny_bind (wpAny_bind (wpAny_onRaise ?_))
  show wpAny _ _ (drw st (.ref a1)) _ _ _
  refine drw_item (p1.mv fun o e => c1.extBut _ _ D.i1z e) (q1.mv fun o e => c1.extBut _ _ D.l1z e) ex fun g2 p1' c2 => ?_
  have eO2 : IsPair g2 O u v := c2.extBut _ _ D.TOi1 (c1.extBut _ _ D.TOz eO)
  refine wpAny_bind (wpAny_seqItems eO2 rfl ?_)
  refine wpAny_bind (wpAny_updateSeq_pair eO2 fun g3 eO3 c3 => ?_)
  replace eO3 : IsPair g3 O x v := eO3
  refine wpAny_bind (wpAny_letGo (wpAny_pure ?_))
  refine wpAny_bind (wpAny_bind (wpAny_onRaise ?_))
  show wpAny _ _ (drw st (.ref a2)) _ _ _
  refine drw_item (p2.mv fun o e => c3.extBut _ _ D.TOi2.symm (c2.extBut _ _ D.i12.symm (c1.extBut _ _ D.i2z e))) (q2.mv fun o e => c3.extBut _ _ D.l2TO (c2.extBut _ _ D.l2i1 (c1.extBut _ _ D.l2z e))) ey fun g4 p2' c4 => ?_
  have eO4 : IsPair g4 O x v := c4.extBut _ _ D.TOi2 eO3
  refine wpAny_bind (wpAny_seqItems eO4 rfl ?_)
  refine wpAny_bind (wpAny_updateSeq_pair eO4 fun g5 eO5 c5 => ?_)
  replace eO5 : IsPair g5 O x y := eO5
  refine wpAny_bind (wpAny_letGo (wpAny_pure (wpAny_pure ?_)))
  refine wpAny_bind (wpAny_seqItems eO5 rfl ?_)
  refine wpAny_bind (wpAny_newTuple ?_)
  have hsz : g5.objs.size = s.heap.objs.size := by rw [c5.1, c4.1, c3.1, c2.1, c1.1]
  have kp : ∀ c o, c ≠ Z → c ≠ O → c ≠ a1 → c ≠ a2 → s.heap.get? c = some o → g5.get? c = some o := fun c o n1 n2 n3 n4 e =>
    c5.extBut _ _ n2 (c4.extBut _ _ n4 (c3.extBut _ _ n2 (c2.extBut _ _ n3 (c1.extBut _ _ n1 e))))
  have ez5 : IsZ st g5 Z J O .ellipsis false := c5.extBut _ _ D.TOz.symm (c4.extBut _ _ D.i2z.symm (c3.extBut _ _ D.TOz.symm (c2.extBut _ _ D.i1z.symm ez1)))
  have r1 : SIt tup g5 a1 b1 (k1 + 1) := p1'.mv fun o e => c5.extBut _ _ D.TOi1.symm (c4.extBut _ _ D.i12 (c3.extBut _ _ D.TOi1.symm e))
  have r2 : SIt tup g5 a2 b2 (k2 + 1) := p2'.mv fun o e => c5.extBut _ _ D.TOi2.symm e
  have zl : Z < g5.objs.size := Heap.lt_size ez5
  show wpAny _ _ (Builtin.SmallTypes.ownedTupleHandOut (.ref Z) (.ref g5.objs.size) >>= _) _ _ _
  refine wpAny_bind ?_
  unfold Builtin.SmallTypes.ownedTupleHandOut
  have ez6 : IsZ st (g5.push { cls := .type "tuple", data := .seq #[x, y] }) Z J O .ellipsis false := Heap.get?_push_of_some _ ez5
  refine wpAny_bind (wpAny_setField_rec ez6 (by simp) fun g7 ez7 c7 => ?_)
  replace ez7 : IsZ st g7 Z J O (rawInt g5.objs.size) false := ez7
  refine wpAny_setField_rec ez7 (by simp) fun g8 ez8 c8 => ?_
  replace ez8 : IsZ st g8 Z J O (rawInt g5.objs.size) false := ez8
  have up : ∀ c o, c ≠ Z → g5.get? c = some o → g8.get? c = some o := fun c o n1 e => c8.extBut _ _ n1 (c7.extBut _ _ n1 (Heap.get?_push_of_some _ e))
  have t8 : IsPair g8 g5.objs.size x y := c8.extBut _ _ (Nat.ne_of_gt zl) (c7.extBut _ _ (Nat.ne_of_gt zl) (Heap.get?_push_size _ rfl))
  have s8 : g8.objs.size = g5.objs.size + 1 := by rw [c8.1, c7.1, Heap.size_push]
  rw [hsz] at ez8 t8 s8
  refine wpAny_pure ⟨_, rfl, ?_⟩
  show Q (.ref g5.objs.size) _
  rw [hsz]
  exact q g8 ⟨ez8, r1.mv fun o e => up _ o D.i1z e, r2.mv fun o e => up _ o D.i2z e, t8, s8⟩ fun c o n1 n2 n3 n4 e => up c o n1 (kp c o n1 n2 n3 n4 e)
theorem tup_held {T : Addr} {f : Bool} {oT : Obj} {Q : Bool → Shared → Prop} (ez : IsZ st s.heap Z J O (rawInt T) f) (eT : s.heap.get? T = some oT)
    (q : ∀ g, IsZ st g Z J O (rawInt T) true → Heap.SameBut Z s.heap g → Q false { s with heap := g }) : wpAny (model prog w) A (Builtin.SmallTypes.ownedTupleIsFree (.ref Z)) Q E s := by
  unfold Builtin.SmallTypes.ownedTupleIsFree
  refine wpAny_bind (wpAny_field ez rfl (x := rawInt T) rfl ?_)
  show wpAny _ _ (loadIfAlive ((T : Int).toNat) >>= _) _ _ s
  rw [Int.toNat_natCast]
  refine wpAny_bind (PySem.W.kdx_alive eT ?_)
  simp only [Option.isNone_some, Bool.false_eq_true, if_false]
  refine wpAny_bind (wpAny_field ez rfl (x := .bool f) rfl ?_)
  cases f
  · rw [if_pos (show (Value.bool false != Value.bool true) = true from rfl)]
    exact wpAny_bind (wpAny_setField_rec ez (by simp) fun g eg cg => wpAny_pure (q g eg cg))
  · rw [if_neg (show ¬ ((Value.bool true != Value.bool true) = true) from Bool.false_ne_true)]
    exact wpAny_pure (q s.heap ez (Heap.SameBut.refl _ _))
theorem zz_item_held {T : Addr} {f : Bool} {oT : Obj} {Q : Value → Shared → Prop} (D : ZipApart Z J O a1 a2 b1 b2) (ez : IsZ st s.heap Z J O (rawInt T) f) (eT : s.heap.get? T = some oT) (eJ : IsPair s.heap J (.ref a1) (.ref a2))
    (p1 : SIt tup s.heap a1 b1 k1) (p2 : SIt tup s.heap a2 b2 k2) (q1 : SSq tup s.heap b1 xs) (q2 : SSq tup s.heap b2 ys) (ex : xs[k1]? = some x) (ey : ys[k2]? = some y)
    (q : ∀ g, ZGot st tup s.heap Z J O a1 a2 b1 b2 k1 k2 x y (rawInt T) true g → (∀ c o, c ≠ Z → c ≠ a1 → c ≠ a2 → s.heap.get? c = some o → g.get? c = some o) → Q (.ref s.heap.objs.size) { s with heap := g }) :
    wpAny (model prog w) A (Builtin.«zip.__next__» ⟨[.ref Z], []⟩) (fun fin s' => ∃ v, fin = .done (.ret v) ∧ Q v s') E s := by
  show wpAny _ _ (field (.ref Z) 2 >>= _) _ _ _
  refine wpAny_bind (wpAny_field ez rfl (x := .bool st) rfl ?_)
  show wpAny _ _ (field (.ref Z) 3 >>= _) _ _ _
  refine wpAny_bind (wpAny_field ez rfl (x := .ref J) rfl ?_)
  refine wpAny_bind (wpAny_seqItems eJ rfl ?_)
  show wpAny _ _ (Builtin.SmallTypes.ownedTupleIsFree (.ref Z) >>= _) _ _ _
  refine wpAny_bind (tup_held ez eT fun g1 ez1 c1 => ?_)
  simp only [Bool.false_eq_true, if_false]
  refine wpAny_bind ?_
  rw [← Array.forIn_toList]
  simp only [List.forIn_cons, List.forIn_nil]
  have hs : (Value.bool st == Value.bool true) = st := by cases st <;> rfl
  rw [hs]
  refine wpAny_bind (wpAny_bind (wpAny_holding ?_))
  show wpAny _ _ (drw st (.ref a1)) _ _ _
  refine drw_item (s := { s with heap := g1 }) (p1.mv fun o e => c1.extBut _ _ D.i1z e) (q1.mv fun o e => c1.extBut _ _ D.l1z e) ex fun g2 p1' c2 => ?_
  refine wpAny_pure ?_
  refine wpAny_bind (wpAny_bind (wpAny_holding ?_))
  show wpAny _ _ (drw st (.ref a2)) _ _ _
  refine drw_item (s := { s with heap := g2 }) (p2.mv fun o e => c2.extBut _ _ D.i12.symm (c1.extBut _ _ D.i2z e)) (q2.mv fun o e => c2.extBut _ _ D.l2i1 (c1.extBut _ _ D.l2z e)) ey fun g3 p2' c3 => ?_
  refine wpAny_pure (wpAny_pure ?_)
  show wpAny _ _ (newTuple [x, y] >>= _) _ _ { s with heap := g3 }
  refine wpAny_bind (wpAny_newTuple ?_)
  have hsz : g3.objs.size = s.heap.objs.size := by rw [c3.1, c2.1, c1.1]
  have ez3 : IsZ st g3 Z J O (rawInt T) true := c3.extBut _ _ D.i2z.symm (c2.extBut _ _ D.i1z.symm ez1)
  have kp : ∀ c o, c ≠ Z → c ≠ a1 → c ≠ a2 → s.heap.get? c = some o → g3.get? c = some o := fun c o n1 n2 n3 e => c3.extBut _ _ n3 (c2.extBut _ _ n2 (c1.extBut _ _ n1 e))
  have r1 : SIt tup g3 a1 b1 (k1 + 1) := p1'.mv fun o e => c3.extBut _ _ D.i12 e
  refine wpAny_pure ⟨_, rfl, ?_⟩
  show Q (.ref g3.objs.size) _
  have hp : IsPair (g3.push { cls := .type "tuple", data := .seq #[x, y] }) g3.objs.size x y := Heap.get?_push_size _ rfl
  have hz4 : (g3.push { cls := .type "tuple", data := .seq #[x, y] }).objs.size = g3.objs.size + 1 := Heap.size_push ..
  rw [hsz] at hp hz4 ⊢
  exact q _ ⟨Heap.get?_push_of_some _ ez3, r1.mv fun o e => Heap.get?_push_of_some _ e, p2'.mv fun o e => Heap.get?_push_of_some _ e, hp, hz4⟩ fun c o n1 n2 n3 e => Heap.get?_push_of_some _ (kp c o n1 n2 n3 e)
/-- where a zip ends: at once for both where it is strict -/
def ZEnd (st : Bool) (xs ys : Array Value) (k1 k2 : Nat) : Prop := (st = true ∧ xs[k1]? = none ∧ ys[k2]? = none) ∨ (st = false ∧ (xs[k1]? = none ∨ ys[k2]? = none))
theorem zz_end {Q : Fin → Shared → Prop} (hn : A.handled = none) (D : ZipApart Z J O a1 a2 b1 b2) (ez : IsZ st s.heap Z J O .none false) (eJ : IsPair s.heap J (.ref a1) (.ref a2)) (eO : IsPair s.heap O u v)
    (p1 : SIt tup s.heap a1 b1 k1) (p2 : SIt tup s.heap a2 b2 k2) (q1 : SSq tup s.heap b1 xs) (q2 : SSq tup s.heap b2 ys) (he : ZEnd st xs ys k1 k2)
    (q : ∀ g e, (∀ c o, c ≠ Z → c ≠ O → c ≠ a1 → c ≠ a2 → s.heap.get? c = some o → g.get? c = some o) → (∃ o, g.get? e = some o ∧ o.cls = .type "StopIteration") → E (.ref e) { s with heap := g }) :
    wpAny (model prog w) A (Builtin.«zip.__next__» ⟨[.ref Z], []⟩) Q E s := by
  show wpAny _ _ (field (.ref Z) 2 >>= _) _ _ _
  refine wpAny_bind (wpAny_field ez rfl (x := .bool st) rfl ?_)
  show wpAny _ _ (field (.ref Z) 3 >>= _) _ _ _
  refine wpAny_bind (wpAny_field ez rfl (x := .ref J) rfl ?_)
  refine wpAny_bind (wpAny_seqItems eJ rfl ?_)
  show wpAny _ _ (Builtin.SmallTypes.ownedTupleIsFree (.ref Z) >>= _) _ _ _
  refine wpAny_bind ?_
  unfold Builtin.SmallTypes.ownedTupleIsFree
  refine wpAny_bind (wpAny_field ez rfl (x := .none) rfl (wpAny_pure ?_))
  simp only [if_true]
  refine wpAny_bind (wpAny_rule ?_)
  refine wpAny_bind (wpAny_field ez rfl (x := .ref O) rfl ?_)
  refine wpAny_bind (wpAny_setField_rec ez (by simp) fun g1 ez1 c1 => ?_)
  replace ez1 : IsZ st g1 Z J O .ellipsis false := ez1
  refine wpAny_bind ?_
  simp only [List.zipIdx_cons, List.zipIdx_nil, List.forIn_cons, List.forIn_nil]
  have hs : (Value.bool st == Value.bool true) = st := by cases st <;> rfl
  rw [hs]
  refine wpAny_bind (wpAny_bind (wpAny_onRaise ?_))
  rcases he with ⟨rfl, ex, ey⟩ | ⟨rfl, he⟩
  · show wpAny _ _ (Builtin.SmallTypes.nextOrEnd (.ref a1)) _ _ _
    refine drw_end hn (p1.mv fun o e => c1.extBut _ _ D.i1z e) (q1.mv fun o e => c1.extBut _ _ D.l1z e) ex fun g2 c2 => ?_
    have ez2 : IsZ true g2 Z J O .ellipsis false := c2 _ _ D.i1z.symm ez1
    show wpAny _ _ (setField (.ref Z) 0 .none >>= _) _ _ _
    refine wpAny_bind (wpAny_setField_rec ez2 (by simp) fun g3 ez3 c3 => ?_)
    refine wpAny_bind ?_
    show wpAny _ _ (forIn [(Value.ref a2, 1)] PUnit.unit _ >>= _) _ _ _
    simp only [List.forIn_cons, List.forIn_nil]
    refine wpAny_bind (wpAny_bind (wpAny_bind ?_))
    refine drw_end (tup := tup) hn (p2.mv fun o e => c3.extBut _ _ D.i2z (c2 _ _ D.i12.symm (c1.extBut _ _ D.i2z e))) (q2.mv fun o e => c3.extBut _ _ D.l2z (c2 _ _ D.l2i1 (c1.extBut _ _ D.l2z e))) ey fun g4 c4 => ?_
    show wpAny _ _ (pure (ForInStep.yield PUnit.unit)) _ _ _
    refine wpAny_pure (wpAny_pure (wpAny_bind (wpAny_rule (stop_it hn fun g5 e c5 ⟨oe, e1, e2⟩ => ?_))))
    exact q g5 e (fun c o n1 _ n3 n4 r => c5 _ _ (c4 _ _ n4 (c3.extBut _ _ n1 (c2 _ _ n3 (c1.extBut _ _ n1 r))))) ⟨oe, e1, e2⟩
  · show wpAny _ _ (Builtin.SmallTypes.nextOf (.ref a1) >>= _) _ _ _
    cases hx : xs[k1]? with
    | none =>
      refine wpAny_bind (sit_end hn (p1.mv fun o e => c1.extBut _ _ D.i1z e) (q1.mv fun o e => c1.extBut _ _ D.l1z e) hx fun g2 e c2 ⟨oe, e1, e2⟩ => ?_)
      have ez2 : IsZ false g2 Z J O .ellipsis false := c2 _ _ D.i1z.symm ez1
      have nez : e ≠ Z := fun z => by subst z; rw [ez2] at e1; cases e1; simp at e2
      refine wpAny_setField_rec ez2 (by simp) fun g3 _ c3 => q g3 e (fun c o n1 _ n3 _ r => c3.extBut _ _ n1 (c2 _ _ n3 (c1.extBut _ _ n1 r))) ⟨oe, c3.extBut _ _ nez e1, e2⟩
    | some x =>
      have hy : ys[k2]? = none := by rcases he with h | h; rw [hx] at h; cases h; exact h
      refine wpAny_bind (sit_item (p1.mv fun o e => c1.extBut _ _ D.i1z e) (q1.mv fun o e => c1.extBut _ _ D.l1z e) hx fun g2 p1' c2 => wpAny_pure ?_)
      have eO2 : IsPair g2 O u v := c2.extBut _ _ D.TOi1 (c1.extBut _ _ D.TOz eO)
      refine wpAny_bind (wpAny_seqItems eO2 rfl ?_)
      refine wpAny_bind (wpAny_updateSeq_pair eO2 fun g3 eO3 c3 => ?_)
      refine wpAny_bind (wpAny_letGo (wpAny_pure ?_))
      refine wpAny_bind (wpAny_bind (wpAny_onRaise ?_))
      show wpAny _ _ (Builtin.SmallTypes.nextOf (.ref a2) >>= _) _ _ _
      refine wpAny_bind (sit_end hn (p2.mv fun o e => c3.extBut _ _ D.TOi2.symm (c2.extBut _ _ D.i12.symm (c1.extBut _ _ D.i2z e))) (q2.mv fun o e => c3.extBut _ _ D.l2TO (c2.extBut _ _ D.l2i1 (c1.extBut _ _ D.l2z e))) hy fun g4 e c4 ⟨oe, e1, e2⟩ => ?_)
      have ez4 : IsZ false g4 Z J O .ellipsis false := c4 _ _ D.i2z.symm (c3.extBut _ _ D.TOz.symm (c2.extBut _ _ D.i1z.symm ez1))
      have nez : e ≠ Z := fun z => by subst z; rw [ez4] at e1; cases e1; simp at e2
      refine wpAny_setField_rec ez4 (by simp) fun g5 _ c5 => q g5 e (fun c o n1 n2 n3 n4 r => c5.extBut _ _ n1 (c4 _ _ n4 (c3.extBut _ _ n2 (c2.extBut _ _ n3 (c1.extBut _ _ n1 r))))) ⟨oe, c5.extBut _ _ nez e1, e2⟩
theorem zz_end_held {Q : PySem.Fin → Shared → Prop} {T : Addr} {f : Bool} {oT : Obj} (hn : A.handled = none) (D : ZipApart Z J O a1 a2 b1 b2) (ez : IsZ st s.heap Z J O (rawInt T) f) (eT : s.heap.get? T = some oT) (eJ : IsPair s.heap J (.ref a1) (.ref a2))
    (p1 : SIt tup s.heap a1 b1 k1) (p2 : SIt tup s.heap a2 b2 k2) (q1 : SSq tup s.heap b1 xs) (q2 : SSq tup s.heap b2 ys) (he : ZEnd st xs ys k1 k2)
    (q : ∀ g e, (∀ c o, c ≠ Z → c ≠ a1 → c ≠ a2 → s.heap.get? c = some o → g.get? c = some o) → (∃ o, g.get? e = some o ∧ o.cls = .type "StopIteration") → E (.ref e) { s with heap := g }) :
    wpAny (model prog w) A (Builtin.«zip.__next__» ⟨[.ref Z], []⟩) Q E s := by
  show wpAny _ _ (field (.ref Z) 2 >>= _) _ _ _
  refine wpAny_bind (wpAny_field ez rfl (x := .bool st) rfl ?_)
  show wpAny _ _ (field (.ref Z) 3 >>= _) _ _ _
  refine wpAny_bind (wpAny_field ez rfl (x := .ref J) rfl ?_)
  refine wpAny_bind (wpAny_seqItems eJ rfl ?_)
  show wpAny _ _ (Builtin.SmallTypes.ownedTupleIsFree (.ref Z) >>= _) _ _ _
  refine wpAny_bind (tup_held ez eT fun g1 ez1 c1 => ?_)
  simp only [Bool.false_eq_true, if_false]
  refine wpAny_bind ?_
  rw [← Array.forIn_toList]
  simp only [List.forIn_cons, List.forIn_nil]
  have hs : (Value.bool st == Value.bool true) = st := by cases st <;> rfl
  rw [hs]
  refine wpAny_bind (wpAny_bind (wpAny_holding ?_))
  rcases he with ⟨rfl, ex, ey⟩ | ⟨rfl, he⟩
  · show wpAny _ _ (Builtin.SmallTypes.nextOrEnd (.ref a1)) _ _ _
    refine drw_end (s := { s with heap := g1 }) hn (p1.mv fun o e => c1.extBut _ _ D.i1z e) (q1.mv fun o e => c1.extBut _ _ D.l1z e) ex fun g2 c2 => ?_
    refine wpAny_bind ?_
    show wpAny _ _ (forIn [(Value.ref a2, 1)] PUnit.unit _ >>= _) _ _ _
    simp only [List.forIn_cons, List.forIn_nil]
    refine wpAny_bind (wpAny_bind (wpAny_bind ?_))
    refine drw_end (tup := tup) (s := { s with heap := g2 }) hn (p2.mv fun o e => c2 _ _ D.i12.symm (c1.extBut _ _ D.i2z e)) (q2.mv fun o e => c2 _ _ D.l2i1 (c1.extBut _ _ D.l2z e)) ey fun g4 c4 => ?_
    show wpAny _ _ (pure (ForInStep.yield PUnit.unit)) _ _ _
    refine wpAny_pure (wpAny_pure (wpAny_bind (wpAny_rule (stop_it (s := { s with heap := g4 }) hn fun g5 e c5 ⟨oe, e1, e2⟩ => ?_))))
    exact q g5 e (fun c o n1 n3 n4 r => c5 _ _ (c4 _ _ n4 (c2 _ _ n3 (c1.extBut _ _ n1 r)))) ⟨oe, e1, e2⟩
  · show wpAny _ _ (Builtin.SmallTypes.nextOf (.ref a1) >>= _) _ _ _
    cases hx : xs[k1]? with
    | none =>
      refine wpAny_bind (sit_end (s := { s with heap := g1 }) hn (p1.mv fun o e => c1.extBut _ _ D.i1z e) (q1.mv fun o e => c1.extBut _ _ D.l1z e) hx fun g2 e c2 he' => ?_)
      exact q g2 e (fun c o n1 n3 _ r => c2 _ _ n3 (c1.extBut _ _ n1 r)) he'
    | some x =>
      have hy : ys[k2]? = none := by rcases he with h | h; rw [hx] at h; cases h; exact h
      refine wpAny_bind (sit_item (s := { s with heap := g1 }) (p1.mv fun o e => c1.extBut _ _ D.i1z e) (q1.mv fun o e => c1.extBut _ _ D.l1z e) hx fun g2 p1' c2 => wpAny_pure ?_)
      refine wpAny_pure ?_
      refine wpAny_bind (wpAny_bind (wpAny_holding ?_))
      show wpAny _ _ (Builtin.SmallTypes.nextOf (.ref a2) >>= _) _ _ _
      refine wpAny_bind (sit_end (s := { s with heap := g2 }) hn (p2.mv fun o e => c2.extBut _ _ D.i12.symm (c1.extBut _ _ D.i2z e)) (q2.mv fun o e => c2.extBut _ _ D.l2i1 (c1.extBut _ _ D.l2z e)) hy fun g3 e c3 he' => ?_)
      exact q g3 e (fun c o n1 n2 n3 r => c3 _ _ n3 (c2.extBut _ _ n2 (c1.extBut _ _ n1 r))) he'
/-! ### next -/
theorem nx_item {Q : Option Value → Shared → Prop} (ty : s.TypeIs (.ref Z) "zip") (h : ∀ F, wpAny (model prog w) A.in1 (Builtin.«zip.__next__» ⟨[.ref Z], []⟩) (fun fin s' => ∃ v, fin = .done (.ret v) ∧ Q (some v) s') F s) : wpAny (model prog w) A (pyNext (.ref Z)) Q E s := by
  unfold pyNext
  exact wpAny_bind (wpAny_attempt (wpAny_callSpecial?_slot (name := Str.ofString "__next__") ty F.slot_zip_next (wpAny_call_entry F.slot_zip_next ty F.entry_zip_next (wpAny_mono (h _) (fun fin s' ⟨v, e, q⟩ => ⟨v, e, wpAny_pure q⟩) fun _ _ z => z) (F.args_zip_next_1 _))))
theorem nx_end {Q : Option Value → Shared → Prop} (G : Heap → Prop) (ty : s.TypeIs (.ref Z) "zip") (h : ∀ (F : Value → Shared → Prop) (Q' : PySem.Fin → Shared → Prop), (∀ g e, G g → (∃ o, g.get? e = some o ∧ o.cls = .type "StopIteration") → F (.ref e) { s with heap := g }) → wpAny (model prog w) A.in1 (Builtin.«zip.__next__» ⟨[.ref Z], []⟩) Q' F s)
    (q : ∀ g, G g → Q none { s with heap := g }) : wpAny (model prog w) A (pyNext (.ref Z)) Q E s := by
  unfold pyNext
  refine wpAny_bind (wpAny_attempt (wpAny_callSpecial?_slot (name := Str.ofString "__next__") ty F.slot_zip_next (wpAny_call_entry F.slot_zip_next ty F.entry_zip_next (h _ _ fun g e hg ⟨o, h1, h2⟩ => ?_) (F.args_zip_next_1 _))))
  refine wpAny_bind (wpAny_isInstance (T := "StopIteration") (b := true) ⟨o, h1, h2⟩ isSubtype_stop (wpAny_pure (q g hg)))
end
/-! ### the zip as what a dict is made of -/
section
variable {prog : Program} {w : World}
/-- a zip as it was made -/
def ZNew (st tup : Bool) (Z J O a1 a2 b1 b2 : Addr) (xs ys : Array Value) (h : Heap) : Prop :=
  IsZ st h Z J O .none false ∧ IsPair h J (.ref a1) (.ref a2) ∧ (∃ u v, IsPair h O u v) ∧ SIt tup h a1 b1 0 ∧ SIt tup h a2 b2 0 ∧ SSq tup h b1 xs ∧ SSq tup h b2 ys
def ZAt (st tup : Bool) (Z J O a1 a2 b1 b2 d : Addr) (xs ys : Array Value) (i : Nat) (h : Heap) : Prop :=
  IsPair h J (.ref a1) (.ref a2) ∧ SIt tup h a1 b1 i ∧ SIt tup h a2 b2 i ∧ SSq tup h b1 xs ∧ SSq tup h b2 ys ∧
    ((IsZ st h Z J O .none false ∧ ∃ u v, IsPair h O u v) ∨ ∃ (T : Addr) (f : Bool) (oT : Obj), IsZ st h Z J O (rawInt T) f ∧ h.get? T = some oT ∧ T ≠ Z ∧ T ≠ a1 ∧ T ≠ a2 ∧ T ≠ d)
theorem zarg (st tup : Bool) (Z J O a1 a2 b1 b2 : Addr) (D : ZipApart Z J O a1 a2 b1 b2) (xs ys : Array Value) (hst : st = true → xs.size = ys.size) :
    PairArg prog w "zip" Z [Z, J, O, a1, a2, b1, b2] [Z, O, a1, a2] (min xs.size ys.size) (fun i k v => xs[i]? = some k ∧ ys[i]? = some v) (ZNew st tup Z J O a1 a2 b1 b2 xs ys) where
  type := fun s ok => ⟨_, ok.1, rfl⟩
  notDict := by decide
  keep := fun h h' ⟨e1, e2, ⟨u, v, e3⟩, e4, e5, e6, e7⟩ k => ⟨k _ _ e1, k _ _ e2, ⟨u, v, k _ _ e3⟩, e4.mv fun o e => k _ o e, e5.mv fun o e => k _ o e, e6.mv fun o e => k _ o e, e7.mv fun o e => k _ o e⟩
  there := fun h ⟨e1, e2, ⟨u, v, e3⟩, e4, e5, e6, e7⟩ b hb => by
    simp only [List.mem_cons, List.not_mem_nil, or_false] at hb
    rcases hb with rfl | rfl | rfl | rfl | rfl | rfl | rfl
    · exact ⟨_, e1⟩
    · exact ⟨_, e2⟩
    · exact ⟨_, e3⟩
    · exact e4.ob
    · exact e5.ob
    · exact e6.ob
    · exact e7.ob
  sub := fun b hb => by
    simp only [List.mem_cons, List.not_mem_nil, or_false] at hb ⊢
    rcases hb with rfl | rfl | rfl | rfl <;> simp
  noKeys := fun A s Q E hn ok q => getAttrOr_miss_zip ok.1 rfl rfl rfl zip_no_keys (by decide +kernel) hn q
  iter := fun A s d Q E hn ⟨e1, e2, ⟨u, v, e3⟩, e4, e5, e6, e7⟩ hd hdf q => by
    simp only [List.mem_cons, List.not_mem_nil, or_false, not_or] at hdf
    obtain ⟨dZ, dJ, dO, d1, d2, dl1, dl2⟩ := hdf
    have tyz : s.TypeIs (.ref Z) "zip" := ⟨_, e1, rfl⟩
    refine wpAny_pyIter_slot tyz F.slot_zip_iter (wpAny_call_entry F.slot_zip_iter tyz F.entry_zip_iter ?_ (F.args_zip_iter_1 _))
    show wpAny _ _ (ret (.ref Z)) _ _ s
    refine wpAny_pure ⟨_, rfl, "zip", _, tyz, F.slot_zip_next.lookup, ?_⟩
    refine q Z [Z, O, a1, a2] (ZAt st tup Z J O a1 a2 b1 b2 d xs ys) s.heap s.toks ?_ ⟨e2, e4, e5, e6, e7, .inl ⟨e1, u, v, e3⟩⟩ (fun _ _ e => e) fun b hb => .inl hb
    exact {
      off := fun hm => by
        simp only [List.mem_cons, List.not_mem_nil, or_false] at hm
        rcases hm with e | e | e | e
        · exact dZ e
        · exact dO e
        · exact d1 e
        · exact d2 e
      frame := fun i h h' ⟨f1, f2, f3, f4, f5, f6⟩ k => by
        refine ⟨k _ _ (Ne.symm dJ) f1, f2.mv fun o e => k _ o (Ne.symm d1) e, f3.mv fun o e => k _ o (Ne.symm d2) e, f4.mv fun o e => k _ o (Ne.symm dl1) e, f5.mv fun o e => k _ o (Ne.symm dl2) e, ?_⟩
        rcases f6 with ⟨g1, u, v, g2⟩ | ⟨T, f, oT, g1, g2, r1, r2, r3, r4⟩
        · exact .inl ⟨k _ _ (Ne.symm dZ) g1, u, v, k _ _ (Ne.symm dO) g2⟩
        · exact .inr ⟨T, f, oT, k _ _ (Ne.symm dZ) g1, k _ _ r4 g2, r1, r2, r3, r4⟩
      item := fun i s₁ Q₁ E₁ hi ⟨f1, f2, f3, f4, f5, f6⟩ hds hQ => by
        have ex := Array.getElem?_eq_getElem (Nat.lt_of_lt_of_le hi (Nat.min_le_left ..))
        have ey := Array.getElem?_eq_getElem (Nat.lt_of_lt_of_le hi (Nat.min_le_right ..))
        have n1 : s₁.heap.objs.size ≠ a1 := let ⟨_, e⟩ := f2.ob; Nat.ne_of_gt (Heap.lt_size e)
        have n2 : s₁.heap.objs.size ≠ a2 := let ⟨_, e⟩ := f3.ob; Nat.ne_of_gt (Heap.lt_size e)
        rcases f6 with ⟨g1, u, v, g2⟩ | ⟨T, f, oT, g1, g2, r1, r2, r3, r4⟩
        · refine nx_item ⟨_, g1, rfl⟩ fun F => zz_item D g1 f1 g2 f2 f3 f4 f5 ex ey fun g ⟨c1, c2, c3, c4, c5⟩ k => ?_
          exact hQ s₁.heap.objs.size _ _ g s₁.toks ⟨ex, ey⟩ (.inl ⟨_, c4, rfl, _, rfl⟩)
            ⟨k _ _ D.TIz D.TITO D.TIi1 D.TIi2 f1, c2, c3, f4.mv fun o e => k _ o D.l1z D.l1TO D.l1i1 D.l1i2 e, f5.mv fun o e => k _ o D.l2z D.l2TO D.l2i1 D.l2i2 e,
              .inr ⟨s₁.heap.objs.size, false, _, c1, c4, Nat.ne_of_gt (Heap.lt_size g1), n1, n2, Nat.ne_of_gt hds⟩⟩
            fun c o hc e => k c o (fun z => hc (by simp [z])) (fun z => hc (by simp [z])) (fun z => hc (by simp [z])) (fun z => hc (by simp [z])) e
        · refine nx_item ⟨_, g1, rfl⟩ fun F => zz_item_held D g1 g2 f1 f2 f3 f4 f5 ex ey fun g ⟨c1, c2, c3, c4, c5⟩ k => ?_
          exact hQ s₁.heap.objs.size _ _ g s₁.toks ⟨ex, ey⟩ (.inl ⟨_, c4, rfl, _, rfl⟩)
            ⟨k _ _ D.TIz D.TIi1 D.TIi2 f1, c2, c3, f4.mv fun o e => k _ o D.l1z D.l1i1 D.l1i2 e, f5.mv fun o e => k _ o D.l2z D.l2i1 D.l2i2 e, .inr ⟨T, true, oT, c1, k _ _ r1 r2 r3 g2, r1, r2, r3, r4⟩⟩
            fun c o hc e => k c o (fun z => hc (by simp [z])) (fun z => hc (by simp [z])) (fun z => hc (by simp [z])) e
      done := fun s₁ Q₁ E₁ ⟨f1, f2, f3, f4, f5, f6⟩ hQ => by
        have he : ZEnd st xs ys (min xs.size ys.size) (min xs.size ys.size) := by
          cases st
          · refine .inr ⟨rfl, ?_⟩
            rcases Nat.le_total xs.size ys.size with h | h
            · exact .inl (Array.getElem?_eq_none (by rw [Nat.min_eq_left h]; exact Nat.le_refl _))
            · exact .inr (Array.getElem?_eq_none (by rw [Nat.min_eq_right h]; exact Nat.le_refl _))
          · have e := hst rfl
            exact .inl ⟨rfl, Array.getElem?_eq_none (by omega), Array.getElem?_eq_none (by omega)⟩
        rcases f6 with ⟨g1, u, v, g2⟩ | ⟨T, f, oT, g1, g2, r1, r2, r3, r4⟩
        · exact nx_end (fun g => ∀ c o, c ≠ Z → c ≠ O → c ≠ a1 → c ≠ a2 → s₁.heap.get? c = some o → g.get? c = some o) ⟨_, g1, rfl⟩ (fun F Q' q => zz_end hn D g1 f1 g2 f2 f3 f4 f5 he q)
            fun g k => hQ g s₁.toks fun c o hc e => k c o (fun z => hc (by simp [z])) (fun z => hc (by simp [z])) (fun z => hc (by simp [z])) (fun z => hc (by simp [z])) e
        · exact nx_end (fun g => ∀ c o, c ≠ Z → c ≠ a1 → c ≠ a2 → s₁.heap.get? c = some o → g.get? c = some o) ⟨_, g1, rfl⟩ (fun F Q' q => zz_end_held hn D g1 g2 f1 f2 f3 f4 f5 he q)
            fun g k => hQ g s₁.toks fun c o hc e => k c o (fun z => hc (by simp [z])) (fun z => hc (by simp [z])) (fun z => hc (by simp [z])) e }
end
/-! ### zip(a, b, strict=True) -/
def zo (tup : Bool) (l : Addr) : Obj := match tup with | true => { cls := .type "tuple_iterator", data := .fields #[.ref l, .int 0 0] } | false => { cls := .type "list_iterator", data := .fields #[.ref l, .int 0 0] }
abbrev zh1 (tup : Bool) (h : Heap) (b1 : Addr) : Heap := h.push (zo tup b1)
abbrev zh2 (tup : Bool) (h : Heap) (b1 b2 : Addr) : Heap := (zh1 tup h b1).push (zo tup b2)
abbrev zh3 (tup : Bool) (h : Heap) (b1 b2 : Addr) : Heap := (zh2 tup h b1 b2).push { cls := .type "tuple", data := .seq #[.ref h.objs.size, .ref (zh1 tup h b1).objs.size] }
abbrev zh4 (tup : Bool) (h : Heap) (b1 b2 : Addr) : Heap := (zh3 tup h b1 b2).push { cls := .type "tuple", data := .seq #[.none, .none] }
abbrev zh5 (tup : Bool) (h : Heap) (b1 b2 : Addr) : Heap := (zh4 tup h b1 b2).push { cls := .type "zip", data := .fields #[.none, .bool false, .bool true, .ref (zh2 tup h b1 b2).objs.size, .ref (zh3 tup h b1 b2).objs.size] }
theorem meets_zipS (tup : Bool) (b1 b2 : Addr) (xs ys : Array Value) :
    Meets (Builtin.«zip.__new__» ⟨[.type "zip", .ref b1, .ref b2], [("strict", .bool true)]⟩) (fun _ R s => SSq tup s.heap b1 xs ∧ SSq tup s.heap b2 ys ∧
      R (.ok (.ret (.ref (zh4 tup s.heap b1 b2).objs.size))) { s with heap := zh5 tup s.heap b1 b2 }) :=
  .of_wp fun prog w A R s h => by
    obtain ⟨hp, g, d, tk, os⟩ := s
    obtain ⟨h1, h2, h⟩ := h
    have hsub := sub_zip
    cases tup
    · have k1 : Heap.IsList (Shared.heap ⟨hp, g, d, tk, os⟩) b1 xs := h1
      have k2 : Heap.IsList (Shared.heap ⟨hp.push { cls := .type "list_iterator", data := .fields #[.ref b1, .int 0 0] }, g, d, tk, os⟩) b2 ys := Heap.IsList.push h2 _
      wp_walk using wpAny_pyIter_list k1, wpAny_pyIter_list k2
      exact ⟨_, rfl, h⟩
    · have k1 : Heap.IsTuple (Shared.heap ⟨hp, g, d, tk, os⟩) b1 xs := h1
      have k2 : Heap.IsTuple (Shared.heap ⟨hp.push { cls := .type "tuple_iterator", data := .fields #[.ref b1, .int 0 0] }, g, d, tk, os⟩) b2 ys := Heap.IsTuple.push h2 _
      wp_walk using wpAny_pyIter_tuple k1, wpAny_pyIter_tuple k2
      exact ⟨_, rfl, h⟩
theorem typeCall_zipS (a b c : Value) : checkTypeCall "zip" ⟨[a, b], [("strict", c)]⟩ = pure () := by kernel_rfl
theorem newCall_zipS (a b c : Value) : checkBuiltinCall "zip.__new__" ⟨[.type "zip", a, b], [("strict", c)]⟩ = pure () := by kernel_rfl
theorem args_initS (a b c d : Value) : argsOk "object.__init__" ⟨[a, b, c], [("strict", d)]⟩ := by
  unfold argsOk; rw [signature?_of (id := "object.__init__") (n := ['_', '_', 't', 'i', 'n', 'i', '_', '_']) (o := ['t', 'c', 'e', 'j', 'b', 'o']) (by kernel_rfl) F.owner_object] <;> kernel_rfl
theorem initS_meets {T nid : String} {self a : Value} {rest : List Value} {kw : List (Str × Value)} (hl : typeLookup (.type T) "__init__" = pure (some (.builtin "object.__init__")))
    (hm : Bind.madeBy (.type T) = pure (some nid)) (hne : (some nid != some "object.__new__") = true) :
    Meets (Builtin.«object.__init__» ⟨self :: a :: rest, kw⟩) (fun _ R s => s.TypeIs self T ∧ R (.ok (.ret .none)) s) := by
  refine Meets.of_wp fun prog w A R s ⟨tys, hq⟩ => ?_
  repeat (any_goals (first | assumption | wp_step))
  exact ⟨_, rfl, hq⟩
section
variable {prog : Program} {w : World} {A : Around} {E : Value → Shared → Prop} {s : Shared}
theorem callTypeK {T nid iid : String} {Bn Bi : Builtin} {xs : List Value} {kw : List (Str × Value)} {S : PySem.Spec} {Q Q₁ : Value → Shared → Prop} (ft : TypeCalled T nid iid)
    (hct : checkTypeCall T ⟨xs, kw⟩ = pure ()) (hcn : checkBuiltinCall nid ⟨.type T :: xs, kw⟩ = pure ()) (en : entryFor table nid = some Bn) (ei : entryFor table iid = some Bi)
    (g : Meets (Bn ⟨.type T :: xs, kw⟩) S) (h : S A.in1 (wants Q₁ E) s)
    (hnext : ∀ obj s₁, Q₁ obj s₁ → s₁.TypeIs obj T ∧ argsOk iid ⟨obj :: xs, kw⟩ ∧ ∃ Si, Meets (Bi ⟨obj :: xs, kw⟩) Si ∧ Si A.in1 (wants (fun r s₂ => r = .none ∧ Q obj s₂) E) s₁) :
    wpAny (model prog w) A (call (.type T) xs kw) Q E s := by
  obtain ⟨mc, mtl, hmro⟩ := ft.mro
  have hmade := ft.made
  have hsub := ft.sub
  refine wpAny_call (codeAny_of_tree ?_)
  show wpAny _ _ (callAny (.type T) _) _ _ s
  refine wpAny_pure ⟨Code.quiet_builtin _ (by decide +kernel), codeAny_builtin F.entry_type_call ?_⟩
  rw [Around.under_plain (weight_type_call_type T xs kw) (units_type_call_type T xs kw)]
  have hn1 := ft.notType
  have hn2 := ft.canCreate
  repeat (any_goals (first | assumption | wp_step))
  refine codeAny_mono (codeAny_call_builtin ft.plain en (wpAny_of_eq hcn (g prog w A.in1 _ s h))) fun r s₁ hr => ?_
  cases r with
  | error e => exact hr
  | ok fl =>
    cases fl with
    | ret obj =>
      obtain ⟨hT, hok, Si, gi, hsi⟩ := hnext _ _ hr
      have hli := ft.init.lookup
      have hbi := ft.init.bind obj
      repeat (any_goals (first | assumption | wp_step))
      refine codeAny_mono (codeAny_call_builtin ft.init.plain ei (ft.init.check _ _ _ _ _ _ _ _ hT hok (gi prog w A.in1 _ s₁ hsi))) fun r₂ s₂ hr₂ => ?_
      cases r₂ with
      | error e => exact hr₂
      | ok fl₂ =>
        cases fl₂ with
        | ret r =>
          obtain ⟨rfl, hq⟩ := hr₂
          repeat (any_goals (first | assumption | wp_step))
        | _ => exact hr₂.elim
    | _ => exact hr.elim
theorem zarg_call (tup : Bool) {b1 b2 : Addr} {xs ys : Array Value} {Q : Value → Shared → Prop} (h1 : SSq tup s.heap b1 xs) (h2 : SSq tup s.heap b2 ys)
    (q : ∀ g, ZNew true tup (s.heap.objs.size + 4) (s.heap.objs.size + 2) (s.heap.objs.size + 3) s.heap.objs.size (s.heap.objs.size + 1) b1 b2 xs ys g → (∀ c o, s.heap.get? c = some o → g.get? c = some o) → Q (.ref (s.heap.objs.size + 4)) { s with heap := g }) :
    wpAny (model prog w) A (call (.type "zip") [.ref b1, .ref b2] [("strict", .bool true)]) Q E s := by
  refine callTypeK (Q₁ := fun obj s₁ => s₁.TypeIs obj "zip" ∧ Q obj s₁) F.called_zip (typeCall_zipS _ _ _) (newCall_zipS _ _ _) F.entry_zip_new F.entry_object_init (meets_zipS tup b1 b2 xs ys) ⟨h1, h2, ?_⟩ fun obj s₁ ⟨ty, hq⟩ =>
    ⟨ty, args_initS _ _ _ _, _, initS_meets F.called_zip.init.lookup F.called_zip.made (by decide), ty, rfl, hq⟩
  have z1 : (zh1 tup s.heap b1).objs.size = s.heap.objs.size + 1 := Heap.size_push ..
  have z2 : (zh2 tup s.heap b1 b2).objs.size = s.heap.objs.size + 2 := by rw [Heap.size_push, z1]
  have z3 : (zh3 tup s.heap b1 b2).objs.size = s.heap.objs.size + 3 := by rw [Heap.size_push, z2]
  have z4 : (zh4 tup s.heap b1 b2).objs.size = s.heap.objs.size + 4 := by rw [Heap.size_push, z3]
  have up : ∀ {h : Heap} {o : Obj} {c : Addr} {v : Obj}, h.get? c = some v → (h.push o).get? c = some v := fun e => Heap.get?_push_of_some _ e
  have f5 : (zh5 tup s.heap b1 b2).get? (zh4 tup s.heap b1 b2).objs.size = some _ := Heap.get?_push_size _ rfl
  have f4 : (zh5 tup s.heap b1 b2).get? (zh3 tup s.heap b1 b2).objs.size = some _ := up (Heap.get?_push_size _ rfl)
  have f3 : (zh5 tup s.heap b1 b2).get? (zh2 tup s.heap b1 b2).objs.size = some _ := up (up (Heap.get?_push_size _ rfl))
  have zf : (zo tup b1).isFreed = false ∧ (zo tup b2).isFreed = false := by cases tup <;> exact ⟨rfl, rfl⟩
  have f2 : (zh5 tup s.heap b1 b2).get? (zh1 tup s.heap b1).objs.size = some (zo tup b2) := up (up (up (Heap.get?_push_size _ zf.2)))
  have f1 : (zh5 tup s.heap b1 b2).get? s.heap.objs.size = some (zo tup b1) := up (up (up (up (Heap.get?_push_size _ zf.1))))
  have k : ∀ c o, s.heap.get? c = some o → (zh5 tup s.heap b1 b2).get? c = some o := fun c o e => up (up (up (up (up e))))
  show _ ∧ _
  rw [z2, z3, z4] at f5
  rw [z1, z2] at f3
  rw [z3] at f4
  rw [z1] at f2
  rw [z4]
  have si : ∀ {a b : Addr}, (zh5 tup s.heap b1 b2).get? a = some (zo tup b) → SIt tup (zh5 tup s.heap b1 b2) a b 0 := fun e => by
    cases tup
    · exact ⟨_, e, rfl, rfl⟩
    · exact ⟨_, e, rfl, rfl⟩
  exact ⟨⟨_, f5, rfl⟩, q _ ⟨f5, f3, ⟨_, _, f4⟩, si f1, si f2, h1.mv fun o e => k _ o e, h2.mv fun o e => k _ o e⟩ k⟩
end
end U
namespace U
open PySem PySem.Spec PyProof.Rows L2
/-! ### dict(zip(a, b, strict=True)) as an expression -/
section
variable {M : Model} {A : Around} {E : Value → Shared → Prop} {s : Shared}
theorem callWith_typeK {pos : Pos} {T : String} {first : List Value} {args : List (Bool × Sem Value)} {kws : List (Option Str × Sem Value)} {Q : Value → Shared → Prop} (h1 : args.any (·.1) = false) (h2 : kws.any (·.1.isNone) = false)
    (h : wpAny M A (evalArgs (.type T) true args kws) (fun a s₁ => wpAny M A (call (.type T) (first ++ a.pos) a.kw) Q E s₁) E s) : wpAny M A (callWith pos (.type T) first args kws) Q E s := by
  unfold callWith
  refine wpAny_bind (wpAny_holding (wpAny_mono h (fun a s₁ q => wpAny_bind (wpAny_standAt ?_)) fun _ _ z => z))
  simp only [h1, h2, Bool.or_false]
  refine wpAny_bind (wpAny_pure ?_)
  exact wpAny_bind (wpAny_mono q (fun r s₂ hr => wpAny_bind (wpAny_holding (wpAny_point (wpAny_pure hr)))) fun _ _ z => z)
end
theorem kv_zip : ∀ {ks : List Key} {ys : List V} {us : List Value}, Vals ys us → KV (ks.zip ys) (ks.zip us)
  | [], _, _, _ => .nil
  | _ :: _, _, _, .nil => .nil
  | k :: ks, _, _, .cons h t => .cons ⟨rfl, h⟩ (kv_zip t)
theorem dict_zip {X : Cx} {pins : List (Addr × Obj)} {σ : L2.St} {H1 : Hp} {s1 : Shared} {Q : VK} {a b : Addr} {ks : List Key} {ys : List V} (hcalm : X.calm = true) (I1 : Inv X pins σ H1 s1) (st tup : Bool) (kx ky : List Value) (rk : Vals (ks.map kV) kx) (ry : Vals ys ky) (h1 : SSq tup s1.heap a kx.toArray) (h2 : SSq tup s1.heap b ky.toArray) (hz : kx.length ≤ sizeLine) (hst : st = true → ks.length = ys.length)
    (q : ∀ p, H1 p = none → Q (.ref p) (upd H1 p (.dK (mergeK [] (ks.zip ys))))) (g : Heap) (ok : ZNew st tup (s1.heap.objs.size + 4) (s1.heap.objs.size + 2) (s1.heap.objs.size + 3) s1.heap.objs.size (s1.heap.objs.size + 1) a b kx.toArray ky.toArray g) (k : ∀ c o, s1.heap.get? c = some o → g.get? c = some o) :
    wpAny (model X.prog X.w) X.A (call (.type "dict") [.ref (s1.heap.objs.size + 4)]) (EP X pins σ Q) X.xe { s1 with heap := g } := by
  have lk : ks.length = kx.length := by rw [← rk.length, List.length_map]
  have ly : ys.length = ky.length := ry.length
  obtain ⟨o1, e1⟩ := h1.ob
  obtain ⟨o2, e2⟩ := h2.ob
  have hsz : st = true → kx.toArray.size = ky.toArray.size := fun e => by have := hst e; rw [List.size_toArray, List.size_toArray]; omega
  refine PySem.call_dict_pairs (s := { s1 with heap := g }) (knd := mixKind X.prog X.w) (kvs := ks.zip ky) (zarg st tup _ _ _ _ _ a b (PySem.W.ktu_apart s1.heap.objs.size a b (Heap.lt_size e1) (Heap.lt_size e2)) kx.toArray ky.toArray hsz) (I1.ok.hd hcalm) ok ⟨?_, fun i key v ⟨g1, g2⟩ => ?_⟩ ?_ fun h' tk hd' k' => ?_
  · rw [List.length_zip, List.size_toArray, List.size_toArray, lk]
  · have g1' : kx[i]? = some key := by simpa using g1
    have g2' : ky[i]? = some v := by simpa using g2
    have hi := (List.getElem?_eq_some_iff.mp g1').1
    obtain ⟨kk, ek⟩ : ∃ kk, ks[i]? = some kk := ⟨_, List.getElem?_eq_getElem (by omega)⟩
    obtain ⟨u, eu, ru⟩ := rk.get (show (ks.map kV)[i]? = some (kV kk) by rw [List.getElem?_map, ek]; rfl)
    rw [g1'] at eu
    cases eu
    exact ⟨kk, by rw [List.getElem?_zip_eq_some]; exact ⟨ek, g2'⟩, kV_is (P := X.prog) (w := X.w) ru⟩
  · rw [List.size_toArray]; exact Nat.le_trans (Nat.min_le_left ..) hz
  · have kk : ∀ c o, s1.heap.get? c = some o → h'.get? c = some o := fun c o e => k' c o (fun hm => by
      have hlt := Heap.lt_size e
      simp only [List.mem_cons, List.not_mem_nil, or_false] at hm
      rcases hm with z | z | z | z <;> (rw [z] at hlt; exact absurd hlt (Nat.not_lt.mpr (by first | exact Nat.le_refl _ | exact Nat.le_add_right _ _)))) (k c o e)
    have big : s1.heap.objs.size ≤ g.objs.size := Nat.le_of_lt (Nat.lt_of_le_of_lt (Nat.le_add_right _ 4) (Heap.lt_size ok.1))
    have hm : (g.objs.size == sysModules) = false := beq_eq_false_iff_ne.mpr (Nat.ne_of_gt (Nat.lt_of_lt_of_le I1.big big))
    have rel : KV (ks.zip ys) (ks.zip ky) := kv_zip ry
    have hlen : (mergeK [] (ks.zip ys)).length ≤ sizeLine := by
      refine Nat.le_trans (length_mergeK (ks.zip ys) []) ?_
      rw [List.length_nil, Nat.zero_add, List.length_zip, lk]
      exact Nat.le_trans (Nat.min_le_left ..) hz
    exact ⟨.ref g.objs.size, upd H1 g.objs.size (.dK (mergeK [] (ks.zip ys))), I1.laid (t' := tk) kk big (show ObjOk X.prog X.w _ _ _ (.dK (mergeK [] (ks.zip ys))) from ⟨hlen, hm, merged [] (ks.zip ky), KV.merge rel .nil, hd'⟩), rfl, q _ (I1.hok.fresh big)⟩
def rDictZip (K : PySem.W.Frag) : List V → Hp → VK → Prop := fun vs H Q => ∃ (a b : Addr) (ks : List Key) (ys : List V), vs = [.ref a, .ref b] ∧ ((SqL K H a (ks.map kV) ∧ SqL K H b ys) ∨ (SqT K H a (ks.map kV) ∧ SqT K H b ys)) ∧ ks.length = ys.length ∧ ∀ p, H p = none → Q (.ref p) (upd H p (.dK (mergeK [] (ks.zip ys))))
def tDictZip (K : PySem.W.Frag) (ta : TA) : TE := fun σ H Q => ta σ H fun vs H1 => rDictZip K vs H1 Q
theorem pe_dictZip {X : Cx} {e e2 : Expr} {ta : TA} {p p2 kp cp cpos pos : Pos} {cj : Nat} (hcalm : X.calm = true) (ha : PA X [e, e2] ta) (hg : Gl X "dict") (hm : X.mg "dict" = none) (hv : bootBuiltins "dict" = some (.type "dict")) (hgz : Gl X "zip") (hmz : X.mg "zip" = none)
    (hs : starEach [.Call (.Name "zip" p2) [e, e2] [⟨some "strict", .Constant (.bool true) cj cp, kp⟩] cpos] X.env = (false, eval (.Call (.Name "zip" p2) [e, e2] [⟨some "strict", .Constant (.bool true) cj cp, kp⟩] cpos) X.env) :: starEach [] X.env := by rfl)
    (hs2 : starEach [e, e2] X.env = (false, eval e X.env) :: starEach [e2] X.env := by rfl) (hpl : (backTo cpos (starEach [e, e2] X.env)).any (·.1) = false := by rfl) :
    PE X (.Call (.Name "dict" p) [.Call (.Name "zip" p2) [e, e2] [⟨some "strict", .Constant (.bool true) cj cp, kp⟩] cpos] [] pos) (tDictZip X.K ta) := by
  refine ⟨fun pins s σ H Q I hq => wpAny_Call_Name_kw (ld_blt I hg hm hv (PyProof.Rows.callWith_type1 ?_ hs rfl))⟩
  rw [hs]
  show wpAny _ _ (spliced ((false, eval (.Call (.Name "zip" p2) [e, e2] _ cpos) X.env) :: backTo pos (starEach [] X.env))) _ _ s
  refine Calls.spliced_cons (wpAny_Call_Name_kw (ld_blt I hgz hmz PyProof.Rows.boot_zip (callWith_typeK hpl rfl ?_)))
  rw [hs2]
  refine PyProof.Rows.evalArgs_kwB (by rfl) ?_
  have h0 := ha.run cpos pins s σ H _ I hq
  rw [hs2] at h0
  refine thn h0 fun us s1 ⟨vs, H1, I1, r, a, b, ks, ys, ex, hab, hl, q⟩ => ?_
  subst ex
  cases r with
  | cons r rr =>
    cases rr with
    | cons r' rr =>
      cases rr
      cases r
      cases r'
      show wpAny _ _ (evalAll ((do let v ← eval (.Constant (.bool true) cj cp) X.env; standAt cpos; pure v) :: [])) _ _ s1
      refine PyProof.Rows.evalAll_cons (wpAny_bind (PySem.wpAny_Constant_bool (wpAny_bind (wpAny_standAt (wpAny_pure (PyProof.Rows.evalAll_nil ?_))))))
      show wpAny _ _ (call (.type "zip") [.ref a, .ref b] [("strict", .bool true)]) _ _ s1
      have main : ∀ (tup : Bool) (kx ky : List Value), Vals (ks.map kV) kx → Vals ys ky → SSq tup s1.heap a kx.toArray → SSq tup s1.heap b ky.toArray → kx.length ≤ sizeLine → wpAny (model X.prog X.w) X.A (call (.type "zip") [.ref a, .ref b] [("strict", .bool true)]) (fun v s2 => wpAny (model X.prog X.w) X.A (call (.type "dict") [v]) (EP X pins σ Q) X.xe s2) X.xe s1 := fun tup kx ky rk ry h1 h2 hz =>
        zarg_call tup h1 h2 fun g ok k => dict_zip hcalm I1 true tup kx ky rk ry h1 h2 hz (fun _ => hl) q g ok k
      refine wpAny_mono ?_ (fun v s2 z => Calls.spliced_nil z) fun _ _ z => z
      rcases hab with ⟨ha', hb'⟩ | ⟨ha', hb'⟩
      · obtain ⟨kx, rk, p1, z1⟩ := I1.list ha'
        obtain ⟨ky, ry, p2, _⟩ := I1.list hb'
        exact main false kx ky rk ry p1.isList p2.isList (by rw [← rk.length]; exact z1)
      · obtain ⟨kx, rk, p1, z1⟩ := I1.tuple ha'
        obtain ⟨ky, ry, p2, _⟩ := I1.tuple hb'
        exact main true kx ky rk ry p1 p2 (by rw [← rk.length]; exact z1)
/-! ### dict(zip(a, b)) -/
theorem zarg_call0 {prog : Program} {w : World} {A : Around} {E : Value → Shared → Prop} {s : Shared} (tup : Bool) {b1 b2 : Addr} {xs ys : Array Value} {Q : Value → Shared → Prop} (h1 : SSq tup s.heap b1 xs) (h2 : SSq tup s.heap b2 ys)
    (q : ∀ g, ZNew false tup (s.heap.objs.size + 4) (s.heap.objs.size + 2) (s.heap.objs.size + 3) s.heap.objs.size (s.heap.objs.size + 1) b1 b2 xs ys g → (∀ c o, s.heap.get? c = some o → g.get? c = some o) → Q (.ref (s.heap.objs.size + 4)) { s with heap := g }) :
    wpAny (model prog w) A (call (.type "zip") [.ref b1, .ref b2]) Q E s := by
  cases tup
  · exact call_zip_2 h1 h2 fun g e1 e2 e3 e4 e5 _ k => q g ⟨e1, e2, ⟨_, _, e3⟩, e4, e5, h1.mv fun o e => k _ o e, h2.mv fun o e => k _ o e⟩ k
  · exact RZ.call_zipT h1 h2 fun g e1 e2 e3 e4 e5 _ k => q g ⟨e1, e2, ⟨_, _, e3⟩, e4, e5, h1.mv fun o e => k _ o e, h2.mv fun o e => k _ o e⟩ k
def rDictZip0 (K : PySem.W.Frag) : List V → Hp → VK → Prop := fun vs H Q => ∃ (a b : Addr) (ks : List Key) (ys : List V), vs = [.ref a, .ref b] ∧ ((SqL K H a (ks.map kV) ∧ SqL K H b ys) ∨ (SqT K H a (ks.map kV) ∧ SqT K H b ys)) ∧ ∀ p, H p = none → Q (.ref p) (upd H p (.dK (mergeK [] (ks.zip ys))))
def tDictZip0 (K : PySem.W.Frag) (ta : TA) : TE := fun σ H Q => ta σ H fun vs H1 => rDictZip0 K vs H1 Q
theorem pe_dictZip0 {X : Cx} {e e2 : Expr} {ta : TA} {p p2 cpos pos : Pos} (hcalm : X.calm = true) (ha : PA X [e, e2] ta) (hg : Gl X "dict") (hm : X.mg "dict" = none) (hv : bootBuiltins "dict" = some (.type "dict")) (hgz : Gl X "zip") (hmz : X.mg "zip" = none)
    (hs : starEach [.Call (.Name "zip" p2) [e, e2] [] cpos] X.env = (false, eval (.Call (.Name "zip" p2) [e, e2] [] cpos) X.env) :: starEach [] X.env := by rfl)
    (hs2 : starEach [e, e2] X.env = (false, eval e X.env) :: starEach [e2] X.env := by rfl) (hpl : (backTo cpos (starEach [e2] X.env)).any (·.1) = false := by rfl) :
    PE X (.Call (.Name "dict" p) [.Call (.Name "zip" p2) [e, e2] [] cpos] [] pos) (tDictZip0 X.K ta) := by
  refine ⟨fun pins s σ H Q I hq => wpAny_Call_Name_kw (ld_blt I hg hm hv (PyProof.Rows.callWith_type1 ?_ hs rfl))⟩
  rw [hs]
  show wpAny _ _ (spliced ((false, eval (.Call (.Name "zip" p2) [e, e2] [] cpos) X.env) :: backTo pos (starEach [] X.env))) _ _ s
  refine Calls.spliced_cons (wpAny_Call_Name_kw (ld_blt I hgz hmz PyProof.Rows.boot_zip (PyProof.Rows.callWith_type1 (thn (ha.run cpos pins s σ H _ I hq) fun us s1 ⟨vs, H1, I1, r, a, b, ks, ys, ex, hab, q⟩ => ?_) hs2 hpl)))
  subst ex
  cases r with
  | cons r rr =>
    cases rr with
    | cons r' rr =>
      cases rr
      cases r
      cases r'
      refine wpAny_mono ?_ (fun v s2 z => Calls.spliced_nil z) fun _ _ z => z
      rcases hab with ⟨ha', hb'⟩ | ⟨ha', hb'⟩
      · obtain ⟨kx, rk, p1, z1⟩ := I1.list ha'
        obtain ⟨ky, ry, p2, _⟩ := I1.list hb'
        have z2 : kx.length ≤ sizeLine := by rw [← rk.length]; exact z1
        exact zarg_call0 false (xs := kx.toArray) (ys := ky.toArray) p1.isList p2.isList fun g ok k => dict_zip hcalm I1 false false kx ky rk ry p1.isList p2.isList z2 (fun z => nomatch z) q g ok k
      · obtain ⟨kx, rk, p1, z1⟩ := I1.tuple ha'
        obtain ⟨ky, ry, p2, _⟩ := I1.tuple hb'
        have z2 : kx.length ≤ sizeLine := by rw [← rk.length]; exact z1
        exact zarg_call0 true (xs := kx.toArray) (ys := ky.toArray) p1 p2 fun g ok k => dict_zip hcalm I1 false true kx ky rk ry p1 p2 z2 (fun z => nomatch z) q g ok k
end U
namespace U
open PySem PySem.Spec PyProof.Rows L2
/-! ### xs[1::-1] of a list of two to four items -/
end U
namespace My
open PySem L2 U StX PM
/-! ### elements checked; cycles -/
def tld (CE : Addr) (fld : Str) (x : V) (H : Hp) (E : XK) : Prop := ∀ d H', Same H H' → H' d = none → E (.ref CE) (some d) (upd H' d (.xd [(fld, x)]))
def firstBad (n : Int) : List Int → List V → Option V
  | _, [] => none
  | sn, .int i :: r => if inR (.int i) 0 (n - 1) = true ∧ i ∉ sn then firstBad n (i :: sn) r else some (.int i)
  | _, x :: _ => some x
theorem firstBad_int {n : Int} {sn : List Int} {i : Int} {r : List V} : firstBad n sn (.int i :: r) = if inR (.int i) 0 (n - 1) = true ∧ i ∉ sn then firstBad n (i :: sn) r else some (.int i) := rfl
theorem firstBad_out {n : Int} {sn : List Int} {x : V} {r : List V} (h : inR x 0 (n - 1) = false) : firstBad n sn (x :: r) = some x := by
  cases x with
  | int i => rw [firstBad_int, if_neg (by rw [h]; simp)]
  | _ => rfl
theorem firstBad_rep {n : Int} {sn : List Int} {i : Int} {r : List V} (h : i ∈ sn) : firstBad n sn (.int i :: r) = some (.int i) := by rw [firstBad_int, if_neg (fun z => z.2 h)]
theorem firstBad_next {n : Int} {sn : List Int} {i : Int} {r : List V} (h1 : inR (.int i) 0 (n - 1) = true) (h : i ∉ sn) : firstBad n sn (.int i :: r) = firstBad n (i :: sn) r := by rw [firstBad_int, if_pos ⟨h1, h⟩]
theorem firstBad_ok {n : Int} : ∀ {is sn : List Int}, (∀ i ∈ is, 0 ≤ i ∧ i < n) → is.Nodup → (∀ i ∈ is, i ∉ sn) → firstBad n sn (is.map V.int) = none
  | [], _, _, _, _ => rfl
  | i :: is, sn, h1, h2, h3 => by
    rw [List.map_cons, firstBad_next (by have := h1 i (List.mem_cons_self ..); simp only [inR, Bool.and_eq_true, decide_eq_true_eq]; omega) (h3 i (List.mem_cons_self ..))]
    refine firstBad_ok (fun j hj => h1 j (List.mem_cons_of_mem _ hj)) (List.nodup_cons.mp h2).2 fun j hj hm => ?_
    rcases List.mem_cons.mp hm with rfl | hm
    · exact (List.nodup_cons.mp h2).1 hj
    · exact h3 j (List.mem_cons_of_mem _ hj) hm
theorem kvB_new {sl : List Int} {x : Int} (h : x ∉ sl) : putK (kvB sl) (Sum.inl x : Key) (V.bl true) = kvB (sl ++ [x]) := by
  rw [putK_new _ (valV_none fun z => h (kvB_key.mp z))]
  unfold kvB
  rw [List.map_append]
  rfl
theorem knownV.mv {C : Addr} {H H' : Hp} {x : V} (h : knownV C H x) (s : Same H H') : knownV C H' x := by
  cases x with
  | ref a =>
    rcases h with ⟨xs, e⟩ | ⟨xs, e⟩ | ⟨xs, e⟩ | ⟨dx, fs, e⟩
    · exact .inl ⟨_, s _ _ e⟩
    · exact .inr (.inl ⟨_, s _ _ e⟩)
    · exact .inr (.inr (.inl ⟨_, s _ _ e⟩))
    · exact .inr (.inr (.inr ⟨_, _, s _ _ e⟩))
  | _ => exact h
def spChkL (sq : Addr → List V → HO → Prop) (C CE : Addr) : Sp := fun vs H Q E => ∃ (n : Int) (l : Addr) (xs : List V) (o : HO), vs = [.int n, .ref l] ∧ H l = some o ∧ sq l xs o ∧ xs.length ≤ 1000 ∧ (∀ x ∈ xs, knownV C H x) ∧
  ((firstBad n [] xs = none ∧ ∀ H', Same H H' → Q .non H') ∨ ∃ x, firstBad n [] xs = some x ∧ tld CE "value" x H E)
def sqL : Addr → List V → HO → Prop := fun _ xs o => o = .lst xs
def sqT : Addr → List V → HO → Prop := fun _ xs o => o = .tup xs
theorem drop_at {xs : List V} {i : Nat} {v : V} (h : xs[i]? = some v) : xs.drop i = v :: xs.drop (i + 1) := by
  obtain ⟨hi, e⟩ := List.getElem?_eq_some_iff.mp h
  rw [List.drop_eq_getElem_cons hi, e]
theorem slA_R {K : PySem.W.Frag} {H : Hp} {a : Addr} {xs : List V} {lo hi : Option Int} {Q : VK} (h : SqT K H a xs) (q : ∀ p H', Same H H' → SqT K H' p (cutV xs lo hi) → Q (.ref p) H') : rSlA K (.ref a) lo hi H Q := by
  refine ⟨a, xs, rfl, h, fun hw => q a H (Same.refl _) ?_, fun _ p np => q p _ (Same.new np) (SqT.of upd_same)⟩
  unfold cutV
  rw [hw.1, hw.2, List.drop_zero, Nat.sub_zero, List.take_length]
  exact h
theorem catA_R {K : PySem.W.Frag} {H : Hp} {a b : Addr} {xs ys : List V} {Q : VK} (h : SqT K H a xs) (g : SqT K H b ys) (hl : xs.length + ys.length ≤ 100000) (q : ∀ p H', Same H H' → SqT K H' p (xs ++ ys) → Q (.ref p) H') : rCatA K (.ref a) (.ref b) H Q := by
  refine ⟨a, b, xs, ys, rfl, rfl, h, g, le_line hl, fun e => ?_, fun _ e => ?_, fun _ _ p np => q p _ (Same.new np) (SqT.of upd_same)⟩
  · subst e
    exact q b H (Same.refl _) g
  · subst e
    exact q a H (Same.refl _) (by rw [List.append_nil]; exact h)
def rot (is : List Int) : List (Int × Int) := is.zip (is.drop 1 ++ is.take 1)
def cyc (is : List Int) : PF := lk (rot is)
theorem rot_len (is : List Int) : (is.drop 1 ++ is.take 1).length = is.length := by
  rw [List.length_append, List.length_drop, List.length_take]; omega
theorem rot_keys (is : List Int) : (rot is).map (·.1) = is := by
  unfold rot
  rw [List.map_fst_zip]
  rw [rot_len]
  exact Nat.le_refl _
theorem di_rot {is : List Int} (nd : is.Nodup) : DI (rot is) (cyc is) := ⟨by rw [rot_keys]; exact nd, fun _ => rfl⟩
theorem zip_inj {α β : Type} : ∀ {xs : List α} {ys : List β} {a b : α} {y : β}, ys.Nodup → (a, y) ∈ xs.zip ys → (b, y) ∈ xs.zip ys → a = b
  | [], _, _, _, _, _, h, _ => nomatch h
  | _ :: _, [], _, _, _, _, h, _ => nomatch h
  | x :: xs, z :: ys, a, b, y, nd, h1, h2 => by
    rw [List.zip_cons_cons] at h1 h2
    have n1 := (List.nodup_cons.mp nd).1
    rcases List.mem_cons.mp h1 with e1 | e1 <;> rcases List.mem_cons.mp h2 with e2 | e2
    · cases e1; cases e2; rfl
    · cases e1
      exact absurd (List.of_mem_zip e2).2 n1
    · cases e2
      exact absurd (List.of_mem_zip e1).2 n1
    · exact zip_inj (List.nodup_cons.mp nd).2 e1 e2
theorem rot_nd {is : List Int} (nd : is.Nodup) : (is.drop 1 ++ is.take 1).Nodup := by
  have e : (is.take 1 ++ is.drop 1).Nodup := by rw [List.take_append_drop]; exact nd
  exact (List.perm_append_comm.nodup_iff).mp e
theorem wf_cyc {n : Int} {is : List Int} (h : ∀ i ∈ is, 0 ≤ i ∧ i < n) (nd : is.Nodup) : WF n (cyc is) := by
  have key : ∀ x y, cyc is x = some y → (x, y) ∈ rot is := fun x y e => (di_rot nd).mem.mpr e
  refine ⟨fun x y e => ?_, fun x x' y e1 e2 => zip_inj (rot_nd nd) (key _ _ e1) (key _ _ e2)⟩
  have hm := List.of_mem_zip (key _ _ e)
  have hx := h x hm.1
  have hy : y ∈ is := by
    rcases List.mem_append.mp hm.2 with z | z
    · exact List.mem_of_mem_drop z
    · exact List.mem_of_mem_take z
  have := h y hy
  omega
theorem kvI_zip (as bs : List Int) : (as.map (Sum.inl : Int → Key)).zip (bs.map V.int) = kvI (as.zip bs) := by
  unfold kvI
  rw [List.zip_map]
  rfl
theorem map_kV (as : List Int) : (as.map (Sum.inl : Int → Key)).map kV = as.map V.int := by
  rw [List.map_map]
  rfl
theorem cut_1 (xs : List V) : cutV xs (some 1) none = xs.drop 1 := by
  unfold cutV
  rw [HT.sIx_none, show (some (1 : Int)) = some ((1 : Nat) : Int) from rfl, HT.sIx_nat]
  cases xs with
  | nil => rfl
  | cons x r =>
    rw [List.length_cons, Nat.min_eq_left (by omega)]
    rw [List.drop_succ_cons, List.drop_zero]
    exact List.take_of_length_le (by omega)
theorem cut_0 (xs : List V) : cutV xs none (some 1) = xs.take 1 := by
  unfold cutV
  rw [HT.sIx_none, show (some (1 : Int)) = some ((1 : Nat) : Int) from rfl, HT.sIx_nat]
  cases xs with
  | nil => rfl
  | cons x r =>
    rw [List.length_cons, Nat.min_eq_left (by omega)]
    rfl
section
variable {P : Program} {w : World} {K : PySem.W.Frag} {mg : Str → Option Value} {base : Heap}
theorem okN_ini_InvalidElement (T : Txt K mg) : FnR P w K mg base CX0 1 T.f_InvalidElement__init (spIni1 T.C_InvalidElement "value") := by
  refine T.A_InvalidElement__init.ok sc_InvalidElement__init (fun vs H Q E h => ?_) (fun cdv A outer s H vs Q E hr h => ?_)
  · obtain ⟨a, v, rfl, _⟩ := h
    rfl
  · obtain ⟨a, v, rfl, ha, q⟩ := h
    refine ⟨_, pss_one (ps_ostG (pv 0) (pv 1)), ?_⟩
    exact ⟨_, rfl, _, rfl, a, T.C_InvalidElement, rfl, T.x_InvalidElement, T.na_value_InvalidElement, .inl ⟨ha, fun dx h1 h2 => q dx h1 h2⟩⟩
theorem okX_checkEL (T : Txt K mg) : FnR P w K mg base (L2.CX P w) 4 T.f_check_elements (spChkL sqL T.C_Map T.C_InvalidElement) := by
  refine T.A_check_elements.okX sc_check_elements (fun vs H Q E h => ?_) (fun cdv A outer s H vs Q E hr h => ?_)
  · obtain ⟨n, l, xs, o, rfl, _⟩ := h
    rfl
  · obtain ⟨n, l, xs, o, rfl, hl, rfl, hz, hk, h⟩ := h
    have hu := hu_of hr
    have ok_ini_InvalidElement := fun (T : Txt K mg) => okN_ini_InvalidElement (P := P) (w := w) (base := base) T
    refine ⟨_, (pss_cons (ps_set (i := 2) sc_check_elements.nd rfl (Or.inl rfl) pe_dnewK)
      (pss_one (ps_for (passes_of rfl) rfl (pi_list (pv 1)) (pg_name (i := 3) sc_check_elements.nd rfl (Or.inl rfl))
        (pss_cons (ps_if (PW.pt (pw_or (pt_not (pt_val (pe_callR (ok_in_range T) (hr.mono (by decide)) T.A_in_range.kp rfl T.g_in_range pass0 (pa_cons (pv 3) (pa_cons pe_int (pa_cons (pe_op op_sub (pv 0) pe_int) pa_nil)))))) (pw_or1 (pt_cmp (pc_din hu (pv 3) (pv 2))))))
        (pss_one (ps_raise rfl (takes_of rfl rfl rfl rfl) (pmk_oexG T.x_InvalidElement T.m_InvalidElement__init T.ti_InvalidElement__init (ok_ini_InvalidElement T) (hr.mono (by decide)) pass0 rfl T.g_InvalidElement (pa_cons (pv 3) pa_nil)))) pss_nil)
      (pss_one (ps_dput hu (pv 2) (pv 3) pe_bl rfl)))))), ?_⟩
    refine fun se n_se => ?_
    generalize g_se : L2.upd _ se _ = H1
    obtain ⟨s_H1, e_se⟩ := U.upd_facts g_se n_se
    clear g_se
    have hl1 := s_H1 _ _ hl
    refine ⟨_, rfl, l, rfl, ⟨_, SqL.of hl1⟩, ?_⟩
    refine for_it (walk_list (xs := xs)) (fun i σ H' => ∃ v3 sn sl, σ = [some (.int n), some (.ref l), some (.ref se), v3] ∧ Same H H' ∧ H' se = some (.dK (kvB sl)) ∧ (∀ z, z ∈ sl ↔ z ∈ sn) ∧ sl.length ≤ i ∧ firstBad n [] xs = firstBad n sn (xs.drop i)) ⟨_, [], [], rfl, s_H1, e_se, fun _ => Iff.rfl, Nat.le_refl _, rfl⟩ (fun i σ H' _ ⟨_, _, _, _, z, _⟩ => SqL.of (z _ _ hl)) ?_ ?_
    · rintro i v σ H0 H' hi ⟨v3, sn, sl, rfl, sh, hse, hm, hsl, hf⟩ ⟨rfl, ev⟩
      have hil : i < xs.length := (List.getElem?_eq_some_iff.mp ev).1
      rw [drop_at ev] at hf
      have raise : firstBad n [] xs = some v → tld T.C_InvalidElement "value" v H E := fun e => by
        rcases h with ⟨e2, _⟩ | ⟨x, e2, q⟩
        · rw [e] at e2; cases e2
        · rw [e] at e2; cases e2; exact q
      refine ⟨_, rfl, _, rfl, _, _, rfl, rfl, v, 0, n - 1, rfl, (hk v (List.mem_of_getElem? ev)).mv sh, _, rfl, ?_⟩
      cases hr1 : inR v 0 (n - 1) with
      | false =>
        rw [firstBad_out hr1] at hf
        exact iteT (iteT ⟨_, rfl, mk_one fun d hd => raise hf d _ sh hd⟩)
      | true =>
        refine iteF ?_
        obtain ⟨j, rfl⟩ : ∃ j, v = .int j := by cases v <;> first | exact ⟨_, rfl⟩ | cases hr1
        refine ⟨_, rfl, _, rfl, se, _, rfl, DGet.k (k := Sum.inl j) hse, _, rfl, ?_⟩
        rw [kvB_val]
        refine ifB (fun hc => ?_) (fun hc => ?_)
        · rw [firstBad_rep ((hm j).mp (of_decide_eq_true hc))] at hf
          exact ⟨_, rfl, mk_one fun d hd => raise hf d _ sh hd⟩
        · have hj : j ∉ sl := of_decide_eq_false hc
          rw [firstBad_next hr1 (fun z => hj ((hm j).mpr z))] at hf
          refine ⟨_, rfl, _, rfl, se, _, rfl, .k (k := Sum.inl j) hse (lt_line (by unfold kvB; rw [List.length_map]; omega)), ?_⟩
          rw [kvB_new hj]
          exact ⟨_, j :: sn, sl ++ [j], rfl, Same.put sh n_se, upd_same, fun z => by rw [List.mem_append, List.mem_singleton, List.mem_cons, hm]; exact Or.comm, by rw [List.length_append, List.length_singleton]; omega, hf⟩
    · rintro σ H' ⟨v3, sn, sl, rfl, sh, hse, hm, hsl, hf⟩
      rw [List.drop_length] at hf
      rcases h with ⟨_, q⟩ | ⟨x, e2, q⟩
      · exact q _ sh
      · rw [e2] at hf; cases hf
theorem okX_checkET (T : Txt K mg) : FnR P w K mg base (L2.CX P w) 4 T.f_check_elements (spChkL sqT T.C_Map T.C_InvalidElement) := by
  refine T.A_check_elements.okX sc_check_elements (fun vs H Q E h => ?_) (fun cdv A outer s H vs Q E hr h => ?_)
  · obtain ⟨n, l, xs, o, rfl, _⟩ := h
    rfl
  · obtain ⟨n, l, xs, o, rfl, hl, rfl, hz, hk, h⟩ := h
    have hu := hu_of hr
    have ok_ini_InvalidElement := fun (T : Txt K mg) => okN_ini_InvalidElement (P := P) (w := w) (base := base) T
    refine ⟨_, (pss_cons (ps_set (i := 2) sc_check_elements.nd rfl (Or.inl rfl) pe_dnewK)
      (pss_one (ps_for (passes_of rfl) rfl (pi_tup (pv 1)) (pg_name (i := 3) sc_check_elements.nd rfl (Or.inl rfl))
        (pss_cons (ps_if (PW.pt (pw_or (pt_not (pt_val (pe_callR (ok_in_range T) (hr.mono (by decide)) T.A_in_range.kp rfl T.g_in_range pass0 (pa_cons (pv 3) (pa_cons pe_int (pa_cons (pe_op op_sub (pv 0) pe_int) pa_nil)))))) (pw_or1 (pt_cmp (pc_din hu (pv 3) (pv 2))))))
        (pss_one (ps_raise rfl (takes_of rfl rfl rfl rfl) (pmk_oexG T.x_InvalidElement T.m_InvalidElement__init T.ti_InvalidElement__init (ok_ini_InvalidElement T) (hr.mono (by decide)) pass0 rfl T.g_InvalidElement (pa_cons (pv 3) pa_nil)))) pss_nil)
      (pss_one (ps_dput hu (pv 2) (pv 3) pe_bl rfl)))))), ?_⟩
    refine fun se n_se => ?_
    generalize g_se : L2.upd _ se _ = H1
    obtain ⟨s_H1, e_se⟩ := U.upd_facts g_se n_se
    clear g_se
    have hl1 := s_H1 _ _ hl
    refine ⟨_, rfl, l, rfl, ⟨_, SqT.of hl1⟩, ?_⟩
    refine for_it (walk_tup (xs := xs)) (fun i σ H' => ∃ v3 sn sl, σ = [some (.int n), some (.ref l), some (.ref se), v3] ∧ Same H H' ∧ H' se = some (.dK (kvB sl)) ∧ (∀ z, z ∈ sl ↔ z ∈ sn) ∧ sl.length ≤ i ∧ firstBad n [] xs = firstBad n sn (xs.drop i)) ⟨_, [], [], rfl, s_H1, e_se, fun _ => Iff.rfl, Nat.le_refl _, rfl⟩ (fun i σ H' _ ⟨_, _, _, _, z, _⟩ => SqT.of (z _ _ hl)) ?_ ?_
    · rintro i v σ H0 H' hi ⟨v3, sn, sl, rfl, sh, hse, hm, hsl, hf⟩ ⟨rfl, ev⟩
      have hil : i < xs.length := (List.getElem?_eq_some_iff.mp ev).1
      rw [drop_at ev] at hf
      have raise : firstBad n [] xs = some v → tld T.C_InvalidElement "value" v H E := fun e => by
        rcases h with ⟨e2, _⟩ | ⟨x, e2, q⟩
        · rw [e] at e2; cases e2
        · rw [e] at e2; cases e2; exact q
      refine ⟨_, rfl, _, rfl, _, _, rfl, rfl, v, 0, n - 1, rfl, (hk v (List.mem_of_getElem? ev)).mv sh, _, rfl, ?_⟩
      cases hr1 : inR v 0 (n - 1) with
      | false =>
        rw [firstBad_out hr1] at hf
        exact iteT (iteT ⟨_, rfl, mk_one fun d hd => raise hf d _ sh hd⟩)
      | true =>
        refine iteF ?_
        obtain ⟨j, rfl⟩ : ∃ j, v = .int j := by cases v <;> first | exact ⟨_, rfl⟩ | cases hr1
        refine ⟨_, rfl, _, rfl, se, _, rfl, DGet.k (k := Sum.inl j) hse, _, rfl, ?_⟩
        rw [kvB_val]
        refine ifB (fun hc => ?_) (fun hc => ?_)
        · rw [firstBad_rep ((hm j).mp (of_decide_eq_true hc))] at hf
          exact ⟨_, rfl, mk_one fun d hd => raise hf d _ sh hd⟩
        · have hj : j ∉ sl := of_decide_eq_false hc
          rw [firstBad_next hr1 (fun z => hj ((hm j).mpr z))] at hf
          refine ⟨_, rfl, _, rfl, se, _, rfl, .k (k := Sum.inl j) hse (lt_line (by unfold kvB; rw [List.length_map]; omega)), ?_⟩
          rw [kvB_new hj]
          exact ⟨_, j :: sn, sl ++ [j], rfl, Same.put sh n_se, upd_same, fun z => by rw [List.mem_append, List.mem_singleton, List.mem_cons, hm]; exact Or.comm, by rw [List.length_append, List.length_singleton]; omega, hf⟩
    · rintro σ H' ⟨v3, sn, sl, rfl, sh, hse, hm, hsl, hf⟩
      rw [List.drop_length] at hf
      rcases h with ⟨_, q⟩ | ⟨x, e2, q⟩
      · exact q _ sh
      · rw [e2] at hf; cases hf
theorem okN_ini_InvalidSize (T : Txt K mg) : FnR P w K mg base CX0 1 T.f_InvalidSize__init (spIni1 T.C_InvalidSize "value") := by
  refine T.A_InvalidSize__init.ok sc_InvalidSize__init (fun vs H Q E h => ?_) (fun cdv A outer s H vs Q E hr h => ?_)
  · obtain ⟨a, v, rfl, _⟩ := h
    rfl
  · obtain ⟨a, v, rfl, ha, q⟩ := h
    refine ⟨_, pss_one (ps_ostG (pv 0) (pv 1)), ?_⟩
    exact ⟨_, rfl, _, rfl, a, T.C_InvalidSize, rfl, T.x_InvalidSize, T.na_value_InvalidSize, .inl ⟨ha, fun dx h1 h2 => q dx h1 h2⟩⟩
def spChkZ (C CS : Addr) : Sp := fun vs H Q E => ∃ v, vs = [v] ∧ knownV C H v ∧ ((inR v 1 300 = true ∧ Q .non H) ∨ (inR v 1 300 = false ∧ tld CS "value" v H E))
theorem okX_checkZ (T : Txt K mg) : FnR P w K mg base (L2.CX P w) 3 T.f_check_size (spChkZ T.C_Map T.C_InvalidSize) := by
  refine T.A_check_size.okX sc_check_size (fun vs H Q E h => ?_) (fun cdv A outer s H vs Q E hr h => ?_)
  · obtain ⟨v, rfl, _⟩ := h
    rfl
  · obtain ⟨v, rfl, hk, h⟩ := h
    have ok_ini_InvalidSize := fun (T : Txt K mg) => okN_ini_InvalidSize (P := P) (w := w) (base := base) T
    obtain ⟨_, h_MAX_SIZE⟩ := T.v_MAX_SIZE
    refine ⟨_, (pss_one (ps_if (pt_not (pt_val (pe_callR (ok_in_range T) (hr.mono (by decide)) T.A_in_range.kp rfl T.g_in_range pass0 (pa_cons (pv 0) (pa_cons pe_int (pa_cons (pe_glob (v := .int 300) rfl h_MAX_SIZE ⟨_, rfl⟩) pa_nil))))))
        (pss_one (ps_raise rfl (takes_of rfl rfl rfl rfl) (pmk_oexG T.x_InvalidSize T.m_InvalidSize__init T.ti_InvalidSize__init (ok_ini_InvalidSize T) (hr.mono (by decide)) pass0 rfl T.g_InvalidSize (pa_cons (pv 0) pa_nil)))) pss_nil)), ?_⟩
    refine ⟨_, rfl, v, 1, 300, rfl, hk, _, rfl, ?_⟩
    rcases h with ⟨e, q⟩ | ⟨e, q⟩
    · rw [e]
      exact iteF q
    · rw [e]
      exact iteT ⟨_, rfl, mk_one fun d hd => q d H (Same.refl _) hd⟩
def spCyc (C CS CE : Addr) (op : List Int → PF) : Sp := fun vs H Q E => ∃ (v : V) (p : Addr) (xs : List V), vs = [.ref C, v, .ref p] ∧ H p = some (.tup xs) ∧ xs.length ≤ 100 ∧ knownV C H v ∧ (∀ x ∈ xs, knownV C H x) ∧
  ((inR v 1 300 = false ∧ tld CS "value" v H E) ∨ ∃ n, v = .int n ∧ 1 ≤ n ∧ n ≤ 300 ∧ ((∃ x, firstBad n [] xs = some x ∧ tld CE "value" x H E) ∨ ∃ is : List Int, xs = is.map V.int ∧ (∀ i ∈ is, 0 ≤ i ∧ i < n) ∧ is.Nodup ∧ ∀ r H', H r = none → Same H H' → IsMap C H' r n (op is) → Q (.ref r) H'))
theorem inR_13 {n : Int} (h1 : 1 ≤ n) (h3 : n ≤ 300) : inR (.int n) 1 300 = true := by simp only [inR, Bool.and_eq_true, decide_eq_true_eq]; omega
theorem okX_cycle (T : Txt K mg) : FnR P w K mg base (L2.CX P w) 8 T.f_Map_cycle (spStar 2 (spCyc T.C_Map T.C_InvalidSize T.C_InvalidElement cyc)) := by
  refine T.A_Map_cycle.okX sc_Map_cycle (fun cdv A outer s H vs Q E hr h => ?_)
  · obtain ⟨v, p, xs, rfl, hp, hz, hkv, hkx, h⟩ := h
    have hu := hu_of hr
    refine ⟨_, (pss_cons (ps_expr (pe_callR (okX_checkZ T) (hr.mono (by decide)) T.A_check_size.kp rfl T.g_check_size (passes_call (takes_of rfl rfl rfl rfl) (fun _ _ _ _ h => h)) (pa_cons (pv 1) pa_nil)))
      (pss_cons (ps_expr (pe_callR (okX_checkET T) (hr.mono (by decide)) T.A_check_elements.kp rfl T.g_check_elements (passes_call (takes_of rfl rfl rfl rfl) (fun _ _ _ _ h => h)) (pa_cons (pv 1) (pa_cons (pv 2) pa_nil))))
      (pss_one (ps_ret (pe_makeL (i := 0) T.M_Map (ok_init T) (hr.mono (by decide)) rfl (Or.inl rfl) pass0 (pa_cons (pv 1) (pa_cons (pe_dictZip rfl (pa_cons (pv 2) (pa_cons (pe_op op_catA (pe_slice sl_tupA (pv 2) (po_some pe_int) po_none) (pe_slice sl_tupA (pv 2) po_none (po_some pe_int))) pa_nil)) rfl T.n_dict (by decide +kernel) rfl T.n_zip) pa_nil))))))), ?_⟩
    rcases h with ⟨e, q⟩ | ⟨n, rfl, n1, n3, h⟩
    · exact ⟨_, rfl, v, rfl, hkv, .inr ⟨e, q⟩⟩
    refine ⟨_, rfl, .int n, rfl, trivial, .inl ⟨inR_13 n1 n3, ?_⟩⟩
    rcases h with ⟨x, e, q⟩ | ⟨is, rfl, hb, nd, q⟩
    · exact ⟨_, rfl, _, rfl, n, p, xs, _, rfl, hp, rfl, by omega, hkx, .inr ⟨x, e, q⟩⟩
    refine ⟨_, rfl, _, rfl, n, p, _, _, rfl, hp, rfl, by omega, hkx, .inl ⟨firstBad_ok hb nd (fun _ _ z => nomatch z), fun H1 s1 => ?_⟩⟩
    have hp1 : SqT K H1 p (is.map V.int) := SqT.of (s1 _ _ hp)
    rw [List.length_map] at hz
    refine ⟨rfl, _, rfl, _, rfl, _, rfl, 1, rfl, ?_⟩
    dsimp only [tNoPart]
    refine slA_R hp1 fun q1 H2 s2 h2 => ?_
    refine ⟨_, rfl, 1, rfl, ?_⟩
    show rSlA K (.ref p) none (some 1) H2 _
    refine slA_R (SqT.of (s2 _ _ (s1 _ _ hp))) fun q2 H3 s3 h3 => ?_
    rw [cut_1] at h2
    rw [cut_0] at h3
    refine catA_R (h2.ext s3) h3 (by simp only [List.length_drop, List.length_take, List.length_map]; omega) fun q3 H4 s4 h4 => ?_
    have s14 := (s2.trans s3).trans s4
    have s04 := s1.trans s14
    have eq4 : (is.map V.int).drop 1 ++ (is.map V.int).take 1 = (is.drop 1 ++ is.take 1).map V.int := by rw [List.map_append, List.map_drop, List.map_take]
    rw [eq4] at h4
    refine ⟨p, q3, is.map Sum.inl, _, rfl, .inr ⟨by rw [map_kV]; exact SqT.of (s04 _ _ hp), h4⟩, by simp only [List.length_map]; exact (rot_len is).symm, fun D n_D => ?_⟩
    rw [kvI_zip]
    obtain ⟨l9, e9, hl9, d9⟩ := dict_of (di_rot nd)
    rw [show is.zip (is.drop 1 ++ is.take 1) = rot is from rfl, e9]
    generalize g_D : L2.upd _ D _ = H5
    obtain ⟨s_H5, e_D⟩ := U.upd_facts g_D n_D
    clear g_D
    have hlr : (rot is).length ≤ 100 := by unfold rot; rw [List.length_zip]; omega
    exact fun r dr nr ndr ne => init_of e_D d9 (wf_cyc hb nd) n1 n3 (by omega) nr ndr ne fun H6 s6 m6 => ⟨rfl, q r H6 ((s04.trans s_H5).free nr) (s04.trans (s_H5.trans s6)) m6⟩
end
end My
namespace My
open PySem L2 U StX PM
/-! ### chains, swaps; sizes that are none -/
theorem st_facts {p : Addr} {H H' : Hp} {o : HO} (g : upd H p o = H') : Off p H H' ∧ H' p = some o := by
  subst g
  exact ⟨fun b u hb e => by rw [upd_ne hb]; exact e, upd_same⟩
theorem fnR_or2 {P : Program} {w : World} {K : PySem.W.Frag} {mg : Str → Option Value} {base : Heap} {CX : CXT} {k : Nat} {f : Addr} {sp1 sp2 : Sp} (F1 : FnR P w K mg base CX k f sp1) (F2 : FnR P w K mg base CX k f sp2) : FnR P w K mg base CX k f (fun vs H Q E => sp1 vs H Q E ∨ sp2 vs H Q E) := fun A outer s H us vs Q E hr e0 r h => h.elim (fun h => F1 A outer s H us vs Q E hr e0 r h) fun h => F2 A outer s H us vs Q E hr e0 r h
def stp2 (is : List Int) : List (Int × Int) := is.zip (is.drop 1)
def chn (is : List Int) : PF := lk (stp2 is)
theorem zip_nd : ∀ {is js : List Int}, is.Nodup → ((is.zip js).map (·.1)).Nodup
  | [], _, _ => by rw [List.zip_nil_left]; exact List.nodup_nil
  | _ :: _, [], _ => by rw [List.zip_nil_right]; exact List.nodup_nil
  | i :: is, j :: js, h => by
    rw [List.zip_cons_cons, List.map_cons, List.nodup_cons]
    refine ⟨fun hm => (List.nodup_cons.mp h).1 ?_, zip_nd (List.nodup_cons.mp h).2⟩
    obtain ⟨⟨a, b⟩, hp, e⟩ := List.mem_map.mp hm
    cases e
    exact (List.of_mem_zip hp).1
theorem di_stp {is : List Int} (nd : is.Nodup) : DI (stp2 is) (chn is) := ⟨zip_nd nd, fun _ => rfl⟩
theorem wf_chn {n : Int} {is : List Int} (h : ∀ i ∈ is, 0 ≤ i ∧ i < n) (nd : is.Nodup) : WF n (chn is) := by
  have key : ∀ x y, chn is x = some y → (x, y) ∈ stp2 is := fun x y e => (di_stp nd).mem.mpr e
  have nd1 : (is.drop 1).Nodup := (List.drop_sublist 1 is).nodup nd
  refine ⟨fun x y e => ?_, fun x x' y e1 e2 => zip_inj nd1 (key _ _ e1) (key _ _ e2)⟩
  have hm := List.of_mem_zip (key _ _ e)
  have hx := h x hm.1
  have := h y (List.mem_of_mem_drop hm.2)
  omega
def swp (n a b : Int) : PF := fun z => if z = b then some a else if z = a then some b else idn n z
theorem wf_swp {n a b : Int} (ha : 0 ≤ a ∧ a < n) (hb : 0 ≤ b ∧ b < n) : WF n (swp n a b) := by
  have key : ∀ x y, swp n a b x = some y → (x = b ∧ y = a) ∨ (x ≠ b ∧ x = a ∧ y = b) ∨ (x ≠ b ∧ x ≠ a ∧ x = y ∧ 0 ≤ x ∧ x < n) := fun x y e => by
    unfold swp at e
    split at e
    · rename_i hx
      cases e
      exact .inl ⟨hx, rfl⟩
    · rename_i hx
      split at e
      · rename_i hx2
        cases e
        exact .inr (.inl ⟨hx, hx2, rfl⟩)
      · rename_i hx2
        have w := (wf_idn n).dom x y e
        have e3 : x = y := by
          unfold idn at e
          split at e
          · cases e; rfl
          · cases e
        exact .inr (.inr ⟨hx, hx2, e3, w.1, w.2.1⟩)
  refine ⟨fun x y e => ?_, fun x x' y e1 e2 => ?_⟩
  · rcases key x y e with ⟨rfl, rfl⟩ | ⟨_, rfl, rfl⟩ | ⟨_, _, rfl, _, _⟩ <;> omega
  · rcases key x y e1 with ⟨rfl, rfl⟩ | ⟨h1, rfl, rfl⟩ | ⟨h1, h2, rfl, _, _⟩ <;> rcases key x' _ e2 with ⟨rfl, h3⟩ | ⟨h3, rfl, h4⟩ | ⟨h3, h4, h5, _, _⟩ <;> omega
theorem di_putS {l : List (Int × Int)} {f : PF} (d : DI l f) (x y : Int) : ∃ l', putK (kvI l) (Sum.inl x : Key) (V.int y) = kvI l' ∧ l'.length ≤ l.length + 1 ∧ DI l' (fun z => if z = x then some y else f z) := by
  obtain ⟨l', e, h, nd, k⟩ := putK_lk (l := l) (x := x) (y := y)
  exact ⟨l', e, h, nd d.nd, fun z => by rw [k, d.at_]⟩
/-- a size that is none -/
def spBadZ (C CS : Addr) : Sp := fun vs H Q E => ∃ (v : V), vs = [.ref C, v] ∧ knownV C H v ∧ inR v 1 300 = false ∧ tld CS "value" v H E
def spSwap (C CS CE : Addr) : Sp := fun vs H Q E => ∃ (v x y : V), vs = [.ref C, v, x, y] ∧ knownV C H v ∧ knownV C H x ∧ knownV C H y ∧
  ((inR v 1 300 = false ∧ tld CS "value" v H E) ∨ ∃ n, v = .int n ∧ 1 ≤ n ∧ n ≤ 300 ∧ ((inR x 0 (n - 1) = false ∧ tld CE "value" x H E) ∨ (inR x 0 (n - 1) = true ∧ ((inR y 0 (n - 1) = false ∧ tld CE "value" y H E) ∨ ∃ a b : Int, x = .int a ∧ y = .int b ∧ 0 ≤ a ∧ a < n ∧ 0 ≤ b ∧ b < n ∧ ∀ r H', H r = none → Same H H' → IsMap C H' r n (swp n a b) → Q (.ref r) H'))))
theorem firstBad_one {n : Int} {x : V} : firstBad n [] [x] = if inR x 0 (n - 1) = true then none else some x := by
  cases h : inR x 0 (n - 1) with
  | false => rw [firstBad_out h]; rfl
  | true =>
    obtain ⟨i, rfl⟩ : ∃ i, x = .int i := by cases x <;> first | exact ⟨_, rfl⟩ | cases h
    rw [firstBad_next h (fun z => by cases z)]
    rfl
section
variable {P : Program} {w : World} {K : PySem.W.Frag} {mg : Str → Option Value} {base : Heap}
theorem okE_identity (T : Txt K mg) : FnR P w K mg base (L2.CX P w) 6 T.f_Map_identity (spBadZ T.C_Map T.C_InvalidSize) := by
  refine T.A_Map_identity.okX sc_Map_identity (fun vs H Q E h => ?_) (fun cdv A outer s H vs Q E hr h => ?_)
  · obtain ⟨v, rfl, _⟩ := h
    rfl
  · obtain ⟨v, rfl, hk, e, q⟩ := h
    refine ⟨_, (pss_cons (ps_expr (pe_callR (okX_checkZ T) (hr.mono (by decide)) T.A_check_size.kp rfl T.g_check_size (passes_call (takes_of rfl rfl rfl rfl) (fun _ _ _ _ h => h)) (pa_cons (pv 1) pa_nil)))
      (pss_one (ps_ret (pe_makeL (i := 0) T.M_Map (ok_init T) (hr.mono (by decide)) rfl (Or.inl rfl) pass0 (pa_cons (pv 1) (pa_cons (pe_dc (own := [("element", 2)]) (g := (gName 2)) (tt := tYes) rfl sc_Map_identity.nd (pi_range1 rfl T.n_range (pa_cons (pv 1) pa_nil)) (blkOk_by (own := [("element", 2)]) (N := n_Map_identity) (sc := defScope s_Map_identity) (by decide +kernel)) (fun _ _ _ _ _ => (pg_name (i := 2) sc_Map_identity.nd rfl (Or.inl rfl))) (fun _ _ _ _ _ => pts_nil) (fun _ _ _ _ _ => (pv 2)) (fun _ _ _ _ _ => (pv 2))) pa_nil)))))), ?_⟩
    exact ⟨_, rfl, v, rfl, hk, .inr ⟨e, q⟩⟩
theorem okE_empty (T : Txt K mg) : FnR P w K mg base (L2.CX P w) 6 T.f_Map_empty (spBadZ T.C_Map T.C_InvalidSize) := by
  refine T.A_Map_empty.okX sc_Map_empty (fun vs H Q E h => ?_) (fun cdv A outer s H vs Q E hr h => ?_)
  · obtain ⟨v, rfl, _⟩ := h
    rfl
  · obtain ⟨v, rfl, hk, e, q⟩ := h
    refine ⟨_, (pss_cons (ps_expr (pe_callR (okX_checkZ T) (hr.mono (by decide)) T.A_check_size.kp rfl T.g_check_size (passes_call (takes_of rfl rfl rfl rfl) (fun _ _ _ _ h => h)) (pa_cons (pv 1) pa_nil)))
      (pss_one (ps_ret (pe_makeL (i := 0) T.M_Map (ok_init T) (hr.mono (by decide)) rfl (Or.inl rfl) pass0 (pa_cons (pv 1) (pa_cons pe_dnewK pa_nil)))))), ?_⟩
    exact ⟨_, rfl, v, rfl, hk, .inr ⟨e, q⟩⟩
theorem okX_chain (T : Txt K mg) : FnR P w K mg base (L2.CX P w) 8 T.f_Map_chain (spStar 2 (spCyc T.C_Map T.C_InvalidSize T.C_InvalidElement chn)) := by
  refine T.A_Map_chain.okX sc_Map_chain (fun cdv A outer s H vs Q E hr h => ?_)
  · obtain ⟨v, p, xs, rfl, hp, hz, hkv, hkx, h⟩ := h
    have hu := hu_of hr
    refine ⟨_, (pss_cons (ps_expr (pe_callR (okX_checkZ T) (hr.mono (by decide)) T.A_check_size.kp rfl T.g_check_size (passes_call (takes_of rfl rfl rfl rfl) (fun _ _ _ _ h => h)) (pa_cons (pv 1) pa_nil)))
      (pss_cons (ps_expr (pe_callR (okX_checkET T) (hr.mono (by decide)) T.A_check_elements.kp rfl T.g_check_elements (passes_call (takes_of rfl rfl rfl rfl) (fun _ _ _ _ h => h)) (pa_cons (pv 1) (pa_cons (pv 2) pa_nil))))
      (pss_one (ps_ret (pe_makeL (i := 0) T.M_Map (ok_init T) (hr.mono (by decide)) rfl (Or.inl rfl) pass0 (pa_cons (pv 1) (pa_cons (pe_dictZip0 rfl (pa_cons (pv 2) (pa_cons (pe_slice sl_tupA (pv 2) (po_some pe_int) po_none) pa_nil)) rfl T.n_dict (by decide +kernel) rfl T.n_zip) pa_nil))))))), ?_⟩
    rcases h with ⟨e, q⟩ | ⟨n, rfl, n1, n3, h⟩
    · exact ⟨_, rfl, v, rfl, hkv, .inr ⟨e, q⟩⟩
    refine ⟨_, rfl, .int n, rfl, trivial, .inl ⟨inR_13 n1 n3, ?_⟩⟩
    rcases h with ⟨x, e, q⟩ | ⟨is, rfl, hb, nd, q⟩
    · exact ⟨_, rfl, _, rfl, n, p, xs, _, rfl, hp, rfl, by omega, hkx, .inr ⟨x, e, q⟩⟩
    refine ⟨_, rfl, _, rfl, n, p, _, _, rfl, hp, rfl, by omega, hkx, .inl ⟨firstBad_ok hb nd (fun _ _ z => nomatch z), fun H1 s1 => ?_⟩⟩
    have hp1 : SqT K H1 p (is.map V.int) := SqT.of (s1 _ _ hp)
    rw [List.length_map] at hz
    refine ⟨rfl, _, rfl, _, rfl, _, rfl, 1, rfl, ?_⟩
    dsimp only [tNoPart]
    refine slA_R hp1 fun q1 H2 s2 h2 => ?_
    rw [cut_1, ← List.map_drop] at h2
    have s02 := s1.trans s2
    refine ⟨p, q1, is.map Sum.inl, _, rfl, .inr ⟨by rw [map_kV]; exact SqT.of (s02 _ _ hp), h2⟩, fun D n_D => ?_⟩
    rw [kvI_zip]
    obtain ⟨l9, e9, hl9, d9⟩ := dict_of (di_stp nd)
    rw [show is.zip (is.drop 1) = stp2 is from rfl, e9]
    generalize g_D : L2.upd _ D _ = H5
    obtain ⟨s_H5, e_D⟩ := U.upd_facts g_D n_D
    clear g_D
    have hlr : (stp2 is).length ≤ 100 := by unfold stp2; rw [List.length_zip]; omega
    exact fun r dr nr ndr ne => init_of e_D d9 (wf_chn hb nd) n1 n3 (by omega) nr ndr ne fun H6 s6 m6 => ⟨rfl, q r H6 ((s02.trans s_H5).free nr) (s02.trans (s_H5.trans s6)) m6⟩
theorem okX_swap (T : Txt K mg) : FnR P w K mg base (L2.CX P w) 8 T.f_Map_swap (spSwap T.C_Map T.C_InvalidSize T.C_InvalidElement) := by
  refine T.A_Map_swap.okX sc_Map_swap (fun vs H Q E h => ?_) (fun cdv A outer s H vs Q E hr h => ?_)
  · obtain ⟨v, x, y, rfl, _⟩ := h
    rfl
  · obtain ⟨v, x, y, rfl, hkv, hkx, hky, h⟩ := h
    have hu := hu_of hr
    refine ⟨_, (pss_cons (ps_expr (pe_callR (okX_checkZ T) (hr.mono (by decide)) T.A_check_size.kp rfl T.g_check_size (passes_call (takes_of rfl rfl rfl rfl) (fun _ _ _ _ h => h)) (pa_cons (pv 1) pa_nil)))
      (pss_cons (ps_expr (pe_callR (okX_checkEL T) (hr.mono (by decide)) T.A_check_elements.kp rfl T.g_check_elements (passes_call (takes_of rfl rfl rfl rfl) (fun _ _ _ _ h => h)) (pa_cons (pv 1) (pa_cons (pe_lst (pa_cons (pv 2) pa_nil)) pa_nil))))
      (pss_cons (ps_expr (pe_callR (okX_checkEL T) (hr.mono (by decide)) T.A_check_elements.kp rfl T.g_check_elements (passes_call (takes_of rfl rfl rfl rfl) (fun _ _ _ _ h => h)) (pa_cons (pv 1) (pa_cons (pe_lst (pa_cons (pv 3) pa_nil)) pa_nil))))
      (pss_cons (ps_setDc (i := 4) (own := [("element", 5)]) (g := (gName 5)) (tt := tYes) rfl sc_Map_swap.nd rfl rfl (sw_dict rfl rfl rfl (by decide +kernel)) (pi_range1 rfl T.n_range (pa_cons (pv 1) pa_nil)) (blkOk_by (own := [("element", 5)]) (N := n_Map_swap) (sc := defScope s_Map_swap) (by decide +kernel)) (fun _ _ _ _ _ => (pg_name (i := 5) sc_Map_swap.nd rfl (Or.inl rfl))) (fun _ _ _ _ _ => pts_nil) (fun _ _ _ _ _ => (pv 5)) (fun _ _ _ _ _ => (pv 5)))
      (pss_cons (ps_asg (pe_tup (pa_cons (pv 3) (pa_cons (pv 2) pa_nil))) (pg_tup rfl (pgs_cons (pg_sub (pv 4) (pv 2) (set_dict hu)) (pgs_cons (pg_sub (pv 4) (pv 3) (set_dict hu)) pgs_nil))))
      (pss_one (ps_ret (pe_makeL (i := 0) T.M_Map (ok_init T) (hr.mono (by decide)) rfl (Or.inl rfl) pass0 (pa_cons (pv 1) (pa_cons (pv 4) pa_nil)))))))))), ?_⟩
    rcases h with ⟨e, q⟩ | ⟨n, rfl, n1, n3, h⟩
    · exact ⟨_, rfl, v, rfl, hkv, .inr ⟨e, q⟩⟩
    refine ⟨_, rfl, .int n, rfl, trivial, .inl ⟨inR_13 n1 n3, ?_⟩⟩
    refine ⟨_, rfl, _, rfl, one_le, ?_⟩
    refine fun l1 n_l1 => ?_
    generalize g_l1 : L2.upd _ l1 _ = H1
    obtain ⟨s_H1, e_l1⟩ := U.upd_facts g_l1 n_l1
    clear g_l1
    rcases h with ⟨e, q⟩ | ⟨ex, h⟩
    · exact ⟨n, l1, [x], _, rfl, e_l1, rfl, by simp, (fun z hz => by rw [List.mem_singleton] at hz; subst hz; exact hkx.mv s_H1), .inr ⟨x, by rw [firstBad_one, e]; rfl, fun d H' s' nd => q d H' (s_H1.trans s') nd⟩⟩
    refine ⟨n, l1, [x], _, rfl, e_l1, rfl, by simp, (fun z hz => by rw [List.mem_singleton] at hz; subst hz; exact hkx.mv s_H1), .inl ⟨by rw [firstBad_one, ex]; rfl, fun H2 s2 => ?_⟩⟩
    have s02 := s_H1.trans s2
    refine ⟨_, rfl, _, rfl, one_le, ?_⟩
    refine fun l2 n_l2 => ?_
    generalize g_l2 : L2.upd _ l2 _ = H3
    obtain ⟨s_H3, e_l2⟩ := U.upd_facts g_l2 n_l2
    clear g_l2
    have s03 := s02.trans s_H3
    rcases h with ⟨e, q⟩ | ⟨a, b, rfl, rfl, a0, an, b0, bn, q⟩
    · exact ⟨n, l2, [y], _, rfl, e_l2, rfl, by simp, (fun z hz => by rw [List.mem_singleton] at hz; subst hz; exact hky.mv s03), .inr ⟨y, by rw [firstBad_one, e]; rfl, fun d H' s' nd => q d H' (s03.trans s') nd⟩⟩
    have ey : inR (.int b) 0 (n - 1) = true := by simp only [inR, Bool.and_eq_true, decide_eq_true_eq]; omega
    refine ⟨n, l2, [.int b], _, rfl, e_l2, rfl, by simp, (fun z hz => by rw [List.mem_singleton] at hz; subst hz; trivial), .inl ⟨by rw [firstBad_one, ey]; rfl, fun H4 s4 => ?_⟩⟩
    have s04 := s03.trans s4
    dsimp only [tNext, tSeq, tAsg, gName]
    refine dc_range (n := n.toNat) (fun _ => true) (fun k => .int k) (fun R r => ⟨_, rfl, n, rfl, by omega, by omega, r⟩) (fun _ => rfl) ?_ (small1000 (by omega)) ?_
    · intro k hk H5 s5
      refine ⟨fun R r => r, fun _ => ⟨fun R r => ⟨_, rfl, ?_⟩, fun R r => ⟨_, rfl, ?_⟩⟩⟩
      · rw [Int.zero_add]; exact r
      · rw [Int.zero_add]; exact r
    · intro D H5 nD hD s5
      rw [madeR_id] at hD
      have e : ((n.toNat : Nat) : Int) = n := Int.toNat_of_nonneg (by omega)
      have di := di_id n.toNat
      rw [e] at di
      have hl0 : ((List.range n.toNat).map fun (i : Nat) => ((i : Int), (i : Int))).length ≤ 300 := by rw [List.length_map, List.length_range]; omega
      refine ⟨_, rfl, _, rfl, two_le, ?_⟩
      refine fun t n_t => ?_
      generalize g_t : L2.upd _ t _ = H6
      obtain ⟨s_H6, e_t⟩ := U.upd_facts g_t n_t
      clear g_t
      refine ⟨t, _, rfl, SqT.of e_t, rfl, _, _, rfl, _, rfl, _, rfl, D, _, rfl, DPut.k (k := Sum.inl a) (s_H6 _ _ hD) (lt_line (by rw [kvI_length]; omega)), ?_⟩
      obtain ⟨la, ea, hla, da⟩ := di_putS di a b
      rw [ea]
      generalize g_H7 : L2.upd _ D _ = H7
      obtain ⟨o_H7, e_H7⟩ := st_facts g_H7
      clear g_H7
      refine ⟨_, _, rfl, _, rfl, _, rfl, D, _, rfl, DPut.k (k := Sum.inl b) e_H7 (lt_line (by rw [kvI_length]; omega)), ?_⟩
      obtain ⟨lb, eb, hlb, db⟩ := di_putS da b a
      rw [eb]
      generalize g_H8 : L2.upd _ D _ = H8
      obtain ⟨o_H8, e_H8⟩ := st_facts g_H8
      clear g_H8
      have hf : (fun z => if z = b then some a else if z = a then some b else idn n z) = swp n a b := rfl
      rw [hf] at db
      have nD0 : H D = none := s04.free nD
      have s08 : Same H H8 := fun c o e => o_H8 _ _ (ne_of_none e nD0) (o_H7 _ _ (ne_of_none e nD0) (s_H6 _ _ (s5 _ _ (s04 _ _ e))))
      refine ⟨rfl, rfl, _, rfl, _, rfl, ?_⟩
      exact fun r dr nr ndr ne => init_of e_H8 db (wf_swp ⟨a0, an⟩ ⟨b0, bn⟩) n1 n3 (by omega) nr ndr ne fun H9 s9 m9 => ⟨rfl, q r H9 (s08.free nr) (s08.trans s9) m9⟩
end
end My
namespace My
open PySem L2 U StX PM PyProof.Rows
/-! ### great maps: made, read -/
def vN (l : List Nat) : List V := l.map fun (n : Nat) => V.int n
theorem vN_len (l : List Nat) : (vN l).length = l.length := List.length_map ..
def big30 : Int := 1000000000000000000000000000000
def gflds (D1 D2 : Addr) : List (Str × V) := putF "own_chains" (.ref D2) (putF "own_cycles" (.ref D1) [])
theorem ne_gfld : ¬ (("own_cycles" : Str) = "own_chains") := by decide +kernel
theorem gflds_cy (D1 D2 : Addr) : (gflds D1 D2).lookup ("own_cycles" : Str) = some (.ref D1) := by
  unfold gflds
  rw [lookup_putF, if_neg ne_gfld, lookup_putF, if_pos rfl]
theorem gflds_ch (D1 D2 : Addr) : (gflds D1 D2).lookup ("own_chains" : Str) = some (.ref D2) := by
  unfold gflds
  rw [lookup_putF, if_pos rfl]
theorem gflds_no (D1 D2 : Addr) {m : Str} (h1 : ¬ m = "own_chains") (h2 : ¬ m = "own_cycles") : (gflds D1 D2).lookup m = none := by
  unfold gflds
  rw [lookup_putF, if_neg h1, lookup_putF, if_neg h2]
  all_goals rfl
def LenL (l : List Nat) : Prop := l.length ≤ 100 ∧ ∀ n ∈ l, 1 ≤ n ∧ (n : Int) ≤ big30
structure IsGreat (C : Addr) (H : Hp) (g : Addr) (cy ch : List Nat) : Prop where
  ob : ∃ dx D1 D2, H g = some (.ins C dx (gflds D1 D2)) ∧ H D1 = some (.lst (vN cy)) ∧ H D2 = some (.lst (vN ch))
  l1 : LenL cy
  l2 : LenL ch
theorem IsGreat.same {C : Addr} {H H' : Hp} {g : Addr} {cy ch : List Nat} (h : IsGreat C H g cy ch) (s : Same H H') : IsGreat C H' g cy ch := by
  obtain ⟨⟨dx, D1, D2, e1, e2, e3⟩, l1, l2⟩ := h
  exact ⟨⟨dx, D1, D2, s _ _ e1, s _ _ e2, s _ _ e3⟩, l1, l2⟩
theorem IsGreat.at_ {C : Addr} {H : Hp} {g : Addr} {cy ch : List Nat} (h : IsGreat C H g cy ch) : ∃ dx fs, H g = some (.ins C dx fs) := by
  obtain ⟨⟨dx, D1, D2, e1, e2, e3⟩, l1, l2⟩ := h
  exact ⟨_, _, e1⟩
/-- the two lists of a great map stand elsewhere -/
def GNe (C : Addr) (H : Hp) (g z : Addr) : Prop := ∃ dx D1 D2, H g = some (.ins C dx (gflds D1 D2)) ∧ D1 ≠ z ∧ D2 ≠ z
theorem GNe.same {C : Addr} {H H' : Hp} {g z : Addr} (h : GNe C H g z) (s : Same H H') : GNe C H' g z := by
  obtain ⟨dx, D1, D2, e, h⟩ := h
  exact ⟨dx, D1, D2, s _ _ e, h⟩
theorem gflds_inj {D1 D2 E1 E2 : Addr} (h : gflds D1 D2 = gflds E1 E2) : D1 = E1 ∧ D2 = E2 := by
  have h1 := gflds_cy D1 D2
  have h2 := gflds_ch D1 D2
  rw [h, gflds_cy] at h1
  rw [h, gflds_ch] at h2
  cases h1; cases h2
  exact ⟨rfl, rfl⟩
theorem IsGreat.off {C : Addr} {H H' : Hp} {g z : Addr} {cy ch : List Nat} (h : IsGreat C H g cy ch) (ne : GNe C H g z) (hz : g ≠ z) (o : Off z H H') : IsGreat C H' g cy ch := by
  obtain ⟨⟨dx, D1, D2, e1, e2, e3⟩, l1, l2⟩ := h
  obtain ⟨dy, E1, E2, f1, n1, n2⟩ := ne
  rw [e1] at f1
  have f1 := Option.some.inj f1
  have f2 : gflds D1 D2 = gflds E1 E2 := by injection f1
  obtain ⟨rfl, rfl⟩ := gflds_inj f2
  exact ⟨⟨dx, D1, D2, o _ _ hz e1, o _ _ n1 e2, o _ _ n2 e3⟩, l1, l2⟩
theorem GNe.off {C : Addr} {H H' : Hp} {g z : Addr} (h : GNe C H g z) (hz : g ≠ z) (o : Off z H H') : GNe C H' g z := by
  obtain ⟨dx, D1, D2, e, h⟩ := h
  exact ⟨dx, D1, D2, o _ _ hz e, h⟩
def spAL : Sp := fun vs H Q _ => ∃ a l, vs = [.ref a] ∧ H a = some (.lst (vN l)) ∧ LenL l ∧ ∀ H', Same H H' → Q (.bl true) H'
def spGI (C : Addr) : Sp := fun vs H Q _ => ∃ (p dx a b : Addr) (cy ch : List Nat), vs = [.ref p, .ref a, .ref b] ∧ H p = some (.ins C dx []) ∧ H a = some (.lst (vN cy)) ∧ H b = some (.lst (vN ch)) ∧ LenL cy ∧ LenL ch ∧
  ∀ H', Off p H H' → IsGreat C H' p cy ch → (∀ z o, H z = some o → GNe C H' p z) → Q .non H'
theorem initG_of {C : Addr} {H : Hp} {a b : Addr} {cy ch : List Nat} {R : VK} {E : XK} {x dx : Addr} (ha : H a = some (.lst (vN cy))) (hb : H b = some (.lst (vN ch))) (l1 : LenL cy) (l2 : LenL ch)
    (hx : H x = none) (hdx : H dx = none) (ne : dx ≠ x) (q : ∀ H', Same H H' → IsGreat C H' x cy ch → (∀ z o, H z = some o → GNe C H' x z) → R .non H') :
    spGI C [.ref x, .ref a, .ref b] (upd (upd H dx (.own x)) x (.ins C dx [])) R E := by
  have s0 : Same H (upd (upd H dx (.own x)) x (.ins C dx [])) := fun b o e => by
    rw [upd_ne (ne_of_none e hx), upd_ne (ne_of_none e hdx)]
    exact e
  exact ⟨x, dx, a, b, cy, ch, rfl, upd_same, s0 _ _ ha, s0 _ _ hb, l1, l2, fun H' o g n => q H' (fun b u e => o b u (ne_of_none e hx) (s0 b u e)) g fun z o e => n z o (s0 _ _ e)⟩
section
variable {P : Program} {w : World} {K : PySem.W.Frag} {mg : Str → Option Value} {base : Heap}
theorem ok_are_lengths (T : Txt K mg) : FnR P w K mg base CX0 3 T.f_are_lengths spAL := by
  refine T.A_are_lengths.ok sc_are_lengths (fun vs H Q E h => ?_) (fun cdv A outer s H vs Q E hr h => ?_)
  · obtain ⟨a, l, rfl, _⟩ := h
    rfl
  · obtain ⟨a, l, rfl, ha, ⟨hl, hv⟩, q⟩ := h
    obtain ⟨_, h_MAX_PARTS⟩ := T.v_MAX_PARTS
    obtain ⟨_, h_MAX_NUMBER⟩ := T.v_MAX_NUMBER
    refine ⟨_, (pss_cons (ps_if (PW.pt (pw_or (pt_not (pt_val (pe_callB call_isi (by rfl) T.n_isinstance (by decide +kernel) (pa_cons (pv 0) (pa_cons (pe_bltn (v := .ty "list") (u := .type "list") (by rfl) T.n_list (by decide +kernel) rfl) pa_nil))))) (pw_or1 (pt_cmpR op_gt (pe_callB call_len_seq (by rfl) T.n_len (by decide +kernel) (pa_cons (pv 0) pa_nil)) (pe_glob (v := .int 100) rfl h_MAX_PARTS ⟨_, rfl⟩) (nomark _)))))
        (pss_one (ps_ret pe_bl)) pss_nil)
      (pss_one (ps_ret (pe_callB (cr_all rfl) (by rfl) T.n_all (by decide +kernel) (pa_cons (pe_lc (own := [("length", 1)]) (g := (gName 1)) (tt := tYes) rfl sc_are_lengths.nd (pi_list (pv 0)) (blkOk_by (own := [("length", 1)]) (N := n_are_lengths) (sc := defScope s_are_lengths) (by decide +kernel)) (fun _ _ _ _ _ => (pg_name (i := 1) sc_are_lengths.nd rfl (Or.inl rfl))) (fun _ _ _ _ _ => pts_nil) (fun _ _ _ _ _ => (pe_callR (ok_in_range T) (hr.mono (by decide)) T.A_in_range.kp rfl T.g_in_range pass0 (pa_cons (pv 1) (pa_cons pe_int (pa_cons (pe_glob (v := .int 1000000000000000000000000000000) rfl h_MAX_NUMBER ⟨_, rfl⟩) pa_nil)))))) pa_nil))))), ?_⟩
    refine ⟨_, rfl, _, _, _, _, _, rfl, .ty _, .base (.lst ha), kit_ty (r := true) (by decide +kernel), _, rfl, iteF ?_⟩
    refine ⟨_, rfl, a, _, rfl, .inl (SqL.of ha), _, _, rfl, rfl, _, rfl, ?_⟩
    refine ifD (fun h => absurd h (by rw [vN_len]; omega)) (fun _ => ?_)
    dsimp only [tNext, tRet, tCB, tCons]
    refine lc_lst (xs := l) (fun (n : Nat) => V.int n) (fun n => [some (.ref a), some (.int n)]) (fun _ => true) (fun n => .bl (inR (.int (n : Int)) 1 big30)) (fun R r => ⟨_, rfl, r⟩) ha (fun y hy' H1 s1 R r => r) (fun y _ => rfl) (fun y hy' H1 s1 => ⟨fun R r => r, fun _ R r => ⟨_, rfl, _, 1, big30, rfl, trivial, r⟩⟩) (lt_line (by omega)) (fun D H1 nD hD s1 => ?_)
    rw [List.filter_eq_self.mpr (fun _ _ => rfl)] at hD
    refine ⟨D, l.map fun (n : Nat) => inR (.int (n : Int)) 1 big30, rfl, SqL.of (by rw [List.map_map]; exact hD), ?_⟩
    rw [show ((l.map fun (n : Nat) => inR (.int (n : Int)) 1 big30).all id) = true by
      rw [List.all_map, List.all_eq_true]
      intro n hn
      have := hv n hn
      simp only [Function.comp, id, inR, Bool.and_eq_true, decide_eq_true_eq]
      omega]
    exact q H1 s1
theorem ok_ginit (T : Txt K mg) : FnR P w K mg base CX0 5 T.f_GreatMap__init (spGI T.C_GreatMap) := by
  refine T.A_GreatMap__init.ok sc_GreatMap__init (fun vs H Q E h => ?_) (fun cdv A outer s H vs Q E hr h => ?_)
  · obtain ⟨p, dx, a, b, cy, ch, rfl, _⟩ := h
    rfl
  · obtain ⟨p, dx, a, b, cy, ch, rfl, hp, ha, hb, l1, l2, q⟩ := h
    refine ⟨_, (pss_cons (ps_if (pt_not (pt_val (pe_callR (ok_are_lengths T) (hr.mono (by decide)) T.A_are_lengths.kp rfl T.g_are_lengths pass0 (pa_cons (pv 1) pa_nil))))
        (pss_one ps_never) pss_nil)
      (pss_cons (ps_if (pt_not (pt_val (pe_callR (ok_are_lengths T) (hr.mono (by decide)) T.A_are_lengths.kp rfl T.g_are_lengths pass0 (pa_cons (pv 2) pa_nil))))
        (pss_one ps_never) pss_nil)
      (pss_cons (ps_fld (pv 0) (pe_callTy call_list_of (by rfl) T.n_list (by decide +kernel) (pa_cons (pv 1) pa_nil)) rfl)
      (pss_one (ps_fld (pv 0) (pe_callTy call_list_of (by rfl) T.n_list (by decide +kernel) (pa_cons (pv 2) pa_nil)) rfl))))), ?_⟩
    refine ⟨_, rfl, a, cy, rfl, ha, l1, fun H1 s1 => ⟨_, rfl, iteF ?_⟩⟩
    refine ⟨_, rfl, b, ch, rfl, s1 _ _ hb, l2, fun H2 s2 => ⟨_, rfl, iteF ?_⟩⟩
    have s12 := s1.trans s2
    refine ⟨_, rfl, a, _, rfl, .inl (SqL.of (s12 _ _ ha)), fun D1 n1 => ?_⟩
    have hp2 := s12 _ _ hp
    have nD1p : D1 ≠ p := (ne_of_none hp2 n1).symm
    refine ⟨_, rfl, p, T.C_GreatMap, dx, [], rfl, carryNew n1 hp2, T.o_GreatMap.cl, T.na_own_cycles_GreatMap, (by show 0 < 1000; decide), ?_⟩
    have nbp : b ≠ p := ne_of hb hp (by intro z; cases z)
    have hb3 : (upd (upd H2 D1 (.lst (vN cy))) p (.ins T.C_GreatMap dx (putF "own_cycles" (.ref D1) []))) b = some (.lst (vN ch)) := by
      rw [upd_ne nbp]; exact carryNew n1 (s12 _ _ hb)
    refine ⟨_, rfl, b, _, rfl, .inl (SqL.of hb3), fun D2 n2 => ?_⟩
    have nD2p : D2 ≠ p := fun z => by rw [z, upd_same] at n2; cases n2
    have n2' : (upd H2 D1 (.lst (vN cy))) D2 = none := by rw [upd_ne nD2p] at n2; exact n2
    have nD21 : D2 ≠ D1 := fun z => by rw [z, upd_same] at n2'; cases n2'
    refine ⟨_, rfl, p, T.C_GreatMap, dx, _, rfl, (by rw [upd_ne nD2p.symm]; exact upd_same), T.o_GreatMap.cl, T.na_own_chains_GreatMap, (by show 1 < 1000; decide), ?_⟩
    refine q _ (fun c o hc e => ?_) ⟨⟨dx, D1, D2, upd_same, ?_, ?_⟩, l1, l2⟩ (fun z o e => ⟨dx, D1, D2, upd_same, (ne_of_none (s12 _ _ e) n1).symm, (ne_of_none (s12 _ _ e) (freeUp n2')).symm⟩)
    · rw [upd_ne hc, upd_ne (fun z => by rw [z] at e; rw [carryNew n1 (s12 _ _ e)] at n2'; cases n2'), upd_ne hc]
      exact carryNew n1 (s12 _ _ e)
    · rw [upd_ne nD1p, upd_ne nD21.symm, upd_ne nD1p, upd_same]
    · rw [upd_ne nD2p, upd_same]
/-! ### places -/
def kd (b : Bool) : Str := if b then "cycle" else "chain"
def PlaceG (H : Hp) (cy ch : List Nat) (a : Addr) (b : Bool) (i m n : Nat) : Prop := H a = some (.tup [.str (kd b), .int i, .int m]) ∧ (if b then cy else ch)[i]? = some n ∧ m < n
theorem PlaceG.same {H H' : Hp} {cy ch : List Nat} {a : Addr} {b : Bool} {i m n : Nat} (h : PlaceG H cy ch a b i m n) (s : Same H H') : PlaceG H' cy ch a b i m n := ⟨s _ _ h.1, h.2⟩
end
end My
namespace My
open PySem L2 U StX PM
theorem units65 {k : Nat} {A : Around} (r : Room k A) : A.units + 65 < cLine := by have := r.un; omega
def kinds : List PyData := [.str "cycle", .str "chain"]
theorem kshape (b : Bool) : SeqAt.shaped (.str (kd b)) = true := by
  cases b <;> decide +kernel
theorem kshapeL : SeqAt.shaped (.list kinds) = true := by decide +kernel
theorem kany (b : Bool) : (!kinds.any fun z => PyData.eqv z (.str (kd b))) = false := by
  cases b <;> decide +kernel
theorem kcyc (b : Bool) : decide (V.str (kd b) = V.str "cycle") = b := by
  cases b <;> decide +kernel
def spLA (C : Addr) : Sp := fun vs H Q _ => ∃ (p a : Addr) (cy ch : List Nat) (b : Bool) (i m n : Nat), vs = [.ref p, .ref a] ∧ IsGreat C H p cy ch ∧ PlaceG H cy ch a b i m n ∧ ∀ H', Same H H' → Q (.int n) H'
section
variable {P : Program} {w : World} {K : PySem.W.Frag} {mg : Str → Option Value} {base : Heap}
theorem ok_length_at (T : Txt K mg) : FnR P w K mg base CX0 5 T.f_GreatMap_length_at (spLA T.C_GreatMap) := by
  refine T.A_GreatMap_length_at.ok sc_GreatMap_length_at (fun vs H Q E h => ?_) (fun cdv A outer s H vs Q E hr h => ?_)
  · obtain ⟨p, a, cy, ch, b, i, m, n, rfl, _⟩ := h
    rfl
  · obtain ⟨p, a, cy, ch, b, i, m, n, rfl, hp, ⟨ha, hi, hm⟩, q⟩ := h
    refine ⟨_, (pss_cons (ps_if (PW.pt (pw_or (pt_not (pt_val (pe_callB call_isi (by rfl) T.n_isinstance (by decide +kernel) (pa_cons (pv 1) (pa_cons (pe_bltn (v := .ty "tuple") (u := .type "tuple") (by rfl) T.n_tuple (by decide +kernel) rfl) pa_nil))))) (pw_or (pt_cmpR op_ne (pe_callB call_len_seq (by rfl) T.n_len (by decide +kernel) (pa_cons (pv 1) pa_nil)) pe_int (nomark _)) (pw_or1 (pt_cmpR (op_notInT (units65 hr)) (pe_ix ix_tup (pv 1) pe_int (fun _ _ => rfl)) (pe_tup (pa_cons pe_str (pa_cons pe_str pa_nil))) (by rfl))))))
        (pss_one ps_never) pss_nil)
      (pss_cons (ps_set (i := 2) sc_GreatMap_length_at.nd rfl (Or.inl rfl) (pe_ifExp (pt_cmpR op_eq (pe_ix ix_tup (pv 1) pe_int (fun _ _ => rfl)) pe_str (nomark _)) (pe_fld (pv 0) rfl) (pe_fld (pv 0) rfl)))
      (pss_cons (ps_if (PW.pt (pw_or (pt_not (pt_val (pe_callR (ok_in_range T) (hr.mono (by decide)) T.A_in_range.kp rfl T.g_in_range pass0 (pa_cons (pe_ix ix_tup (pv 1) pe_int (fun _ _ => rfl)) (pa_cons pe_int (pa_cons (pe_op op_sub (pe_callB call_len_seq (by rfl) T.n_len (by decide +kernel) (pa_cons (pv 2) pa_nil)) pe_int) pa_nil)))))) (pw_or1 (pt_not (pt_val (pe_callR (ok_in_range T) (hr.mono (by decide)) T.A_in_range.kp rfl T.g_in_range pass0 (pa_cons (pe_ix ix_tup (pv 1) pe_int (fun _ _ => rfl)) (pa_cons pe_int (pa_cons (pe_op op_sub (pe_ix ix_list (pv 2) (pe_ix ix_tup (pv 1) pe_int (fun _ _ => rfl)) (fun _ _ => rfl)) pe_int) pa_nil)))))))))
        (pss_one ps_never) pss_nil)
      (pss_one (ps_ret (pe_ix ix_list (pv 2) (pe_ix ix_tup (pv 1) pe_int (fun _ _ => rfl)) (fun _ _ => rfl))))))), ?_⟩
    refine ⟨_, rfl, _, _, _, _, _, rfl, .ty _, .base (.tup ha), kit_ty (r := true) (by decide +kernel), _, rfl, iteF ?_⟩
    refine ⟨_, rfl, a, _, rfl, .inr (SqT.of ha), rfl, _, rfl, iteF ?_⟩
    refine ⟨_, rfl, a, _, 0, _, rfl, rfl, SqT.of ha, atI_nat (j := 0) rfl, two_le, ?_⟩
    refine fun t n_t => ?_
    generalize g_t : L2.upd _ t _ = H1
    obtain ⟨s_H1, e_t⟩ := U.upd_facts g_t n_t
    clear g_t
    refine ⟨.str (kd b), t, _, kinds, rfl, .str _, SqT.of e_t, .cons (.str _) (.cons (.str _) .nil), kshape b, kshapeL, _, rfl, ?_⟩
    rw [kany b]
    refine iteF ?_
    have ha1 := s_H1 _ _ ha
    have hp1 := hp.same s_H1
    obtain ⟨⟨dx, D1, D2, g1, g2, g3⟩, l1, l2⟩ := hp1
    refine ⟨_, rfl, a, _, 0, _, rfl, rfl, SqT.of ha1, atI_nat (j := 0) rfl, rfl, _, rfl, ?_⟩
    rw [kcyc b]
    have hil : i < (if b then cy else ch).length := by
      rw [List.getElem?_eq_some_iff] at hi
      exact hi.1
    have hi' : (vN (if b then cy else ch))[i]? = some (.int n) := by unfold vN; rw [List.getElem?_map, hi]; rfl
    cases b with
    | true =>
      replace hi' : (vN cy)[i]? = some (.int n) := hi'
      replace hil : i < cy.length := hil
      refine iteT ⟨_, rfl, _, _, _, _, _, rfl, g1, T.o_GreatMap.cl, T.na_own_cycles_GreatMap, gflds_cy D1 D2, ?_⟩
      refine ⟨_, rfl, a, _, 1, _, rfl, rfl, SqT.of ha1, atI_nat (j := 1) rfl, ?_⟩
      refine ⟨_, rfl, D1, _, rfl, .inl (SqL.of g2), _, _, rfl, rfl, ?_⟩
      rw [vN_len]
      refine ⟨_, _, _, rfl, trivial, _, rfl, ?_⟩
      rw [show inR (.int (i : Int)) 0 ((cy.length : Int) - 1) = true by simp only [inR, Bool.and_eq_true, decide_eq_true_eq]; omega]
      refine iteF ?_
      refine ⟨_, rfl, a, _, 2, _, rfl, rfl, SqT.of ha1, atI_nat (j := 2) rfl, ?_⟩
      refine ⟨_, rfl, _, rfl, a, _, 1, _, rfl, rfl, SqT.of ha1, atI_nat (j := 1) rfl, D1, _, (i : Int), _, rfl, rfl, SqL.of g2, atI_nat (j := i) hi', _, _, rfl, rfl, ?_⟩
      refine ⟨_, _, _, rfl, trivial, _, rfl, ?_⟩
      rw [show inR (.int (m : Int)) 0 ((n : Int) - 1) = true by simp only [inR, Bool.and_eq_true, decide_eq_true_eq]; omega]
      refine iteF ?_
      exact ⟨_, rfl, _, rfl, a, _, 1, _, rfl, rfl, SqT.of ha1, atI_nat (j := 1) rfl, D1, _, (i : Int), _, rfl, rfl, SqL.of g2, atI_nat (j := i) hi', q H1 s_H1⟩
    | false =>
      replace hi' : (vN ch)[i]? = some (.int n) := hi'
      replace hil : i < ch.length := hil
      refine iteF ⟨_, rfl, _, _, _, _, _, rfl, g1, T.o_GreatMap.cl, T.na_own_chains_GreatMap, gflds_ch D1 D2, ?_⟩
      refine ⟨_, rfl, a, _, 1, _, rfl, rfl, SqT.of ha1, atI_nat (j := 1) rfl, ?_⟩
      refine ⟨_, rfl, D2, _, rfl, .inl (SqL.of g3), _, _, rfl, rfl, ?_⟩
      rw [vN_len]
      refine ⟨_, _, _, rfl, trivial, _, rfl, ?_⟩
      rw [show inR (.int (i : Int)) 0 ((ch.length : Int) - 1) = true by simp only [inR, Bool.and_eq_true, decide_eq_true_eq]; omega]
      refine iteF ?_
      refine ⟨_, rfl, a, _, 2, _, rfl, rfl, SqT.of ha1, atI_nat (j := 2) rfl, ?_⟩
      refine ⟨_, rfl, _, rfl, a, _, 1, _, rfl, rfl, SqT.of ha1, atI_nat (j := 1) rfl, D2, _, (i : Int), _, rfl, rfl, SqL.of g3, atI_nat (j := i) hi', _, _, rfl, rfl, ?_⟩
      refine ⟨_, _, _, rfl, trivial, _, rfl, ?_⟩
      rw [show inR (.int (m : Int)) 0 ((n : Int) - 1) = true by simp only [inR, Bool.and_eq_true, decide_eq_true_eq]; omega]
      refine iteF ?_
      exact ⟨_, rfl, _, rfl, a, _, 1, _, rfl, rfl, SqT.of ha1, atI_nat (j := 1) rfl, D2, _, (i : Int), _, rfl, rfl, SqL.of g3, atI_nat (j := i) hi', q H1 s_H1⟩
end
end My
namespace My
open PySem L2 U StX PM
/-! ### what an odd value leads to -/
def Odd (C : Addr) (H : Hp) (v : V) : Prop := knownV C H v ∧ isI v = false
theorem Odd.inR {C : Addr} {H : Hp} {v : V} {a b : Int} (h : Odd C H v) : inR v a b = false := by
  cases v <;> first | rfl | cases h.2
theorem Odd.mv {C : Addr} {H H' : Hp} {v : V} (h : Odd C H v) (s : Same H H') : Odd C H' v := ⟨h.1.mv s, h.2⟩
theorem tld.mv {CE : Addr} {fld : Str} {x : V} {H H' : Hp} {E : XK} (h : tld CE fld x H E) (s : Same H H') : tld CE fld x H' E := fun d H2 s2 nd => h d H2 (s.trans s2) nd
theorem tld.at {CE : Addr} {fld : Str} {x : V} {H : Hp} {E : XK} (h : tld CE fld x H E) {d : Addr} (nd : H d = none) : E (.ref CE) (some d) (upd H d (.xd [(fld, x)])) := h d H (Same.refl _) nd
/-- a map and an odd value -/
def spMO (CM CE : Addr) : Sp := fun vs H Q E => ∃ (m : Addr) (n : Int) (f : PF) (v : V), vs = [.ref m, v] ∧ IsMap CM H m n f ∧ Odd CM H v ∧ tld CE "value" v H E
def spMO3 (CM CE : Addr) : Sp := fun vs H Q E => ∃ (m : Addr) (n : Int) (f : PF) (v : V), vs = [.ref m, v, .non] ∧ IsMap CM H m n f ∧ Odd CM H v ∧ tld CE "value" v H E
def spO1 (CM CE : Addr) : Sp := fun vs H Q E => ∃ (v : V), vs = [v] ∧ Odd CM H v ∧ tld CE "value" v H E
section
variable {P : Program} {w : World} {K : PySem.W.Frag} {mg : Str → Option Value} {base : Heap}
theorem okO_check_degree (T : Txt K mg) : FnR P w K mg base (L2.CX P w) 3 T.f_check_degree (spO1 T.C_Map T.C_InvalidNumber) := by
  refine T.A_check_degree.okX sc_check_degree (fun vs H Q E h => ?_) (fun cdv A outer s H vs Q E hr h => ?_)
  · obtain ⟨v, rfl, _⟩ := h
    rfl
  · obtain ⟨v, rfl, hk, h⟩ := h
    obtain ⟨_, h_MAX_DEGREE⟩ := T.v_MAX_DEGREE
    refine ⟨_, (pss_one (ps_if (pt_not (pt_val (pe_callR (ok_in_range T) (hr.mono (by decide)) T.A_in_range.kp rfl T.g_in_range pass0 (pa_cons (pv 0) (pa_cons pe_int (pa_cons (pe_glob (v := .int 1000000000000000000000000000000) rfl h_MAX_DEGREE ⟨_, rfl⟩) pa_nil))))))
        (pss_one (ps_raise rfl (takes_of rfl rfl rfl rfl) (pmk_oexG T.x_InvalidNumber T.m_InvalidNumber__init T.ti_InvalidNumber__init (ok_ini_InvalidNumber T) (hr.mono (by decide)) pass0 rfl T.g_InvalidNumber (pa_cons (pv 0) pa_nil)))) pss_nil)), ?_⟩
    refine ⟨_, rfl, v, 1, _, rfl, hk.1, _, rfl, ?_⟩
    rw [hk.inR]
    exact iteT ⟨_, rfl, mk_one fun d hd => h.at hd⟩
theorem okO_obstacle (T : Txt K mg) : FnR P w K mg base (L2.CX P w) 6 T.f_obstacle (spMO T.C_Map T.C_InvalidNumber) := by
  refine T.A_obstacle.okX sc_obstacle (fun vs H Q E h => ?_) (fun cdv A outer s H vs Q E hr h => ?_)
  · obtain ⟨m, n, f, v, rfl, _⟩ := h
    rfl
  · obtain ⟨m, n, f, v, rfl, hm, hv, h⟩ := h
    refine ⟨_, (pss_cons (ps_expr (pe_callR (ok_check_map T) (hr.mono (by decide)) T.A_check_map.kp rfl T.g_check_map (passes_call (takes_of rfl rfl rfl rfl) (fun _ _ _ _ h => h)) (pa_cons (pv 0) pa_nil))) (pss_cons (ps_expr (pe_callR (okO_check_degree T) (hr.mono (by decide)) T.A_check_degree.kp rfl T.g_check_degree (passes_call (takes_of rfl rfl rfl rfl) (fun _ _ _ _ h => h)) (pa_cons (pv 1) pa_nil))) U.pss_dead)), ?_⟩
    exact ⟨_, rfl, _, rfl, .inl ⟨m, n, f, rfl, hm, _, rfl, v, rfl, hv, h⟩⟩
theorem okO_is_obstacle (T : Txt K mg) : FnR P w K mg base (L2.CX P w) 6 T.f_is_obstacle (spMO3 T.C_Map T.C_InvalidNumber) := by
  refine T.A_is_obstacle.okX sc_is_obstacle (fun vs H Q E h => ?_) (fun cdv A outer s H vs Q E hr h => ?_)
  · obtain ⟨m, n, f, v, rfl, _⟩ := h
    rfl
  · obtain ⟨m, n, f, v, rfl, hm, hv, h⟩ := h
    refine ⟨_, (pss_cons (ps_expr (pe_callR (ok_check_map T) (hr.mono (by decide)) T.A_check_map.kp rfl T.g_check_map (passes_call (takes_of rfl rfl rfl rfl) (fun _ _ _ _ h => h)) (pa_cons (pv 0) pa_nil))) (pss_cons (ps_expr (pe_callR (okO_check_degree T) (hr.mono (by decide)) T.A_check_degree.kp rfl T.g_check_degree (passes_call (takes_of rfl rfl rfl rfl) (fun _ _ _ _ h => h)) (pa_cons (pv 1) pa_nil))) U.pss_dead)), ?_⟩
    exact ⟨_, rfl, _, rfl, .inl ⟨m, n, f, rfl, hm, _, rfl, v, rfl, hv, h⟩⟩
theorem okO_is_root (T : Txt K mg) : FnR P w K mg base (L2.CX P w) 6 T.f_is_root (spMO3 T.C_Map T.C_InvalidNumber) := by
  refine T.A_is_root.okX sc_is_root (fun vs H Q E h => ?_) (fun cdv A outer s H vs Q E hr h => ?_)
  · obtain ⟨m, n, f, v, rfl, _⟩ := h
    rfl
  · obtain ⟨m, n, f, v, rfl, hm, hv, h⟩ := h
    refine ⟨_, (pss_cons (ps_expr (pe_callR (ok_check_map T) (hr.mono (by decide)) T.A_check_map.kp rfl T.g_check_map (passes_call (takes_of rfl rfl rfl rfl) (fun _ _ _ _ h => h)) (pa_cons (pv 0) pa_nil))) (pss_cons (ps_expr (pe_callR (okO_check_degree T) (hr.mono (by decide)) T.A_check_degree.kp rfl T.g_check_degree (passes_call (takes_of rfl rfl rfl rfl) (fun _ _ _ _ h => h)) (pa_cons (pv 1) pa_nil))) U.pss_dead)), ?_⟩
    exact ⟨_, rfl, _, rfl, .inl ⟨m, n, f, rfl, hm, _, rfl, v, rfl, hv, h⟩⟩
theorem okO_count_roots (T : Txt K mg) : FnR P w K mg base (L2.CX P w) 6 T.f_count_roots (spMO T.C_Map T.C_InvalidNumber) := by
  refine T.A_count_roots.okX sc_count_roots (fun vs H Q E h => ?_) (fun cdv A outer s H vs Q E hr h => ?_)
  · obtain ⟨m, n, f, v, rfl, _⟩ := h
    rfl
  · obtain ⟨m, n, f, v, rfl, hm, hv, h⟩ := h
    refine ⟨_, (pss_cons (ps_expr (pe_callR (ok_check_map T) (hr.mono (by decide)) T.A_check_map.kp rfl T.g_check_map (passes_call (takes_of rfl rfl rfl rfl) (fun _ _ _ _ h => h)) (pa_cons (pv 0) pa_nil))) (pss_cons (ps_expr (pe_callR (okO_check_degree T) (hr.mono (by decide)) T.A_check_degree.kp rfl T.g_check_degree (passes_call (takes_of rfl rfl rfl rfl) (fun _ _ _ _ h => h)) (pa_cons (pv 1) pa_nil))) U.pss_dead)), ?_⟩
    exact ⟨_, rfl, _, rfl, .inl ⟨m, n, f, rfl, hm, _, rfl, v, rfl, hv, h⟩⟩
theorem okO_root (T : Txt K mg) : FnR P w K mg base (L2.CX P w) 8 T.f_root (spMO T.C_Map T.C_InvalidNumber) := by
  refine T.A_root.okX sc_root (fun vs H Q E h => ?_) (fun cdv A outer s H vs Q E hr h => ?_)
  · obtain ⟨m, n, f, v, rfl, _⟩ := h
    rfl
  · obtain ⟨m, n, f, v, rfl, hm, hv, h⟩ := h
    refine ⟨_, (pss_cons (ps_if (pt_cmpR op_notN (pe_callR (okO_obstacle T) (hr.mono (by decide)) T.A_obstacle.kp rfl T.g_obstacle (passes_call (takes_of rfl rfl rfl rfl) (fun _ _ _ _ h => h)) (pa_cons (pv 0) (pa_cons (pv 1) pa_nil))) pe_non (nomark _))
        (pss_one (ps_ret pe_non)) pss_nil) U.pss_dead), ?_⟩
    exact ⟨_, rfl, _, rfl, m, n, f, v, rfl, hm, hv, h⟩
theorem okO_count_extensions (T : Txt K mg) : FnR P w K mg base (L2.CX P w) 6 T.f_count_extensions (spMO T.C_Map T.C_InvalidNumber) := by
  refine T.A_count_extensions.okX sc_count_extensions (fun vs H Q E h => ?_) (fun cdv A outer s H vs Q E hr h => ?_)
  · obtain ⟨m, n, f, v, rfl, _⟩ := h
    rfl
  · obtain ⟨m, n, f, v, rfl, hm, hv, h⟩ := h
    obtain ⟨_, h_MAX_SIZE⟩ := T.v_MAX_SIZE
    refine ⟨_, (pss_cons (ps_expr (pe_callR (ok_check_map T) (hr.mono (by decide)) T.A_check_map.kp rfl T.g_check_map (passes_call (takes_of rfl rfl rfl rfl) (fun _ _ _ _ h => h)) (pa_cons (pv 0) pa_nil))) (pss_cons (ps_if (pt_not (pt_val (pe_callR (ok_in_range T) (hr.mono (by decide)) T.A_in_range.kp rfl T.g_in_range pass0 (pa_cons (pv 1) (pa_cons pe_int (pa_cons (pe_glob (v := .int 300) rfl h_MAX_SIZE ⟨_, rfl⟩) pa_nil))))))
        (pss_one (ps_raise rfl (takes_of rfl rfl rfl rfl) (pmk_oexG T.x_InvalidNumber T.m_InvalidNumber__init T.ti_InvalidNumber__init (ok_ini_InvalidNumber T) (hr.mono (by decide)) pass0 rfl T.g_InvalidNumber (pa_cons (pv 1) pa_nil)))) pss_nil) U.pss_dead)), ?_⟩
    refine ⟨_, rfl, _, rfl, .inl ⟨m, n, f, rfl, hm, ?_⟩⟩
    refine ⟨_, rfl, v, 0, 300, rfl, hv.1, _, rfl, ?_⟩
    rw [hv.inR]
    exact iteT ⟨_, rfl, mk_one fun d hd => h.at hd⟩
end
end My
namespace My
open PySem L2 U StX PM
theorem units65' {k : Nat} {A : Around} (r : Room k A) : A.units + 65 < cLine := by have := r.un; omega
/-- an odd value is no tuple -/
def OddV (H : Hp) (v : V) : Prop := ∃ a, v = .ref a ∧ ((∃ xs, H a = some (.lst xs)) ∨ ∃ kvs, H a = some (.dK kvs))
theorem OddV.odd {C : Addr} {H : Hp} {v : V} (h : OddV H v) : Odd C H v := by
  obtain ⟨a, rfl, h | h⟩ := h
  · exact ⟨.inl h, rfl⟩
  · exact ⟨.inr (.inr (.inl h)), rfl⟩
theorem OddV.same {H H' : Hp} {v : V} (h : OddV H v) (s : Same H H') : OddV H' v := by
  obtain ⟨a, e, ⟨x, h⟩ | ⟨x, h⟩⟩ := h
  · exact ⟨a, e, .inl ⟨x, s _ _ h⟩⟩
  · exact ⟨a, e, .inr ⟨x, s _ _ h⟩⟩
theorem OddV.noTup {K : PySem.W.Frag} {H : Hp} {v : V} (h : OddV H v) : ∃ t, TyX K H v t ∧ PySem.W.kitOne K t (.type "tuple") = some false := by
  obtain ⟨a, rfl, ⟨x, h⟩ | ⟨x, h⟩⟩ := h
  · exact ⟨_, .base (.lst h), kit_ty (r := false) (by decide +kernel)⟩
  · exact ⟨_, .base (.dK h), kit_ty (r := false) (by decide +kernel)⟩
def IsSh (C : Addr) (H : Hp) (s : Addr) : Prop := ∃ dx fs, H s = some (.ins C dx fs) ∧ fs.lookup ("power" : Str) = none
def spSO (CS CM CE : Addr) : Sp := fun vs H Q E => ∃ (s : Addr) (v : V), vs = [.ref s, v] ∧ IsSh CS H s ∧ Odd CM H v ∧ tld CE "value" v H E
def spShC (CS : Addr) : Sp := fun vs H Q _ => ∃ (s : Addr), vs = [.ref s] ∧ IsSh CS H s ∧ Q .non H
def spGO (CG CE : Addr) : Sp := fun vs H Q E => ∃ (g : Addr) (v : V), vs = [.ref g, v] ∧ (∃ dx D1 D2, H g = some (.ins CG dx (gflds D1 D2))) ∧ OddV H v ∧ tld CE "value" v H E
def spGO3 (CG CE : Addr) : Sp := fun vs H Q E => ∃ (g : Addr) (v : V), vs = [.ref g, v, .int 1] ∧ (∃ dx D1 D2, H g = some (.ins CG dx (gflds D1 D2))) ∧ OddV H v ∧ tld CE "value" v H E
def spGN (CG CM CE : Addr) : Sp := fun vs H Q E => ∃ (g a : Addr) (cy ch : List Nat) (b : Bool) (i m n : Nat) (v : V), vs = [.ref g, .ref a, v] ∧ IsGreat CG H g cy ch ∧ PlaceG H cy ch a b i m n ∧ Odd CM H v ∧ tld CE "value" v H E
section
variable {P : Program} {w : World} {K : PySem.W.Frag} {mg : Str → Option Value} {base : Heap}
theorem ok_check_shape (T : Txt K mg) : FnR P w K mg base CX0 3 T.f_check_shape (spShC T.C_Shape) := by
  refine T.A_check_shape.ok sc_check_shape (fun vs H Q E h => ?_) (fun cdv A outer s H vs Q E hr h => ?_)
  · obtain ⟨s, rfl, _⟩ := h
    rfl
  · obtain ⟨s, rfl, ⟨dx, fs, hs, _⟩, q⟩ := h
    refine ⟨_, (pss_one (ps_if (pt_not (pt_val (pe_callB call_isi (by rfl) T.n_isinstance (by decide +kernel) (pa_cons (pv 0) (pa_cons (pe_glob (v := .ref T.C_Shape) rfl T.g_Shape rfl) pa_nil)))))
        (pss_one ps_never) pss_nil)), ?_⟩
    exact ⟨_, rfl, _, _, _, _, true, rfl, .own _, tyx_ins T.o_Shape hs, T.self_Shape, _, rfl, iteF q⟩
theorem okO_has_root (T : Txt K mg) : FnR P w K mg base (L2.CX P w) 6 T.f_has_root (spSO T.C_Shape T.C_Map T.C_InvalidNumber) := by
  refine T.A_has_root.okX sc_has_root (fun vs H Q E h => ?_) (fun cdv A outer s H vs Q E hr h => ?_)
  · obtain ⟨s, v, rfl, _⟩ := h
    rfl
  · obtain ⟨s, v, rfl, hs, hv, h⟩ := h
    refine ⟨_, (pss_cons (ps_expr (pe_callR (ok_check_shape T) (hr.mono (by decide)) T.A_check_shape.kp rfl T.g_check_shape pass0 (pa_cons (pv 0) pa_nil))) (pss_cons (ps_expr (pe_callR (okO_check_degree T) (hr.mono (by decide)) T.A_check_degree.kp rfl T.g_check_degree (passes_call (takes_of rfl rfl rfl rfl) (fun _ _ _ _ h => h)) (pa_cons (pv 1) pa_nil))) U.pss_dead)), ?_⟩
    exact ⟨_, rfl, s, rfl, hs, _, rfl, v, rfl, hv, h⟩
theorem okO_sh_power (T : Txt K mg) : FnR P w K mg base (L2.CX P w) 6 T.f_Shape_power (spSO T.C_Shape T.C_Map T.C_InvalidNumber) := by
  refine T.A_Shape_power.okX sc_Shape_power (fun vs H Q E h => ?_) (fun cdv A outer s H vs Q E hr h => ?_)
  · obtain ⟨s, v, rfl, _⟩ := h
    rfl
  · obtain ⟨s, v, rfl, hs, hv, h⟩ := h
    refine ⟨_, (pss_cons (ps_if (PW.pt (pw_or (pt_not (pt_val (pe_callR (ok_is_integer T) (hr.mono (by decide)) T.A_is_integer.kp rfl T.g_is_integer pass0 (pa_cons (pv 1) pa_nil)))) (pw_or1 (pt_cmpR op_lt (pv 1) pe_int (nomark _)))))
        (pss_one (ps_raise rfl (takes_of rfl rfl rfl rfl) (pmk_oexG T.x_InvalidNumber T.m_InvalidNumber__init T.ti_InvalidNumber__init (ok_ini_InvalidNumber T) (hr.mono (by decide)) pass0 rfl T.g_InvalidNumber (pa_cons (pv 1) pa_nil)))) pss_nil) U.pss_dead), ?_⟩
    refine ⟨_, rfl, v, rfl, hv.1, _, rfl, ?_⟩
    rw [hv.2]
    exact iteT (iteT ⟨_, rfl, mk_one fun d hd => h.at hd⟩)
theorem okO_length_at (T : Txt K mg) : FnR P w K mg base (L2.CX P w) 5 T.f_GreatMap_length_at (spGO T.C_GreatMap T.C_InvalidElement) := by
  refine T.A_GreatMap_length_at.okX sc_GreatMap_length_at (fun vs H Q E h => ?_) (fun cdv A outer s H vs Q E hr h => ?_)
  · obtain ⟨g, v, rfl, _⟩ := h
    rfl
  · obtain ⟨g, v, rfl, hg, hv, h⟩ := h
    have ok_ini_InvalidElement := fun (T : Txt K mg) => okN_ini_InvalidElement (P := P) (w := w) (base := base) T
    refine ⟨_, (pss_cons (ps_if (PW.pt (pw_or (pt_not (pt_val (pe_callB call_isi (by rfl) T.n_isinstance (by decide +kernel) (pa_cons (pv 1) (pa_cons (pe_bltn (v := .ty "tuple") (u := .type "tuple") (by rfl) T.n_tuple (by decide +kernel) rfl) pa_nil))))) (pw_or (pt_cmpR op_ne (pe_callB call_len_seq (by rfl) T.n_len (by decide +kernel) (pa_cons (pv 1) pa_nil)) pe_int (nomark _)) (pw_or1 (pt_cmpR (op_notInT (units65' hr)) (pe_ix ix_tup (pv 1) pe_int (fun _ _ => rfl)) (pe_tup (pa_cons pe_str (pa_cons pe_str pa_nil))) (by rfl))))))
        (pss_one (ps_raise rfl (takes_of rfl rfl rfl rfl) (pmk_oexG T.x_InvalidElement T.m_InvalidElement__init T.ti_InvalidElement__init (ok_ini_InvalidElement T) (hr.mono (by decide)) pass0 rfl T.g_InvalidElement (pa_cons (pv 1) pa_nil)))) pss_nil) U.pss_dead), ?_⟩
    obtain ⟨t, ht, hk⟩ := hv.noTup (K := K)
    exact ⟨_, rfl, _, _, _, _, false, rfl, .ty _, ht, hk, _, rfl, iteT (iteT ⟨_, rfl, mk_one fun d hd => h.at hd⟩)⟩
theorem okO_afterP (T : Txt K mg) : FnR P w K mg base (L2.CX P w) 7 T.f_GreatMap_after (spGO3 T.C_GreatMap T.C_InvalidElement) := by
  refine T.A_GreatMap_after.okX sc_GreatMap_after (fun vs H Q E h => ?_) (fun cdv A outer s H vs Q E hr h => ?_)
  · obtain ⟨g, v, rfl, _⟩ := h
    rfl
  · obtain ⟨g, v, rfl, ⟨dx, D1, D2, hg⟩, hv, h⟩ := h
    refine ⟨_, (pss_cons (ps_set (i := 3) sc_GreatMap_after.nd rfl (Or.inl rfl) (pe_methR (pv 0) T.o_GreatMap.cl T.meth_GreatMap_length_at (okO_length_at T) (hr.mono (by decide)) (passes_call (takes_of rfl rfl rfl rfl) (fun _ _ _ _ h => h)) (pa_cons (pv 1) pa_nil))) U.pss_dead), ?_⟩
    exact ⟨_, rfl, g, _, _, rfl, hg, gflds_no _ _ (by decide +kernel) (by decide +kernel), _, rfl, g, v, rfl, ⟨dx, D1, D2, hg⟩, hv, h⟩
theorem okO_afterN (T : Txt K mg) : FnR P w K mg base (L2.CX P w) 7 T.f_GreatMap_after (spGN T.C_GreatMap T.C_Map T.C_InvalidNumber) := by
  refine T.A_GreatMap_after.okX sc_GreatMap_after (fun vs H Q E h => ?_) (fun cdv A outer s H vs Q E hr h => ?_)
  · obtain ⟨g, a, cy, ch, b, i, m, n, v, rfl, _⟩ := h
    rfl
  · obtain ⟨g, a, cy, ch, b, i, m, n, v, rfl, hg, pl, hv, h⟩ := h
    refine ⟨_, (pss_cons (ps_set (i := 3) sc_GreatMap_after.nd rfl (Or.inl rfl) (pe_methR (pv 0) T.o_GreatMap.cl T.meth_GreatMap_length_at (fnR_any (ok_length_at T)) (hr.mono (by decide)) pass0 (pa_cons (pv 1) pa_nil))) (pss_cons (ps_if (pt_not (pt_val (pe_callR (ok_is_integer T) (hr.mono (by decide)) T.A_is_integer.kp rfl T.g_is_integer pass0 (pa_cons (pv 2) pa_nil))))
        (pss_one (ps_raise rfl (takes_of rfl rfl rfl rfl) (pmk_oexG T.x_InvalidNumber T.m_InvalidNumber__init T.ti_InvalidNumber__init (ok_ini_InvalidNumber T) (hr.mono (by decide)) pass0 rfl T.g_InvalidNumber (pa_cons (pv 2) pa_nil)))) pss_nil) U.pss_dead)), ?_⟩
    obtain ⟨dx, D1, D2, g1, _, _⟩ := hg.ob
    refine ⟨_, rfl, g, _, _, rfl, g1, gflds_no _ _ (by decide +kernel) (by decide +kernel), _, rfl, g, a, cy, ch, b, i, m, n, rfl, hg, pl, fun H1 s1 => ?_⟩
    refine ⟨_, rfl, v, rfl, (hv.mv s1).1, _, rfl, ?_⟩
    rw [hv.2]
    exact iteT ⟨_, rfl, mk_one fun d hd => (h.mv s1).at hd⟩
def spGR (CM CE : Addr) : SpG := fun vs H _ E => ∃ (m : Addr) (n : Int) (f : PF) (v : V), vs = [.ref m, v] ∧ IsMap CM H m n f ∧ Odd CM H v ∧ tld CE "value" v H E
theorem okG_roots (T : Txt K mg) : ∃ fd, GFn P w K mg base 8 T.f_roots fd ["given", "degree"] (spGR T.C_Map T.C_InvalidNumber) ∧ Binds K fd ["given", "degree"] [] ∧ PySem.W.keepIn K (.ref T.f_roots) = true := by
  obtain ⟨fd, F, B⟩ := T.A_roots.ex
  obtain ⟨oc, od, kV, doc, pm, an, cdv, ct, osl, rfl, lk, hcd⟩ := F.ex
  refine ⟨_, gfn_of (N := n_roots) lk hcd sc_roots (fun vs H Q E h => ?_) (fun A outer s H vs Q E pn hr h => ?_), B, F.kp⟩
  · obtain ⟨m, n, f, v, rfl, _⟩ := h
    rfl
  · obtain ⟨m, n, f, v, rfl, hm, hv, h⟩ := h
    refine ⟨_, gss_cons (gs_ps (ps_set (i := 2) sc_roots.nd rfl (Or.inl rfl) (pe_callR (okO_count_roots T) (hr.mono (by decide)) T.A_count_roots.kp rfl T.g_count_roots (passes_call takes_gcx (fun _ _ _ _ h => h)) (pa_cons (pv 0) (pa_cons (pv 1) pa_nil))))) U.gss_dead, ?_⟩
    exact ⟨_, rfl, _, rfl, m, n, f, v, rfl, hm, hv, h⟩
end
end My
namespace My
open PySem L2 U StX PM
theorem nzI {i j : Int} (h : i ≠ j) : ¬ V.int i = V.int j := fun z => h (V.int.inj z)
def E1 (CE : Addr) (E : XK) : XK := fun cls d H => cls = .ref CE ∧ E cls d H
theorem tld.e1 {CE : Addr} {fld : Str} {x : V} {H : Hp} {E : XK} (h : tld CE fld x H E) : tld CE fld x H (E1 CE E) := fun d H' s nd => ⟨rfl, h d H' s nd⟩
theorem Same.put2 {H : Hp} {p : Addr} {o o' : HO} (h : H p = none) : Same H (upd (upd H p o) p o') := Same.put (Same.new h) h
theorem disp1_of {tk tv : TE} {σ : L2.St} {H : Hp} {Q : VK} (k : Key) (v : V) (h1 : ∀ H (R : VK), R (kV k) H → tk σ H R) (h2 : ∀ H (R : VK), R v H → tv σ H R) (q : ∀ p H', H p = none → H' p = some (.dK [(k, v)]) → Same H H' → Q (.ref p) H') : tDisp [(tk, tv)] σ H Q := by
  intro p hp
  refine h1 _ _ (h2 _ _ ⟨upd_same, [(k, v)], rfl, by show 1 ≤ 15; decide, ?_⟩)
  exact q p _ hp (by rw [upd_same]; rfl) (Same.put2 hp)
theorem initS_of {C : Addr} {H : Hp} {d1 d2 : Addr} {l1 l2 : List (Int × Int)} {R : VK} {E : XK} {x dx : Addr} (hd1 : H d1 = some (.dK (kvI l1))) (hd2 : H d2 = some (.dK (kvI l2))) (n1 : (l1.map (·.1)).Nodup) (n2 : (l2.map (·.1)).Nodup) (p1 : Pos l1) (p2 : Pos l2) (b1 : l1.length ≤ 1000) (b2 : l2.length ≤ 1000)
    (nx : H x = none) (ndx : H dx = none) (ne : dx ≠ x) (q : ∀ cs hs H', Same H H' → cs.Perm l1 → hs.Perm l2 → IsShape C H' x cs hs → R .non H') : spInitSh C [.ref x, .ref d1, .ref d2] (upd (upd H dx (.own x)) x (.ins C dx [])) R E := by
  have s0 : Same H (upd (upd H dx (.own x)) x (.ins C dx [])) := (Same.new ndx).trans (Same.new (by rw [upd_ne ne.symm]; exact nx))
  refine ⟨x, dx, d1, d2, l1, l2, rfl, upd_same, s0 _ _ hd1, s0 _ _ hd2, n1, n2, p1, p2, b1, b2, fun cs hs H' o pm1 pm2 sh => q cs hs H' (fun b u e => ?_) pm1 pm2 sh⟩
  exact o _ _ (ne_of_none e nx) (s0 _ _ e)
theorem posL1 : Pos [(1, 1)] := by
  unfold Pos
  intro p hp
  rw [List.mem_singleton.mp hp]
  decide
theorem lenL3 : LenL [3] := ⟨by decide, fun n hn => by rw [List.mem_singleton.mp hn]; exact ⟨by decide, by decide⟩⟩
theorem star_O {C CS CE : Addr} {H : Hp} {v : V} {xs : List V} {op : List Int → PF} {Q : VK} {E : XK} (hk : knownV C H v) (hx : ∀ x ∈ xs, knownV C H x) (hl : xs.length ≤ 4) (h : (inR v 1 300 = false ∧ tld CS "value" v H E) ∨ ∃ n, v = .int n ∧ 1 ≤ n ∧ n ≤ 300 ∧ ((∃ x, firstBad n [] xs = some x ∧ tld CE "value" x H E) ∨ False)) : spStar 2 (spCyc C CS CE op) ([.ref C, v] ++ xs) H Q E := by
  refine ⟨[.ref C, v], xs, rfl, rfl, le_line (by omega), fun p np => ?_⟩
  have s := Same.new (o := .tup xs) np
  refine ⟨v, p, xs, rfl, upd_same, by omega, hk.mv s, fun x m => (hx x m).mv s, ?_⟩
  rcases h with ⟨a, b⟩ | ⟨n, a, b, c, ⟨x, e, q⟩ | h⟩
  · exact .inl ⟨a, b.mv s⟩
  · exact .inr ⟨n, a, b, c, .inl ⟨x, e, q.mv s⟩⟩
  · exact h.elim
theorem kn2 {C : Addr} {H : Hp} {v x : V} (h : knownV C H v) (hx : x ∈ [V.int 0, v]) : knownV C H x := by
  rcases List.mem_cons.mp hx with rfl | hx
  · trivial
  · rw [List.mem_singleton.mp hx]; exact h
theorem fb2 {C : Addr} {H : Hp} {v : V} (h : Odd C H v) : firstBad 4 [] [.int 0, v] = some v := by
  rw [firstBad_next (by decide) (by decide)]
  exact firstBad_out h.inR
theorem mp_no {C : Addr} {H : Hp} {m dx : Addr} {n : Int} {f : PF} {fs : List (Str × V)} (hm : IsMap C H m n f) (e : H m = some (.ins C dx fs)) : fs.lookup ("power" : Str) = none := by
  obtain ⟨dy, D, h1, _⟩ := hm.ob
  rw [e] at h1
  cases h1
  rfl
def spRts (CM CE : Addr) : Sp := fun vs H Q E => ∃ (k m : Addr) (i n : Int) (f : PF) (v : V), vs = [.int i, .ref m, v] ∧ 10 ≤ i ∧ i ≤ 17 ∧ IsMap CM H m n f ∧ OddV H v ∧ tld CE "value" v H E
theorem tg_odd {f : PF} {H : Hp} {v : V} (h : OddV H v) : tgtV f v = none := by
  obtain ⟨a, rfl, _⟩ := h
  rfl
section
variable {P : Program} {w : World} {K : PySem.W.Frag} {mg : Str → Option Value} {base : Heap}
theorem okO_l_roots (T : Txt K mg) : FnR P w K mg base (L2.CX P w) 14 T.f_l_roots (spRts T.C_Map T.C_InvalidNumber) := by
  refine T.A_l_roots.okX sc_l_roots (fun vs H Q E h => ?_) (fun cdv A outer s H vs Q E hr h => ?_)
  · obtain ⟨k, m, i, n, f, v, rfl, _⟩ := h
    rfl
  · obtain ⟨k, m, i, n, f, v, rfl, i0, i1, hm, hv, h⟩ := h
    have ho : Odd T.C_Map H v := hv.odd
    obtain ⟨fd, GF, GB, GK⟩ := okG_roots (P := P) (w := w) (base := base) T
    refine ⟨_, (pss_one (ps_if (pt_cmpR op_eq (pv 0) pe_int (nomark _))
        (pss_one (ps_expr (pe_callR (okO_root T) (hr.mono (by decide)) T.A_root.kp rfl T.g_root (passes_call (takes_of rfl rfl rfl rfl) (fun _ _ _ _ h => h)) (pa_cons (pv 1) (pa_cons (pv 2) pa_nil))))) (pss_one (ps_if (pt_cmpR op_eq (pv 0) pe_int (nomark _))
        (pss_one (ps_expr (pe_callR (okO_is_root T) (hr.mono (by decide)) T.A_is_root.kp rfl T.g_is_root (passes_call (takes_of rfl rfl rfl rfl) (fun _ _ _ _ h => h)) (pa_cons (pv 1) (pa_cons (pv 2) (pa_cons pe_non pa_nil)))))) (pss_one (ps_if (pt_cmpR op_eq (pv 0) pe_int (nomark _))
        (pss_one (ps_expr (pe_callR (okO_obstacle T) (hr.mono (by decide)) T.A_obstacle.kp rfl T.g_obstacle (passes_call (takes_of rfl rfl rfl rfl) (fun _ _ _ _ h => h)) (pa_cons (pv 1) (pa_cons (pv 2) pa_nil))))) (pss_one (ps_if (pt_cmpR op_eq (pv 0) pe_int (nomark _))
        (pss_one (ps_expr (pe_callR (okO_is_obstacle T) (hr.mono (by decide)) T.A_is_obstacle.kp rfl T.g_is_obstacle (passes_call (takes_of rfl rfl rfl rfl) (fun _ _ _ _ h => h)) (pa_cons (pv 1) (pa_cons (pv 2) (pa_cons pe_non pa_nil)))))) (pss_one (ps_if (pt_cmpR op_eq (pv 0) pe_int (nomark _))
        (pss_one (ps_expr (pe_callR (okO_count_roots T) (hr.mono (by decide)) T.A_count_roots.kp rfl T.g_count_roots (passes_call (takes_of rfl rfl rfl rfl) (fun _ _ _ _ h => h)) (pa_cons (pv 1) (pa_cons (pv 2) pa_nil))))) (pss_one (ps_if (pt_cmpR op_eq (pv 0) pe_int (nomark _))
        (pss_one (ps_expr (pe_listG (E := E1 T.C_InvalidNumber E) (pgen_call GF (hr.mono (by decide)) rfl T.g_roots GK GB .nil (pa_cons (pv 1) (pa_cons (pv 2) pa_nil))) (passes_call (takes_of rfl rfl rfl rfl) (fun _ _ _ _ h => h.2)) (fun cls d H' z => by rw [z.1]; exact T.stop_IN) (hr.mono (by decide)) rfl T.n_list (by decide +kernel)))) (pss_one (ps_if (pt_cmpR op_eq (pv 0) pe_int (nomark _))
        (pss_one (ps_expr (pe_callR (okO_has_root T) (hr.mono (by decide)) T.A_has_root.kp rfl T.g_has_root (passes_call (takes_of rfl rfl rfl rfl) (fun _ _ _ _ h => h)) (pa_cons (pe_makeR T.M_Shape (ok_sh_init T) (hr.mono (by decide)) rfl T.g_Shape pass0 (pa_cons (pe_disp (pps_cons pe_int pe_int pps_nil) (by rfl) (by rfl) (fun z => by cases z) (by decide)) (pa_cons pe_dnewK pa_nil))) (pa_cons (pv 2) pa_nil))))) (pss_one (ps_expr (pe_methR (pe_makeR T.M_Shape (ok_sh_init T) (hr.mono (by decide)) rfl T.g_Shape pass0 (pa_cons (pe_disp (pps_cons pe_int pe_int pps_nil) (by rfl) (by rfl) (fun z => by cases z) (by decide)) (pa_cons pe_dnewK pa_nil))) T.o_Shape.cl T.meth_Shape_power (okO_sh_power T) (hr.mono (by decide)) (passes_call (takes_of rfl rfl rfl rfl) (fun _ _ _ _ h => h)) (pa_cons (pv 2) pa_nil)))))))))))))))))), ?_⟩
    rcases (show i = 10 ∨ i = 11 ∨ i = 12 ∨ i = 13 ∨ i = 14 ∨ i = 15 ∨ i = 16 ∨ i = 17 by omega) with rfl | rfl | rfl | rfl | rfl | rfl | rfl | rfl
    · refine ⟨_, rfl, rfl, _, rfl, ifD (fun _ => ?_) (fun z => absurd rfl z)⟩
      exact ⟨_, rfl, _, rfl, m, n, f, v, rfl, hm, ho, h⟩
    · refine ⟨_, rfl, rfl, _, rfl, ifD (fun z => absurd z (nzI (by decide))) (fun _ => ?_)⟩
      refine ⟨_, rfl, rfl, _, rfl, ifD (fun _ => ?_) (fun z => absurd rfl z)⟩
      exact ⟨_, rfl, _, rfl, m, n, f, v, rfl, hm, ho, h⟩
    · refine ⟨_, rfl, rfl, _, rfl, ifD (fun z => absurd z (nzI (by decide))) (fun _ => ?_)⟩
      refine ⟨_, rfl, rfl, _, rfl, ifD (fun z => absurd z (nzI (by decide))) (fun _ => ?_)⟩
      refine ⟨_, rfl, rfl, _, rfl, ifD (fun _ => ?_) (fun z => absurd rfl z)⟩
      exact ⟨_, rfl, _, rfl, m, n, f, v, rfl, hm, ho, h⟩
    · refine ⟨_, rfl, rfl, _, rfl, ifD (fun z => absurd z (nzI (by decide))) (fun _ => ?_)⟩
      refine ⟨_, rfl, rfl, _, rfl, ifD (fun z => absurd z (nzI (by decide))) (fun _ => ?_)⟩
      refine ⟨_, rfl, rfl, _, rfl, ifD (fun z => absurd z (nzI (by decide))) (fun _ => ?_)⟩
      refine ⟨_, rfl, rfl, _, rfl, ifD (fun _ => ?_) (fun z => absurd rfl z)⟩
      exact ⟨_, rfl, _, rfl, m, n, f, v, rfl, hm, ho, h⟩
    · refine ⟨_, rfl, rfl, _, rfl, ifD (fun z => absurd z (nzI (by decide))) (fun _ => ?_)⟩
      refine ⟨_, rfl, rfl, _, rfl, ifD (fun z => absurd z (nzI (by decide))) (fun _ => ?_)⟩
      refine ⟨_, rfl, rfl, _, rfl, ifD (fun z => absurd z (nzI (by decide))) (fun _ => ?_)⟩
      refine ⟨_, rfl, rfl, _, rfl, ifD (fun z => absurd z (nzI (by decide))) (fun _ => ?_)⟩
      refine ⟨_, rfl, rfl, _, rfl, ifD (fun _ => ?_) (fun z => absurd rfl z)⟩
      exact ⟨_, rfl, _, rfl, m, n, f, v, rfl, hm, ho, h⟩
    · refine ⟨_, rfl, rfl, _, rfl, ifD (fun z => absurd z (nzI (by decide))) (fun _ => ?_)⟩
      refine ⟨_, rfl, rfl, _, rfl, ifD (fun z => absurd z (nzI (by decide))) (fun _ => ?_)⟩
      refine ⟨_, rfl, rfl, _, rfl, ifD (fun z => absurd z (nzI (by decide))) (fun _ => ?_)⟩
      refine ⟨_, rfl, rfl, _, rfl, ifD (fun z => absurd z (nzI (by decide))) (fun _ => ?_)⟩
      refine ⟨_, rfl, rfl, _, rfl, ifD (fun z => absurd z (nzI (by decide))) (fun _ => ?_)⟩
      refine ⟨_, rfl, rfl, _, rfl, ifD (fun _ => ?_) (fun z => absurd rfl z)⟩
      exact ⟨_, rfl, _, rfl, m, n, f, v, rfl, hm, ho, h.e1⟩
    · refine ⟨_, rfl, rfl, _, rfl, ifD (fun z => absurd z (nzI (by decide))) (fun _ => ?_)⟩
      refine ⟨_, rfl, rfl, _, rfl, ifD (fun z => absurd z (nzI (by decide))) (fun _ => ?_)⟩
      refine ⟨_, rfl, rfl, _, rfl, ifD (fun z => absurd z (nzI (by decide))) (fun _ => ?_)⟩
      refine ⟨_, rfl, rfl, _, rfl, ifD (fun z => absurd z (nzI (by decide))) (fun _ => ?_)⟩
      refine ⟨_, rfl, rfl, _, rfl, ifD (fun z => absurd z (nzI (by decide))) (fun _ => ?_)⟩
      refine ⟨_, rfl, rfl, _, rfl, ifD (fun z => absurd z (nzI (by decide))) (fun _ => ?_)⟩
      refine ⟨_, rfl, rfl, _, rfl, ifD (fun _ => ?_) (fun z => absurd rfl z)⟩
      dsimp only [tDrop, tCallR, tMethR, tCons, tNil, tMakeR]
      refine disp1_of (Sum.inl 1) (.int 1) (fun H R r => r) (fun H R r => r) fun d1 H1 nd1 ed1 s1 => ?_
      refine fun d2 nd2 => ?_
      have s2 : Same H1 (upd H1 d2 (.dK [])) := Same.new nd2
      have ed2 : (upd H1 d2 (.dK [])) d2 = some (.dK []) := upd_same
      generalize upd H1 d2 (.dK []) = H2 at s2 ed2
      refine fun x dx nx ndx ne => initS_of (l1 := [(1, 1)]) (l2 := []) (s2 _ _ ed1) ed2 (by decide) (by decide) posL1 (fun z hz => absurd hz List.not_mem_nil) (by decide) (by decide) nx ndx ne fun cs hs H3 s3 _ _ hsh => ⟨rfl, ?_⟩
      have s03 := (s1.trans s2).trans s3
      obtain ⟨dy, D1, D2, e1, _⟩ := hsh.ob
      exact ⟨_, rfl, x, v, rfl, ⟨dy, _, e1, rfl⟩, (hv.same s03).odd, h.mv s03⟩
    · refine ⟨_, rfl, rfl, _, rfl, ifD (fun z => absurd z (nzI (by decide))) (fun _ => ?_)⟩
      refine ⟨_, rfl, rfl, _, rfl, ifD (fun z => absurd z (nzI (by decide))) (fun _ => ?_)⟩
      refine ⟨_, rfl, rfl, _, rfl, ifD (fun z => absurd z (nzI (by decide))) (fun _ => ?_)⟩
      refine ⟨_, rfl, rfl, _, rfl, ifD (fun z => absurd z (nzI (by decide))) (fun _ => ?_)⟩
      refine ⟨_, rfl, rfl, _, rfl, ifD (fun z => absurd z (nzI (by decide))) (fun _ => ?_)⟩
      refine ⟨_, rfl, rfl, _, rfl, ifD (fun z => absurd z (nzI (by decide))) (fun _ => ?_)⟩
      refine ⟨_, rfl, rfl, _, rfl, ifD (fun z => absurd z (nzI (by decide))) (fun _ => ?_)⟩
      dsimp only [tDrop, tCallR, tMethR, tCons, tNil, tMakeR]
      refine disp1_of (Sum.inl 1) (.int 1) (fun H R r => r) (fun H R r => r) fun d1 H1 nd1 ed1 s1 => ?_
      refine fun d2 nd2 => ?_
      have s2 : Same H1 (upd H1 d2 (.dK [])) := Same.new nd2
      have ed2 : (upd H1 d2 (.dK [])) d2 = some (.dK []) := upd_same
      generalize upd H1 d2 (.dK []) = H2 at s2 ed2
      refine fun x dx nx ndx ne => initS_of (l1 := [(1, 1)]) (l2 := []) (s2 _ _ ed1) ed2 (by decide) (by decide) posL1 (fun z hz => absurd hz List.not_mem_nil) (by decide) (by decide) nx ndx ne fun cs hs H3 s3 _ _ hsh => ⟨rfl, ?_⟩
      have s03 := (s1.trans s2).trans s3
      obtain ⟨dy, D1, D2, e1, _⟩ := hsh.ob
      exact ⟨x, dy, _, rfl, e1, rfl, _, rfl, x, v, rfl, ⟨dy, _, e1, rfl⟩, (hv.same s03).odd, h.mv s03⟩
def spCld (CM C1 C2 C3 C4 : Addr) : Sp := fun vs H Q E => ∃ (m : Addr) (i : Int) (f : PF) (v : V), vs = [.int i, .ref m, v] ∧ 0 ≤ i ∧ i ≤ 17 ∧ IsMap CM H m 4 f ∧ OddV H v ∧ tld C1 "value" v H E ∧ tld C2 "value" v H E ∧ tld C3 "value" v H E ∧ tld C4 "value" v H E
theorem okO_l_called (T : Txt K mg) : FnR P w K mg base (L2.CX P w) 16 T.f_l_called (spCld T.C_Map T.C_InvalidElement T.C_InvalidNumber T.C_InvalidSize T.C_Undefined) := by
  refine T.A_l_called.okX sc_l_called (fun vs H Q E h => ?_) (fun cdv A outer s H vs Q E hr h => ?_)
  · obtain ⟨m, i, f, v, rfl, _⟩ := h
    rfl
  · obtain ⟨m, i, f, v, rfl, i0, i1, hm, hv, h1, h2, h3, h4⟩ := h
    refine ⟨_, (pss_one (ps_if (pt_cmpR op_eq (pv 0) pe_int (nomark _))
        (pss_one (ps_expr (ClX.pe_cmeth (pe_glob (v := .ref T.C_Map) rfl T.g_Map rfl) T.R_Map T.cm_Map_identity (okE_identity T) (hr.mono (by decide)) (passes_call (takes_of rfl rfl rfl rfl) (fun _ _ _ _ h => h)) (pa_cons (pv 2) pa_nil)))) (pss_one (ps_if (pt_cmpR op_eq (pv 0) pe_int (nomark _))
        (pss_one (ps_expr (ClX.pe_cmeth (pe_glob (v := .ref T.C_Map) rfl T.g_Map rfl) T.R_Map T.cm_Map_cycle (okX_cycle T) (hr.mono (by decide)) (passes_call (takes_of rfl rfl rfl rfl) (fun _ _ _ _ h => h)) (pa_cons pe_int (pa_cons pe_int (pa_cons (pv 2) pa_nil)))))) (pss_one (ps_if (pt_cmpR op_eq (pv 0) pe_int (nomark _))
        (pss_one (ps_expr (ClX.pe_cmeth (pe_glob (v := .ref T.C_Map) rfl T.g_Map rfl) T.R_Map T.cm_Map_chain (okX_chain T) (hr.mono (by decide)) (passes_call (takes_of rfl rfl rfl rfl) (fun _ _ _ _ h => h)) (pa_cons (pv 2) (pa_cons pe_int pa_nil))))) (pss_one (ps_if (pt_cmpR op_eq (pv 0) pe_int (nomark _))
        (pss_one (ps_expr (ClX.pe_cmeth (pe_glob (v := .ref T.C_Map) rfl T.g_Map rfl) T.R_Map T.cm_Map_swap (okX_swap T) (hr.mono (by decide)) (passes_call (takes_of rfl rfl rfl rfl) (fun _ _ _ _ h => h)) (pa_cons pe_int (pa_cons pe_int (pa_cons (pv 2) pa_nil)))))) (pss_one (ps_if (pt_cmpR op_eq (pv 0) pe_int (nomark _))
        (pss_one (ps_expr (pe_methR (pv 1) T.o_Map.cl T.meth_Map_power (okX_power T) (hr.mono (by decide)) (passes_call (takes_of rfl rfl rfl rfl) (fun _ _ _ _ h => h)) (pa_cons (pv 2) pa_nil)))) (pss_one (ps_if (pt_cmpR op_eq (pv 0) pe_int (nomark _))
        (pss_one (ps_expr (ClX.pe_cmeth (pe_glob (v := .ref T.C_Map) rfl T.g_Map rfl) T.R_Map T.cm_Map_empty (okE_empty T) (hr.mono (by decide)) (passes_call (takes_of rfl rfl rfl rfl) (fun _ _ _ _ h => h)) (pa_cons (pe_ixO T.m_Map__getitem T.fi_Map__getitem T.i_Map__getitem (okX_getitem T) (hr.mono (by decide)) (fun σ => passAt (takes_of rfl rfl rfl rfl) σ) (pv 1) (pv 2)) pa_nil)))) (pss_one (ps_if (pt_cmpR op_eq (pv 0) pe_int (nomark _))
        (pss_one (ps_expr (pe_callR (okX_fate T) (hr.mono (by decide)) T.A_fate.kp rfl T.g_fate (passes_call (takes_of rfl rfl rfl rfl) (fun _ _ _ _ h => h)) (pa_cons (pv 1) (pa_cons (pv 2) pa_nil))))) (pss_one (ps_if (pt_cmpR op_eq (pv 0) pe_int (nomark _))
        (pss_one (ps_expr (pe_methR (pe_makeR T.M_GreatMap (ok_ginit T) (hr.mono (by decide)) rfl T.g_GreatMap pass0 (pa_cons (pe_lst (pa_cons pe_int pa_nil)) (pa_cons (pe_lst pa_nil) pa_nil))) T.o_GreatMap.cl T.meth_GreatMap_after (fnR_or2 (okO_afterP T) (okO_afterN T)) (hr.mono (by decide)) (passes_call (takes_of rfl rfl rfl rfl) (fun _ _ _ _ h => h)) (pa_cons (pv 2) (pa_cons pe_int pa_nil))))) (pss_one (ps_if (pt_cmpR op_eq (pv 0) pe_int (nomark _))
        (pss_one (ps_expr (pe_methR (pe_makeR T.M_GreatMap (ok_ginit T) (hr.mono (by decide)) rfl T.g_GreatMap pass0 (pa_cons (pe_lst (pa_cons pe_int pa_nil)) (pa_cons (pe_lst pa_nil) pa_nil))) T.o_GreatMap.cl T.meth_GreatMap_after (fnR_or2 (okO_afterP T) (okO_afterN T)) (hr.mono (by decide)) (passes_call (takes_of rfl rfl rfl rfl) (fun _ _ _ _ h => h)) (pa_cons (pe_tup (pa_cons pe_str (pa_cons pe_int (pa_cons pe_int pa_nil)))) (pa_cons (pv 2) pa_nil))))) (pss_one (ps_if (pt_cmpR op_eq (pv 0) pe_int (nomark _))
        (pss_one (ps_expr (pe_callR (okO_count_extensions T) (hr.mono (by decide)) T.A_count_extensions.kp rfl T.g_count_extensions (passes_call (takes_of rfl rfl rfl rfl) (fun _ _ _ _ h => h)) (pa_cons (pv 1) (pa_cons (pv 2) pa_nil))))) (pss_one (ps_expr (pe_callR (okO_l_roots T) (hr.mono (by decide)) T.A_l_roots.kp rfl T.g_l_roots (passes_call (takes_of rfl rfl rfl rfl) (fun _ _ _ _ h => h)) (pa_cons (pv 0) (pa_cons (pv 1) (pa_cons (pv 2) pa_nil)))))))))))))))))))))))))), ?_⟩
    have ho : Odd T.C_Map H v := hv.odd
    by_cases h10 : 10 ≤ i
    · iterate 10 refine ⟨_, rfl, rfl, _, rfl, ifD (fun z => absurd z (nzI (by omega))) (fun _ => ?_)⟩
      exact ⟨_, rfl, _, rfl, _, rfl, 0, m, i, 4, f, v, rfl, h10, i1, hm, hv, h2⟩
    rcases (show i = 0 ∨ i = 1 ∨ i = 2 ∨ i = 3 ∨ i = 4 ∨ i = 5 ∨ i = 6 ∨ i = 7 ∨ i = 8 ∨ i = 9 by omega) with rfl | rfl | rfl | rfl | rfl | rfl | rfl | rfl | rfl | rfl
    · refine ⟨_, rfl, rfl, _, rfl, ifD (fun _ => ?_) (fun z => absurd rfl z)⟩
      exact ⟨rfl, _, rfl, v, rfl, ho.1, ho.inR, h3⟩
    · refine ⟨_, rfl, rfl, _, rfl, ifD (fun z => absurd z (nzI (by decide))) (fun _ => ?_)⟩
      refine ⟨_, rfl, rfl, _, rfl, ifD (fun _ => ?_) (fun z => absurd rfl z)⟩
      exact ⟨rfl, _, rfl, star_O (xs := [.int 0, v]) trivial (fun x hx => kn2 ho.1 hx) (by show 2 ≤ 4; decide) (.inr ⟨4, rfl, by decide, by decide, .inl ⟨v, fb2 ho, h1⟩⟩)⟩
    · refine ⟨_, rfl, rfl, _, rfl, ifD (fun z => absurd z (nzI (by decide))) (fun _ => ?_)⟩
      refine ⟨_, rfl, rfl, _, rfl, ifD (fun z => absurd z (nzI (by decide))) (fun _ => ?_)⟩
      refine ⟨_, rfl, rfl, _, rfl, ifD (fun _ => ?_) (fun z => absurd rfl z)⟩
      exact ⟨rfl, _, rfl, star_O (xs := [.int 0]) ho.1 (fun x hx => by rw [List.mem_singleton.mp hx]; trivial) (by decide) (.inl ⟨ho.inR, h3⟩)⟩
    · refine ⟨_, rfl, rfl, _, rfl, ifD (fun z => absurd z (nzI (by decide))) (fun _ => ?_)⟩
      refine ⟨_, rfl, rfl, _, rfl, ifD (fun z => absurd z (nzI (by decide))) (fun _ => ?_)⟩
      refine ⟨_, rfl, rfl, _, rfl, ifD (fun z => absurd z (nzI (by decide))) (fun _ => ?_)⟩
      refine ⟨_, rfl, rfl, _, rfl, ifD (fun _ => ?_) (fun z => absurd rfl z)⟩
      exact ⟨rfl, _, rfl, .int 4, .int 0, v, rfl, trivial, trivial, ho.1, .inr ⟨4, rfl, by decide, by decide, .inr ⟨by decide, .inl ⟨ho.inR, h1⟩⟩⟩⟩
    · refine ⟨_, rfl, rfl, _, rfl, ifD (fun z => absurd z (nzI (by decide))) (fun _ => ?_)⟩
      refine ⟨_, rfl, rfl, _, rfl, ifD (fun z => absurd z (nzI (by decide))) (fun _ => ?_)⟩
      refine ⟨_, rfl, rfl, _, rfl, ifD (fun z => absurd z (nzI (by decide))) (fun _ => ?_)⟩
      refine ⟨_, rfl, rfl, _, rfl, ifD (fun z => absurd z (nzI (by decide))) (fun _ => ?_)⟩
      refine ⟨_, rfl, rfl, _, rfl, ifD (fun _ => ?_) (fun z => absurd rfl z)⟩
      obtain ⟨dy, fs, e1⟩ := at_map hm
      exact ⟨_, rfl, m, dy, fs, rfl, e1, mp_no hm e1, _, rfl, m, 4, f, v, rfl, hm, .inr ⟨ho.1, ho.2, fun d nd => h2.at nd⟩⟩
    · refine ⟨_, rfl, rfl, _, rfl, ifD (fun z => absurd z (nzI (by decide))) (fun _ => ?_)⟩
      refine ⟨_, rfl, rfl, _, rfl, ifD (fun z => absurd z (nzI (by decide))) (fun _ => ?_)⟩
      refine ⟨_, rfl, rfl, _, rfl, ifD (fun z => absurd z (nzI (by decide))) (fun _ => ?_)⟩
      refine ⟨_, rfl, rfl, _, rfl, ifD (fun z => absurd z (nzI (by decide))) (fun _ => ?_)⟩
      refine ⟨_, rfl, rfl, _, rfl, ifD (fun z => absurd z (nzI (by decide))) (fun _ => ?_)⟩
      refine ⟨_, rfl, rfl, _, rfl, ifD (fun _ => ?_) (fun z => absurd rfl z)⟩
      obtain ⟨dy, fs, e1⟩ := at_map hm
      exact ⟨rfl, _, rfl, _, rfl, m, dy, fs, rfl, e1, m, 4, f, v, rfl, hm, ho.1, (fun y hy => by rw [tg_odd hv] at hy; cases hy), fun _ d nd => h4.at nd⟩
    · refine ⟨_, rfl, rfl, _, rfl, ifD (fun z => absurd z (nzI (by decide))) (fun _ => ?_)⟩
      refine ⟨_, rfl, rfl, _, rfl, ifD (fun z => absurd z (nzI (by decide))) (fun _ => ?_)⟩
      refine ⟨_, rfl, rfl, _, rfl, ifD (fun z => absurd z (nzI (by decide))) (fun _ => ?_)⟩
      refine ⟨_, rfl, rfl, _, rfl, ifD (fun z => absurd z (nzI (by decide))) (fun _ => ?_)⟩
      refine ⟨_, rfl, rfl, _, rfl, ifD (fun z => absurd z (nzI (by decide))) (fun _ => ?_)⟩
      refine ⟨_, rfl, rfl, _, rfl, ifD (fun z => absurd z (nzI (by decide))) (fun _ => ?_)⟩
      refine ⟨_, rfl, rfl, _, rfl, ifD (fun _ => ?_) (fun z => absurd rfl z)⟩
      exact ⟨_, rfl, _, rfl, _, v, rfl, .inr ⟨m, 4, f, rfl, hm, ho.1, .inl ⟨ho.inR, fun H' s' d nd => h1 d H' s' nd⟩⟩⟩
    · refine ⟨_, rfl, rfl, _, rfl, ifD (fun z => absurd z (nzI (by decide))) (fun _ => ?_)⟩
      refine ⟨_, rfl, rfl, _, rfl, ifD (fun z => absurd z (nzI (by decide))) (fun _ => ?_)⟩
      refine ⟨_, rfl, rfl, _, rfl, ifD (fun z => absurd z (nzI (by decide))) (fun _ => ?_)⟩
      refine ⟨_, rfl, rfl, _, rfl, ifD (fun z => absurd z (nzI (by decide))) (fun _ => ?_)⟩
      refine ⟨_, rfl, rfl, _, rfl, ifD (fun z => absurd z (nzI (by decide))) (fun _ => ?_)⟩
      refine ⟨_, rfl, rfl, _, rfl, ifD (fun z => absurd z (nzI (by decide))) (fun _ => ?_)⟩
      refine ⟨_, rfl, rfl, _, rfl, ifD (fun z => absurd z (nzI (by decide))) (fun _ => ?_)⟩
      refine ⟨_, rfl, rfl, _, rfl, ifD (fun _ => ?_) (fun z => absurd rfl z)⟩
      refine ⟨one_le, fun a na => ?_⟩
      have s1 : Same H (upd H a (.lst [.int 3])) := Same.new na
      have ea : (upd H a (.lst [.int 3])) a = some (.lst (vN [3])) := upd_same
      generalize upd H a (.lst [.int 3]) = H1 at s1 ea
      refine ⟨nil_le, fun b nb => ?_⟩
      have s2 : Same H1 (upd H1 b (.lst [])) := Same.new nb
      have eb : (upd H1 b (.lst [])) b = some (.lst (vN [])) := upd_same
      generalize upd H1 b (.lst []) = H2 at s2 eb
      refine fun g dx ng ndx ne => initG_of (cy := [3]) (ch := []) (s2 _ _ ea) eb lenL3 ⟨by decide, fun z hz => absurd hz List.not_mem_nil⟩ ng ndx ne fun H3 s3 hg _ => ⟨rfl, ?_⟩
      have s03 := (s1.trans s2).trans s3
      obtain ⟨dy, D1, D2, e1, _⟩ := hg.ob
      exact ⟨g, dy, _, rfl, e1, gflds_no _ _ (by decide +kernel) (by decide +kernel), _, rfl, .inl ⟨g, v, rfl, ⟨dy, D1, D2, e1⟩, hv.same s03, h1.mv s03⟩⟩
    · refine ⟨_, rfl, rfl, _, rfl, ifD (fun z => absurd z (nzI (by decide))) (fun _ => ?_)⟩
      refine ⟨_, rfl, rfl, _, rfl, ifD (fun z => absurd z (nzI (by decide))) (fun _ => ?_)⟩
      refine ⟨_, rfl, rfl, _, rfl, ifD (fun z => absurd z (nzI (by decide))) (fun _ => ?_)⟩
      refine ⟨_, rfl, rfl, _, rfl, ifD (fun z => absurd z (nzI (by decide))) (fun _ => ?_)⟩
      refine ⟨_, rfl, rfl, _, rfl, ifD (fun z => absurd z (nzI (by decide))) (fun _ => ?_)⟩
      refine ⟨_, rfl, rfl, _, rfl, ifD (fun z => absurd z (nzI (by decide))) (fun _ => ?_)⟩
      refine ⟨_, rfl, rfl, _, rfl, ifD (fun z => absurd z (nzI (by decide))) (fun _ => ?_)⟩
      refine ⟨_, rfl, rfl, _, rfl, ifD (fun z => absurd z (nzI (by decide))) (fun _ => ?_)⟩
      refine ⟨_, rfl, rfl, _, rfl, ifD (fun _ => ?_) (fun z => absurd rfl z)⟩
      refine ⟨one_le, fun a na => ?_⟩
      have s1 : Same H (upd H a (.lst [.int 3])) := Same.new na
      have ea : (upd H a (.lst [.int 3])) a = some (.lst (vN [3])) := upd_same
      generalize upd H a (.lst [.int 3]) = H1 at s1 ea
      refine ⟨nil_le, fun b nb => ?_⟩
      have s2 : Same H1 (upd H1 b (.lst [])) := Same.new nb
      have eb : (upd H1 b (.lst [])) b = some (.lst (vN [])) := upd_same
      generalize upd H1 b (.lst []) = H2 at s2 eb
      refine fun g dx ng ndx ne => initG_of (cy := [3]) (ch := []) (s2 _ _ ea) eb lenL3 ⟨by decide, fun z hz => absurd hz List.not_mem_nil⟩ ng ndx ne fun H3 s3 hg _ => ⟨rfl, ?_⟩
      have s03 := (s1.trans s2).trans s3
      obtain ⟨dy, D1, D2, e1, _⟩ := hg.ob
      refine ⟨g, dy, _, rfl, e1, gflds_no _ _ (by decide +kernel) (by decide +kernel), three_le, fun t nt => ?_⟩
      have s4 : Same H3 (upd H3 t (.tup [.str (Str.ofString "cycle"), .int 0, .int 0])) := Same.new nt
      exact ⟨_, rfl, .inr ⟨g, t, [3], [], true, 0, 0, 3, v, rfl, hg.same s4, ⟨upd_same, rfl, by decide⟩, ((hv.same s03).same s4).odd, (h2.mv s03).mv s4⟩⟩
    · refine ⟨_, rfl, rfl, _, rfl, ifD (fun z => absurd z (nzI (by decide))) (fun _ => ?_)⟩
      refine ⟨_, rfl, rfl, _, rfl, ifD (fun z => absurd z (nzI (by decide))) (fun _ => ?_)⟩
      refine ⟨_, rfl, rfl, _, rfl, ifD (fun z => absurd z (nzI (by decide))) (fun _ => ?_)⟩
      refine ⟨_, rfl, rfl, _, rfl, ifD (fun z => absurd z (nzI (by decide))) (fun _ => ?_)⟩
      refine ⟨_, rfl, rfl, _, rfl, ifD (fun z => absurd z (nzI (by decide))) (fun _ => ?_)⟩
      refine ⟨_, rfl, rfl, _, rfl, ifD (fun z => absurd z (nzI (by decide))) (fun _ => ?_)⟩
      refine ⟨_, rfl, rfl, _, rfl, ifD (fun z => absurd z (nzI (by decide))) (fun _ => ?_)⟩
      refine ⟨_, rfl, rfl, _, rfl, ifD (fun z => absurd z (nzI (by decide))) (fun _ => ?_)⟩
      refine ⟨_, rfl, rfl, _, rfl, ifD (fun z => absurd z (nzI (by decide))) (fun _ => ?_)⟩
      refine ⟨_, rfl, rfl, _, rfl, ifD (fun _ => ?_) (fun z => absurd rfl z)⟩
      exact ⟨_, rfl, _, rfl, m, 4, f, v, rfl, hm, ho, h2⟩
end
end My
namespace U
open PySem L2
theorem pe_orR {X : Cx} {e : Expr} {t u : TE} (h1 : PE X e t) (h2 : PE X e u) : PE X e (fun σ H Q => t σ H Q ∨ u σ H Q) := ⟨fun pins s σ H Q I h => h.elim (fun h => h1.run pins s σ H Q I h) (fun h => h2.run pins s σ H Q I h)⟩
end U
namespace My
open PySem L2 U StX PM
theorem ex4 {K : PySem.W.Frag} {cls c1 c2 c3 c4 : Value} {b1 b2 b3 b4 b : Bool} (h1 : PySem.W.exmOne K cls c1 = some b1) (h2 : PySem.W.exmOne K cls c2 = some b2) (h3 : PySem.W.exmOne K cls c3 = some b3) (h4 : PySem.W.exmOne K cls c4 = some b4) (hb : (b1 || (b2 || (b3 || (b4 || false)))) = b) : PySem.W.exmAny K cls [c1, c2, c3, c4] = some b := by
  simp only [PySem.W.exmAny, h1, h2, h3, h4]
  rw [← hb]
def spKept (CM : Addr) : Sp := fun vs H Q _ => ∃ (k m : Addr) (i n : Int) (f : PF) (v : V), vs = [.int i, .ref m, v] ∧ 0 ≤ i ∧ i ≤ 17 ∧ IsMap CM H m 4 f ∧ OddV H v ∧ ∀ L H', H L = none → Same H H' → H' L = some (.lst [v]) → Q (.ref L) H'
section
variable {P : Program} {w : World} {K : PySem.W.Frag} {mg : Str → Option Value} {base : Heap}
theorem ok_l_kept (T : Txt K mg) : FnR P w K mg base CX0 20 T.f_l_kept (spKept T.C_Map) := by
  refine T.A_l_kept.ok sc_l_kept (fun vs H Q E h => ?_) (fun cdv A outer s H vs Q E hr h => ?_)
  · obtain ⟨k, m, i, n, f, v, rfl, _⟩ := h
    rfl
  · obtain ⟨k, m, i, n, f, v, rfl, i0, i1, hm, hv, q⟩ := h
    refine ⟨_, (pss_cons (U.ps_try_tup4 (i := 3) rfl rfl sc_l_kept.nd L2.takes0 (fun W pn xe tk _ => (pss_one (ps_expr (pe_callRS (okO_l_called T) (hr.mono (by decide)) T.A_l_called.kp rfl T.g_l_called (fun σ => passAt tk σ) (pa_cons (pv 0) (pa_cons (pv 1) (pa_cons (pv 2) pa_nil))))))) rfl rfl ⟨rfl, by decide, .inl T.g_InvalidElement⟩ ⟨rfl, by decide, .inl T.g_InvalidNumber⟩ ⟨rfl, by decide, .inl T.g_InvalidSize⟩ ⟨rfl, by decide, .inl T.g_Undefined⟩ (fun a oe cls d pn hz hf => (pss_one (ps_ret (pe_lst (pa_cons (U.pe_orR (pe_xf T.xf_InvalidElement T.na_value_InvalidElement hz hf (pv 3)) (U.pe_orR (pe_xf T.xf_InvalidNumber T.na_value_InvalidNumber hz hf (pv 3)) (U.pe_orR (pe_xf T.xf_InvalidSize T.na_value_InvalidSize hz hf (pv 3)) (pe_xf T.xf_Undefined T.na_value_Undefined hz hf (pv 3))))) pa_nil))))))
      (pss_one (ps_ret (pe_lst pa_nil)))), ?_⟩
    have fin : ∀ {CE : Addr} {H' : Hp} {d L : Addr}, Same H H' → H' d = none → (upd H' d (.xd [(("value" : Str), v)])) L = none → Q (.ref L) (upd (upd H' d (.xd [(("value" : Str), v)])) L (.lst [v])) := fun s nd nL => by
      have s2 := s.trans (Same.new (o := .xd [(("value" : Str), v)]) nd)
      exact q _ _ (s2.free nL) (s2.trans (Same.new nL)) upd_same
    refine ⟨_, rfl, _, rfl, _, rfl, m, i, f, v, rfl, i0, i1, hm, hv, ?_, ?_, ?_, ?_⟩
    · exact fun d H' s nd => ⟨true, ex4 T.te_InvalidElement T.te_InvalidElement_InvalidNumber T.te_InvalidElement_InvalidSize T.te_InvalidElement_Undefined rfl, fun _ a na => .inl ⟨_, rfl, rfl, rfl, d, _, v, rfl, upd_same, rfl, one_le, fun L nL => fin (CE := T.C_InvalidElement) s nd nL⟩, fun z => nomatch z⟩
    · exact fun d H' s nd => ⟨true, ex4 T.te_InvalidNumber_InvalidElement T.te_InvalidNumber T.te_InvalidNumber_InvalidSize T.te_InvalidNumber_Undefined rfl, fun _ a na => .inr (.inl ⟨_, rfl, rfl, rfl, d, _, v, rfl, upd_same, rfl, one_le, fun L nL => fin (CE := T.C_InvalidElement) s nd nL⟩), fun z => nomatch z⟩
    · exact fun d H' s nd => ⟨true, ex4 T.te_InvalidSize_InvalidElement T.te_InvalidSize_InvalidNumber T.te_InvalidSize T.te_InvalidSize_Undefined rfl, fun _ a na => .inr (.inr (.inl ⟨_, rfl, rfl, rfl, d, _, v, rfl, upd_same, rfl, one_le, fun L nL => fin (CE := T.C_InvalidElement) s nd nL⟩)), fun z => nomatch z⟩
    · exact fun d H' s nd => ⟨true, ex4 T.te_Undefined_InvalidElement T.te_Undefined_InvalidNumber T.te_Undefined_InvalidSize T.te_Undefined rfl, fun _ a na => .inr (.inr (.inr ⟨_, rfl, rfl, rfl, d, _, v, rfl, upd_same, rfl, one_le, fun L nL => fin (CE := T.C_InvalidElement) s nd nL⟩)), fun z => nomatch z⟩
end
end My
namespace My
open PySem L2 U StX PM
theorem itF9 {b : Bool} {A B : Prop} (h : b = false) (x : B) : if b = true then A else B := by rw [h, if_neg Bool.false_ne_true]; exact x
theorem itT9 {b : Bool} {A B : Prop} (h : b = true) (x : A) : if b = true then A else B := by rw [if_pos h]; exact x
/-- repr of v is z in every later heap -/
def RV (K : PySem.W.Frag) (H : Hp) (v : V) (z : Str) : Prop := ∀ H', Same H H' → ∀ Q : VK, Q (.str z) H' → rRepr K [v] H' Q ∨ rReprN [v] H' Q
theorem RV.lst {K : PySem.W.Frag} {H : Hp} {a : Addr} {xs : List V} {ds : List PyData} (h : H a = some (.lst xs)) (hd : ∀ H', DpAll K H' xs ds) (h1 : (PyData.list ds).showable = true) (h2 : (PyData.list ds).hasDict = false) (h3 : (PyData.list ds).depth ≤ 60) (h4 : (PyData.list ds).shown.length ≤ sizeLine) : RV K H (.ref a) (PyData.list ds).shown :=
  fun H' s Q q => .inl ⟨_, _, rfl, .lst (SqL.of (s _ _ h)) (hd H'), h1, h2, h3, h4, q⟩
theorem RV.dic {K : PySem.W.Frag} {H : Hp} {a : Addr} {kvs : List (Key × V)} {ds : List PyData} (h : H a = some (.dK kvs)) (hd : ∀ H', Same H H' → Paired (fun kv d => NSc H' kv.2 d) kvs ds) (h1 : (flatD kvs ds).showable = true) (h3 : (flatD kvs ds).depth ≤ 60) (h4 : (flatD kvs ds).shown.length ≤ sizeLine) : RV K H (.ref a) (flatD kvs ds).shown :=
  fun H' s Q q => .inr ⟨_, _, _, rfl, s _ _ h, hd H' s, h1, h3, h4, q⟩
theorem RV.same {K : PySem.W.Frag} {H H' : Hp} {v : V} {z : Str} (h : RV K H v z) (s : Same H H') : RV K H' v z := fun H2 s2 Q q => h H2 (s.trans s2) Q q
/-- an item, its two texts -/
def Itm (K : PySem.W.Frag) (H : Hp) (a : Addr) : Prop := ∃ z1 z2, RV K H (.ref a) z1 ∧ ((∃ xs, H a = some (.lst xs) ∧ xs.length ≤ 1 ∧ ∀ H2, Same H H2 → RV K (upd H2 a (.lst (xs ++ [.str "later"]))) (.ref a) z2) ∨
  ∃ kvs, H a = some (.dK kvs) ∧ kvs.length ≤ 1 ∧ ∀ H2, Same H H2 → RV K (upd H2 a (.dK (putK kvs (.inr "later") (.int 5)))) (.ref a) z2)
theorem itm0 {K : PySem.W.Frag} {H : Hp} {a : Addr} (h : H a = some (.lst [])) : Itm K H a :=
  ⟨_, _, RV.lst (ds := []) h (fun _ => .nil) rfl rfl (by decide +kernel) (by decide +kernel), .inl ⟨_, h, by decide, fun H2 _ => RV.lst (ds := [.str "later"]) upd_same (fun _ => .cons (.str _) .nil) (by decide +kernel) (by decide +kernel) (by decide +kernel) (by decide +kernel)⟩⟩
theorem itm1 {K : PySem.W.Frag} {H : Hp} {a : Addr} (h : H a = some (.lst [.non])) : Itm K H a :=
  ⟨_, _, RV.lst (ds := [.none]) h (fun _ => .cons .non .nil) (by decide +kernel) (by decide +kernel) (by decide +kernel) (by decide +kernel), .inl ⟨_, h, by decide, fun H2 _ => RV.lst (ds := [.none, .str "later"]) upd_same (fun _ => .cons .non (.cons (.str _) .nil)) (by decide +kernel) (by decide +kernel) (by decide +kernel) (by decide +kernel)⟩⟩
theorem itm3 {K : PySem.W.Frag} {H : Hp} {a : Addr} (h : H a = some (.lst [.int 0])) : Itm K H a :=
  ⟨_, _, RV.lst (ds := [.int 0]) h (fun _ => .cons (.int 0) .nil) (by decide +kernel) (by decide +kernel) (by decide +kernel) (by decide +kernel), .inl ⟨_, h, by decide, fun H2 _ => RV.lst (ds := [.int 0, .str "later"]) upd_same (fun _ => .cons (.int 0) (.cons (.str _) .nil)) (by decide +kernel) (by decide +kernel) (by decide +kernel) (by decide +kernel)⟩⟩
theorem itm2 {K : PySem.W.Frag} {H : Hp} {a q : Addr} (h : H a = some (.dK [(.inr "one", .ref q)])) (hq : H q = some (NestL q [.int 1])) : Itm K H a := by
  have ne : q ≠ a := fun z => by rw [z, h] at hq; cases hq
  refine ⟨_, _, RV.dic (ds := [.list [.int 1]]) h (fun H' s => .cons (.inr ⟨q, _, _, rfl, s _ _ hq, .cons (.int 1) .nil, rfl⟩) .nil) (show (flatD [((.inr "one" : Key), V.non)] [.list [.int 1]]).showable = true by decide +kernel) (show (flatD [((.inr "one" : Key), V.non)] [.list [.int 1]]).depth ≤ 60 by decide +kernel) (show (flatD [((.inr "one" : Key), V.non)] [.list [.int 1]]).shown.length ≤ sizeLine by decide +kernel),
    .inr ⟨_, h, Nat.le_refl _, fun H2 s2 => RV.dic (kvs := [(.inr "one", .ref q), (.inr "later", .int 5)]) (ds := [.list [.int 1], .int 5]) (by rw [upd_same]; rfl) (fun H' s => ?_) (show (flatD [((.inr "one" : Key), V.non), (.inr "later", .non)] [.list [.int 1], .int 5]).showable = true by decide +kernel) (show (flatD [((.inr "one" : Key), V.non), (.inr "later", .non)] [.list [.int 1], .int 5]).depth ≤ 60 by decide +kernel) (show (flatD [((.inr "one" : Key), V.non), (.inr "later", .non)] [.list [.int 1], .int 5]).shown.length ≤ sizeLine by decide +kernel)⟩⟩
  exact .cons (.inr ⟨q, _, _, rfl, s _ _ (by rw [upd_ne ne]; exact s2 _ _ hq), .cons (.int 1) .nil, rfl⟩) (.cons (.inl (.int 5)) .nil)
theorem for_lst {K : PySem.W.Frag} {te : TE} {g : TG} {tb : TS} {D : Ends} {σ : L2.St} {H : Hp} (h : te σ H fun x H1 => ∃ a, x = V.ref a ∧ (∃ xs, SqL K H1 a xs) ∧ ∃ W : Nat → Nat → L2.St → Hp → Prop, (∃ m, W 0 m σ H1) ∧ ∀ i m σ H, W i m σ H →
    ((Itl K a).stop i H ∧ D.nx σ H) ∨ ((Itl K a).go i H ∧ ∃ N : L2.St → Hp → Prop, (∀ σ' H', N σ' H' → ∃ m', m' < m ∧ W (i + 1) m' σ' H') ∧ ∀ x H', (Itl K a).yld i H x H' → g x σ H' fun σ2 H2 => tb { D with nx := N, ct := N, bk := D.nx } σ2 H2)) : tFor (iList K te) g tb D σ H := h
def Raw (H : Hp) (i0 i1 i2 i3 q0 : Addr) (j : Nat) : Prop := (j ≤ 0 → H i0 = some (.lst [])) ∧ (j ≤ 1 → H i1 = some (.lst [.non])) ∧ (j ≤ 2 → H i2 = some (.dK [(.inr "one", .ref q0)]) ∧ H q0 = some (NestL q0 [.int 1])) ∧ (j ≤ 3 → H i3 = some (.lst [.int 0]))
section
variable {P : Program} {w : World} {K : PySem.W.Frag} {mg : Str → Option Value} {base : Heap}
theorem ok_law (T : Txt K mg) : FnG P w K mg base CX0 40 T.f_law (spLaw K) := by
  refine T.A_law.okG sc_law (fun vs H Q E h => ?_) (fun cdv A outer s H vs Q E gd hr h => ?_)
  · obtain ⟨a, ns, rfl, _⟩ := h
    rfl
  · obtain ⟨a, ns, rfl, hS, hl, q⟩ := h
    have hu := hu_of hr
    refine ⟨_, (pss_cons (ps_set (i := 1) sc_law.nd rfl (Or.inl rfl) (pe_callR (ok_hand T) (hr.mono (by decide)) T.A_l_hand.kp rfl T.g_l_hand pass0 (pa_cons (pv 0) (pa_cons pe_int pa_nil))))
      (pss_cons (ps_set (i := 2) sc_law.nd rfl (Or.inl rfl) (pe_makeR T.M_Map (ok_init T) (hr.mono (by decide)) rfl T.g_Map pass0 (pa_cons pe_int (pa_cons (pe_disp (pps_cons pe_int (pe_op op_add pe_int (pe_callR (ok_draw T) (hr.mono (by decide)) T.A_l_draw.kp rfl T.g_l_draw pass0 (pa_cons (pv 1) (pa_cons pe_int pa_nil)))) pps_nil) (by rfl) (by rfl) (fun z => by cases z) (by decide)) pa_nil))))
      (pss_cons (ps_for PassesOwn.never rfl (pi_range1 rfl T.n_range (pa_cons pe_int pa_nil)) (pg_name (i := 3) sc_law.nd rfl (Or.inl rfl))
        (pss_one (ps_for PassesOwn.never rfl (pi_list (pe_lst (pa_cons (pe_lst pa_nil) (pa_cons (pe_lst (pa_cons pe_non pa_nil)) (pa_cons (pe_disp (pps_cons pe_str (pe_nlist (pa_cons pe_int pa_nil)) pps_nil) (by rfl) (by rfl) (fun z => by cases z) (by decide)) (pa_cons (pe_lst (pa_cons pe_int pa_nil)) pa_nil)))))) (pg_name (i := 4) sc_law.nd rfl (Or.inl rfl))
        (pss_cons (ps_set (i := 5) sc_law.nd rfl (Or.inl rfl) (pe_callR (ok_l_kept T) (hr.mono (by decide)) T.A_l_kept.kp rfl T.g_l_kept pass0 (pa_cons (pv 3) (pa_cons (pv 2) (pa_cons (pv 4) pa_nil)))))
      (pss_cons (ps_if (PW.pt (pw_or (pt_cmpR op_ne (pe_callB call_len_seq (by rfl) T.n_len (by decide +kernel) (pa_cons (pv 5) pa_nil)) pe_int (nomark _)) (pw_or1 (pt_cmpR op_ne (pe_callB (callR_or (r1 := rRepr K) (r2 := rReprN) (call_repr gd hr.units) (call_reprN gd hr.units)) (by rfl) T.n_repr (by decide +kernel) (pa_cons (pe_ix ix_list (pv 5) pe_int (fun _ _ => rfl)) pa_nil)) (pe_callB (callR_or (r1 := rRepr K) (r2 := rReprN) (call_repr gd hr.units) (call_reprN gd hr.units)) (by rfl) T.n_repr (by decide +kernel) (pa_cons (pv 4) pa_nil)) (nomark _)))))
        (pss_one (ps_ret pe_bl)) pss_nil)
      (pss_cons (ps_if (pt_val (pe_callB call_isi (by rfl) T.n_isinstance (by decide +kernel) (pa_cons (pv 4) (pa_cons (pe_bltn (v := .ty "list") (u := .type "list") (by rfl) T.n_list (by decide +kernel) rfl) pa_nil))))
        (pss_one (ps_expr (pe_bm PySem.F.plainAttrs_list PySem.F.slot_list_append PySem.F.type_list_append mt_append (pv 4) (pa_cons pe_str pa_nil)))) (pss_one (ps_dput hu (pv 4) pe_str pe_int rfl)))
      (pss_one (ps_if (pt_cmpR op_ne (pe_callB (callR_or (r1 := rRepr K) (r2 := rReprN) (call_repr gd hr.units) (call_reprN gd hr.units)) (by rfl) T.n_repr (by decide +kernel) (pa_cons (pe_ix ix_list (pv 5) pe_int (fun _ _ => rfl)) pa_nil)) (pe_callB (callR_or (r1 := rRepr K) (r2 := rReprN) (call_repr gd hr.units) (call_reprN gd hr.units)) (by rfl) T.n_repr (by decide +kernel) (pa_cons (pv 4) pa_nil)) (nomark _))
        (pss_one (ps_ret pe_bl)) pss_nil))))))))
      (pss_one (ps_ret pe_bl))))), ?_⟩
    refine ⟨_, rfl, a, ns, 0, rfl, hS, hl, fun p H2 x y np hp s2 hx hy hy2 => ?_⟩
    have pool2 : PoolAt H2 p := ⟨x, y, hp, hx, hy, hy2⟩
    clear s2 hp hx hy hy2 hS
    refine fun d nd => ?_
    have pool3 := pool2.put (o := .dK []) (q := d) (fun z => by obtain ⟨_, _, e, _⟩ := pool2; rw [z, nd] at e; cases e)
    have npd : d ≠ p := fun z => by obtain ⟨_, _, e, _⟩ := pool2; rw [← z, nd] at e; cases e
    refine draw_R rfl (fun R r => r) pool3 (by decide) (by decide) fun r H4 r0 r1 pool4 off4 => ⟨_, _, rfl, rfl, off4 _ _ npd upd_same, [(.inl 0, .int (1 + r))], rfl, by show 1 ≤ 15; decide, ?_⟩
    have ed : (upd H4 d (.dK (mergeK [] [((.inl 0 : Key), V.int (1 + r))]))) d = some (.dK (kvI [(0, 1 + r)])) := upd_same
    generalize upd H4 d (.dK (mergeK [] [((.inl 0 : Key), V.int (1 + r))])) = H5 at ed
    have di : DI [((0 : Int), 1 + r)] (lk [(0, 1 + r)]) := ⟨by simp, fun _ => rfl⟩
    have wf : WF 4 (lk [(0, 1 + r)]) := by
      have key : ∀ x y, lk [((0 : Int), 1 + r)] x = some y → x = 0 ∧ y = 1 + r := fun x y h => by
        by_cases hx : (0 : Int) = x
        · subst hx
          have : lk [((0 : Int), 1 + r)] 0 = some (1 + r) := rfl
          rw [this] at h; cases h; exact ⟨rfl, rfl⟩
        · have : lk [((0 : Int), 1 + r)] x = none := by simp [lk, hx]
          rw [this] at h; cases h
      refine ⟨fun x y h => ?_, fun x x' y h h' => ?_⟩
      · obtain ⟨rfl, rfl⟩ := key x y h; omega
      · rw [(key x y h).1, (key x' y h').1]
    refine fun m dx nm ndx ne => init_of (n := 4) ed di wf (by decide) (by decide) (Nat.le_of_lt (by show 1 < 1000; decide)) nm ndx ne fun H6 s6 hm => ⟨rfl, ?_⟩
    generalize lk [((0 : Int), 1 + r)] = f at hm
    refine ⟨_, rfl, by decide, by decide, ?_⟩
    refine for_it (walk_range (lo := 0)) (fun i σ H' => ∃ v3 v4 v5, σ = [some (.ref a), some (.ref p), some (.ref m), v3, v4, v5] ∧ Same H6 H') ⟨_, _, _, rfl, Same.refl _⟩ (fun _ _ _ _ _ => trivial) ?_ ?_
    · rintro k v σ H' H1 hk ⟨v3, v4, v5, rfl, s1⟩ ⟨rfl, rfl⟩
      have hm := hm.same s1
      refine for_lst ?_
      refine ⟨(by show 0 ≤ sizeLine; decide), ?_⟩
      refine fun i0 n_i0 => ?_
      generalize g_i0 : L2.upd _ i0 _ = Ha
      obtain ⟨s_Ha, e_i0⟩ := U.upd_facts g_i0 n_i0
      clear g_i0
      refine ⟨(by show 1 ≤ sizeLine; decide), ?_⟩
      refine fun i1 n_i1 => ?_
      generalize g_i1 : L2.upd _ i1 _ = Hb
      obtain ⟨s_Hb, e_i1⟩ := U.upd_facts g_i1 n_i1
      clear g_i1
      refine fun i2 n_i2 => ?_
      refine ⟨(by show 1 ≤ sizeLine; decide), fun q0 n_q0 => ⟨by rw [upd_ne (fun z => by rw [← z, upd_same] at n_q0; cases n_q0), upd_same], [(.inr "one", .ref q0)], rfl, by show 1 ≤ 15; decide, ?_⟩⟩
      have nq0 : Hb q0 = none := (Same.new (o := .dK []) n_i2).free n_q0
      have nqi : q0 ≠ i2 := fun z => by rw [z, upd_same] at n_q0; cases n_q0
      generalize eC : upd (upd (upd Hb i2 _) q0 _) i2 _ = Hc
      have e_i2 : Hc i2 = some (.dK [(.inr "one", .ref q0)]) := by rw [← eC, upd_same]; rfl
      have e_q0 : Hc q0 = some (NestL q0 [.int 1]) := by rw [← eC, upd_ne nqi, upd_same]
      have s_Hc : Same Hb Hc := by rw [← eC]; exact Same.put (Same.put (Same.new n_i2) nq0) n_i2
      clear eC
      refine ⟨(by show 1 ≤ sizeLine; decide), ?_⟩
      refine fun i3 n_i3 => ?_
      generalize g_i3 : L2.upd _ i3 _ = Hd
      obtain ⟨s_Hd, e_i3⟩ := U.upd_facts g_i3 n_i3
      clear g_i3
      refine ⟨(by show 4 ≤ sizeLine; decide), ?_⟩
      refine fun pl n_pl => ?_
      generalize g_pl : L2.upd _ pl _ = He
      obtain ⟨s_He, e_pl⟩ := U.upd_facts g_pl n_pl
      clear g_pl
      have sHe : Same H1 He := (((s_Ha.trans s_Hb).trans s_Hc).trans s_Hd).trans s_He
      have n0 := n_i0
      have n1 : H1 i1 = none := s_Ha.free n_i1
      have n2 : H1 i2 = none := (s_Ha.trans s_Hb).free n_i2
      have n3 : H1 i3 = none := ((s_Ha.trans s_Hb).trans s_Hc).free n_i3
      have d01 : i1 ≠ i0 := fun z => by rw [z, e_i0] at n_i1; cases n_i1
      have d02 : i2 ≠ i0 := fun z => by rw [z, s_Hb _ _ e_i0] at n_i2; cases n_i2
      have d12 : i2 ≠ i1 := fun z => by rw [z, e_i1] at n_i2; cases n_i2
      have d03 : i3 ≠ i0 := fun z => by rw [z, (s_Hb.trans s_Hc) _ _ e_i0] at n_i3; cases n_i3
      have d13 : i3 ≠ i1 := fun z => by rw [z, s_Hc _ _ e_i1] at n_i3; cases n_i3
      have d23 : i3 ≠ i2 := fun z => by rw [z, e_i2] at n_i3; cases n_i3
      have dq0 : q0 ≠ i0 := fun z => by rw [z, s_Hb _ _ e_i0] at nq0; cases nq0
      have dq1 : q0 ≠ i1 := fun z => by rw [z, e_i1] at nq0; cases nq0
      have raw0 : Raw He i0 i1 i2 i3 q0 0 := ⟨fun _ => (((s_Hb.trans s_Hc).trans s_Hd).trans s_He) _ _ e_i0, fun _ => ((s_Hc.trans s_Hd).trans s_He) _ _ e_i1, fun _ => ⟨(s_Hd.trans s_He) _ _ e_i2, (s_Hd.trans s_He) _ _ e_q0⟩, fun _ => s_He _ _ e_i3⟩
      have pl0 : pl ≠ i0 := fun z => by rw [z, (((s_Hb.trans s_Hc).trans s_Hd)) _ _ e_i0] at n_pl; cases n_pl
      have pl1 : pl ≠ i1 := fun z => by rw [z, ((s_Hc.trans s_Hd)) _ _ e_i1] at n_pl; cases n_pl
      have pl2 : pl ≠ i2 := fun z => by rw [z, s_Hd _ _ e_i2] at n_pl; cases n_pl
      have pl3 : pl ≠ i3 := fun z => by rw [z, e_i3] at n_pl; cases n_pl
      clear e_i0 e_i1 e_i2 e_i3 e_q0 n_i0 n_i1 n_i2 n_i3 s_Ha s_Hb s_Hc s_Hd s_He nq0 n_q0 n_pl
      refine ⟨pl, rfl, ⟨_, SqL.of e_pl⟩, ?_⟩
      refine for_it (walk_list (xs := [V.ref i0, .ref i1, .ref i2, .ref i3])) (fun i σ H' => ∃ v4 v5, σ = [some (.ref a), some (.ref p), some (.ref m), some (.int ((0 : Int) + (k : Nat))), v4, v5] ∧ Same H1 H' ∧ H' pl = some (.lst [V.ref i0, .ref i1, .ref i2, .ref i3]) ∧ Raw H' i0 i1 i2 i3 q0 i)
        ⟨_, _, rfl, sHe, e_pl, raw0⟩ (fun i σ H' _ p => ?_) ?_ ?_
      · obtain ⟨_, _, _, _, e, _⟩ := p
        exact SqL.of e
      · clear raw0 e_pl v4 v5
        rintro j v σ H9 H2 hj ⟨v4, v5, rfl, s2, epl, raw⟩ ⟨rfl, ev⟩
        have key : ∃ b, v = .ref b ∧ H1 b = none ∧ b ≠ pl ∧ Itm K H2 b ∧ ∀ H3 o, Same H2 H3 → Raw (upd H3 b o) i0 i1 i2 i3 q0 (j + 1) := by
          obtain ⟨r0, r1, r2, r3⟩ := raw
          match j, hj with
          | 0, _ =>
            cases ev
            exact ⟨i0, rfl, n0, pl0.symm, itm0 (r0 (by omega)), fun H3 o s3 => ⟨fun h => by omega, fun _ => by rw [upd_ne d01]; exact s3 _ _ (r1 (by omega)), fun _ => by rw [upd_ne d02, upd_ne dq0]; exact ⟨s3 _ _ (r2 (by omega)).1, s3 _ _ (r2 (by omega)).2⟩, fun _ => by rw [upd_ne d03]; exact s3 _ _ (r3 (by omega))⟩⟩
          | 1, _ =>
            cases ev
            exact ⟨i1, rfl, n1, pl1.symm, itm1 (r1 (by omega)), fun H3 o s3 => ⟨fun h => by omega, fun h => by omega, fun _ => by rw [upd_ne d12, upd_ne dq1]; exact ⟨s3 _ _ (r2 (by omega)).1, s3 _ _ (r2 (by omega)).2⟩, fun _ => by rw [upd_ne d13]; exact s3 _ _ (r3 (by omega))⟩⟩
          | 2, _ =>
            cases ev
            exact ⟨i2, rfl, n2, pl2.symm, itm2 (r2 (by omega)).1 (r2 (by omega)).2, fun H3 o s3 => ⟨fun h => by omega, fun h => by omega, fun h => by omega, fun _ => by rw [upd_ne d23]; exact s3 _ _ (r3 (by omega))⟩⟩
          | 3, _ =>
            cases ev
            exact ⟨i3, rfl, n3, pl3.symm, itm3 (r3 (by omega)), fun H3 o s3 => ⟨fun h => by omega, fun h => by omega, fun h => by omega, fun h => by omega⟩⟩
          | n + 4, h => exact absurd h (by simp)
        obtain ⟨b, rfl, nb, bpl, ⟨z1, z2, rv1, itm⟩, nxt⟩ := key
        have odd : OddV H2 (.ref b) := by
          rcases itm with ⟨xs, e, _⟩ | ⟨kvs, e, _⟩
          · exact ⟨b, rfl, .inl ⟨_, e⟩⟩
          · exact ⟨b, rfl, .inr ⟨_, e⟩⟩
        refine ⟨_, rfl, _, rfl, _, rfl, k, m, _, 4, f, .ref b, rfl, by omega, by omega, hm.same s2, odd, fun L H3 nL s3 eL => ?_⟩
        refine ⟨_, rfl, L, _, rfl, .inl (SqL.of eL), rfl, _, rfl, ?_⟩
        refine itF9 (by simp) ?_
        refine ⟨_, rfl, L, _, 0, .ref b, rfl, rfl, SqL.of eL, rfl, rv1 _ s3 _ ?_⟩
        refine ⟨_, rfl, rv1 _ s3 _ ⟨rfl, _, rfl, ?_⟩⟩
        refine itF9 (by simp) ?_
        have bL : L ≠ b := fun z => by
          rcases itm with ⟨xs, e, _⟩ | ⟨kvs, e, _⟩
          · rw [z, e] at nL; cases nL
          · rw [z, e] at nL; cases nL
        have s13 := s2.trans s3
        have tail : ∀ (H4 : Hp), (∃ o, H4 = upd H3 b o) → RV K H4 (.ref b) z2 → (∃ v4 v5, [some (V.ref a), some (V.ref p), some (V.ref m), some (V.int (0 + (k : Nat))), some (V.ref b), some (V.ref L)] = [some (V.ref a), some (V.ref p), some (V.ref m), some (V.int ((0 : Int) + (k : Nat))), v4, v5] ∧
            Same H1 H4 ∧ H4 pl = some (.lst [V.ref i0, .ref i1, .ref i2, .ref i3]) ∧ Raw H4 i0 i1 i2 i3 q0 (j + 1)) ∧ SqL K H4 L [.ref b] := by
          rintro H4 ⟨o, rfl⟩ rv2
          exact ⟨⟨_, _, rfl, Same.put s13 nb, by rw [upd_ne bpl.symm]; exact s3 _ _ epl, nxt H3 o s3⟩, SqL.of (by rw [upd_ne bL]; exact eL)⟩
        rcases itm with ⟨xs, e, l1, rv2⟩ | ⟨kvs, e, l1, rv2⟩
        · refine ⟨_, rfl, _, _, _, _, true, rfl, .ty _, .base (.lst (s3 _ _ e)), kit_ty (r := true) (by decide +kernel), _, rfl, ?_⟩
          refine itT9 rfl ?_
          have t4 := tail (upd H3 b (.lst (xs ++ [.str "later"]))) ⟨_, rfl⟩ (rv2 H3 s3)
          refine ⟨_, rfl, .inl ⟨rfl, _, SqL.of (s3 _ _ e)⟩, b, xs, _, rfl, rfl, s3 _ _ e, lt_line (by omega), ?_⟩
          refine ⟨_, rfl, L, _, 0, .ref b, rfl, rfl, t4.2, rfl, rv2 _ s3 _ (Same.refl _) _ ?_⟩
          refine ⟨_, rfl, rv2 _ s3 _ (Same.refl _) _ ⟨rfl, _, rfl, ?_⟩⟩
          exact itF9 (by simp) t4.1
        · refine ⟨_, rfl, _, _, _, _, false, rfl, .ty _, .base (.dK (s3 _ _ e)), kit_ty (r := false) (by decide +kernel), _, rfl, ?_⟩
          refine itF9 rfl ?_
          have t4 := tail (upd H3 b (.dK (putK kvs (.inr "later") (.int 5)))) ⟨_, rfl⟩ (rv2 H3 s3)
          refine ⟨_, rfl, b, _, rfl, .inl ⟨kvs, .inr "later", s3 _ _ e, rfl, lt_line (by omega), rfl⟩, ?_⟩
          refine ⟨_, rfl, L, _, 0, .ref b, rfl, rfl, t4.2, rfl, rv2 _ s3 _ (Same.refl _) _ ?_⟩
          refine ⟨_, rfl, rv2 _ s3 _ (Same.refl _) _ ⟨rfl, _, rfl, ?_⟩⟩
          exact itF9 (by simp) t4.1
      · rintro σ H' ⟨v4, v5, rfl, s2, epl, raw⟩
        exact ⟨_, _, _, rfl, s1.trans s2⟩
    · rintro σ H' ⟨v3, v4, v5, rfl, s1⟩
      exact q H'
end
end My
namespace My
open PySem L2
theorem walk {l : PySem.W.OpenLaw} {q : Program} {loose : List Str} {XP : (Str → Option Value) → Heap → Prop} {YP : World → Heap → Prop} {d : DefRec} {K : Params → PySem.W.Frag} (hn : l.most = some 63) (hdf : d.params.defaults = []) (hnm : d.name = "law")
    (hY : ∀ (w : World) (h : Heap), YP w h → (K w.params).In h)
    (ok : ∀ (P : Program) (w : World) (K : PySem.W.Frag) (mg : Str → Option Value) (base : Heap) (T : Txt K mg), U.FnG P w K mg base CX0 40 T.f_law (spLaw K))
    (F : ∀ (w : World) (mg : Str → Option Value) (h : Heap), (K w.params).In h → h.Ns mainGlobals mg → Nonempty (Txt (K w.params) mg)) :
    PySem.W.WalkO q loose XP YP l.row.toRowW d [] (fun f vs => PySem.call f vs) := by
  refine U.walkG (n := 63) (k := 40) (sp := spLaw) hn (by decide) hdf ⟨rfl, by decide, by decide⟩ hY ?_ (fun K H a ns hl hS => ⟨a, ns, rfl, hS, hl, fun _ => rfl⟩)
  intro w mg fa h KX G hmg base
  obtain ⟨T⟩ := F w mg h KX G
  rw [hnm, T.g_law] at hmg
  cases hmg
  exact ok _ _ _ _ _ T
end My
local macro_rules | `(tactic| first | refine $t:term | fail $s:str) => do { let t2 ← t.raw.replaceM fun n => (do { if n.getKind == `Lean.Parser.Term.syntheticHole then { let nm := n[1].getId.eraseMacroScopes; if nm == `hl then { return some (Lean.mkIdent `My.hl) } else { return none } } else { return none } }); `(tactic| refine $(⟨t2⟩)) }
open PySem PySem.W PyProof.Rows
set_option maxRecDepth 100000 in
set_option maxHeartbeats 0 in
theorem PySem.Challenge.cw_chainmaps_k37_errors_keep_the_argument_holds : PySem.Challenge.rw_chainmaps_k37_errors_keep_the_argument.Holds := by
  w_on; o_law; k_headL; (case hw => w_witness2)
  k_fill
  refine My.walk (l := PySem.Challenge.rw_chainmaps_k37_errors_keep_the_argument) rfl rfl rfl (fun w h Y => PySem.W.kIn_of Y) (fun _ _ _ _ _ T => My.ok_law T) ?F
  case F =>
    intro w mg h KX G
    refine' My.mk_txt KX G ?a_is_integer ?l_is_integer ?c_is_integer ?k_is_integer ?a_in_range ?l_in_range ?c_in_range ?k_in_range ?a_check_size ?l_check_size ?c_check_size ?k_check_size ?a_check_elements ?l_check_elements ?c_check_elements ?k_check_elements ?a_are_arrows ?l_are_arrows ?c_are_arrows ?k_are_arrows ?a_row_from ?l_row_from ?c_row_from ?k_row_from ?a_moved ?l_moved ?c_moved ?k_moved ?a_check_map ?l_check_map ?c_check_map ?k_check_map ?a_are_counts ?l_are_counts ?c_are_counts ?k_are_counts ?a_ordered ?l_ordered ?c_ordered ?k_ordered ?a_check_shape ?l_check_shape ?c_check_shape ?k_check_shape ?a_are_lengths ?l_are_lengths ?c_are_lengths ?k_are_lengths ?a_fate ?l_fate ?c_fate ?k_fate ?a_count_extensions ?l_count_extensions ?c_count_extensions ?k_count_extensions ?a_check_degree ?l_check_degree ?c_check_degree ?k_check_degree ?a_root ?l_root ?c_root ?k_root ?a_is_root ?l_is_root ?c_is_root ?k_is_root ?a_obstacle ?l_obstacle ?c_obstacle ?k_obstacle ?a_is_obstacle ?l_is_obstacle ?c_is_obstacle ?k_is_obstacle ?a_count_roots ?l_count_roots ?c_count_roots ?k_count_roots ?a_roots ?l_roots ?c_roots ?k_roots ?a_has_root ?l_has_root ?c_has_root ?k_has_root ?a_l_hand ?l_l_hand ?c_l_hand ?k_l_hand ?a_l_draw ?l_l_draw ?c_l_draw ?k_l_draw ?a_l_roots ?l_l_roots ?c_l_roots ?k_l_roots ?a_l_called ?l_l_called ?c_l_called ?k_l_called ?a_l_kept ?l_l_kept ?c_l_kept ?k_l_kept ?a_law ?l_law ?c_law ?k_law ?a_Shape ?pg_Shape ?hd_Shape ?po_Shape ?sa_Shape ?sf_Shape ?ca_Shape ?cn_Shape ?ct_Shape ?cm_Shape ?kc_Shape ?kit_int_Shape ?kit_bool_Shape ?kn_NoneType_Shape ?nf_NoneType_Shape ?kn_int_Shape ?nf_int_Shape ?kn_bool_Shape ?nf_bool_Shape ?kn_str_Shape ?nf_str_Shape ?kn_list_Shape ?nf_list_Shape ?kn_dict_Shape ?nf_dict_Shape ?kn_tuple_Shape ?nf_tuple_Shape ?self_Shape ?na_own_cycles_Shape ?na_own_chains_Shape ?m_Shape__init ?i_Shape__init ?l_Shape__init ?c_Shape__init ?k_Shape__init ?mk_Shape ?m_Shape_power ?i_Shape_power ?l_Shape_power ?c_Shape_power ?k_Shape_power ?a_GreatMap ?pg_GreatMap ?hd_GreatMap ?po_GreatMap ?sa_GreatMap ?sf_GreatMap ?ca_GreatMap ?cn_GreatMap ?ct_GreatMap ?cm_GreatMap ?kc_GreatMap ?kit_int_GreatMap ?kit_bool_GreatMap ?kit_list_GreatMap ?kit_tuple_GreatMap ?kn_NoneType_GreatMap ?nf_NoneType_GreatMap ?kn_int_GreatMap ?nf_int_GreatMap ?kn_bool_GreatMap ?nf_bool_GreatMap ?kn_str_GreatMap ?nf_str_GreatMap ?kn_list_GreatMap ?nf_list_GreatMap ?kn_dict_GreatMap ?nf_dict_GreatMap ?kn_tuple_GreatMap ?nf_tuple_GreatMap ?self_GreatMap ?na_own_cycles_GreatMap ?na_own_chains_GreatMap ?m_GreatMap__init ?i_GreatMap__init ?l_GreatMap__init ?c_GreatMap__init ?k_GreatMap__init ?mk_GreatMap ?m_GreatMap_length_at ?i_GreatMap_length_at ?l_GreatMap_length_at ?c_GreatMap_length_at ?k_GreatMap_length_at ?m_GreatMap_after ?i_GreatMap_after ?l_GreatMap_after ?c_GreatMap_after ?k_GreatMap_after ?a_Map ?pg_Map ?hd_Map ?po_Map ?sa_Map ?sf_Map ?ca_Map ?cn_Map ?ct_Map ?cm_Map ?kc_Map ?kit_int_Map ?kit_bool_Map ?kn_NoneType_Map ?nf_NoneType_Map ?kn_int_Map ?nf_int_Map ?kn_bool_Map ?nf_bool_Map ?kn_str_Map ?nf_str_Map ?kn_list_Map ?nf_list_Map ?kn_dict_Map ?nf_dict_Map ?kn_tuple_Map ?nf_tuple_Map ?self_Map ?na_own_size_Map ?na_own_arrows_Map ?m_Map__init ?i_Map__init ?l_Map__init ?c_Map__init ?k_Map__init ?mk_Map ?rd_Map ?ga_Map ?at_Map_identity ?rc_Map_identity ?fi_Map_identity ?l_Map_identity ?c_Map_identity ?k_Map_identity ?at_Map_empty ?rc_Map_empty ?fi_Map_empty ?l_Map_empty ?c_Map_empty ?k_Map_empty ?at_Map_chain ?rc_Map_chain ?fi_Map_chain ?l_Map_chain ?c_Map_chain ?k_Map_chain ?at_Map_cycle ?rc_Map_cycle ?fi_Map_cycle ?l_Map_cycle ?c_Map_cycle ?k_Map_cycle ?at_Map_swap ?rc_Map_swap ?fi_Map_swap ?l_Map_swap ?c_Map_swap ?k_Map_swap ?m_Map_size ?s_get_Map_size ?tk_Map_size ?rc_Map_size ?l_Map_size ?c_Map_size ?k_Map_size ?m_Map_arrows ?s_get_Map_arrows ?tk_Map_arrows ?rc_Map_arrows ?l_Map_arrows ?c_Map_arrows ?k_Map_arrows ?m_Map_power ?i_Map_power ?l_Map_power ?c_Map_power ?k_Map_power ?m_Map__getitem ?i_Map__getitem ?l_Map__getitem ?c_Map__getitem ?k_Map__getitem ?fi_Map__getitem ?m_Map_is_source ?i_Map_is_source ?l_Map_is_source ?c_Map_is_source ?k_Map_is_source ?a_InvalidMap ?xl_InvalidMap ?sa_InvalidMap ?ex_InvalidMap ?ty_InvalidMap ?kc_InvalidMap ?hd_InvalidMap ?ga_InvalidMap ?gg_InvalidMap ?ss_InvalidMap ?ca_InvalidMap ?cn_InvalidMap ?ct_InvalidMap ?cm_InvalidMap ?kit_ValueError_InvalidMap ?na_part_InvalidMap ?m_InvalidMap__init ?ti_InvalidMap__init ?l_InvalidMap__init ?c_InvalidMap__init ?k_InvalidMap__init ?a_InvalidShape ?xl_InvalidShape ?sa_InvalidShape ?ex_InvalidShape ?ty_InvalidShape ?kc_InvalidShape ?hd_InvalidShape ?ga_InvalidShape ?gg_InvalidShape ?ss_InvalidShape ?ca_InvalidShape ?cn_InvalidShape ?ct_InvalidShape ?cm_InvalidShape ?kit_ValueError_InvalidShape ?na_part_InvalidShape ?m_InvalidShape__init ?ti_InvalidShape__init ?l_InvalidShape__init ?c_InvalidShape__init ?k_InvalidShape__init ?a_InvalidElement ?xl_InvalidElement ?sa_InvalidElement ?ex_InvalidElement ?ty_InvalidElement ?kc_InvalidElement ?hd_InvalidElement ?ga_InvalidElement ?gg_InvalidElement ?ss_InvalidElement ?ca_InvalidElement ?cn_InvalidElement ?ct_InvalidElement ?cm_InvalidElement ?kit_ValueError_InvalidElement ?na_value_InvalidElement ?m_InvalidElement__init ?ti_InvalidElement__init ?l_InvalidElement__init ?c_InvalidElement__init ?k_InvalidElement__init ?a_InvalidNumber ?xl_InvalidNumber ?sa_InvalidNumber ?ex_InvalidNumber ?ty_InvalidNumber ?kc_InvalidNumber ?hd_InvalidNumber ?ga_InvalidNumber ?gg_InvalidNumber ?ss_InvalidNumber ?ca_InvalidNumber ?cn_InvalidNumber ?ct_InvalidNumber ?cm_InvalidNumber ?kit_ValueError_InvalidNumber ?na_value_InvalidNumber ?m_InvalidNumber__init ?ti_InvalidNumber__init ?l_InvalidNumber__init ?c_InvalidNumber__init ?k_InvalidNumber__init ?a_InvalidSize ?xl_InvalidSize ?sa_InvalidSize ?ex_InvalidSize ?ty_InvalidSize ?kc_InvalidSize ?hd_InvalidSize ?ga_InvalidSize ?gg_InvalidSize ?ss_InvalidSize ?ca_InvalidSize ?cn_InvalidSize ?ct_InvalidSize ?cm_InvalidSize ?kit_ValueError_InvalidSize ?na_value_InvalidSize ?m_InvalidSize__init ?ti_InvalidSize__init ?l_InvalidSize__init ?c_InvalidSize__init ?k_InvalidSize__init ?a_Undefined ?xl_Undefined ?sa_Undefined ?ex_Undefined ?ty_Undefined ?kc_Undefined ?hd_Undefined ?ga_Undefined ?gg_Undefined ?ss_Undefined ?ca_Undefined ?cn_Undefined ?ct_Undefined ?cm_Undefined ?kit_LookupError_Undefined ?na_value_Undefined ?m_Undefined__init ?ti_Undefined__init ?l_Undefined__init ?c_Undefined__init ?k_Undefined__init ?stop_IN ?z_isinstance ?z_int ?z_bool ?z_dict ?z_len ?z_range ?z_list ?z_tuple ?z_max ?z_min ?z_sum ?z_all ?z_sorted ?z_abs ?z_enumerate ?z_repr ?z_zip ?z_ValueError ?z_LookupError ?v_MAX_SIZE ?v_MAX_PARTS ?v_MAX_NUMBER ?v_MAX_DEGREE ?kit_x_Shape_Map ?te_InvalidNumber_InvalidElement ?te_InvalidSize_InvalidElement ?te_Undefined_InvalidElement ?te_InvalidElement_InvalidNumber ?te_InvalidSize_InvalidNumber ?te_Undefined_InvalidNumber ?te_InvalidElement_InvalidSize ?te_InvalidNumber_InvalidSize ?te_Undefined_InvalidSize ?te_InvalidElement_Undefined ?te_InvalidNumber_Undefined ?te_InvalidSize_Undefined
    (case a_is_integer => as_aux_lemma => k_is)
    (case l_is_integer => as_aux_lemma => k_is)
    (case c_is_integer => as_aux_lemma => k_is)
    (case k_is_integer => as_aux_lemma => k_is)
    (case a_in_range => as_aux_lemma => k_is)
    (case l_in_range => as_aux_lemma => k_is)
    (case c_in_range => as_aux_lemma => k_is)
    (case k_in_range => as_aux_lemma => k_is)
    (case a_check_size => as_aux_lemma => k_is)
    (case l_check_size => as_aux_lemma => k_is)
    (case c_check_size => as_aux_lemma => k_is)
    (case k_check_size => as_aux_lemma => k_is)
    (case a_check_elements => as_aux_lemma => k_is)
    (case l_check_elements => as_aux_lemma => k_is)
    (case c_check_elements => as_aux_lemma => k_is)
    (case k_check_elements => as_aux_lemma => k_is)
    (case a_are_arrows => as_aux_lemma => k_is)
    (case l_are_arrows => as_aux_lemma => k_is)
    (case c_are_arrows => as_aux_lemma => k_is)
    (case k_are_arrows => as_aux_lemma => k_is)
    (case a_row_from => as_aux_lemma => k_is)
    (case l_row_from => as_aux_lemma => k_is)
    (case c_row_from => as_aux_lemma => k_is)
    (case k_row_from => as_aux_lemma => k_is)
    (case a_moved => as_aux_lemma => k_is)
    (case l_moved => as_aux_lemma => k_is)
    (case c_moved => as_aux_lemma => k_is)
    (case k_moved => as_aux_lemma => k_is)
    (case a_check_map => as_aux_lemma => k_is)
    (case l_check_map => as_aux_lemma => k_is)
    (case c_check_map => as_aux_lemma => k_is)
    (case k_check_map => as_aux_lemma => k_is)
    (case a_are_counts => as_aux_lemma => k_is)
    (case l_are_counts => as_aux_lemma => k_is)
    (case c_are_counts => as_aux_lemma => k_is)
    (case k_are_counts => as_aux_lemma => k_is)
    (case a_ordered => as_aux_lemma => k_is)
    (case l_ordered => as_aux_lemma => k_is)
    (case c_ordered => as_aux_lemma => k_is)
    (case k_ordered => as_aux_lemma => k_is)
    (case a_check_shape => as_aux_lemma => k_is)
    (case l_check_shape => as_aux_lemma => k_is)
    (case c_check_shape => as_aux_lemma => k_is)
    (case k_check_shape => as_aux_lemma => k_is)
    (case a_are_lengths => as_aux_lemma => k_is)
    (case l_are_lengths => as_aux_lemma => k_is)
    (case c_are_lengths => as_aux_lemma => k_is)
    (case k_are_lengths => as_aux_lemma => k_is)
    (case a_fate => as_aux_lemma => k_is)
    (case l_fate => as_aux_lemma => k_is)
    (case c_fate => as_aux_lemma => k_is)
    (case k_fate => as_aux_lemma => k_is)
    (case a_count_extensions => as_aux_lemma => k_is)
    (case l_count_extensions => as_aux_lemma => k_is)
    (case c_count_extensions => as_aux_lemma => k_is)
    (case k_count_extensions => as_aux_lemma => k_is)
    (case a_check_degree => as_aux_lemma => k_is)
    (case l_check_degree => as_aux_lemma => k_is)
    (case c_check_degree => as_aux_lemma => k_is)
    (case k_check_degree => as_aux_lemma => k_is)
    (case a_root => as_aux_lemma => k_is)
    (case l_root => as_aux_lemma => k_is)
    (case c_root => as_aux_lemma => k_is)
    (case k_root => as_aux_lemma => k_is)
    (case a_is_root => as_aux_lemma => k_is)
    (case l_is_root => as_aux_lemma => k_is)
    (case c_is_root => as_aux_lemma => k_is)
    (case k_is_root => as_aux_lemma => k_is)
    (case a_obstacle => as_aux_lemma => k_is)
    (case l_obstacle => as_aux_lemma => k_is)
    (case c_obstacle => as_aux_lemma => k_is)
    (case k_obstacle => as_aux_lemma => k_is)
    (case a_is_obstacle => as_aux_lemma => k_is)
    (case l_is_obstacle => as_aux_lemma => k_is)
    (case c_is_obstacle => as_aux_lemma => k_is)
    (case k_is_obstacle => as_aux_lemma => k_is)
    (case a_count_roots => as_aux_lemma => k_is)
    (case l_count_roots => as_aux_lemma => k_is)
    (case c_count_roots => as_aux_lemma => k_is)
    (case k_count_roots => as_aux_lemma => k_is)
    (case a_roots => as_aux_lemma => k_is)
    (case l_roots => as_aux_lemma => k_is)
    (case c_roots => as_aux_lemma => k_is)
    (case k_roots => as_aux_lemma => k_is)
    (case a_has_root => as_aux_lemma => k_is)
    (case l_has_root => as_aux_lemma => k_is)
    (case c_has_root => as_aux_lemma => k_is)
    (case k_has_root => as_aux_lemma => k_is)
    (case a_l_hand => as_aux_lemma => k_is)
    (case l_l_hand => as_aux_lemma => k_is)
    (case c_l_hand => as_aux_lemma => k_is)
    (case k_l_hand => as_aux_lemma => k_is)
    (case a_l_draw => as_aux_lemma => k_is)
    (case l_l_draw => as_aux_lemma => k_is)
    (case c_l_draw => as_aux_lemma => k_is)
    (case k_l_draw => as_aux_lemma => k_is)
    (case a_l_roots => as_aux_lemma => k_is)
    (case l_l_roots => as_aux_lemma => k_is)
    (case c_l_roots => as_aux_lemma => k_is)
    (case k_l_roots => as_aux_lemma => k_is)
    (case a_l_called => as_aux_lemma => k_is)
    (case l_l_called => as_aux_lemma => k_is)
    (case c_l_called => as_aux_lemma => k_is)
    (case k_l_called => as_aux_lemma => k_is)
    (case a_l_kept => as_aux_lemma => k_is)
    (case l_l_kept => as_aux_lemma => k_is)
    (case c_l_kept => as_aux_lemma => k_is)
    (case k_l_kept => as_aux_lemma => k_is)
    (case a_law => as_aux_lemma => k_is)
    (case l_law => as_aux_lemma => k_is)
    (case c_law => as_aux_lemma => k_is)
    (case k_law => as_aux_lemma => k_is)
    (case a_Shape => as_aux_lemma => k_is)
    (case pg_Shape => as_aux_lemma => k_is)
    (case hd_Shape => as_aux_lemma => k_is)
    (case po_Shape => as_aux_lemma => k_is)
    (case sa_Shape => as_aux_lemma => k_is)
    (case sf_Shape => as_aux_lemma => k_is)
    (case ca_Shape => as_aux_lemma => k_is)
    (case cn_Shape => as_aux_lemma => k_is)
    (case ct_Shape => as_aux_lemma => k_is)
    (case cm_Shape => as_aux_lemma => k_is)
    (case kc_Shape => as_aux_lemma => k_is)
    (case kit_int_Shape => as_aux_lemma => kernel_rfl)
    (case kit_bool_Shape => as_aux_lemma => kernel_rfl)
    (case kn_NoneType_Shape => as_aux_lemma => kernel_rfl)
    (case nf_NoneType_Shape => as_aux_lemma => kernel_rfl)
    (case kn_int_Shape => as_aux_lemma => kernel_rfl)
    (case nf_int_Shape => as_aux_lemma => kernel_rfl)
    (case kn_bool_Shape => as_aux_lemma => kernel_rfl)
    (case nf_bool_Shape => as_aux_lemma => kernel_rfl)
    (case kn_str_Shape => as_aux_lemma => kernel_rfl)
    (case nf_str_Shape => as_aux_lemma => kernel_rfl)
    (case kn_list_Shape => as_aux_lemma => kernel_rfl)
    (case nf_list_Shape => as_aux_lemma => kernel_rfl)
    (case kn_dict_Shape => as_aux_lemma => kernel_rfl)
    (case nf_dict_Shape => as_aux_lemma => kernel_rfl)
    (case kn_tuple_Shape => as_aux_lemma => kernel_rfl)
    (case nf_tuple_Shape => as_aux_lemma => kernel_rfl)
    (case self_Shape => as_aux_lemma => kernel_rfl)
    (case na_own_cycles_Shape => as_aux_lemma => k_is)
    (case na_own_chains_Shape => as_aux_lemma => k_is)
    (case m_Shape__init => as_aux_lemma => k_is)
    (case i_Shape__init => as_aux_lemma => k_is)
    (case l_Shape__init => as_aux_lemma => k_is)
    (case c_Shape__init => as_aux_lemma => k_is)
    (case k_Shape__init => as_aux_lemma => k_is)
    (case mk_Shape => as_aux_lemma => k_is)
    (case m_Shape_power => as_aux_lemma => k_is)
    (case i_Shape_power => as_aux_lemma => k_is)
    (case l_Shape_power => as_aux_lemma => k_is)
    (case c_Shape_power => as_aux_lemma => k_is)
    (case k_Shape_power => as_aux_lemma => k_is)
    (case a_GreatMap => as_aux_lemma => k_is)
    (case pg_GreatMap => as_aux_lemma => k_is)
    (case hd_GreatMap => as_aux_lemma => k_is)
    (case po_GreatMap => as_aux_lemma => k_is)
    (case sa_GreatMap => as_aux_lemma => k_is)
    (case sf_GreatMap => as_aux_lemma => k_is)
    (case ca_GreatMap => as_aux_lemma => k_is)
    (case cn_GreatMap => as_aux_lemma => k_is)
    (case ct_GreatMap => as_aux_lemma => k_is)
    (case cm_GreatMap => as_aux_lemma => k_is)
    (case kc_GreatMap => as_aux_lemma => k_is)
    (case kit_int_GreatMap => as_aux_lemma => kernel_rfl)
    (case kit_bool_GreatMap => as_aux_lemma => kernel_rfl)
    (case kit_list_GreatMap => as_aux_lemma => kernel_rfl)
    (case kit_tuple_GreatMap => as_aux_lemma => kernel_rfl)
    (case kn_NoneType_GreatMap => as_aux_lemma => kernel_rfl)
    (case nf_NoneType_GreatMap => as_aux_lemma => kernel_rfl)
    (case kn_int_GreatMap => as_aux_lemma => kernel_rfl)
    (case nf_int_GreatMap => as_aux_lemma => kernel_rfl)
    (case kn_bool_GreatMap => as_aux_lemma => kernel_rfl)
    (case nf_bool_GreatMap => as_aux_lemma => kernel_rfl)
    (case kn_str_GreatMap => as_aux_lemma => kernel_rfl)
    (case nf_str_GreatMap => as_aux_lemma => kernel_rfl)
    (case kn_list_GreatMap => as_aux_lemma => kernel_rfl)
    (case nf_list_GreatMap => as_aux_lemma => kernel_rfl)
    (case kn_dict_GreatMap => as_aux_lemma => kernel_rfl)
    (case nf_dict_GreatMap => as_aux_lemma => kernel_rfl)
    (case kn_tuple_GreatMap => as_aux_lemma => kernel_rfl)
    (case nf_tuple_GreatMap => as_aux_lemma => kernel_rfl)
    (case self_GreatMap => as_aux_lemma => kernel_rfl)
    (case na_own_cycles_GreatMap => as_aux_lemma => k_is)
    (case na_own_chains_GreatMap => as_aux_lemma => k_is)
    (case m_GreatMap__init => as_aux_lemma => k_is)
    (case i_GreatMap__init => as_aux_lemma => k_is)
    (case l_GreatMap__init => as_aux_lemma => k_is)
    (case c_GreatMap__init => as_aux_lemma => k_is)
    (case k_GreatMap__init => as_aux_lemma => k_is)
    (case mk_GreatMap => as_aux_lemma => k_is)
    (case m_GreatMap_length_at => as_aux_lemma => k_is)
    (case i_GreatMap_length_at => as_aux_lemma => k_is)
    (case l_GreatMap_length_at => as_aux_lemma => k_is)
    (case c_GreatMap_length_at => as_aux_lemma => k_is)
    (case k_GreatMap_length_at => as_aux_lemma => k_is)
    (case m_GreatMap_after => as_aux_lemma => k_is)
    (case i_GreatMap_after => as_aux_lemma => k_is)
    (case l_GreatMap_after => as_aux_lemma => k_is)
    (case c_GreatMap_after => as_aux_lemma => k_is)
    (case k_GreatMap_after => as_aux_lemma => k_is)
    (case a_Map => as_aux_lemma => k_is)
    (case pg_Map => as_aux_lemma => k_is)
    (case hd_Map => as_aux_lemma => k_is)
    (case po_Map => as_aux_lemma => k_is)
    (case sa_Map => as_aux_lemma => k_is)
    (case sf_Map => as_aux_lemma => k_is)
    (case ca_Map => as_aux_lemma => k_is)
    (case cn_Map => as_aux_lemma => k_is)
    (case ct_Map => as_aux_lemma => k_is)
    (case cm_Map => as_aux_lemma => k_is)
    (case kc_Map => as_aux_lemma => k_is)
    (case kit_int_Map => as_aux_lemma => kernel_rfl)
    (case kit_bool_Map => as_aux_lemma => kernel_rfl)
    (case kn_NoneType_Map => as_aux_lemma => kernel_rfl)
    (case nf_NoneType_Map => as_aux_lemma => kernel_rfl)
    (case kn_int_Map => as_aux_lemma => kernel_rfl)
    (case nf_int_Map => as_aux_lemma => kernel_rfl)
    (case kn_bool_Map => as_aux_lemma => kernel_rfl)
    (case nf_bool_Map => as_aux_lemma => kernel_rfl)
    (case kn_str_Map => as_aux_lemma => kernel_rfl)
    (case nf_str_Map => as_aux_lemma => kernel_rfl)
    (case kn_list_Map => as_aux_lemma => kernel_rfl)
    (case nf_list_Map => as_aux_lemma => kernel_rfl)
    (case kn_dict_Map => as_aux_lemma => kernel_rfl)
    (case nf_dict_Map => as_aux_lemma => kernel_rfl)
    (case kn_tuple_Map => as_aux_lemma => kernel_rfl)
    (case nf_tuple_Map => as_aux_lemma => kernel_rfl)
    (case self_Map => as_aux_lemma => kernel_rfl)
    (case na_own_size_Map => as_aux_lemma => k_is)
    (case na_own_arrows_Map => as_aux_lemma => k_is)
    (case m_Map__init => as_aux_lemma => k_is)
    (case i_Map__init => as_aux_lemma => k_is)
    (case l_Map__init => as_aux_lemma => k_is)
    (case c_Map__init => as_aux_lemma => k_is)
    (case k_Map__init => as_aux_lemma => k_is)
    (case mk_Map => as_aux_lemma => k_is)
    (case rd_Map => as_aux_lemma => k_is)
    (case ga_Map => as_aux_lemma => k_is)
    (case at_Map_identity => as_aux_lemma => k_is)
    (case rc_Map_identity => as_aux_lemma => k_is)
    (case fi_Map_identity => as_aux_lemma => k_is)
    (case l_Map_identity => as_aux_lemma => k_is)
    (case c_Map_identity => as_aux_lemma => k_is)
    (case k_Map_identity => as_aux_lemma => k_is)
    (case at_Map_empty => as_aux_lemma => k_is)
    (case rc_Map_empty => as_aux_lemma => k_is)
    (case fi_Map_empty => as_aux_lemma => k_is)
    (case l_Map_empty => as_aux_lemma => k_is)
    (case c_Map_empty => as_aux_lemma => k_is)
    (case k_Map_empty => as_aux_lemma => k_is)
    (case at_Map_chain => as_aux_lemma => k_is)
    (case rc_Map_chain => as_aux_lemma => k_is)
    (case fi_Map_chain => as_aux_lemma => k_is)
    (case l_Map_chain => as_aux_lemma => k_is)
    (case c_Map_chain => as_aux_lemma => k_is)
    (case k_Map_chain => as_aux_lemma => k_is)
    (case at_Map_cycle => as_aux_lemma => k_is)
    (case rc_Map_cycle => as_aux_lemma => k_is)
    (case fi_Map_cycle => as_aux_lemma => k_is)
    (case l_Map_cycle => as_aux_lemma => k_is)
    (case c_Map_cycle => as_aux_lemma => k_is)
    (case k_Map_cycle => as_aux_lemma => k_is)
    (case at_Map_swap => as_aux_lemma => k_is)
    (case rc_Map_swap => as_aux_lemma => k_is)
    (case fi_Map_swap => as_aux_lemma => k_is)
    (case l_Map_swap => as_aux_lemma => k_is)
    (case c_Map_swap => as_aux_lemma => k_is)
    (case k_Map_swap => as_aux_lemma => k_is)
    (case m_Map_size => as_aux_lemma => k_is)
    (case s_get_Map_size => as_aux_lemma => k_is)
    (case tk_Map_size => as_aux_lemma => k_is)
    (case rc_Map_size => as_aux_lemma => k_is)
    (case l_Map_size => as_aux_lemma => k_is)
    (case c_Map_size => as_aux_lemma => k_is)
    (case k_Map_size => as_aux_lemma => k_is)
    (case m_Map_arrows => as_aux_lemma => k_is)
    (case s_get_Map_arrows => as_aux_lemma => k_is)
    (case tk_Map_arrows => as_aux_lemma => k_is)
    (case rc_Map_arrows => as_aux_lemma => k_is)
    (case l_Map_arrows => as_aux_lemma => k_is)
    (case c_Map_arrows => as_aux_lemma => k_is)
    (case k_Map_arrows => as_aux_lemma => k_is)
    (case m_Map_power => as_aux_lemma => k_is)
    (case i_Map_power => as_aux_lemma => k_is)
    (case l_Map_power => as_aux_lemma => k_is)
    (case c_Map_power => as_aux_lemma => k_is)
    (case k_Map_power => as_aux_lemma => k_is)
    (case m_Map__getitem => as_aux_lemma => k_is)
    (case i_Map__getitem => as_aux_lemma => k_is)
    (case l_Map__getitem => as_aux_lemma => k_is)
    (case c_Map__getitem => as_aux_lemma => k_is)
    (case k_Map__getitem => as_aux_lemma => k_is)
    (case fi_Map__getitem => as_aux_lemma => k_is)
    (case m_Map_is_source => as_aux_lemma => k_is)
    (case i_Map_is_source => as_aux_lemma => k_is)
    (case l_Map_is_source => as_aux_lemma => k_is)
    (case c_Map_is_source => as_aux_lemma => k_is)
    (case k_Map_is_source => as_aux_lemma => k_is)
    (case a_InvalidMap => as_aux_lemma => k_is)
    (case xl_InvalidMap => as_aux_lemma => k_is)
    (case sa_InvalidMap => as_aux_lemma => k_is)
    (case ex_InvalidMap => as_aux_lemma => k_is)
    (case ty_InvalidMap => as_aux_lemma => k_is)
    (case kc_InvalidMap => as_aux_lemma => k_is)
    (case hd_InvalidMap => as_aux_lemma => k_is)
    (case ga_InvalidMap => as_aux_lemma => k_is)
    (case gg_InvalidMap => as_aux_lemma => k_is)
    (case ss_InvalidMap => as_aux_lemma => k_is)
    (case ca_InvalidMap => as_aux_lemma => k_is)
    (case cn_InvalidMap => as_aux_lemma => k_is)
    (case ct_InvalidMap => as_aux_lemma => k_is)
    (case cm_InvalidMap => as_aux_lemma => k_is)
    (case kit_ValueError_InvalidMap => as_aux_lemma => kernel_rfl)
    (case na_part_InvalidMap => as_aux_lemma => k_is)
    (case m_InvalidMap__init => as_aux_lemma => k_is)
    (case ti_InvalidMap__init => as_aux_lemma => k_is)
    (case l_InvalidMap__init => as_aux_lemma => k_is)
    (case c_InvalidMap__init => as_aux_lemma => k_is)
    (case k_InvalidMap__init => as_aux_lemma => k_is)
    (case a_InvalidShape => as_aux_lemma => k_is)
    (case xl_InvalidShape => as_aux_lemma => k_is)
    (case sa_InvalidShape => as_aux_lemma => k_is)
    (case ex_InvalidShape => as_aux_lemma => k_is)
    (case ty_InvalidShape => as_aux_lemma => k_is)
    (case kc_InvalidShape => as_aux_lemma => k_is)
    (case hd_InvalidShape => as_aux_lemma => k_is)
    (case ga_InvalidShape => as_aux_lemma => k_is)
    (case gg_InvalidShape => as_aux_lemma => k_is)
    (case ss_InvalidShape => as_aux_lemma => k_is)
    (case ca_InvalidShape => as_aux_lemma => k_is)
    (case cn_InvalidShape => as_aux_lemma => k_is)
    (case ct_InvalidShape => as_aux_lemma => k_is)
    (case cm_InvalidShape => as_aux_lemma => k_is)
    (case kit_ValueError_InvalidShape => as_aux_lemma => kernel_rfl)
    (case na_part_InvalidShape => as_aux_lemma => k_is)
    (case m_InvalidShape__init => as_aux_lemma => k_is)
    (case ti_InvalidShape__init => as_aux_lemma => k_is)
    (case l_InvalidShape__init => as_aux_lemma => k_is)
    (case c_InvalidShape__init => as_aux_lemma => k_is)
    (case k_InvalidShape__init => as_aux_lemma => k_is)
    (case a_InvalidElement => as_aux_lemma => k_is)
    (case xl_InvalidElement => as_aux_lemma => k_is)
    (case sa_InvalidElement => as_aux_lemma => k_is)
    (case ex_InvalidElement => as_aux_lemma => k_is)
    (case ty_InvalidElement => as_aux_lemma => k_is)
    (case kc_InvalidElement => as_aux_lemma => k_is)
    (case hd_InvalidElement => as_aux_lemma => k_is)
    (case ga_InvalidElement => as_aux_lemma => k_is)
    (case gg_InvalidElement => as_aux_lemma => k_is)
    (case ss_InvalidElement => as_aux_lemma => k_is)
    (case ca_InvalidElement => as_aux_lemma => k_is)
    (case cn_InvalidElement => as_aux_lemma => k_is)
    (case ct_InvalidElement => as_aux_lemma => k_is)
    (case cm_InvalidElement => as_aux_lemma => k_is)
    (case kit_ValueError_InvalidElement => as_aux_lemma => kernel_rfl)
    (case na_value_InvalidElement => as_aux_lemma => k_is)
    (case m_InvalidElement__init => as_aux_lemma => k_is)
    (case ti_InvalidElement__init => as_aux_lemma => k_is)
    (case l_InvalidElement__init => as_aux_lemma => k_is)
    (case c_InvalidElement__init => as_aux_lemma => k_is)
    (case k_InvalidElement__init => as_aux_lemma => k_is)
    (case a_InvalidNumber => as_aux_lemma => k_is)
    (case xl_InvalidNumber => as_aux_lemma => k_is)
    (case sa_InvalidNumber => as_aux_lemma => k_is)
    (case ex_InvalidNumber => as_aux_lemma => k_is)
    (case ty_InvalidNumber => as_aux_lemma => k_is)
    (case kc_InvalidNumber => as_aux_lemma => k_is)
    (case hd_InvalidNumber => as_aux_lemma => k_is)
    (case ga_InvalidNumber => as_aux_lemma => k_is)
    (case gg_InvalidNumber => as_aux_lemma => k_is)
    (case ss_InvalidNumber => as_aux_lemma => k_is)
    (case ca_InvalidNumber => as_aux_lemma => k_is)
    (case cn_InvalidNumber => as_aux_lemma => k_is)
    (case ct_InvalidNumber => as_aux_lemma => k_is)
    (case cm_InvalidNumber => as_aux_lemma => k_is)
    (case kit_ValueError_InvalidNumber => as_aux_lemma => kernel_rfl)
    (case na_value_InvalidNumber => as_aux_lemma => k_is)
    (case m_InvalidNumber__init => as_aux_lemma => k_is)
    (case ti_InvalidNumber__init => as_aux_lemma => k_is)
    (case l_InvalidNumber__init => as_aux_lemma => k_is)
    (case c_InvalidNumber__init => as_aux_lemma => k_is)
    (case k_InvalidNumber__init => as_aux_lemma => k_is)
    (case a_InvalidSize => as_aux_lemma => k_is)
    (case xl_InvalidSize => as_aux_lemma => k_is)
    (case sa_InvalidSize => as_aux_lemma => k_is)
    (case ex_InvalidSize => as_aux_lemma => k_is)
    (case ty_InvalidSize => as_aux_lemma => k_is)
    (case kc_InvalidSize => as_aux_lemma => k_is)
    (case hd_InvalidSize => as_aux_lemma => k_is)
    (case ga_InvalidSize => as_aux_lemma => k_is)
    (case gg_InvalidSize => as_aux_lemma => k_is)
    (case ss_InvalidSize => as_aux_lemma => k_is)
    (case ca_InvalidSize => as_aux_lemma => k_is)
    (case cn_InvalidSize => as_aux_lemma => k_is)
    (case ct_InvalidSize => as_aux_lemma => k_is)
    (case cm_InvalidSize => as_aux_lemma => k_is)
    (case kit_ValueError_InvalidSize => as_aux_lemma => kernel_rfl)
    (case na_value_InvalidSize => as_aux_lemma => k_is)
    (case m_InvalidSize__init => as_aux_lemma => k_is)
    (case ti_InvalidSize__init => as_aux_lemma => k_is)
    (case l_InvalidSize__init => as_aux_lemma => k_is)
    (case c_InvalidSize__init => as_aux_lemma => k_is)
    (case k_InvalidSize__init => as_aux_lemma => k_is)
    (case a_Undefined => as_aux_lemma => k_is)
    (case xl_Undefined => as_aux_lemma => k_is)
    (case sa_Undefined => as_aux_lemma => k_is)
    (case ex_Undefined => as_aux_lemma => k_is)
    (case ty_Undefined => as_aux_lemma => k_is)
    (case kc_Undefined => as_aux_lemma => k_is)
    (case hd_Undefined => as_aux_lemma => k_is)
    (case ga_Undefined => as_aux_lemma => k_is)
    (case gg_Undefined => as_aux_lemma => k_is)
    (case ss_Undefined => as_aux_lemma => k_is)
    (case ca_Undefined => as_aux_lemma => k_is)
    (case cn_Undefined => as_aux_lemma => k_is)
    (case ct_Undefined => as_aux_lemma => k_is)
    (case cm_Undefined => as_aux_lemma => k_is)
    (case kit_LookupError_Undefined => as_aux_lemma => kernel_rfl)
    (case na_value_Undefined => as_aux_lemma => k_is)
    (case m_Undefined__init => as_aux_lemma => k_is)
    (case ti_Undefined__init => as_aux_lemma => k_is)
    (case l_Undefined__init => as_aux_lemma => k_is)
    (case c_Undefined__init => as_aux_lemma => k_is)
    (case k_Undefined__init => as_aux_lemma => k_is)
    (case stop_IN => as_aux_lemma => k_is)
    (case z_isinstance => as_aux_lemma => k_is)
    (case z_int => as_aux_lemma => k_is)
    (case z_bool => as_aux_lemma => k_is)
    (case z_dict => as_aux_lemma => k_is)
    (case z_len => as_aux_lemma => k_is)
    (case z_range => as_aux_lemma => k_is)
    (case z_list => as_aux_lemma => k_is)
    (case z_tuple => as_aux_lemma => k_is)
    (case z_max => as_aux_lemma => k_is)
    (case z_min => as_aux_lemma => k_is)
    (case z_sum => as_aux_lemma => k_is)
    (case z_all => as_aux_lemma => k_is)
    (case z_sorted => as_aux_lemma => k_is)
    (case z_abs => as_aux_lemma => k_is)
    (case z_enumerate => as_aux_lemma => k_is)
    (case z_repr => as_aux_lemma => k_is)
    (case z_zip => as_aux_lemma => k_is)
    (case z_ValueError => as_aux_lemma => k_is)
    (case z_LookupError => as_aux_lemma => k_is)
    (case v_MAX_SIZE => as_aux_lemma => k_is)
    (case v_MAX_PARTS => as_aux_lemma => k_is)
    (case v_MAX_NUMBER => as_aux_lemma => k_is)
    (case v_MAX_DEGREE => as_aux_lemma => k_is)
    (case kit_x_Shape_Map => as_aux_lemma => kernel_rfl)
    (case te_InvalidNumber_InvalidElement => as_aux_lemma => k_is)
    (case te_InvalidSize_InvalidElement => as_aux_lemma => k_is)
    (case te_Undefined_InvalidElement => as_aux_lemma => k_is)
    (case te_InvalidElement_InvalidNumber => as_aux_lemma => k_is)
    (case te_InvalidSize_InvalidNumber => as_aux_lemma => k_is)
    (case te_Undefined_InvalidNumber => as_aux_lemma => k_is)
    (case te_InvalidElement_InvalidSize => as_aux_lemma => k_is)
    (case te_InvalidNumber_InvalidSize => as_aux_lemma => k_is)
    (case te_Undefined_InvalidSize => as_aux_lemma => k_is)
    (case te_InvalidElement_Undefined => as_aux_lemma => k_is)
    (case te_InvalidNumber_Undefined => as_aux_lemma => k_is)
    (case te_InvalidSize_Undefined => as_aux_lemma => k_is)
