import PyProof.Rows.All
import Wide.All
import OpenK.AllK
import Wide.FinOn
import KE.OsRunLaw
import PySem.Challenge.RW_chainmaps_k05_error_classes
import HandS.ForMost
import HandS.ForExc
import HandS.IsInst
import HandS.More
import HandS.SlotsOwn
import HandS.Property
import HandS.ClsMeth
import HandS.DictComp
import HandS.Conv
import HandS.Walk
import HandS.NoneIn
import HandS.CallLocal
import HandS.Star
import HandS.ExcInit
import HandS.ExcField
import HandS.ExcIs
import KE.KExcInit
import KE.KExcIs
import HandS.WordsExc
import HandS.ListItems
import HandS.Style
import HandS.TryMany
import HandS.RaiseMore
import HandS.FStr
import HandS.HotCalls
import KE.KItemsList
import KE.KOpsOwn
import HandS.OwnEq
import HandS.Lambda
import HandS.EndTab
import KE.KNestM
import HandS.Deep
import HandS.Nested
import KE.KSuper
import HandS.TupMul
import KE.GoesMore
set_option Elab.async false
set_option linter.all false
set_option maxRecDepth 100000
set_option maxHeartbeats 4000000
section
local macro_rules | `(tactic| first | refine $t:term | fail $s:str) => do { let t2 ← t.raw.replaceM fun n => (do { if n.getKind == `Lean.Parser.Term.syntheticHole then { let nm := n[1].getId.eraseMacroScopes; if nm == `hl then { return some (← `(by exact $(Lean.mkIdent `x))) } else { if nm == `hw || nm == `hc then { return some (← `(by contradiction)) } else { return none } } } else { return none } }); `(tactic| refine $(⟨t2⟩)) }
open PySem PySem.W PyProof.Rows
set_option maxRecDepth 100000 in
set_option maxHeartbeats 0 in
def My.hlStmt : Prop := by
  refine' (fun (P : Prop) (_ : P → False → PySem.Challenge.rw_chainmaps_k05_error_classes.Holds) => P) _ ?h
  rotate_left
  intro x f
  w_on; o_law; k_headL
set_option maxRecDepth 100000 in
set_option maxHeartbeats 0 in
theorem My.hl : My.hlStmt := by
  refine HeadRun.left_oneK (by kernel_rfl) (by rfl) (fun s => by kernel_rfl) (Nat.ble_eq_true_of_le (Nat.le_refl _)) ?_
  intro w os
  kernel_rfl
end
namespace PySem.W
open PySem PySem.Calls PyProof.Rows
end PySem.W
namespace U
open PySem PySem.Spec PyProof.Rows L2
end U
namespace U
open PySem PySem.Spec PyProof.Rows L2 StX
/-! ### a def of the text, with how its arguments bind -/
structure FnAt (K : PySem.W.Frag) (x qual : Str) (st : Stmt) (f : Addr) (ps : List Str) : Prop where
  ex : ∃ fd, Fun K x qual st f fd ∧ Binds K fd ps []
theorem FnAt.kp {K : PySem.W.Frag} {x qual : Str} {st : Stmt} {f : Addr} {ps : List Str} (A : FnAt K x qual st f ps) : PySem.W.keepIn K (.ref f) = true := by
  obtain ⟨fd, F, _⟩ := A.ex
  exact F.kp
section
variable {P : Program} {w : World} {K : PySem.W.Frag} {mg : Str → Option Value} {base : Heap}
theorem FnAt.ok {x qual : Str} {st : Stmt} {f : Addr} {N ps : List Str} {k : Nat} {sp : Sp} (A : FnAt K x qual st f ps) (S : FnScope N ps (defScope st)) (len : ∀ vs H Q E, sp vs H Q E → vs.length = ps.length)
    (hbody : ∀ (cdv : Value) (A : Around) (outer : List Env) (s : Shared) (H : Hp) (vs : List V) (Q : VK) (E : XK), Room k (A.deeper (envOfC qual (defScope st) s.heap.objs.size f cdv)) → sp vs H Q E →
      ∃ t, PSs (cxOf CX0 P w K mg base N qual (defScope st) f cdv A outer s H E).nox (defBody st) t ∧ t { nx := fun _ H' => Q .non H', rt := Q } (start N vs) H) : FnR P w K mg base CX0 (k + 1) f sp := by
  obtain ⟨fd, F, B⟩ := A.ex
  have R := (F.ok (P := P) (w := w) (mg := mg) (base := base) S len hbody).raw B .nil
  exact R.imp fun vs H Q E h => by rw [List.append_nil]; exact h
end
section
variable {X : Cx} {CX : CXT} {k i : Nat} {f C p g a dx : Addr} {sp : Sp} {E : XK} {x fl : Str} {e o : Expr} {es : List Expr} {ta te tf : TE} {t : TA} {pp pos : Pos} {fs : List (Str × V)}
/-- x(e, ..), x a def of the module -/
def tCallR (sp : Sp) (E : XK) (t : TA) : TE := fun σ H Q => t σ H fun vs H1 => sp vs H1 Q E
theorem pe_callR (F : FnR X.prog X.w X.K X.mg X.base CX k f sp) (hr : Room k X.A) (hk : PySem.W.keepIn X.K (.ref f) = true) (hg : Gl X x) (hm : X.mg x = some (.ref f)) (hx : Passes CX X E) (ha : PA X (e :: es) t) (hdb : (x == ("__debug__" : Str)) = false := by decide)
    (he : starEach (e :: es) X.env = (false, eval e X.env) :: starEach es X.env := by rfl) (hpl : (backTo pos (starEach es X.env)).any (·.1) = false := by rfl) : PE X (.Call (.Name x pp) (e :: es) [] pos) (tCallR sp E t) := by
  refine ⟨fun pins s σ H Q I h => ?_⟩
  refine wpAny_Call_Name_kw (ld_glob I hg hm ?_ hdb)
  refine PySem.W.callWith_K (h₀ := X.base) I.ok.mod.kin hk (thn (ha.run pos pins s σ H _ I h) fun us s1 ⟨vs, H1, I1, r, q⟩ => ⟨I1.kIn, ?_⟩) he hpl
  exact wpAny_call (run_fnR F hr hx I1 r q)
end
theorem ifD {c : Prop} [Decidable c] {A B : Prop} (h1 : c → A) (h2 : ¬ c → B) : if decide c = true then A else B := by
  by_cases h : c
  · rw [if_pos (decide_eq_true h)]; exact h1 h
  · rw [if_neg (by simp [h])]; exact h2 h
end U
namespace U
open PySem PySem.Spec PyProof.Rows L2
/-- the ints' dicts compared -/
def dEq (ks ls : List (Key × V)) : Bool := ks.length == ls.length && ks.all fun p => decide (valV ls p.1 = some p.2)
def IntVals (ks : List (Key × V)) : Prop := ∀ p ∈ ks, ∃ i : Int, p.2 = .int i
section
variable {X : Cx}
def rNeD : R2 := fun x y H Q => ∃ a b ks ls, x = .ref a ∧ y = .ref b ∧ H a = some (.dK ks) ∧ H b = some (.dK ls) ∧ IntVals ks ∧ IntVals ls ∧ Q (.bl (!dEq ks ls)) H
end
end U
namespace U
open PySem PySem.Spec PyProof.Rows L2
/-! ### heaps -/
def Off (d : Addr) (H H' : Hp) : Prop := ∀ b o, b ≠ d → H b = some o → H' b = some o
theorem Same.new {H : Hp} {p : Addr} {o : HO} (h : H p = none) : L2.Same H (upd H p o) := fun b u e => by rw [upd_ne (ne_of_none e h)]; exact e
theorem Off.tr {d : Addr} {H H1 H2 : Hp} (a : Off d H H1) (b : Off d H1 H2) : Off d H H2 := fun c o hc e => b c o hc (a c o hc e)
theorem Off.lock {d : Addr} {H : Hp} {o : HO} : Off d H (upd H d o) := fun b u hb e => by rw [upd_ne hb]; exact e
theorem Off.free {d p : Addr} {H H' : Hp} {u : HO} (a : Off d H H') (hd : H' d = some u) (h : H' p = none) : H p = none := by
  cases e : H p with
  | none => rfl
  | some o =>
    by_cases hp : p = d
    · subst hp; rw [hd] at h; cases h
    · rw [a p o hp e] at h; cases h
/-! ### a dict of ints -/
def lk (l : List (Int × Int)) (x : Int) : Option Int := (l.find? fun p => decide (p.1 = x)).map (·.2)
end U
namespace U
open PySem PySem.Spec PyProof.Rows L2
end U
namespace U
open PySem PySem.Spec PyProof.Rows L2
end U
/-! ### own errors over any built-in error -/
namespace PySem
namespace GEX
open PySem.W PySem.Calls PyProof.Rows PySem.HandSPX Builtin Builtin.ObjectAttr
section
variable {prog : Program} {w : World} {A : Around} {E : Value → Shared → Prop} {R : Result → Shared → Prop} {hp : Heap} {gs : Array GenState} {dr : Drawn} {tn : Nat} {os : OsState}
/-- what is asked of the class's chain -/
structure Mro (m : List Value) : Prop where
  ob : m.contains (.type "object") = true
  ne : m.isEmpty = false
  ps : ∀ self : Value, refuseLoop self "__setattr__" m = pure ()
theorem mro_of {bmB bm : List Value} {B : String} (SF : StoreFacts B bmB "object.__setattr__" "object") (h : excTail bmB bm = true) (C : Addr) : Mro (.ref C :: bm) := by
  have h' : excTail bmB (.ref C :: bm) = true := h
  exact ⟨(excTail_contains "object" _ h').trans SF.hasOwner, rfl, fun self => excTail_pass self (SF.passes self) _ h'⟩
theorem osa_first {K : Frag} {nm : Str} {tk : Tok} {v : Value} {x C : Addr} {fv : Array Value} {cd : ClassData} (X : K.In hp) (hx : hp.get? x = some { cls := .ref C, data := .fields fv }) (hcd : clsIn K C = some cd) (hm : Mro cd.mro) (hh : cd.hasDict = true) (ha : findIn K (.ref C) nm = some none)
    (hq : ∀ h' tk' dx, (∀ b o, b ≠ x → hp.get? b = some o → h'.get? b = some o) → hp.objs.size ≤ dx → dx ≠ x → h'.get? x = some { cls := .ref C, dict := some dx, data := .fields fv } → h'.Ns1 dx (fun y => if y = nm then some v else none) → R (.ok (.ret .none)) ⟨h', gs, dr, tk', os⟩) :
    codeAny (model prog w) A (.call (.builtin "object.__setattr__") ⟨[.ref x, .str nm tk, v], []⟩) R ⟨hp, gs, dr, tn, os⟩ := by
  have I : InstAt hp x { cls := .ref C, data := .fields fv } C none := ⟨hx, rfl, rfl, trivial⟩
  have hxs : x ≠ hp.objs.size := Nat.ne_of_lt (Heap.lt_size hx)
  have S0 := F.store_object
  have l1 : Looks (model prog w) hp (isInstance (.ref x) (.type "object")) true := I.type.andThen (looks_mroIn X (by unfold mroIn; rw [hcd, Option.bind_some, if_neg (by rw [hm.ne]; decide), hm.ob]))
  refine codeAny_call_builtin S0.slot.plain S0.entry ?_
  refine @check_slot (model prog w) _ _ ⟨hp, gs, dr, tn, os⟩ "object.__setattr__" "object" "__setattr__" (.ref x) [.str nm tk, v] [] _ S0.kind S0.split l1 (S0.args (.ref x) (.str nm tk) v) ?_
  have l2 : Looks (model prog w) hp (mroOf (.ref C)) cd.mro := (looks_clsIn X hcd).andThen .now
  have l3 : Looks (model prog w) hp (storeTaker? none) none := .now
  have l4 : Looks (model prog w) hp (classData C) cd := looks_clsIn X hcd
  rw [osa_eq, refuse_eq]
  refine wpAny_bind (wpAny_bind (I.type.at (wpAny_bind (l2.at ?_)))); rw [hm.ps]
  refine wpAny_pure (wpAny_bind (I.type.at (wpAny_bind ((looks_findIn X ha).at (wpAny_bind (l3.at ?_))))))
  show wpAny _ _ (storeInOwnDict (.ref x) (.ref C) (.str nm tk) nm v false) _ _ _
  obtain ⟨c1, c2, c3, c4, c5, c6, c7, c8, c9, c10, c11⟩ := cd
  have hh' : c6 = true := hh
  subst hh'
  unfold storeInOwnDict ownDictForStores
  repeat (first | with_reducible refine HandSPX.store_in_new ?_ ?_ | with_reducible refine wpAny_loadPart_at hx ?_ | with_reducible refine l4.at ?_ | wp_step)
  · refine ⟨_, #[], _, (Heap.get?_update_ne _ _ _ _ hxs.symm).trans (Heap.get?_push_at rfl rfl), rfl, fun e he => ?_, fun _ => rfl⟩
    simp at he
  · intro h' tk' hn' hs
    have hx1 : (hp.push { cls := .type "dict", data := .dict #[] }).get? x = some { cls := .ref C, data := .fields fv } := Heap.get?_push_of_some _ hx
    exact hq h' tk' hp.objs.size (fun b o hb ho => (hs.2 b (Nat.ne_of_lt (Heap.lt_size ho))).trans ((Heap.get?_update_ne _ _ _ _ hb).trans (Heap.get?_push_of_some _ ho))) (Nat.le_refl _) hxs.symm ((hs.2 x hxs).trans (Heap.get?_update_self _ hx1 rfl)) hn'
theorem osa_more {K : Frag} {nm : Str} {tk : Tok} {v : Value} {x C dx : Addr} {fv : Array Value} {cd : ClassData} {m0 : Str → Option Value} {nl : List Str} (X : K.In hp) (hx : hp.get? x = some { cls := .ref C, dict := some dx, data := .fields fv }) (hns : hp.Ns1 dx m0) (hw : Within m0 nl) (hz : nl.length ≤ 1000) (hcd : clsIn K C = some cd) (hm : Mro cd.mro) (hh : cd.hasDict = true) (ha : findIn K (.ref C) nm = some none)
    (hq : ∀ h' tk', (∀ b o, b ≠ dx → hp.get? b = some o → h'.get? b = some o) → h'.Ns1 dx (fun y => if y = nm then some v else m0 y) → R (.ok (.ret .none)) ⟨h', gs, dr, tk', os⟩) :
    codeAny (model prog w) A (.call (.builtin "object.__setattr__") ⟨[.ref x, .str nm tk, v], []⟩) R ⟨hp, gs, dr, tn, os⟩ := by
  obtain ⟨oD, _, _, hoD, _, _⟩ := hns.count hw
  have I : InstAt hp x { cls := .ref C, dict := some dx, data := .fields fv } C (some oD) := ⟨hx, rfl, rfl, hoD⟩
  have S0 := F.store_object
  have l1 : Looks (model prog w) hp (isInstance (.ref x) (.type "object")) true := I.type.andThen (looks_mroIn X (by unfold mroIn; rw [hcd, Option.bind_some, if_neg (by rw [hm.ne]; decide), hm.ob]))
  refine codeAny_call_builtin S0.slot.plain S0.entry ?_
  refine @check_slot (model prog w) _ _ ⟨hp, gs, dr, tn, os⟩ "object.__setattr__" "object" "__setattr__" (.ref x) [.str nm tk, v] [] _ S0.kind S0.split l1 (S0.args (.ref x) (.str nm tk) v) ?_
  have l2 : Looks (model prog w) hp (mroOf (.ref C)) cd.mro := (looks_clsIn X hcd).andThen .now
  have l3 : Looks (model prog w) hp (storeTaker? none) none := .now
  have l4 : Looks (model prog w) hp (classData C) cd := looks_clsIn X hcd
  rw [osa_eq, refuse_eq]
  refine wpAny_bind (wpAny_bind (I.type.at (wpAny_bind (l2.at ?_)))); rw [hm.ps]
  refine wpAny_pure (wpAny_bind (I.type.at (wpAny_bind ((looks_findIn X ha).at (wpAny_bind (l3.at ?_))))))
  show wpAny _ _ (storeInOwnDict (.ref x) (.ref C) (.str nm tk) nm v false) _ _ _
  obtain ⟨c1, c2, c3, c4, c5, c6, c7, c8, c9, c10, c11⟩ := cd
  have hh' : c6 = true := hh
  subst hh'
  unfold storeInOwnDict ownDictForStores
  repeat (first | with_reducible refine OEX.store_in_old hns hw hz ?_ | with_reducible refine wpAny_loadPart_at hx ?_ | with_reducible refine l4.at ?_ | wp_step)
  intro h' tk' hn' hs
  exact hq h' tk' (fun b o hb ho => (hs.2 b hb).trans ho) hn'
end
end GEX
end PySem
namespace L2
open PySem PySem.Spec PyProof.Rows PySem.W
/-- what the written part says of an own error class -/
structure OexG (K : PySem.W.Frag) (C : Addr) : Prop where
  cls : ∃ B newId initId bmB nm q N bs bm sn sub ab col dd k0 k1 k2 k3 k5, PySem.StoreFacts B bmB "object.__setattr__" "object" ∧ ExcBaseFacts B newId initId bmB ∧ K.lookup C = some (excClassObj nm q C N bs bm true sn sub ab col dd k0 k1 k2 k3 k5 newId) ∧ PySem.W.excTail bmB bm = true
  sa : PySem.W.findIn K (.ref C) "__setattr__" = some (some (.builtin "object.__setattr__"))
  exC : PySem.W.subIn K (.ref C) (.type "BaseException") = some true
  tyC : PySem.W.typeIn K (.ref C) = some (.type "type")
  kC : PySem.W.keepIn K (.ref C) = true
section
variable {X : Cx} {pins : List (Addr × Obj)} {σ : St} {H : Hp} {s : Shared} {a C dx : Addr} {f : Str} {y : V} {u : Value} {fs : List (Str × V)} {Q : Unit → Shared → Prop} {E : Value → Shared → Prop} {A : Around}
theorem OexG.look {K : PySem.W.Frag} {C : Addr} (T : OexG K C) : ∃ cd, PySem.W.clsIn K C = some cd ∧ PySem.GEX.Mro cd.mro ∧ cd.hasDict = true := by
  obtain ⟨B, nI, iI, bmB, nm, q, N, bs, bm, sn, sub, ab, col, dd, k0, k1, k2, k3, k5, SF, _, hC, hb⟩ := T.cls
  refine ⟨{ name := nm, bases := bs, mro := .ref C :: bm, ns := N, qualname := q, hasDict := true, slotNames := sn, subclasses := sub, abstract := ab, collection := col, hasDel := false }, ?_, PySem.GEX.mro_of SF hb C, rfl⟩
  unfold PySem.W.clsIn
  rw [hC] <;> rfl
end
end L2
namespace U
open PySem PySem.Spec PyProof.Rows L2 StX
end U
namespace U
open PySem PySem.Spec PyProof.Rows L2 StX
end U
namespace U
open PySem PySem.Spec PyProof.Rows L2
/-! ### own errors with one or two fields -/
end U
namespace U
open PySem PySem.Spec PyProof.Rows L2
end U
namespace U
open PySem PySem.Spec PyProof.Rows L2 StX
/-! ### defs that are called where no repr runs around them -/
def FnG (P : Program) (w : World) (K : PySem.W.Frag) (mg : Str → Option Value) (base : Heap) (CX : CXT) (k : Nat) (f : Addr) (sp : Sp) : Prop :=
  ∀ (A : Around) (outer : List Env) (s : Shared) (H : Hp) (us : List Value) (vs : List V) (Q : VK) (E : XK), A.guards = some [] → Room k A → Env0 P w K mg base A outer s H → Vals vs us → sp vs H Q E → codeAny (model P w) A (.call (.ref f) ⟨us, []⟩) (CR CX outer P w H s Q E) s
section
variable {P : Program} {w : World} {K : PySem.W.Frag} {mg : Str → Option Value} {base : Heap} {CX : CXT} {j k : Nat} {f : Addr} {sp sp' : Sp}
theorem FnG.mono (F : FnG P w K mg base CX j f sp) (h : j ≤ k) : FnG P w K mg base CX k f sp := fun A outer s H us vs Q E g hr => F A outer s H us vs Q E g (hr.mono h)
theorem FnG.imp (F : FnG P w K mg base CX k f sp) (h : ∀ vs H Q E, sp' vs H Q E → sp vs H Q E) : FnG P w K mg base CX k f sp' := fun A outer s H us vs Q E g hr e0 r z => F A outer s H us vs Q E g hr e0 r (h _ _ _ _ z)
/-- the body's walk, with what is around -/
theorem bodyG {x qual : Str} {st : Stmt} {fd : FuncData} {N ps : List Str} (F : Fun K x qual st f fd) (S : FnScope N ps (defScope st)) (len : ∀ vs H Q E, sp vs H Q E → vs.length = ps.length)
    (hbody : ∀ (cdv : Value) (A : Around) (outer : List Env) (s : Shared) (H : Hp) (vs : List V) (Q : VK) (E : XK), A.guards = some [] → Room k (A.deeper (envOfC qual (defScope st) s.heap.objs.size f cdv)) → sp vs H Q E →
      ∃ t, PSs (cxOf CX P w K mg base N qual (defScope st) f cdv A outer s H E) (defBody st) t ∧ t { nx := fun _ H' => Q .non H', rt := Q } (start N vs) H)
    (A : Around) (outer : List Env) (s : Shared) (H : Hp) (args : Args) (us : List Value) (vs : List V) (Q : VK) (E : XK) (g : A.guards = some []) (hr : Room (k + 1) A) (e0 : Env0 P w K mg base A outer s H) (hb : BindsTo s fd args (ps.zip us)) (r : Vals vs us) (hs : sp vs H Q E) :
    codeAny (model P w) A (.call (.ref f) args) (CR CX outer P w H s Q E) s := by
  obtain ⟨oc, od, kV, doc, pm, an, cdv, ct, osl, rfl, lk, hcd⟩ := F.ex
  have hl := len _ _ _ _ hs
  have kin : K.In s.heap := e0.mod.kin.keeps fun b o e => (e0.bs b o e).1
  have lim : s.heap.NoLimit := e0.mod.nolimit.keeps fun b o e => (e0.bs b o e).1
  have names : ∀ y ∈ ps.zip us, (defScope st).names.lookup y.1 = some .local ∨ ((defScope st).names.lookup y.1 = some .cell ∧ ((cellsFrom (s.heap.objs.size + 1) (defScope st).names []).lookup y.1).isSome = true) := by
    rintro ⟨n, v⟩ hy
    rcases S.par n (List.of_mem_zip hy).1 with q | q
    · exact .inl q
    · exact .inr ⟨q, PySem.W.cellsFrom_some _ _ _ (.inl q)⟩
  refine codeAny_call_function hr.depth (kin _ _ lk) rfl S.co S.gen rfl (PySem.W.codeRec_of kin hcd) (hb _ _ _ _ ?_)
  refine wpAny_newFunctionEnv_cells S.kind names fun env he s1 z => ?_
  subst he
  refine ⟨lim.keeps z.toInCall.keep, codeAny_func ?_⟩
  obtain ⟨t, ht, hq⟩ := hbody cdv A outer s H vs Q E g (hr.deeper _) hs
  have I : Inv (cxOf CX P w K mg base N qual (defScope st) f cdv A outer s H E) [] (start N vs) H s1 := inv_start S hr.hd e0 hl r z
  refine wpAny_mono (ht.run [] s1 (start N vs) H _ I hq) (fun fl s' h' => ?_) fun _ _ h' => h'
  match fl, h' with
  | .ret u, ⟨v, σ', H', J, rv, q⟩ => exact ⟨v, H', J.os, J.bare, J.base, J.hok, rv, q⟩
  | .next, ⟨σ', H', J, q⟩ => exact ⟨.non, H', J.os, J.bare, J.base, J.hok, rfl, q⟩
  | .brk, ⟨_, _, _, q⟩ => exact q.elim
  | .cont, ⟨_, _, _, q⟩ => exact q.elim
theorem FnAt.okG {x qual : Str} {st : Stmt} {N ps : List Str} (B : FnAt K x qual st f ps) (S : FnScope N ps (defScope st)) (len : ∀ vs H Q E, sp vs H Q E → vs.length = ps.length)
    (hbody : ∀ (cdv : Value) (A : Around) (outer : List Env) (s : Shared) (H : Hp) (vs : List V) (Q : VK) (E : XK), A.guards = some [] → Room k (A.deeper (envOfC qual (defScope st) s.heap.objs.size f cdv)) → sp vs H Q E →
      ∃ t, PSs (cxOf CX0 P w K mg base N qual (defScope st) f cdv A outer s H E).nox (defBody st) t ∧ t { nx := fun _ H' => Q .non H', rt := Q } (start N vs) H) : FnG P w K mg base CX0 (k + 1) f sp := by
  obtain ⟨fd, F, bi⟩ := B.ex
  intro A outer s H us vs Q E g hr e0 r hs
  have hl : (us ++ []).length = ps.length := by rw [List.append_nil, ← r.length]; exact len _ _ _ _ hs
  refine bodyG F S len (fun cdv A outer s H vs Q E g hr hs => ?_) A outer s H ⟨us, []⟩ us vs Q E g hr e0 ?_ r hs
  · obtain ⟨t, h, q⟩ := hbody cdv A outer s H vs Q E g hr hs
    exact ⟨t, h.nox, q⟩
  · have := bi s us (e0.mod.kin.keeps fun b o e => (e0.bs b o e).1) hl
    rw [List.append_nil] at this
    exact this
end
end U
namespace U
open PySem PySem.Spec PyProof.Rows L2 StX
/-- what holds no other object -/
inductive Sc : V → PyData → Prop
  | non : Sc .non .none
  | bl (b : Bool) : Sc (.bl b) (.bool b)
  | int (i : Int) : Sc (.int i) (.int i)
  | str (x : Str) : Sc (.str x) (.str x)
def keyD : Key → PyData
  | .inl i => .int i
  | .inr x => .str x
theorem Sc.reads {h : Heap} {v : V} {d : PyData} {u : Value} (s : Sc v d) (r : RelV v u) : Reads h u d [] := by
  cases s with
  | non => cases r; exact .none
  | bl b => cases r; exact .bool b
  | int i => obtain ⟨t, rfl⟩ := r; exact .int i t
  | str x => obtain ⟨t, rfl⟩ := r; exact .str x t
theorem flat_reads {prog : Program} {w : World} {h : Heap} : ∀ {es : List DictEntry} {va : List (Key × Value)} {kvs : List (Key × V)} {ds : List PyData}, Pairs (mixKind prog w) es va → KV kvs va → Paired (fun kv d => Sc kv.2 d) kvs ds →
    ReadsAll h (es.map (·.key)) (kvs.map fun kv => keyD kv.1) [] ∧ ReadsAll h (es.map (·.val)) ds []
  | [], _, _, _, .nil, r, z => by
    cases r
    cases z
    exact ⟨.nil, .nil⟩
  | e :: es, _, _, _, .cons h1 h2 h3, r, z => by
    unfold KV at r
    cases r with
    | cons q r =>
      cases z with
      | cons zc z =>
        obtain ⟨g1, g2⟩ := flat_reads (h := h) h3 r z
        obtain ⟨q1, q2⟩ := q
        refine ⟨.cons (as := []) ?_ g1, .cons (as := []) ?_ g2⟩
        · show Reads h e.key (keyD _) []
          rw [q1]
          rcases keyIs_shape h1 with ⟨i, t, e1, e2⟩ | ⟨x, t, e1, e2⟩
          · rw [e1, e2]; exact .int i t
          · rw [e1, e2]; exact .str x t
        · show Reads h e.val _ []
          rw [h2]
          exact zc.reads q2
def flatD (kvs : List (Key × V)) (ds : List PyData) : PyData := .dict ((kvs.map fun kv => keyD kv.1).zip ds)
theorem dict_reads {X : Cx} {pins : List (Addr × Obj)} {σ : L2.St} {H : Hp} {s : Shared} {a : Addr} {kvs : List (Key × V)} {ds : List PyData} (I : Inv X pins σ H s) (ea : H a = some (.dK kvs)) (z : Paired (fun kv d => Sc kv.2 d) kvs ds) :
    ∃ as, Reads s.heap (.ref a) (flatD kvs ds) as ∧ sysModules ∉ as := by
  obtain ⟨_, ya, va, ra, o, es, ep, ho, hc, hd, _, hp, _⟩ := (show ObjOk X.prog X.w H s.heap a (.dK kvs) from I.hok a _ ea)
  obtain ⟨g1, g2⟩ := flat_reads (h := s.heap) hp ra z
  have lz : kvs.length = ds.length := Paired.length z
  have e1 : (((kvs.map fun kv => keyD kv.1).zip ds).map (·.1)) = kvs.map fun kv => keyD kv.1 := List.map_fst_zip (by rw [List.length_map, lz]; exact Nat.le_refl _)
  have e2 : (((kvs.map fun kv => keyD kv.1).zip ds).map (·.2)) = ds := List.map_snd_zip (by rw [List.length_map, lz]; exact Nat.le_refl _)
  refine ⟨a :: [] ++ [], .dict ho hc.1 hd (by rw [e1]; exact g1) (by rw [e2]; exact g2), ?_⟩
  simp only [List.append_nil, List.mem_singleton]
  intro e
  rw [← e] at ya
  simp at ya
end U
namespace U
open PySem PySem.Spec PyProof.Rows L2 StX
/-! ### the law's call, where no repr runs around it -/
section
variable {P : Program} {w : World} {K : PySem.W.Frag} {mg mb : Str → Option Value} {k : Nat} {fa sc : Addr} {sp : Sp} {s1 : Shared} {us : List Value} {ns : List Int}
/-- from an abstract heap that tracks at most the script -/
theorem law_core (inK : K.In s1.heap) (glob : s1.heap.Ns mainGlobals mg) (blt : s1.heap.Ns builtinsNs mb) (blt2 : ∀ x : Str, x ≠ "__name__" → mb x = bootBuiltins x) (lim : s1.heap.NoLimit) (gens : s1.gens = #[])
    (there : s1.heap.get? sc = some { cls := .type "list", data := .seq us.toArray }) (room : Room k callerA)
    (F : ∀ base : Heap, FnG P w K mg base CX0 k fa sp)
    (H : Hp) (only : Only H) (hok : HOk P w H s1.heap) (just : ∀ b, H b ≠ none → b = sc) (offK : H sc ≠ none → K.lookup sc = none)
    (prom : sp [.ref sc] H (fun v _ => v = .bl true) E0) :
    codeAny (model P w) callerA (.call (.ref fa) ⟨[.ref sc], []⟩) (fun r s' => r = .ok (.ret (.bool true)) ∧ OldK s1.heap s'.heap ∧ s'.os = s1.os ∧ AllBare s'.gens) s1 := by
  have isSc : ∀ {b : Addr} {u : HO}, H b = some u → b = sc := fun {b u} e => just b fun z => by rw [z] at e; cases e
  have free : ∀ {b : Addr} {o : Obj} {es : Array DictEntry} {ep : Nat}, s1.heap.get? b = some o → o.data = .dict es ep → H b = none := by
    intro b o es ep e d
    cases hb : H b with
    | none => rfl
    | some u =>
      have := isSc hb
      subst this
      rw [there] at e
      cases e
      exact absurd (show Data.seq us.toArray _ = Data.dict es ep from d) (by intro z; cases z)
  have spaces : ∀ {b : Addr} {m : Str → Option Value}, s1.heap.Ns b m → (hidT s1.heap H).Ns b m := by
    rintro b m ⟨o, es, ep, e, d, r⟩
    exact ⟨o, es, ep, hidT_get e (free e d), d, r⟩
  have inB : K.In (hidT s1.heap H) := by
    intro b o e
    refine hidT_get (inK b o e) ?_
    cases hb : H b with
    | none => rfl
    | some u =>
      have := isSc hb
      subst this
      have z := offK (by rw [hb]; intro z; cases z)
      rw [e] at z
      cases z
  have md : Mod K mg (hidT s1.heap H) := by
    obtain ⟨mc, l1, l2⟩ := lim
    exact ⟨inB, spaces glob, ⟨mb, spaces blt, blt2⟩, ⟨mc, spaces l1, l2⟩⟩
  have env : Env0 P w K mg (hidT s1.heap H) callerA [] s1 H := by
    refine ⟨rfl, md, fun b o e => of_hidT e, Nat.le_of_eq (hidT_size _ _), trivial, fun b hb => ?_, hok, .of_eq gens⟩
    exact absurd hb List.not_mem_nil
  refine codeAny_mono (F (hidT s1.heap H) callerA [] s1 H [.ref sc] [.ref sc] (fun v _ => v = .bl true) E0 rfl room env (.cons rfl .nil) prom) fun r s' h => ?_
  match r, h with
  | .error e, h => exact h.elim
  | .ok .next, h => exact h.elim
  | .ok .brk, h => exact h.elim
  | .ok .cont, h => exact h.elim
  | .ok (.ret u), ⟨v, H', os, bare, un, hok', rv, q⟩ =>
    subst q
    cases (show u = Value.bool true from rv)
    refine ⟨rfl, OldK.of_keep fun b o e => ?_, os, bare⟩
    cases hb : H b with
    | none => exact un.keep b o e hb (fun z => absurd z List.not_mem_nil) (by simp)
    | some u =>
      rcases only b with z | ⟨ob, xs, z⟩
      · rw [hb] at z
        cases z
      · have a1 := (hok b _ z).1
        have a2 := (hok' b _ (un.frzs b ob _ z)).1
        rw [e] at a1
        cases a1
        exact a2
theorem law_callG (inK : K.In s1.heap) (glob : s1.heap.Ns mainGlobals mg) (blt : s1.heap.Ns builtinsNs mb) (blt2 : ∀ x : Str, x ≠ "__name__" → mb x = bootBuiltins x) (lim : s1.heap.NoLimit) (gens : s1.gens = #[])
    (there : s1.heap.get? sc = some { cls := .type "list", data := .seq us.toArray }) (inS : IntsAre us ns) (len : ns.length ≤ sizeLine) (room : Room k callerA)
    (F : ∀ base : Heap, FnG P w K mg base CX0 k fa sp)
    (prom : ∀ H : Hp, SqL K H sc (ns.map V.int) → sp [.ref sc] H (fun v _ => v = .bl true) E0) :
    codeAny (model P w) callerA (.call (.ref fa) ⟨[.ref sc], []⟩) (fun r s' => r = .ok (.ret (.bool true)) ∧ OldK s1.heap s'.heap ∧ s'.os = s1.os ∧ AllBare s'.gens) s1 := by
  have rv := vals_ints inS
  have go := law_core (P := P) (w := w) (k := k) (fa := fa) (sp := sp) inK glob blt blt2 lim gens there room F
  cases hk : K.lookup sc with
  | some o =>
    have e := inK sc o hk
    rw [there] at e
    cases e
    refine go (fun _ => none) (fun _ => .inl rfl) (fun b u z => by cases (show (none : Option HO) = some u from z)) (fun b z => absurd rfl z) (fun z => absurd rfl z) (prom _ ?_)
    refine .inr ⟨_, us.toArray, _, hk, rfl, rfl, rfl, ?_, by simpa using rv⟩
    rw [List.size_toArray, inS.length]
    exact len
  | none =>
    have at_ : (fun b => if b = sc then some (HO.frz { cls := .type "list", data := .seq us.toArray } (.lst (ns.map V.int))) else none) sc = some (.frz { cls := .type "list", data := .seq us.toArray } (.lst (ns.map V.int))) := if_pos rfl
    refine go (fun b => if b = sc then some (.frz { cls := .type "list", data := .seq us.toArray } (.lst (ns.map V.int))) else none) (fun b => ?_) (fun b u z => ?_) (fun b z => ?_) (fun _ => hk) (prom _ (.inl (.inr ⟨_, at_⟩)))
    · by_cases hb : b = sc
      · subst hb
        exact .inr ⟨_, _, at_⟩
      · exact .inl (if_neg hb)
    · by_cases hb : b = sc
      · subst hb
        rw [at_] at z
        cases z
        refine ⟨there, ?_, us, _, rv, there⟩
        rw [List.length_map]
        exact len
      · have no := (if_neg hb).symm.trans z
        cases no
    · refine Classical.byContradiction fun hb => z (if_neg hb)
end
/-- the goal that k_head leaves, from the law's promise -/
theorem walkG {l : PySem.W.OpenLaw} {n k : Nat} {q : Program} {loose : List Str} {XP : (Str → Option Value) → Heap → Prop} {YP : World → Heap → Prop} {d : DefRec} {K : Params → PySem.W.Frag} {sp : PySem.W.Frag → Sp}
    (hn : l.most = some n) (hn2 : n ≤ sizeLine) (hdf : d.params.defaults = []) (room : Room k callerA) (hY : ∀ (w : World) (h : Heap), YP w h → (K w.params).In h)
    (F : ∀ (w : World) (mg : Str → Option Value) (fa : Addr) (h : Heap), (K w.params).In h → h.Ns mainGlobals mg → mg d.name = some (.ref fa) → ∀ base : Heap, FnG l.prog w (K w.params) mg base CX0 k fa (sp (K w.params)))
    (prom : ∀ (K : PySem.W.Frag) (H : Hp) (a : Addr) (ns : List Int), ns.length ≤ n → SqL K H a (ns.map V.int) → sp K [.ref a] H (fun v _ => v = .bl true) E0) :
    PySem.W.WalkO q loose XP YP l.row.toRowW d [] (fun f vs => PySem.call f vs) := by
  refine Att.attach_call hn hdf fun w s0 s1 mg mb fa o pm cd doc a vs ns G Y ho hd hcd hmg hobj hints hlen hg => ?_
  have inK := hY w _ Y
  exact law_callG inK G.T.g G.T.b G.T.builtins G.T.nolimit hg hobj hints (Nat.le_trans hlen hn2) room (F w mg fa _ inK G.T.g hmg) fun H hS => prom _ H a ns hlen hS
end U
namespace U
open PySem PySem.Spec PyProof.Rows L2 StX
/-! ### defs called while an exception is handled -/
end U
namespace U
open PySem PySem.Spec PyProof.Rows L2 StX
end U
namespace U
open PySem PySem.Spec PyProof.Rows L2 StX
end U
namespace U
open PySem PySem.Spec PyProof.Rows L2 StX PySem.W
end U
namespace U
open PySem PySem.Spec PyProof.Rows L2 StX
/-! ### x op i, the class's own, i an int -/
/-! ### list(d.items()), the dict locked or not -/
end U
namespace U
open PySem PySem.Spec PyProof.Rows L2
/-! ### several clauses 'except x as n' -/
end U
namespace U
open PySem L2
/-! ### facts of heaps, for the search -/
theorem carry {H H' : Hp} {a : Addr} {o : HO} (s : L2.Same H H') (h : H a = some o) : H' a = some o := s a o h
theorem carryNew {H : Hp} {p a : Addr} {o u : HO} (hp : H p = none) (h : H a = some u) : upd H p o a = some u := (Same.new hp) a u h
theorem freeUp {H : Hp} {p q : Addr} {o : HO} (h : upd H q o p = none) : H p = none := by
  by_cases e : p = q
  · subst e; rw [upd_same] at h; cases h
  · rw [upd_ne e] at h; exact h
theorem freeVia {H H' : Hp} {p : Addr} (s : L2.Same H H') (h : H' p = none) : H p = none := s.free h
theorem sameUp {H H1 : Hp} {p : Addr} {o : HO} (hp : H1 p = none) (s : L2.Same H H1) : L2.Same H (upd H1 p o) := s.trans (Same.new hp)
theorem sameVia {H H1 H2 : Hp} (b : L2.Same H1 H2) (a : L2.Same H H1) : L2.Same H H2 := a.trans b
theorem upd_facts {H H1 : Hp} {p : Addr} {o : HO} (h : upd H p o = H1) (n : H p = none) : L2.Same H H1 ∧ H1 p = some o := by
  subst h
  exact ⟨Same.new n, upd_same⟩
theorem nil_le : ([] : List V).length ≤ sizeLine := by decide
theorem one_le {a : V} : [a].length ≤ sizeLine := by show 1 ≤ sizeLine; decide
theorem two_le {a b : V} : [a, b].length ≤ sizeLine := by show 2 ≤ sizeLine; decide
theorem three_le {a b c : V} : [a, b, c].length ≤ sizeLine := by show 3 ≤ sizeLine; decide
end U
namespace U
open PySem PySem.Spec PyProof.Rows L2 GQ PySem.SeqAt MeetsSeq MeetsSeq2 MeetsSeq3 SeqRoads2
open AutoSeq1 (wpAny_loadPart')
/-! ### defs with a star parameter -/
structure StarAt (K : PySem.W.Frag) (x qual : Str) (st : Stmt) (f : Addr) (ps : List Str) (pv : Str) : Prop where
  ex : ∃ fd, Fun K x qual st f fd ∧ ∀ us rest : List Value, us.length = ps.length → bindArgs fd ⟨us ++ rest, []⟩ = (newTuple rest >>= fun t => pure (ps.zip us ++ [(pv, t)]))
theorem StarAt.kp {K : PySem.W.Frag} {x qual : Str} {st : Stmt} {f : Addr} {ps : List Str} {pv : Str} (A : StarAt K x qual st f ps pv) : PySem.W.keepIn K (.ref f) = true := by
  obtain ⟨_, F, _⟩ := A.ex
  exact F.kp
/-- what is asked of the arguments: the named ones, then a new tuple of the rest -/
def spStar (n : Nat) (sp : Sp) : Sp := fun vs H Q E => ∃ ws rest, vs = ws ++ rest ∧ ws.length = n ∧ rest.length ≤ sizeLine ∧ ∀ p, H p = none → sp (ws ++ [V.ref p]) (upd H p (.tup rest)) Q E
section
variable {P : Program} {w : World} {K : PySem.W.Frag} {mg : Str → Option Value} {base : Heap} {x qual pv : Str} {st : Stmt} {f : Addr} {N ps : List Str} {k : Nat} {sp : Sp}
theorem StarAt.ok (B : StarAt K x qual st f ps pv) (S : FnScope N (ps ++ [pv]) (defScope st))
    (walk : ∀ (cdv : Value) (A : Around) (outer : List Env) (s : Shared) (H : Hp) (vs : List V) (Q : VK) (E : XK), Room k (A.deeper (envOfC qual (defScope st) s.heap.objs.size f cdv)) → sp vs H Q E →
      ∃ t, PSs (cxOf CX0 P w K mg base N qual (defScope st) f cdv A outer s H E).nox (defBody st) t ∧ t { nx := fun _ H' => Q .non H', rt := Q } (start N vs) H) : FnR P w K mg base CX0 (k + 1) f (spStar ps.length sp) := by
  obtain ⟨fd, F, hb⟩ := B.ex
  obtain ⟨oc, od, kV, doc, pm, an, cdv, ct, osl, rfl, lk, hcd⟩ := F.ex
  refine StX.fn_star lk hcd S StX.cxUp_none hb fun A outer s H vs Q E hr h => ?_
  obtain ⟨t, a, b⟩ := walk cdv A outer s H vs Q E hr h
  exact ⟨t, a.nox, b⟩
end
/-! ### == by an own __eq__, inside lists and tuples -/
end U
namespace U
open PySem PySem.Spec PyProof.Rows L2 StX LamX
/-! ### defs with lambdas: the code object's place is told -/
structure CodeAt (K : PySem.W.Frag) (x qual : Str) (st : Stmt) (f c : Addr) (ps : List Str) : Prop where
  ex : ∃ (oc : Value) (od : Option Addr) (kV doc pm : Value) (an : Option Addr) (ct : Value) (osl : Array (Option Value)),
    K.lookup f = some ⟨oc, od, .func (PySem.W.fnOf x qual (defArgs st) (defBody st) (defScope st) .none kV doc pm an (.ref c) ct), osl⟩ ∧ PySem.W.codeIn K (.ref c) qual = true ∧ Binds K (PySem.W.fnOf x qual (defArgs st) (defBody st) (defScope st) .none kV doc pm an (.ref c) ct) ps []
section
variable {P : Program} {w : World} {K : PySem.W.Frag} {mg : Str → Option Value} {base : Heap} {k : Nat} {f c : Addr} {sp : Sp} {x qual : Str} {st : Stmt} {N ps : List Str}
theorem CodeAt.okG (B : CodeAt K x qual st f c ps) (S : FnScope N ps (defScope st)) (len : ∀ vs H Q E, sp vs H Q E → vs.length = ps.length)
    (walk : ∀ (A : Around) (outer : List Env) (s : Shared) (H : Hp) (vs : List V) (Q : VK) (E : XK), A.guards = some [] → Room k (A.deeper (envOfC qual (defScope st) s.heap.objs.size f (.ref c))) → sp vs H Q E →
      ∃ t, PSs (cxOf CX0 P w K mg base N qual (defScope st) f (.ref c) A outer s H E).nox (defBody st) t ∧ t { nx := fun _ H' => Q .non H', rt := Q } (start N vs) H) : FnG P w K mg base CX0 (k + 1) f sp := by
  obtain ⟨oc, od, kV, doc, pm, an, ct, osl, lk, hcd, bi⟩ := B.ex
  intro A outer s H us vs Q E g hr e0 r hs
  have hl := len _ _ _ _ hs
  have kin : K.In s.heap := e0.mod.kin.keeps fun b o e => (e0.bs b o e).1
  have lim : s.heap.NoLimit := e0.mod.nolimit.keeps fun b o e => (e0.bs b o e).1
  have names : ∀ y ∈ ps.zip us, (defScope st).names.lookup y.1 = some .local ∨ ((defScope st).names.lookup y.1 = some .cell ∧ ((cellsFrom (s.heap.objs.size + 1) (defScope st).names []).lookup y.1).isSome = true) := by
    rintro ⟨n, v⟩ hy
    rcases S.par n (List.of_mem_zip hy).1 with q | q
    · exact .inl q
    · exact .inr ⟨q, PySem.W.cellsFrom_some _ _ _ (.inl q)⟩
  have hb : BindsTo s (PySem.W.fnOf x qual (defArgs st) (defBody st) (defScope st) .none kV doc pm an (.ref c) ct) ⟨us, []⟩ (ps.zip us) := by
    have := bi s us kin (by rw [List.append_nil, ← r.length]; exact hl)
    rw [List.append_nil] at this
    exact this
  refine codeAny_call_function hr.depth (kin _ _ lk) rfl S.co S.gen rfl (PySem.W.codeRec_of kin hcd) (hb _ _ _ _ ?_)
  refine wpAny_newFunctionEnv_cells S.kind names fun env he s1 z => ?_
  subst he
  refine ⟨lim.keeps z.toInCall.keep, codeAny_func ?_⟩
  obtain ⟨t, ht, hq⟩ := walk A outer s H vs Q E g (hr.deeper _) hs
  have I : Inv (cxOf CX0 P w K mg base N qual (defScope st) f (.ref c) A outer s H E) [] (start N vs) H s1 := inv_start S hr.hd e0 hl r z
  refine wpAny_mono (ht.nox.run [] s1 (start N vs) H _ I hq) (fun fl s' h' => ?_) fun _ _ h' => h'
  match fl, h' with
  | .ret u, ⟨v, σ', H', J, rv, q⟩ => exact ⟨v, H', J.os, J.bare, J.base, J.hok, rv, q⟩
  | .next, ⟨σ', H', J, q⟩ => exact ⟨.non, H', J.os, J.bare, J.base, J.hok, rfl, q⟩
  | .brk, ⟨_, _, _, q⟩ => exact q.elim
  | .cont, ⟨_, _, _, q⟩ => exact q.elim
end
/-! ### the law's call, tables tracked -/
/-! ### what a lambda's caller makes of its exceptions -/
/-! ### heaps that grow but for the tables -/
end U
namespace U
open PySem PySem.Spec PyProof.Rows L2 StX LamX
end U
namespace U
open PySem PySem.Spec PyProof.Rows L2
/-! ### x not in a tuple, data of any depth -/
end U
namespace U
open PySem PySem.Spec PyProof.Rows L2
/-! ### dicts of ints in a list: in, not in, index -/
end U
namespace U
open PySem PySem.Spec PyProof.Rows L2 StX
end U
namespace U
open PySem PySem.Spec PyProof.Rows L2 StX NdefX
/-! ### a def of a class whose first statement is super().m(..) -/
end U
namespace U
open PySem PySem.Spec PyProof.Rows L2 StX
/-! ### {o!r}, o an instance with its own __repr__ -/
end U
namespace U
open PySem PySem.Spec PyProof.Rows L2 GQ PySem.SeqAt MeetsSeq MeetsSeq2 MeetsSeq3 SeqRoads2
open AutoSeq1 (wpAny_loadPart')
/-! ### == of lists and tuples, with either result -/
/-- D x y H c: == of the two gives c -/
abbrev EqvB := V → V → Hp → Bool → Prop
def EqH (X : Cx) (n : Nat) (D : EqvB) : Prop :=
  ∀ (A : Around) (pins : List (Addr × Obj)) (s : Shared) (σ : L2.St) (H : Hp) (x y : V) (u v : Value) (c : Bool), Sub X n A → Inv X pins σ H s → RelV x u → RelV y v → D x y H c →
    wpAny (model X.prog X.w) A (eqBool u v) (fun r s' => r = c ∧ ∃ H', Inv X pins σ H' s' ∧ Ext H H') X.xe s
section
variable {X : Cx} {n m : Nat} {D D' : EqvB}
theorem EqH.mono (h : EqH X n D) (hn : n ≤ m) : EqH X m D := fun A pins s σ H x y u v c sb => h A pins s σ H x y u v c (sb.mono hn)
end
end U
namespace PySem.W
open PySem PySem.Calls PyProof.Rows
end PySem.W
namespace U
open PySem PySem.Spec PyProof.Rows L2 StX
end U
namespace U
open PySem PySem.Spec PyProof.Rows L2 StX
/-! ### C(*xs) -/
end U
namespace U
open PySem PySem.Spec PyProof.Rows L2 GQ PySem.SeqAt MeetsSeq MeetsSeq2 MeetsSeq3 SeqRoads2
open AutoSeq1 (wpAny_loadPart')
/-! ### != of lists, == and != of tuples of any lengths, in: with either result -/
end U
namespace U
open PySem PySem.Spec PyProof.Rows L2 StX
open PySem.AutoSeq1 (wpAny_loadPart')
/-! ### enumerate(a tuple) -/
/-! ### a tuple of one item, many times -/
end U
namespace PM
open U
/-! ### one-to-one maps between parts of 0 .. n - 1 -/
abbrev PF := Int → Option Int
structure WF (n : Int) (f : PF) : Prop where
  dom : ∀ x y, f x = some y → 0 ≤ x ∧ x < n ∧ 0 ≤ y ∧ y < n
  inj : ∀ x x' y, f x = some y → f x' = some y → x = x'
/-! ### the operations -/
end PM
namespace PM
open U
/-! ### powers -/
structure Row (f : PF) (e : Int) (r : List Int) : Prop where
  h0 : r[0]? = some e
  st : ∀ (i : Nat) (a b : Int), r[i]? = some a → r[i + 1]? = some b → f a = some b ∧ b ≠ e
theorem Row.ne {f : PF} {e : Int} {r : List Int} (w : ∀ x x' y, f x = some y → f x' = some y → x = x') (R : Row f e r) : ∀ (i k : Nat) (a : Int), r[i]? = some a → r[i + k + 1]? = some a → False
  | 0, k, a, h1, h2 => by
    rw [R.h0] at h1
    cases h1
    have hk : ∃ b, r[k]? = some b := by
      have : 0 + k + 1 < r.length := (List.getElem?_eq_some_iff.mp h2).1
      exact ⟨_, List.getElem?_eq_getElem (by omega)⟩
    obtain ⟨b, hb⟩ := hk
    have := R.st k b e hb (by rw [Nat.zero_add] at h2; exact h2)
    exact this.2 rfl
  | i + 1, k, a, h1, h2 => by
    have l1 : i + 1 < r.length := (List.getElem?_eq_some_iff.mp h1).1
    have l2 : i + 1 + k + 1 < r.length := (List.getElem?_eq_some_iff.mp h2).1
    obtain ⟨b, hb⟩ : ∃ b, r[i]? = some b := ⟨_, List.getElem?_eq_getElem (by omega)⟩
    obtain ⟨c, hc⟩ : ∃ c, r[i + k + 1]? = some c := ⟨_, List.getElem?_eq_getElem (by omega)⟩
    have e1 := (R.st i b a hb h1).1
    have h2' : r[i + k + 1 + 1]? = some a := by rw [show i + k + 1 + 1 = i + 1 + k + 1 by omega]; exact h2
    have e2 := (R.st (i + k + 1) c a hc h2').1
    have : b = c := w _ _ _ e1 e2
    subst this
    exact Row.ne w R i k b hb hc
theorem nodup_of_get {l : List Int} (h : ∀ (i k : Nat) (a : Int), l[i]? = some a → l[i + k + 1]? = some a → False) : l.Nodup := by
  induction l with
  | nil => exact List.nodup_nil
  | cons x r ih =>
    rw [List.nodup_cons]
    refine ⟨fun hm => ?_, ih fun i k a h1 h2 => ?_⟩
    · obtain ⟨j, hj⟩ := List.mem_iff_getElem?.mp hm
      exact h 0 j x rfl (by rw [Nat.zero_add]; exact hj)
    · refine h (i + 1) k a h1 ?_
      rw [show i + 1 + k + 1 = (i + k + 1) + 1 by omega]
      exact h2
theorem Row.nd {n : Int} {f : PF} {e : Int} {r : List Int} (w : WF n f) (R : Row f e r) : r.Nodup := nodup_of_get (R.ne w.inj)
theorem Row.more {f : PF} {e : Int} {pre : List Int} {z y : Int} (R : Row f e (pre ++ [z])) (h : f z = some y) (ne : y ≠ e) : Row f e (pre ++ [z] ++ [y]) := by
  refine ⟨?_, fun i a b h1 h2 => ?_⟩
  · rw [List.getElem?_append_left (by simp)]
    exact R.h0
  · by_cases hi : i + 1 < (pre ++ [z]).length
    · rw [List.getElem?_append_left hi] at h2
      rw [List.getElem?_append_left (by omega)] at h1
      exact R.st i a b h1 h2
    · have l2 : i + 1 < (pre ++ [z] ++ [y]).length := (List.getElem?_eq_some_iff.mp h2).1
      have e1 : i = pre.length := by simp at hi l2; omega
      subst e1
      rw [List.getElem?_append_left (by simp)] at h1
      have z1 : (pre ++ [z])[pre.length]? = some z := by simp
      rw [z1] at h1
      cases h1
      have z2 : (pre ++ [z] ++ [y])[pre.length + 1]? = some y := by simp
      rw [z2] at h2
      cases h2
      exact ⟨h, ne⟩
end PM
namespace PM
open U
/-! ### the rules of the operators -/
/-! ### parts -/
/-! ### powers -/
end PM
namespace PM
open U
/-! ### rows told by their first element -/
def IsRow (f : PF) (e : Int) (r : List Int) : Prop := ∃ pre z, r = pre ++ [z] ∧ Row f e r ∧ (f z = none ∨ f z = some e)
theorem IsRow.get {f : PF} {e : Int} {r r' : List Int} (h : IsRow f e r) (h' : IsRow f e r') : ∀ (i : Nat) (a : Int), r[i]? = some a → r'[i]? = some a
  | 0, a, e1 => by
    obtain ⟨_, _, _, R, _⟩ := h
    obtain ⟨_, _, _, R', _⟩ := h'
    rw [R.h0] at e1
    rw [R'.h0]
    exact e1
  | i + 1, a, e1 => by
    have ih := IsRow.get h h' i
    obtain ⟨_, _, _, R, _⟩ := h
    obtain ⟨pre', z', q', R', st'⟩ := h'
    have l1 : i + 1 < r.length := (List.getElem?_eq_some_iff.mp e1).1
    obtain ⟨b, hb⟩ : ∃ b, r[i]? = some b := ⟨_, List.getElem?_eq_getElem (by omega)⟩
    obtain ⟨f1, ne⟩ := R.st i b a hb e1
    have hb' := ih b hb
    cases e2 : r'[i + 1]? with
    | some c =>
      have := (R'.st i b c hb' e2).1
      rw [f1] at this
      exact this.symm
    | none =>
      exfalso
      have l2 : i < r'.length := (List.getElem?_eq_some_iff.mp hb').1
      have l3 := List.getElem?_eq_none_iff.mp e2
      subst q'
      rw [List.length_append, List.length_singleton] at l2 l3
      have ei : i = pre'.length := by omega
      subst ei
      have : (pre' ++ [z'])[pre'.length]? = some z' := by simp
      rw [this] at hb'
      cases hb'
      rcases st' with q | q
      · rw [f1] at q; cases q
      · rw [f1] at q; exact ne (Option.some.inj q)
theorem IsRow.nd {n : Int} {f : PF} {e : Int} {r : List Int} (w : WF n f) (h : IsRow f e r) : r.Nodup := by
  obtain ⟨_, _, _, R, _⟩ := h
  exact R.nd w
/-! ### which rows are begun -/
/-! ### closed rows -/
/-! ### all parts -/
/-! ### ordered by the first elements -/
end PM
namespace PM
open U
/-! ### powers by the law's own way; great exponents -/
end PM
namespace PM
open U
/-! ### where powers repeat -/
end PM
set_option maxHeartbeats 1000000
/-! an own exception class called with keywords, its __init__ walked -/
namespace PySem
theorem KeyE.pass (self : Value) (C : Addr) : refuseLoop self "__setattr__" (.ref C :: [.type "KeyError", .type "LookupError", .type "Exception", .type "BaseException", .type "object"]) = pure () := by kernel_rfl
namespace KwX
open PySem PySem.Spec PySem.Calls PyProof.Rows PySem.HandSPX
section
variable {M : Model} {A : Around} {E : Value → Shared → Prop} {h : Heap} {g : Array GenState} {d : Drawn} {t : Nat} {os : OsState}
variable {nm q : Str} {C N : Addr} {bs bm bmB : List Value} {hdct : Bool} {sn : List Str} {sub : List Value} {ab : Bool} {col : Option Bool} {dd : Option Addr} {k0 k1 k2 k3 k5 : Option Value} {B newId initId : String}
theorem check_newK (F : ExcBaseFacts B newId initId bmB) (hB : bm.contains (.type B) = true) {rest : List Value} {kw : List (Str × Value)} {Q : Unit → Shared → Prop}
    (hC : h.get? C = some (excClassObj nm q C N bs bm hdct sn sub ab col dd k0 k1 k2 k3 k5 newId)) (hq : Q () ⟨h, g, d, t, os⟩) : wpAny M A (checkBuiltinCall newId ⟨.ref C :: rest, kw⟩) Q E ⟨h, g, d, t, os⟩ := by
  have hcont : (Value.ref C :: bm).contains (.type B) = true := by rw [List.contains_cons, hB, Bool.or_true]
  have hstar := F.noStar
  simp only [checkBuiltinCall, F.newKind, F.newSplit, F.newRow]
  repeat (first | refine wpAny_loadPart_at hC ?_ | (refine wpAny_isSubtype_exc hC ?_; rw [hcont]) | refine wpAny_staticBase_exc hC ?_ | refine wpAny_madeBy_exc hC ?_ | simp only [bne_self_eq_false, Bool.false_eq_true, if_false] | wp_step)
  exact hq
theorem check_tcK {rest : List Value} {kw : List (Str × Value)} {Q : Unit → Shared → Prop} (hC : h.get? C = some (excClassObj nm q C N bs bm hdct sn sub ab col dd k0 k1 k2 k3 k5 newId))
    (hq : Q () ⟨h, g, d, t, os⟩) : wpAny M A (checkBuiltinCall "type.__call__" ⟨.ref C :: rest, kw⟩) Q E ⟨h, g, d, t, os⟩ := by
  have f3 := tc_sub
  have hT : (⟨h, g, d, t, os⟩ : Shared).TypeIs (.ref C) "type" := ⟨_, hC, rfl⟩
  simp only [checkBuiltinCall, tc_kind, tc_split]
  repeat (any_goals (first | assumption | with_reducible refine wpAny_loadPart_at hC ?_ | with_reducible refine wpAny_onRaise ?_ | with_reducible refine wpAny_map ?_ | wp_step))
end
section
variable {prog : Program} {w : World} {A : Around} {E : Value → Shared → Prop} {R : Result → Shared → Prop} {h : Heap} {g : Array GenState} {d : Drawn} {t : Nat} {os : OsState}
variable {nm q : Str} {C N : Addr} {bs bm bmB : List Value} {hdct : Bool} {sn : List Str} {sub : List Value} {ab : Bool} {col : Option Bool} {dd : Option Addr} {k0 k1 k2 k3 k5 : Option Value} {B newId initId : String}
theorem newK (F : ExcBaseFacts B newId initId bmB) (hB : bm.contains (.type B) = true) (hA : bm.contains (.type "AttributeError") = false) (hN : bm.contains (.type "NameError") = false) {rest : List Value} {kw : List (Str × Value)}
    (hC : h.get? C = some (excClassObj nm q C N bs bm hdct sn sub ab col dd k0 k1 k2 k3 k5 newId))
    (hq : R (.ok (.ret (.ref (h.objs.size + 1)))) ⟨(h.push { cls := .type "tuple", data := .seq rest.toArray }).push
      { cls := .ref C, data := .fields #[.ref h.objs.size, .none, .none, .none, .bool false, .none] }, g, d, t, os⟩) (hrest : rest.length ≤ sizeLine) :
    codeAny (model prog w) A (.builtin newId ⟨.ref C :: rest, kw⟩) R ⟨h, g, d, t, os⟩ := by
  have hends := F.ends
  have hcB : (Value.ref C :: bm).contains (.type B) = true := by rw [List.contains_cons, hB, Bool.or_true]
  have hcA : (Value.ref C :: bm).contains (.type "AttributeError") = false := by rw [List.contains_cons, hA]; rfl
  have hcN : (Value.ref C :: bm).contains (.type "NameError") = false := by rw [List.contains_cons, hN]; rfl
  refine codeAny_builtinAt F.entry ?_
  unfold Builtin.«BaseException.__new__»
  refine wpAt_bind ?_
  show wpAt _ _ _ (stack >>= _) _ _ _
  refine wpAt_bind (wpAt_stack fun p below => wpAt_of_wpAny ?_)
  wp_walk
  refine wpAt_of_wpAny ?_
  rw [F.owner]
  repeat (first | with_reducible refine wpAny_madeHere_exc F.canon hC ?_ | with_reducible refine wpAny_loadPart_at hC ?_ | (with_reducible refine wpAny_isSubtype_exc hC ?_; first | rw [hcB] | rw [hcA] | rw [hcN]) | wp_step)
  show R _ _
  rw [Heap.size_push]
  exact hq
theorem type_callK (F : ExcBaseFacts B newId initId bmB) (hB : bm.contains (.type B) = true) (hA : bm.contains (.type "AttributeError") = false) (hN : bm.contains (.type "NameError") = false) {rest : List Value} {kw : List (Str × Value)} {fI : Addr} {Q : Fin → Shared → Prop}
    (hC : h.get? C = some (excClassObj nm q C N bs bm hdct sn sub ab col dd k0 k1 k2 k3 k5 newId))
    (hi : W.Looks (model prog w) h (typeLookup (.ref C) "__init__") (some (.ref fI))) (hb : ∀ self, W.Looks (model prog w) h (bindSpecial (.ref fI) self) (.ref fI, [self])) (hrest : rest.length ≤ sizeLine)
    (hq : codeAny (model prog w) A (.call (.ref fI) ⟨.ref (h.objs.size + 1) :: rest, kw⟩)
      (fun r s' => match r with | .ok (.ret v) => v = .none ∧ Q (.done (.ret (.ref (h.objs.size + 1)))) s' | .ok _ => False | .error e => E e s')
      ⟨(h.push (W.kdv_tup rest)).push (excO C h.objs.size), g, d, t, os⟩) :
    wpAny (model prog w) A (Builtin.«type.__call__» ⟨.ref C :: rest, kw⟩) Q E ⟨h, g, d, t, os⟩ := by
  repeat (first | with_reducible refine wpAny_loadPart_at hC ?_ | with_reducible refine wpAny_madeBy_exc hC ?_ | wp_step)
  refine codeAny_call_builtin_code (Code.quiet_builtin _ F.quiet) (check_newK F hB hC ?_)
  refine newK F hB hA hN hC ?_ hrest
  show wpAny _ _ _ _ _ _
  have k : ∀ b o, h.get? b = some o → ((h.push (W.kdv_tup rest)).push (excO C h.objs.size)).get? b = some o := fun b o e => Heap.get?_push_of_some _ (Heap.get?_push_of_some _ e)
  have hC₁ := k _ _ hC
  have hget : ((h.push (W.kdv_tup rest)).push (excO C h.objs.size)).get? (h.objs.size + 1) = some (excO C h.objs.size) := by heap_get
  have hcC : (Value.ref C :: bm).contains (.ref C) = true := by simp
  have i1 := hi.keeps k
  have b1 := (hb (.ref (h.objs.size + 1))).keeps k
  unfold isInstance
  repeat (first | with_reducible refine wpAny_loadPart_at hget ?_ | (with_reducible refine wpAny_isSubtype_exc hC₁ ?_; rw [hcC]) | wp_step)
  show wpAny _ _ (typeLookup (.ref C) _) _ _ _
  refine i1.at ?_
  refine wpAny_holding (wpAny_bind (b1.at ?_))
  refine wpAny_bind (wpAny_call (codeAny_mono hq fun r s' z => ?_))
  rcases r with e | (v | _ | _ | _) <;> first | exact z | exact z.elim | skip
  obtain ⟨rfl, z⟩ := z
  first
    | exact wpAny_pure (wpAny_pure z)
    | (wp_walk; exact z)
theorem call_ownK (F : ExcBaseFacts B newId initId bmB) (hB : bm.contains (.type B) = true) (hA : bm.contains (.type "AttributeError") = false) (hN : bm.contains (.type "NameError") = false) {rest : List Value} {kw : List (Str × Value)} {fI : Addr}
    (hC : h.get? C = some (excClassObj nm q C N bs bm hdct sn sub ab col dd k0 k1 k2 k3 k5 newId))
    (hi : W.Looks (model prog w) h (typeLookup (.ref C) "__init__") (some (.ref fI))) (hb : ∀ self, W.Looks (model prog w) h (bindSpecial (.ref fI) self) (.ref fI, [self])) (hrest : rest.length ≤ sizeLine)
    (hq : codeAny (model prog w) (A.under (.builtin "type.__call__" ⟨.ref C :: rest, kw⟩)) (.call (.ref fI) ⟨.ref (h.objs.size + 1) :: rest, kw⟩) (W.InitBack (h.objs.size + 1) R)
      ⟨(h.push (W.kdv_tup rest)).push (excO C h.objs.size), g, d, t, os⟩) :
    codeAny (model prog w) A (.call (.ref C) ⟨rest, kw⟩) R ⟨h, g, d, t, os⟩ := by
  have f1 := tc_lookup
  have f2 := tc_bind (.ref C)
  have hTy : (⟨h, g, d, t, os⟩ : Shared).TypeIs (.ref C) "type" := ⟨_, hC, rfl⟩
  refine codeAny_of_tree ?_
  show wpAny _ _ (callAny (.ref C) _) _ _ _
  repeat (any_goals (first | assumption | with_reducible refine wpAny_loadPart_at hC ?_ | wp_step))
  refine ⟨rfl, ?_⟩
  refine codeAny_call_builtin_at (Code.quiet_builtin _ (by decide +kernel)) entry_typeCall (check_tcK hC (type_callK F hB hA hN hC hi hb hrest ?_))
  refine codeAny_mono hq fun r s' z => ?_
  rcases r with e | (v | _ | _ | _) <;> exact z
end
end KwX
end PySem
namespace U
open PySem PySem.Spec PyProof.Rows L2 StX
/-! ### exceptions as values: made, by place or by keyword; read; asked -/
/-- an exception of the class C at a, with its fields -/
def ExA (H : Hp) (a C : Addr) (fs : List (Str × V)) : Prop := ∃ dx, H a = some (exo a C (some dx)) ∧ H dx = some (exd dx fs)
theorem ExA.same {H H' : Hp} {a C : Addr} {fs : List (Str × V)} (h : ExA H a C fs) (s : Same H H') : ExA H' a C fs := by
  obtain ⟨dx, h1, h2⟩ := h
  exact ⟨dx, s _ _ h1, s _ _ h2⟩
/-- what the written part says of an own error class, its base perhaps without an own __new__ -/
structure OexH (K : PySem.W.Frag) (C : Addr) : Prop where
  cls : ∃ B newId initId bmB nm q N bs bm sn sub ab col dd k0 k1 k2 k3 k5, ExcBaseFacts B newId initId bmB ∧ K.lookup C = some (excClassObj nm q C N bs bm true sn sub ab col dd k0 k1 k2 k3 k5 newId) ∧ bm.contains (.type B) = true ∧ bm.contains (.type "AttributeError") = false ∧ bm.contains (.type "NameError") = false
  look : ∃ cd, PySem.W.clsIn K C = some cd ∧ PySem.GEX.Mro cd.mro ∧ cd.hasDict = true
  sa : PySem.W.findIn K (.ref C) "__setattr__" = some (some (.builtin "object.__setattr__"))
  exC : PySem.W.subIn K (.ref C) (.type "BaseException") = some true
  tyC : PySem.W.typeIn K (.ref C) = some (.type "type")
  kC : PySem.W.keepIn K (.ref C) = true
theorem oexH_of {K : PySem.W.Frag} {C : Addr} (T : OexG K C) : OexH K C := by
  refine ⟨?_, T.look, T.sa, T.exC, T.tyC, T.kC⟩
  obtain ⟨B, nI, iI, bmB, nm, q, N, bs, bm, sn, sub, ab, col, dd, k0, k1, k2, k3, k5, _, BF, hC, hbm⟩ := T.cls
  have c := fun Y => PySem.W.excTail_contains Y bm hbm
  exact ⟨B, nI, iI, bmB, nm, q, N, bs, bm, sn, sub, ab, col, dd, k0, k1, k2, k3, k5, BF, hC, (c _).trans BF.hasB, (c _).trans BF.noAttr, (c _).trans BF.noName⟩
theorem oexH_key {K : PySem.W.Frag} {C : Addr} {nm q : Str} {N : Addr} {bs : List Value} {sn : List Str} {sub : List Value} {ab : Bool} {col : Option Bool} {dd : Option Addr} {k0 k1 k2 k3 k5 : Option Value}
    (hC : K.lookup C = some (excClassObj nm q C N bs [.type "KeyError", .type "LookupError", .type "Exception", .type "BaseException", .type "object"] true sn sub ab col dd k0 k1 k2 k3 k5 "LookupError.__new__"))
    (sa : PySem.W.findIn K (.ref C) "__setattr__" = some (some (.builtin "object.__setattr__"))) (exC : PySem.W.subIn K (.ref C) (.type "BaseException") = some true) (tyC : PySem.W.typeIn K (.ref C) = some (.type "type")) (kC : PySem.W.keepIn K (.ref C) = true) : OexH K C := by
  refine ⟨⟨_, _, _, _, _, _, _, _, _, _, _, _, _, _, _, _, _, _, _, PySem.F.excBase_LookupError, hC, by decide +kernel, by decide +kernel, by decide +kernel⟩, ?_, sa, exC, tyC, kC⟩
  refine ⟨{ name := nm, bases := bs, mro := .ref C :: [.type "KeyError", .type "LookupError", .type "Exception", .type "BaseException", .type "object"], ns := N, qualname := q, hasDict := true, slotNames := sn, subclasses := sub, abstract := ab, collection := col, hasDel := false }, ?_, ⟨?_, rfl, fun self => ?_⟩, rfl⟩
  · unfold PySem.W.clsIn
    rw [hC] <;> rfl
  · show (Value.ref C :: [Value.type "KeyError", .type "LookupError", .type "Exception", .type "BaseException", .type "object"]).contains (.type "object") = true
    rw [List.contains_cons, show ([Value.type "KeyError", .type "LookupError", .type "Exception", .type "BaseException", .type "object"] : List Value).contains (.type "object") = true by decide +kernel, Bool.or_true]
  · exact PySem.KeyE.pass self C
def tExV (C : Addr) (sp : Sp) (ta : TA) : TE := fun σ H Q => ta σ H fun vs H1 => vs.length ≤ 1000 ∧ ∀ a, H1 a = none → sp (.ref a :: vs) (upd H1 a (exo a C none)) (fun v H2 => v = .non ∧ Q (.ref a) H2) (fun _ _ _ => False)
def tExK (C : Addr) (n : Nat) (sp : Sp) (gV : List V → List V) (tk : TA) : TE := fun σ H Q => tk σ H fun zs H1 => zs.length = n ∧ ∀ a, H1 a = none → sp (.ref a :: gV zs) (upd H1 a (exo a C none)) (fun v H2 => v = .non ∧ Q (.ref a) H2) (fun _ _ _ => False)
section
variable {X : Cx} {e : Expr} {es : List Expr} {te : TE} {ta tk : TA} {p pos : Pos} {CX : CXT} {x : Str} {C fI : Addr} {k : Nat} {sp : Sp} {kws : List Keyword}
/-- C(e, ..) -/
theorem pe_exV (T : OexH X.K C) (iC : PySem.W.findIn X.K (.ref C) "__init__" = some (some (.ref fI))) (tI : PySem.W.typeIn X.K (.ref fI) = some (.type "function"))
    (F1 : FnR X.prog X.w X.K X.mg X.base CX k fI sp) (hr : Room (k + 1) X.A) (hx : Passes CX X (fun _ _ _ => False)) (hg : Gl X x) (hm : X.mg x = some (.ref C)) (ha : PA X (e :: es) ta)
    (hdb : (x == ("__debug__" : Str)) = false := by decide) (he : starEach (e :: es) X.env = (false, eval e X.env) :: starEach es X.env := by rfl) (hpl : (backTo pos (starEach es X.env)).any (·.1) = false := by rfl) :
    PE X (.Call (.Name x p) (e :: es) [] pos) (tExV C sp ta) := by
  refine ⟨fun pins s σ H Q I h => ?_⟩
  obtain ⟨B, nI, iI, bmB, nm, q, N, bs, bm, sn, sub, ab, col, dd, k0, k1, k2, k3, k5, BF, hC, hB, hA, hN⟩ := T.cls
  refine wpAny_Call_Name_kw (ld_glob I hg hm ?_ hdb)
  refine PySem.W.callWith_K (h₀ := X.base) I.ok.mod.kin T.kC (thn (ha.run pos pins s σ H _ I h) fun us s1 ⟨vs, H1, I1, r1, hz, q1⟩ => ⟨I1.kIn, ?_⟩) he hpl
  show wpAny _ _ (call (.ref C) us) _ _ _
  obtain ⟨h0, gs, dr, tn, os⟩ := s1
  have up : h0.objs.size ≤ h0.objs.size + 1 := Nat.le_succ _
  have hq := q1 (h0.objs.size + 1) (I1.hok.fresh up)
  have kk : ∀ b o, h0.get? b = some o → ((h0.push (PySem.W.kdv_tup us)).push (PySem.HandSPX.excO C h0.objs.size)).get? b = some o := fun b o z => Heap.get?_push_of_some _ (Heap.get?_push_of_some _ z)
  have there : ((h0.push (PySem.W.kdv_tup us)).push (PySem.HandSPX.excO C h0.objs.size)).get? (h0.objs.size + 1) = some (PySem.HandSPX.excO C h0.objs.size) := by heap_get
  have I2 : Inv X pins σ (upd H1 (h0.objs.size + 1) (exo (h0.objs.size + 1) C none)) ⟨(h0.push (PySem.W.kdv_tup us)).push (PySem.HandSPX.excO C h0.objs.size), gs, dr, tn, os⟩ := I1.laid (t' := tn) kk up (exo_ok there)
  have r2 : Vals (V.ref (h0.objs.size + 1) :: vs) (Value.ref (h0.objs.size + 1) :: us) := .cons rfl r1
  have hus : us.length ≤ sizeLine := by rw [← Paired.length r1, sizeLine_eq]; omega
  refine wpAny_call (PySem.KwX.call_ownK BF hB hA hN (I1.kIn _ _ hC) (PySem.W.looks_findIn I1.kIn iC) (fun self => PySem.W.bind_fn I1.kIn self tI) hus ?_)
  refine codeAny_mono (F1 _ X.stack _ _ (Value.ref (h0.objs.size + 1) :: us) _ _ (fun _ _ _ => False) (hr.make C us []) (I2.env0.make C us []) r2 hq) fun r s' hq' => ?_
  cases r with
  | error er => exact hx pins σ _ _ er s' I2 hq'
  | ok fl =>
    cases fl with
    | ret u =>
      obtain ⟨v, H', J', rv, ev, q3⟩ := I2.after hq'
      subst ev
      exact ⟨rv, ⟨V.ref (h0.objs.size + 1), H', J', rfl, q3⟩⟩
    | next => exact False.elim hq'
    | brk => exact False.elim hq'
    | cont => exact False.elim hq'
/-- C(k = v, ..) -/
theorem pe_exK {fd : FuncData} {ps ks : List Str} {g : List Value → List Value} {gV : List V → List V} (T : OexH X.K C) (iC : PySem.W.findIn X.K (.ref C) "__init__" = some (some (.ref fI))) (tI : PySem.W.typeIn X.K (.ref fI) = some (.type "function"))
    (F1 : FnOk X.prog X.w X.K X.mg X.base CX k fI fd ps sp) (hr : Room (k + 1) X.A) (hx : Passes CX X (fun _ _ _ => False)) (hg : Gl X x) (hm : X.mg x = some (.ref C)) (hkw : PK X kws tk)
    (hbt : ∀ (s : Shared) (v : Value) (ws : List Value), ws.length = ks.length → BindsTo s fd ⟨[v], ks.zip ws⟩ (ps.zip (v :: g ws))) (hgr : ∀ {zs : List V} {ws : List Value}, Vals zs ws → Vals (gV zs) (g ws))
    (hall : (backToKw pos (keywordEach kws X.env)).all (·.1.isSome) = true := by rfl) (hks : (backToKw pos (keywordEach kws X.env)).filterMap (·.1) = ks := by rfl) (hdb : (x == ("__debug__" : Str)) = false := by decide)
    (hpl : ((backTo pos (starEach [] X.env)).any (·.1) || (backToKw pos (keywordEach kws X.env)).any (·.1.isNone)) = false := by rfl) :
    PE X (.Call (.Name x p) [] kws pos) (tExK C ks.length sp gV tk) := by
  refine ⟨fun pins s σ H Q I h => ?_⟩
  obtain ⟨B, nI, iI, bmB, nm, q, N, bs, bm, sn, sub, ab, col, dd, k0, k1, k2, k3, k5, BF, hC, hB, hA, hN⟩ := T.cls
  refine wpAny_Call_Name_kw (ld_glob I hg hm ?_ hdb)
  refine PySem.W.callWith_KW0 (h₀ := X.base) I.ok.mod.kin T.kC hall ?_ hpl
  refine thn (hkw.run pos pins s σ H _ I h) fun ws s1 ⟨zs, H1, I1, rz, l2, q1⟩ => ⟨I1.kIn, ?_⟩
  rw [hks]
  show wpAny _ _ (call (.ref C) [] (ks.zip ws)) _ _ _
  obtain ⟨h0, gs, dr, tn, os⟩ := s1
  have up : h0.objs.size ≤ h0.objs.size + 1 := Nat.le_succ _
  have hq := q1 (h0.objs.size + 1) (I1.hok.fresh up)
  have kk : ∀ b o, h0.get? b = some o → ((h0.push (PySem.W.kdv_tup [])).push (PySem.HandSPX.excO C h0.objs.size)).get? b = some o := fun b o z => Heap.get?_push_of_some _ (Heap.get?_push_of_some _ z)
  have there : ((h0.push (PySem.W.kdv_tup [])).push (PySem.HandSPX.excO C h0.objs.size)).get? (h0.objs.size + 1) = some (PySem.HandSPX.excO C h0.objs.size) := by heap_get
  have I2 : Inv X pins σ (upd H1 (h0.objs.size + 1) (exo (h0.objs.size + 1) C none)) ⟨(h0.push (PySem.W.kdv_tup [])).push (PySem.HandSPX.excO C h0.objs.size), gs, dr, tn, os⟩ := I1.laid (t' := tn) kk up (exo_ok there)
  have r2 : Vals (V.ref (h0.objs.size + 1) :: gV zs) (Value.ref (h0.objs.size + 1) :: g ws) := .cons rfl (hgr rz)
  refine wpAny_call (PySem.KwX.call_ownK (rest := []) BF hB hA hN (I1.kIn _ _ hC) (PySem.W.looks_findIn I1.kIn iC) (fun self => PySem.W.bind_fn I1.kIn self tI) (Nat.zero_le _) ?_)
  refine codeAny_mono (F1.run _ X.stack _ _ ⟨[Value.ref (h0.objs.size + 1)], ks.zip ws⟩ (Value.ref (h0.objs.size + 1) :: g ws) _ _ (fun _ _ _ => False) (hr.make C [] (ks.zip ws)) (I2.env0.make C [] (ks.zip ws)) (hbt _ _ _ (rz.length.symm.trans l2)) r2 hq) fun r s' hq' => ?_
  cases r with
  | error er => exact hx pins σ _ _ er s' I2 hq'
  | ok fl =>
    cases fl with
    | ret u =>
      obtain ⟨v, H', J', rv, ev, q3⟩ := I2.after hq'
      subst ev
      exact ⟨rv, ⟨V.ref (h0.objs.size + 1), H', J', rfl, q3⟩⟩
    | next => exact False.elim hq'
    | brk => exact False.elim hq'
    | cont => exact False.elim hq'
theorem ex_inst {K : PySem.W.Frag} {pins : List (Addr × Obj)} {σ : L2.St} {H : Hp} {s : Shared} {a : Addr} {fs : List (Str × V)} (I : Inv X pins σ H s) (h : ExA H a C fs) : ∃ (ox od : Obj) (mA : Str → Option Value), PySem.W.InstAt s.heap a ox C (some od) ∧ (∀ name, PySem.W.lookIn name od = some (mA name)) ∧ ∀ f, RelO (fs.lookup f) (mA f) := by
  obtain ⟨dx, h1, h2⟩ := h
  obtain ⟨t1, ho⟩ := exo_at I.hok h1
  obtain ⟨mA, hns, rel⟩ := exd_at I.hok h2
  obtain ⟨od, hod, hl⟩ := lookIn_ns hns
  exact ⟨_, od, mA, ⟨ho, rfl, rfl, hod⟩, hl, rel⟩
end
section
variable {X : Cx} {pins : List (Addr × Obj)} {σ : L2.St} {H : Hp} {s : Shared} {a C dx : Addr} {f : Str} {y : V} {u : Value} {fs : List (Str × V)} {Q : Unit → Shared → Prop} {E : Value → Shared → Prop} {A : Around}
/-- self.f = y, none there as yet -/
theorem ostH_new (T : OexH X.K C) (I : Inv X pins σ H s) (e : H a = some (exo a C none)) (hno : PySem.W.findIn X.K (.ref C) f = some none) (ry : RelV y u)
    (k : ∀ dx s', H dx = none → dx ≠ a → Inv X pins σ (upd (upd H dx (exd dx [(f, y)])) a (exo a C (some dx))) s' → Q () s') : wpAny (model X.prog X.w) A (setAttr (.ref a) f u) Q E s := by
  obtain ⟨cd, hcd, hmr, hdc⟩ := T.look
  obtain ⟨t1, ho⟩ := exo_at I.hok e
  obtain ⟨h0, gs, dr, tn, os⟩ := s
  refine PySem.W.set_plain I.kIn (ox := ⟨.ref C, none, .fields #[.ref t1, .none, .none, .none, .bool false, .none], #[]⟩) (od := none) ⟨ho, rfl, rfl, trivial⟩ T.sa ?_
  refine PySem.GEX.osa_first I.kIn ho hcd hmr hdc hno fun h' tk' dx kp dn dne hx hn => ?_
  have dfree : H dx = none := I.hok.fresh dn
  have low : ∀ {b : Addr} {o : Obj}, h0.get? b = some o → b ≠ dx := fun q => Nat.ne_of_lt (Nat.lt_of_lt_of_le (Heap.lt_size q) dn)
  have apart : ∀ {b : Addr}, H b = none → b ≠ a := fun {b} n z => by subst z; rw [e] at n; cases n
  have U1 : Un X.fs [] H (upd (upd H dx (exd dx [(f, y)])) a (exo a C (some dx))) h0 h' := by
    refine ⟨fun b o q n _ _ => kp b o (apart n) q, fun b o q n _ _ => ⟨o.slots, kp b o (apart n) q⟩, fun b o q n _ => ?_, fun b o q _ => ?_, fun b xs q => ?_, fun b o v q => ?_, fun b ps q => ⟨#[], ?_⟩⟩
    · rw [upd_ne (apart n), upd_ne (low q)]; exact n
    · by_cases hb : b = a
      · subst hb; exact ⟨_, hx⟩
      · exact ⟨o, kp b o hb q⟩
    · rw [upd_ne (at_ne e q exo_tup), upd_ne (ne_of_none q dfree)]; exact q
    · rw [upd_ne (at_ne e q exo_frz), upd_ne (ne_of_none q dfree)]; exact q
    · rw [upd_ne (at_ne e q exo_tbl), upd_ne (ne_of_none q dfree), q]; simp
  refine k dx _ dfree dne (I.un (t' := tk') U1 fun b o q => ?_)
  by_cases hb : b = a
  · subst hb; rw [upd_same] at q; cases q
    exact exo_ok hx
  · rw [upd_ne hb] at q
    by_cases hd : b = dx
    · subst hd; rw [upd_same] at q; cases q
      exact exd_ok hn (relO_put (fs := []) ry fun _ => True.intro)
    · rw [upd_ne hd] at q
      refine (I.hok b o q).stay (fun c v hc z => kp c v ?_ z) (fun c hc => ?_) (fun c xs hc => ?_)
      · rcases hc with rfl | hc
        · exact hb
        · exact at_ne e hc exo_own
      · rw [upd_ne (at_ne e hc exo_own), upd_ne (ne_of_none hc dfree)]; exact hc
      · rw [upd_ne (at_ne e hc exo_tup), upd_ne (ne_of_none hc dfree)]; exact hc
theorem ostH_old (T : OexH X.K C) (I : Inv X pins σ H s) (e : H a = some (exo a C (some dx))) (ed : H dx = some (exd dx fs)) (hl : fs.length ≤ 900) (hno : PySem.W.findIn X.K (.ref C) f = some none) (ry : RelV y u)
    (k : ∀ s', Inv X pins σ (upd H dx (exd dx ((f, y) :: fs))) s' → Q () s') : wpAny (model X.prog X.w) A (setAttr (.ref a) f u) Q E s := by
  obtain ⟨cd, hcd, hmr, hdc⟩ := T.look
  obtain ⟨t1, ho⟩ := exo_at I.hok e
  obtain ⟨mA, hns, rel⟩ := exd_at I.hok ed
  have win := within_of rel
  obtain ⟨oD, _, _, hoD, _, _⟩ := hns.count win
  obtain ⟨h0, gs, dr, tn, os⟩ := s
  refine PySem.W.set_plain I.kIn (ox := ⟨.ref C, some dx, .fields #[.ref t1, .none, .none, .none, .bool false, .none], #[]⟩) (od := some oD) ⟨ho, rfl, rfl, hoD⟩ T.sa ?_
  refine PySem.GEX.osa_more I.kIn ho hns win (by rw [List.length_map]; omega) hcd hmr hdc hno fun h' tk' kp hn => ?_
  have there : ∃ o, h'.get? dx = some o := by
    obtain ⟨o, _, _, e', _⟩ := hn
    exact ⟨o, e'⟩
  exact k _ (I.write (t' := tk') (x := dx) (e := dx) (o := exd dx ((f, y) :: fs)) (by rw [ed]; exact True.intro) (.inl rfl) kp there (exd_ok hn (relO_put ry rel)))
end
/-- self.f = e, self an error being made -/
def tOstH (K : PySem.W.Frag) (f : Str) (to te : TE) : TS := fun D σ H => te σ H fun y H1 => to σ H1 fun x H2 => ∃ a C : Addr, x = .ref a ∧ OexH K C ∧ PySem.W.findIn K (.ref C) f = some none ∧
  ((H2 a = some (exo a C none) ∧ ∀ dx, H2 dx = none → dx ≠ a → D.nx σ (upd (upd H2 dx (exd dx [(f, y)])) a (exo a C (some dx)))) ∨
    ∃ (dx : Addr) (fs : List (Str × V)), H2 a = some (exo a C (some dx)) ∧ H2 dx = some (exd dx fs) ∧ fs.length ≤ 900 ∧ D.nx σ (upd H2 dx (exd dx ((f, y) :: fs))))
section
variable {X : Cx} {o e : Expr} {es : List Expr} {to te : TE} {ta : TA} {f : Str} {p p' pos : Pos}
theorem ps_ostH (ho : PE X o to) (he : PE X e te) (hs : swapsWith e (some (.Attribute o f p')) pos.line X.env = pure false := by rfl) : PS X (.Assign [.Attribute o f p'] e pos) (tOstH X.K f to te) := by
  refine ⟨fun pins s σ H D I h => plainObj_wpAny_Assign_Attribute (thn (he.run pins s σ H _ I h) fun v s1 ⟨y, H1, I1, r1, q1⟩ => thn (ho.run pins s1 σ H1 _ I1 q1) fun u s2 ⟨x, H2, I2, r2, a, C, ex, T, hno, q⟩ => ?_) hs⟩
  subst ex
  cases (show u = Value.ref a from r2)
  rcases q with ⟨ea, q⟩ | ⟨dx, fs, ea, ed, hl, q⟩
  · exact ostH_new T I2 ea hno r1 fun dx _ n ne J => ⟨σ, _, J, q dx n ne⟩
  · exact ostH_old T I2 ea ed hl hno r1 fun _ J => ⟨σ, _, J, q⟩
end
section
variable {X : Cx} {e : Expr} {es : List Expr} {te : TE} {ta tk : TA} {p pos : Pos} {CX : CXT} {x : Str} {C fI : Addr} {k : Nat} {sp : Sp} {kws : List Keyword}
/-- e.f, e an exception -/
def tXfV (K : PySem.W.Frag) (n : Str) (te : TE) : TE := fun σ H Q => te σ H fun x H1 => ∃ a C fs v, x = .ref a ∧ XfC K C ∧ PySem.W.findIn K (.ref C) n = some none ∧ ExA H1 a C fs ∧ fs.lookup n = some v ∧ Q v H1
theorem pe_xfV {K0 : PySem.W.Frag} {n : Str} (hK : X.K = K0) (he : PE X e te) (hb : attributeBase e n X.env (eval e X.env) = eval e X.env := by rfl) : PE X (.Attribute e n pos) (tXfV K0 n te) := by
  subst hK
  refine ⟨fun pins s σ H Q I h => ?_⟩
  refine attr_of hb (thn (he.run pins s σ H _ I h) fun u s1 hh => ?_)
  obtain ⟨x, H1, I1, rx, a, C, fs, v, ex, T, hno, ea, l, q⟩ := hh
  subst ex
  obtain rfl : u = Value.ref a := rx
  obtain ⟨ox, od, mA, J, hl, hr⟩ := ex_inst (K := X.K) I1 ea
  obtain ⟨u, hu, ru⟩ := RelO.some_of (v := v) (o := mA n) (by rw [← l]; exact hr n)
  exact HandSPX.exc_get I1.kIn J T.ga T.gg T.exC (PySem.W.findObj_own T.hdC hno rfl (by rw [hl, hu])) (handed_of ru) ⟨v, H1, I1.tok _, ru, q⟩
/-- isinstance(e, c), e an exception -/
def rIsX (K : PySem.W.Frag) : List V → Hp → VK → Prop := fun xs H Q => ∃ (a D : Addr) (c : V) (u : Value) (b : Bool) (fs : List (Str × V)), xs = [.ref a, c] ∧ ClsV c u ∧ ExcC K D ∧ ExA H a D fs ∧ PySem.W.kitOne K (.ref D) u = some b ∧ Q (.bl b) H
theorem call_isX : CallR X (.builtin "isinstance") (rIsX X.K) := by
  intro pins s σ H xs us Q I r h
  obtain ⟨a, D, c, u, b, fs, rfl, k, C, ea, e, q⟩ := h
  obtain ⟨u1, u2, rfl, r1, r2⟩ := vals2 r
  have e2 := k.eq r2
  subst e2
  cases (show u1 = Value.ref a from r1)
  obtain ⟨ox, od, mA, J, _⟩ := ex_inst (K := X.K) I ea
  have hcl : (PySem.W.clsIn X.K D).isSome = true := by
    obtain ⟨cd, hc, _⟩ := PySem.W.any_some C.hd
    rw [hc]; rfl
  have hx : Value.ref a ≠ .builtin "__main__.__loader__#opaque" := Value.noConfusion
  exact PySem.W.kia_one (PySem.W.kitx_exc hcl C.hg C.hk C.hs C.ha C.hn C.ht C.hm) I.kIn J e hx fun tk => ⟨.bl b, H, I.kept (t' := tk) fun _ _ z => z, rfl, q⟩
end
end U
set_option maxHeartbeats 1000000
/-! repr of lists that hold dicts: only a dict must not be at sysModules -/
namespace PySem
section
variable {prog : Program} {w : World} {h : Heap}
def ShD (prog : Program) (w : World) (h : Heap) (v : Value) (d : PyData) : Prop := (∃ as, Reads h v d as) ∧ ∃ bs, ReadAtMost h d.depth bs ∧ ReprK prog w bs h d.depth v d.shown
def ShDs (prog : Program) (w : World) (h : Heap) (vs : List Value) (ds : List PyData) : Prop := (∃ as, ReadsAll h vs ds as) ∧ ∃ bs, ReadAtMost h (PyData.depthAll ds) bs ∧ ReprAllK prog w bs h (PyData.depthAll ds) vs (PyData.shownAll ds)
theorem ShD.of {v : Value} {d : PyData} {as : List Addr} (r : Reads h v d as) (hs : d.showable = true) (hsm : d.hasDict = true → sysModules ∉ as) (hz : d.shown.length ≤ sizeLine) : ShD prog w h v d := ⟨⟨_, r⟩, ReprK.of_reads r hs hsm hz⟩
theorem ShDs.nil : ShDs prog w h [] [] := ⟨⟨_, .nil⟩, [], (fun _ z => nomatch z), .nil⟩
theorem ShDs.cons {v : Value} {d : PyData} {vs : List Value} {ds : List PyData} (a : ShD prog w h v d) (b : ShDs prog w h vs ds) : ShDs prog w h (v :: vs) (d :: ds) := by
  obtain ⟨⟨as, r⟩, bs, m, k⟩ := a
  obtain ⟨⟨as', r'⟩, bs', m', k'⟩ := b
  have h1 : d.depth ≤ PyData.depthAll (d :: ds) := by simp only [PyData.depthAll]; omega
  have h2 : PyData.depthAll ds ≤ PyData.depthAll (d :: ds) := by simp only [PyData.depthAll]; omega
  refine ⟨⟨_, .cons r r'⟩, bs ++ bs', (m.mono h1).append (m'.mono h2), ?_⟩
  exact .cons ((k.more fun b hb => List.mem_append_left _ hb).level_le h1) (k'.more_le (fun b hb => List.mem_append_right _ hb) h2)
theorem ShD.list {a : Addr} {o : Obj} {vs : List Value} {ds : List PyData} {n : Nat} (h1 : h.get? a = some o) (h2 : o.cls = .type "list") (h3 : o.data = .seq vs.toArray n) (b : ShDs prog w h vs ds) : ShD prog w h (.ref a) (.list ds) := by
  obtain ⟨⟨as, r⟩, bs, hb, hk⟩ := b
  have rr : Reads h (.ref a) (.list ds) (a :: as) := .list h1 h2 h3 r
  have hna : a ∉ bs := not_mem_of_deeper rr (by simp only [PyData.depth]; omega) hb
  refine ⟨⟨_, rr⟩, a :: bs, ReadAtMost.cons rr (by simp only [PyData.depth]; omega) hb, ?_⟩
  simp only [PyData.depth, PyData.shown]
  cases vs with
  | nil =>
    have r' : ReadsAll h [] ds _ := r
    cases r'
    simp only [PyData.shownAll, listText_nil]
    exact ReprK.listEmpty h1 h2 h3
  | cons x l => exact ReprK.list h1 h2 h3 hna (by simpa using hk.length_eq) (fun i y e => hk.item i y (by simpa using e))
theorem repr_list_of {A : Around} {E : Value → Shared → Prop} {s : Shared} {Q : Value → Shared → Prop} {a : Addr} {o : Obj} {vs : List Value} {ds : List PyData} {n : Nat} (h1 : h.get? a = some o) (h2 : o.cls = .type "list") (h3 : o.data = .seq vs.toArray n) (b : ShDs prog w h vs ds)
    (hg : A.guards = some []) (hu : A.units + ((PyData.list ds).depth + 1) < cLine) (hk0 : ∀ b o, h.get? b = some o → s.heap.get? b = some o)
    (hQ : ∀ h' u tk, (∀ b o, s.heap.get? b = some o → h'.get? b = some o) → Q (.str (PyData.list ds).shown u) { s with heap := h', toks := tk })
    (hsz : (PyData.list ds).shown.length ≤ sizeLine) : wpAny (model prog w) A (call (.builtin "repr") [.ref a]) Q E s := by
  obtain ⟨⟨as, r⟩, bs, hb, hk⟩ := b
  have rr : Reads h (.ref a) (.list ds) (a :: as) := .list h1 h2 h3 r
  have hna : a ∉ bs := not_mem_of_deeper rr (by simp only [PyData.depth]; omega) hb
  have hz' : (listText (PyData.shownAll ds)).length ≤ sizeLine := by simpa only [PyData.shown] using hsz
  have S : ShowsBy prog w h a (.list ds) "list" "list.__repr__" := by
    refine ⟨F.slot_list_repr.toG, F.slot_list_str, F.slot_list_format, fun s hk0 => ⟨o, hk0 _ _ h1, h2⟩, fun A E s Q hg hu hk0 hQ => ?_⟩
    simp only [PyData.depth] at hu
    simp only [PyData.shown] at hQ
    cases vs with
    | nil =>
      have r' : ReadsAll h [] ds _ := r
      cases r'
      simp only [PyData.shownAll, listText_nil] at hQ
      exact call_list_repr_empty ⟨o, hk0 _ _ h1, h2⟩ (hk0 _ _ h1) h3 (hQ s.heap _ _ fun _ _ e => e)
    | cons x l =>
      exact call_list_reprK h1 h2 h3 hna (by simpa using hk.length_eq) (fun i y e => hk.item i y (by simpa using e)) hg (fun b _ => Clear.nil b) hu hk0 hQ hz'
  exact call_repr_slot (by omega) (S.typeIs s hk0) S.slotRepr (S.call A.in1 E s _ hg (by show A.units + 1 + (PyData.list ds).depth < cLine; omega) hk0 fun h' u tk hk => ⟨_, _, rfl, hQ h' u tk hk⟩)
end
end PySem
namespace U
open PySem PySem.Spec PyProof.Rows L2 StX
/-- what repr shows: scalars, texts, tuples and lists of such; a dict of scalars -/
inductive Sh1 (K : PySem.W.Frag) (H : Hp) : V → PyData → Prop
  | dp {v : V} {d : PyData} : Dp K H v d → d.showable = true → d.hasDict = false → d.shown.length ≤ sizeLine → Sh1 K H v d
  | dict {a : Addr} {kvs : List (Key × V)} {ds : List PyData} : H a = some (.dK kvs) → Paired (fun kv d => Sc kv.2 d) kvs ds → (flatD kvs ds).showable = true → (flatD kvs ds).shown.length ≤ sizeLine → Sh1 K H (.ref a) (flatD kvs ds)
/-- .. or a list of such -/
inductive Sh2 (K : PySem.W.Frag) (H : Hp) : V → PyData → Prop
  | one {v : V} {d : PyData} : Sh1 K H v d → Sh2 K H v d
  | lst {a : Addr} {vs : List V} {ds : List PyData} : H a = some (.lst vs) → Paired (Sh1 K H) vs ds → Sh2 K H (.ref a) (.list ds)
section
variable {X : Cx} {pins : List (Addr × Obj)} {σ : L2.St} {H : Hp} {s : Shared}
theorem Sh1.shd (I : Inv X pins σ H s) {v : V} {d : PyData} {u : Value} (z : Sh1 X.K H v d) (r : RelV v u) : ShD X.prog X.w s.heap u d := by
  cases z with
  | dp hd hs hn hz =>
    obtain ⟨as, rd⟩ := Dp.reads I d v u hd r
    exact .of rd hs (PyData.noDict_hsm hn) hz
  | dict ea z hs hz =>
    cases r
    obtain ⟨as, rd, hn⟩ := dict_reads I ea z
    exact .of rd hs (fun _ => hn) hz
theorem shds1 (I : Inv X pins σ H s) : ∀ {vs : List V} {ds : List PyData} {us : List Value}, Paired (Sh1 X.K H) vs ds → Vals vs us → ShDs X.prog X.w s.heap us ds
  | _, _, _, .nil, r => by cases r; exact .nil
  | _, _, _, .cons z zs, r => by
    cases r with
    | cons r1 r2 => exact .cons (z.shd I r1) (shds1 I zs r2)
theorem Sh2.shd (I : Inv X pins σ H s) {v : V} {d : PyData} {u : Value} (z : Sh2 X.K H v d) (r : RelV v u) : ShD X.prog X.w s.heap u d := by
  cases z with
  | one z => exact z.shd I r
  | lst ea zs =>
    cases r
    obtain ⟨_, its, n, rv, ho⟩ := (show ObjOk X.prog X.w H s.heap _ (.lst _) from I.hok _ _ ea)
    exact .list ho rfl rfl (shds1 I zs rv)
theorem shds2 (I : Inv X pins σ H s) : ∀ {vs : List V} {ds : List PyData} {us : List Value}, Paired (Sh2 X.K H) vs ds → Vals vs us → ShDs X.prog X.w s.heap us ds
  | _, _, _, .nil, r => by cases r; exact .nil
  | _, _, _, .cons z zs, r => by
    cases r with
    | cons r1 r2 => exact .cons (z.shd I r1) (shds2 I zs r2)
end
section
variable {X : Cx}
/-- repr(l), a list of such -/
def rReprM (K : PySem.W.Frag) : List V → Hp → VK → Prop := fun xs H Q => ∃ a vs ds, xs = [.ref a] ∧ H a = some (.lst vs) ∧ Paired (Sh2 K H) vs ds ∧ (PyData.list ds).depth ≤ 60 ∧ (PyData.list ds).shown.length ≤ sizeLine ∧ Q (.str (PyData.list ds).shown) H
theorem call_reprM (g : X.A.guards = some []) (hu : X.A.units + 64 < cLine) : CallR X (.builtin "repr") (rReprM X.K) := by
  intro pins s σ H xs us Q I r h
  obtain ⟨a, vs, ds, rfl, ea, z, hdp, hz, q⟩ := h
  obtain ⟨u, rfl, ru⟩ := r.one
  cases (show u = Value.ref a from ru)
  obtain ⟨_, its, n, rv, ho⟩ := (show ObjOk X.prog X.w H s.heap a (.lst vs) from I.hok a _ ea)
  exact repr_list_of ho rfl rfl (shds2 I z rv) g (by omega) (fun _ _ e => e) (fun h' u tk hk => ⟨.str _, H, I.kept (t' := tk) hk, ⟨_, rfl⟩, q⟩) hz
end
end U
set_option maxHeartbeats 1000000
namespace U
open PySem PySem.Spec PyProof.Rows L2 StX
/-! ### exceptions made and kept: short readings -/
def spX1 (C : Addr) (f : Str) : Sp := fun vs H Q _ => ∃ (a : Addr) (v : V), vs = [.ref a, v] ∧ H a = some (exo a C none) ∧ ∀ H2, (∀ b o, b ≠ a → H b = some o → H2 b = some o) → ExA H2 a C [(f, v)] → Q .non H2
def spX2 (C : Addr) (f g : Str) : Sp := fun vs H Q _ => ∃ (a : Addr) (x y : V), vs = [.ref a, x, y] ∧ H a = some (exo a C none) ∧ ∀ H2, (∀ b o, b ≠ a → H b = some o → H2 b = some o) → ExA H2 a C [(g, y), (f, x)] → Q .non H2
section
variable {H : Hp} {a dx C : Addr} {o o' u : HO} {f g : Str} {v x y : V}
theorem x1_off (h1 : H dx = none) (h2 : dx ≠ a) : ∀ b z, b ≠ a → H b = some z → upd (upd H dx o) a o' b = some z := fun b z hb e => by
  rw [upd_ne hb, upd_ne (ne_of_none e h1)]; exact e
theorem x1_exa (h2 : dx ≠ a) : ExA (upd (upd H dx (exd dx [(f, v)])) a (exo a C (some dx))) a C [(f, v)] := ⟨dx, upd_same, by rw [upd_ne h2, upd_same]⟩
theorem x2_off (h1 : H dx = none) (h2 : dx ≠ a) : ∀ b z, b ≠ a → H b = some z → upd (upd (upd H dx o) a o') dx u b = some z := fun b z hb e => by
  rw [upd_ne (ne_of_none e h1), upd_ne hb, upd_ne (ne_of_none e h1)]; exact e
theorem x2_exa (h2 : dx ≠ a) : ExA (upd (upd (upd H dx o) a (exo a C (some dx))) dx (exd dx [(g, y), (f, x)])) a C [(g, y), (f, x)] := ⟨dx, by rw [upd_ne h2.symm, upd_same], upd_same⟩
end
theorem xn_same {H1 H2 : Hp} {a C : Addr} (na : H1 a = none) (k : ∀ b o, b ≠ a → upd H1 a (exo a C none) b = some o → H2 b = some o) : L2.Same H1 H2 := fun b o e => by
  have hb : b ≠ a := ne_of_none e na
  exact k b o hb (by rw [upd_ne hb]; exact e)
theorem xn1 {C : Addr} {f : Str} {v : V} {H1 : Hp} {Q : VK} (q : ∀ a H2, H1 a = none → L2.Same H1 H2 → ExA H2 a C [(f, v)] → Q (.ref a) H2) :
    [v].length ≤ 1000 ∧ ∀ a, H1 a = none → spX1 C f (.ref a :: [v]) (upd H1 a (exo a C none)) (fun u H2 => u = .non ∧ Q (.ref a) H2) (fun _ _ _ => False) :=
  ⟨by show 1 ≤ 1000; decide, fun a na => ⟨a, v, rfl, upd_same, fun H2 k x => ⟨rfl, q a H2 na (xn_same na k) x⟩⟩⟩
theorem xk1 {C : Addr} {f : Str} {v : V} {H1 : Hp} {Q : VK} (q : ∀ a H2, H1 a = none → L2.Same H1 H2 → ExA H2 a C [(f, v)] → Q (.ref a) H2) :
    [v].length = 1 ∧ ∀ a, H1 a = none → spX1 C f (.ref a :: id [v]) (upd H1 a (exo a C none)) (fun u H2 => u = .non ∧ Q (.ref a) H2) (fun _ _ _ => False) :=
  ⟨rfl, fun a na => ⟨a, v, rfl, upd_same, fun H2 k x => ⟨rfl, q a H2 na (xn_same na k) x⟩⟩⟩
theorem xn2 {C : Addr} {f g : Str} {v u : V} {H1 : Hp} {Q : VK} (q : ∀ a H2, H1 a = none → L2.Same H1 H2 → ExA H2 a C [(g, u), (f, v)] → Q (.ref a) H2) :
    [v, u].length ≤ 1000 ∧ ∀ a, H1 a = none → spX2 C f g (.ref a :: [v, u]) (upd H1 a (exo a C none)) (fun u H2 => u = .non ∧ Q (.ref a) H2) (fun _ _ _ => False) :=
  ⟨by show 2 ≤ 1000; decide, fun a na => ⟨a, v, u, rfl, upd_same, fun H2 k x => ⟨rfl, q a H2 na (xn_same na k) x⟩⟩⟩
def swap2 {α : Type} : List α → List α
  | [a, b] => [b, a]
  | l => l
theorem swap2_vals {zs : List V} {ws : List Value} (r : Vals zs ws) : Vals (swap2 zs) (swap2 ws) := by
  cases r with
  | nil => exact .nil
  | cons a r =>
    cases r with
    | nil => exact .cons a .nil
    | cons b r =>
      cases r with
      | nil => exact .cons b (.cons a .nil)
      | cons c r => exact .cons a (.cons b (.cons c r))
theorem xk2 {C : Addr} {f g : Str} {v u : V} {H1 : Hp} {Q : VK} (q : ∀ a H2, H1 a = none → L2.Same H1 H2 → ExA H2 a C [(g, u), (f, v)] → Q (.ref a) H2) :
    [u, v].length = 2 ∧ ∀ a, H1 a = none → spX2 C f g (.ref a :: swap2 [u, v]) (upd H1 a (exo a C none)) (fun u H2 => u = .non ∧ Q (.ref a) H2) (fun _ _ _ => False) :=
  ⟨rfl, fun a na => ⟨a, v, u, rfl, upd_same, fun H2 k x => ⟨rfl, q a H2 na (xn_same na k) x⟩⟩⟩
/-! ### the classes' tables -/
def tabA (K : PySem.W.Frag) (Cs : List Addr) : Bool := (List.range Cs.length).all fun i => (List.range Cs.length).all fun j => PySem.W.kitOne K (.ref (Cs.getD i 0)) (.ref (Cs.getD j 0)) == some (i == j)
def bNames : List String := ["ValueError", "RuntimeError", "OverflowError", "LookupError", "KeyError", "ArithmeticError"]
def baseRow (i : Nat) : List Bool :=
  if i = 14 ∨ i = 16 ∨ i = 19 then [false, true, false, false, false, false] else if i = 13 then [false, false, true, false, false, true] else if i = 6 ∨ i = 15 then [false, false, false, true, false, false] else if i = 17 then [false, false, false, true, true, false] else [true, false, false, false, false, false]
def tabB (K : PySem.W.Frag) (Cs : List Addr) : Bool := (List.range Cs.length).all fun i => (List.range 6).all fun j => PySem.W.kitOne K (.ref (Cs.getD i 0)) (.type (bNames.getD j "")) == some ((baseRow i).getD j false)
theorem tabA_at {K : PySem.W.Frag} {Cs : List Addr} (h : tabA K Cs = true) {i j : Nat} {C D : Addr} (hi : Cs[i]? = some C) (hj : Cs[j]? = some D) : PySem.W.kitOne K (.ref C) (.ref D) = some (i == j) := by
  have li := (List.getElem?_eq_some_iff.mp hi).1
  have lj := (List.getElem?_eq_some_iff.mp hj).1
  have := List.all_eq_true.mp (List.all_eq_true.mp h i (List.mem_range.mpr li)) j (List.mem_range.mpr lj)
  rw [List.getD_eq_getElem?_getD, List.getD_eq_getElem?_getD, hi, hj] at this
  exact eq_of_beq this
theorem tabB_at {K : PySem.W.Frag} {Cs : List Addr} (h : tabB K Cs = true) {i j : Nat} {C : Addr} (hi : Cs[i]? = some C) (hj : j < 6) : PySem.W.kitOne K (.ref C) (.type (bNames.getD j "")) = some ((baseRow i).getD j false) := by
  have li := (List.getElem?_eq_some_iff.mp hi).1
  have := List.all_eq_true.mp (List.all_eq_true.mp h i (List.mem_range.mpr li)) j (List.mem_range.mpr hj)
  rw [List.getD_eq_getElem?_getD (l := Cs), hi] at this
  exact eq_of_beq this
/-! ### the values that are kept: none at p -/
inductive It (p : Addr) (H : Hp) : V → PyData → Prop
  | sc {v : V} {d : PyData} : Sc v d → d.showable = true → d.shown.length ≤ 41 → It p H v d
  | tup {a : Addr} : a ≠ p → H a = some (.tup [.int 0, .int 1]) → It p H (.ref a) (.tuple [.int 0, .int 1])
  | tup2 {a b : Addr} : a ≠ p → b ≠ p → H a = some (.tup [.ref b]) → H b = some (.tup []) → It p H (.ref a) (.tuple [.tuple []])
  | lst0 {a : Addr} : a ≠ p → H a = some (.lst []) → It p H (.ref a) (.list [])
  | lst1 {a : Addr} : a ≠ p → H a = some (.lst [.str "a"]) → It p H (.ref a) (.list [.str "a"])
  | dic0 {a : Addr} : a ≠ p → H a = some (.dK []) → It p H (.ref a) (.dict [])
  | dic1 {a : Addr} : a ≠ p → H a = some (.dK [(.inr "x", .int 5)]) → It p H (.ref a) (.dict [(.str "x", .int 5)])
theorem It.off {p : Addr} {H H' : Hp} {v : V} {d : PyData} (h : It p H v d) (o : Off p H H') : It p H' v d := by
  cases h with
  | sc a b c => exact .sc a b c
  | tup a e => exact .tup a (o _ _ a e)
  | tup2 a b e e' => exact .tup2 a b (o _ _ a e) (o _ _ b e')
  | lst0 a e => exact .lst0 a (o _ _ a e)
  | lst1 a e => exact .lst1 a (o _ _ a e)
  | dic0 a e => exact .dic0 a (o _ _ a e)
  | dic1 a e => exact .dic1 a (o _ _ a e)
theorem It.same {p : Addr} {H H' : Hp} {v : V} {d : PyData} (h : It p H v d) (s : L2.Same H H') : It p H' v d := h.off fun _ _ _ e => s _ _ e
theorem Sc.dp {K : PySem.W.Frag} {H : Hp} {v : V} {d : PyData} (h : Sc v d) : Dp K H v d := by
  cases h
  · exact .non
  · exact .bl _
  · exact .int _
  · exact .str _
theorem Sc.nd {v : V} {d : PyData} (h : Sc v d) : d.hasDict = false ∧ d.depth = 0 := by
  cases h <;> exact ⟨by simp only [PyData.hasDict], by simp only [PyData.depth]⟩
theorem It.sh {K : PySem.W.Frag} {p : Addr} {H : Hp} {v : V} {d : PyData} (h : It p H v d) : Sh1 K H v d := by
  cases h with
  | sc a b c => exact .dp a.dp b a.nd.1 (Nat.le_trans c (by decide))
  | tup a e => exact .dp (.tup (SqT.of e) (.cons (.int _) (.cons (.int _) .nil))) (by decide +kernel) (by decide +kernel) (by decide +kernel)
  | tup2 a b e e' => exact .dp (.tup (SqT.of e) (.cons (.tup (SqT.of e') .nil) .nil)) (by decide +kernel) (by decide +kernel) (by decide +kernel)
  | lst0 a e => exact .dp (.lst (SqL.of e) .nil) (by decide +kernel) (by decide +kernel) (by decide +kernel)
  | lst1 a e => exact .dp (.lst (SqL.of e) (.cons (.str _) .nil)) (by decide +kernel) (by decide +kernel) (by decide +kernel)
  | dic0 a e => exact .dict (kvs := []) (ds := []) e .nil (by decide +kernel) (by decide +kernel)
  | dic1 a e => exact .dict (kvs := [(.inr "x", .int 5)]) (ds := [.int 5]) e (.cons (.int 5) .nil) (by decide +kernel) (by decide +kernel)
theorem It.len {p : Addr} {H : Hp} {v : V} {d : PyData} (h : It p H v d) : d.shown.length ≤ 41 ∧ d.depth ≤ 2 := by
  cases h with
  | sc a b c => exact ⟨c, by rw [a.nd.2]; decide⟩
  | tup a e => exact ⟨by decide +kernel, by decide +kernel⟩
  | tup2 a b e e' => exact ⟨by decide +kernel, by decide +kernel⟩
  | lst0 a e => exact ⟨by decide +kernel, by decide +kernel⟩
  | lst1 a e => exact ⟨by decide +kernel, by decide +kernel⟩
  | dic0 a e => exact ⟨by decide +kernel, by decide +kernel⟩
  | dic1 a e => exact ⟨by decide +kernel, by decide +kernel⟩
theorem shownAll_map : ∀ ds : List PyData, PyData.shownAll ds = ds.map PyData.shown
  | [] => by simp only [PyData.shownAll, List.map_nil]
  | d :: ds => by simp only [PyData.shownAll, List.map_cons, shownAll_map ds]
theorem depthAll_le {n : Nat} : ∀ {ds : List PyData}, (∀ d ∈ ds, d.depth ≤ n) → PyData.depthAll ds ≤ n
  | [], _ => by simp only [PyData.depthAll]; omega
  | d :: ds, h => by
    have a := h d List.mem_cons_self
    have b := depthAll_le (ds := ds) fun e he => h e (List.mem_cons_of_mem _ he)
    simp only [PyData.depthAll]
    omega
theorem sum_le {n : Nat} : ∀ {l : List Nat}, (∀ x ∈ l, x ≤ n) → l.sum ≤ n * l.length
  | [], _ => Nat.zero_le _
  | x :: l, h => by
    have a := h x List.mem_cons_self
    have b := sum_le (l := l) fun e he => h e (List.mem_cons_of_mem _ he)
    rw [List.sum_cons, List.length_cons, Nat.mul_add]
    omega
theorem list_shown_le {n : Nat} {ds : List PyData} (h : ∀ d ∈ ds, d.shown.length ≤ n) : (PyData.list ds).shown.length ≤ (n + 2) * ds.length + 3 := by
  simp only [PyData.shown]
  rw [shownAll_map]
  have h1 := listText_len_le (ds.map PyData.shown)
  have h2 : ((ds.map PyData.shown).map (·.length)).sum ≤ n * ds.length := by
    have := sum_le (n := n) (l := (ds.map PyData.shown).map (·.length)) (by
      intro x hx
      rw [List.map_map] at hx
      obtain ⟨d, hd, rfl⟩ := List.mem_map.mp hx
      exact h d hd)
    rw [List.length_map, List.length_map] at this
    exact this
  rw [List.length_map] at h1
  rw [Nat.add_mul]
  omega
end U
namespace My
open PySem L2
def top (i : Nat) : Stmt := PySem.Challenge.pw_chainmaps_k05_error_classes.main.body.getD i (.Pass ⟨0, 0, 0, 0⟩)
abbrev s_l_hand : Stmt := top 22
abbrev n_l_hand : List Str := ["_law_script", "_law_k", "_law_cell", "_law_seed"]
theorem sc_l_hand : FnScope n_l_hand ["_law_script", "_law_k"] (defScope s_l_hand) := ⟨rfl, rfl, rfl, by decide +kernel, rfl, by decide +kernel, by decide +kernel⟩
abbrev s_l_draw : Stmt := top 23
abbrev n_l_draw : List Str := ["_law_pool", "_law_size", "_law_found"]
theorem sc_l_draw : FnScope n_l_draw ["_law_pool", "_law_size"] (defScope s_l_draw) := ⟨rfl, rfl, rfl, by decide +kernel, rfl, by decide +kernel, by decide +kernel⟩
abbrev s_l_item : Stmt := top 24
abbrev n_l_item : List Str := ["_law_pool", "_law_some"]
theorem sc_l_item : FnScope n_l_item ["_law_pool"] (defScope s_l_item) := ⟨rfl, rfl, rfl, by decide +kernel, rfl, by decide +kernel, by decide +kernel⟩
abbrev s_l_of_values : Stmt := top 25
abbrev n_l_of_values : List Str := ["_law_pool", "_law_item_here", "_law_found"]
theorem sc_l_of_values : FnScope n_l_of_values ["_law_pool", "_law_item_here"] (defScope s_l_of_values) := ⟨rfl, rfl, rfl, by decide +kernel, rfl, by decide +kernel, by decide +kernel⟩
abbrev s_l_others : Stmt := top 26
abbrev n_l_others : List Str := ["_law_pool", "_law_item_here", "_law_found"]
theorem sc_l_others : FnScope n_l_others ["_law_pool", "_law_item_here"] (defScope s_l_others) := ⟨rfl, rfl, rfl, by decide +kernel, rfl, by decide +kernel, by decide +kernel⟩
abbrev s_l_marks : Stmt := top 27
abbrev n_l_marks : List Str := ["_law_e", "_law_found"]
theorem sc_l_marks : FnScope n_l_marks ["_law_e"] (defScope s_l_marks) := ⟨rfl, rfl, rfl, by decide +kernel, rfl, by decide +kernel, by decide +kernel⟩
abbrev s_l_above : Stmt := top 28
abbrev n_l_above : List Str := ["_law_e", "_law_found"]
theorem sc_l_above : FnScope n_l_above ["_law_e"] (defScope s_l_above) := ⟨rfl, rfl, rfl, by decide +kernel, rfl, by decide +kernel, by decide +kernel⟩
abbrev s_l_bases : Stmt := top 29
abbrev n_l_bases : List Str := ["_law_place"]
theorem sc_l_bases : FnScope n_l_bases ["_law_place"] (defScope s_l_bases) := ⟨rfl, rfl, rfl, by decide +kernel, rfl, by decide +kernel, by decide +kernel⟩
abbrev s_law : Stmt := top 30
abbrev n_law : List Str := ["_law_script", "_law_k", "_law_pool", "_law_item_here", "_law_later", "_law_values", "_law_others_here", "_law_pairs", "_law_kept", "_law_place", "_law_e", "_law_at"]
theorem sc_law : FnScope n_law ["_law_script"] (defScope s_law) := ⟨rfl, rfl, rfl, by decide +kernel, rfl, by decide +kernel, by decide +kernel⟩
abbrev s_InvalidSize__init : Stmt := inClass (top 2) 0
abbrev n_InvalidSize__init : List Str := ["self", "value"]
theorem sc_InvalidSize__init : FnScope n_InvalidSize__init ["self", "value"] (defScope s_InvalidSize__init) := ⟨rfl, rfl, rfl, by decide +kernel, rfl, by decide +kernel, by decide +kernel⟩
abbrev s_InvalidElement__init : Stmt := inClass (top 3) 0
abbrev n_InvalidElement__init : List Str := ["self", "value"]
theorem sc_InvalidElement__init : FnScope n_InvalidElement__init ["self", "value"] (defScope s_InvalidElement__init) := ⟨rfl, rfl, rfl, by decide +kernel, rfl, by decide +kernel, by decide +kernel⟩
abbrev s_InvalidNumber__init : Stmt := inClass (top 5) 0
abbrev n_InvalidNumber__init : List Str := ["self", "value"]
theorem sc_InvalidNumber__init : FnScope n_InvalidNumber__init ["self", "value"] (defScope s_InvalidNumber__init) := ⟨rfl, rfl, rfl, by decide +kernel, rfl, by decide +kernel, by decide +kernel⟩
abbrev s_InvalidFamily__init : Stmt := inClass (top 11) 0
abbrev n_InvalidFamily__init : List Str := ["self", "value"]
theorem sc_InvalidFamily__init : FnScope n_InvalidFamily__init ["self", "value"] (defScope s_InvalidFamily__init) := ⟨rfl, rfl, rfl, by decide +kernel, rfl, by decide +kernel, by decide +kernel⟩
abbrev s_InvalidUser__init : Stmt := inClass (top 14) 0
abbrev n_InvalidUser__init : List Str := ["self", "value"]
theorem sc_InvalidUser__init : FnScope n_InvalidUser__init ["self", "value"] (defScope s_InvalidUser__init) := ⟨rfl, rfl, rfl, by decide +kernel, rfl, by decide +kernel, by decide +kernel⟩
abbrev s_InvalidCommand__init : Stmt := inClass (top 20) 0
abbrev n_InvalidCommand__init : List Str := ["self", "value"]
theorem sc_InvalidCommand__init : FnScope n_InvalidCommand__init ["self", "value"] (defScope s_InvalidCommand__init) := ⟨rfl, rfl, rfl, by decide +kernel, rfl, by decide +kernel, by decide +kernel⟩
abbrev s_Undefined__init : Stmt := inClass (top 9) 0
abbrev n_Undefined__init : List Str := ["self", "value"]
theorem sc_Undefined__init : FnScope n_Undefined__init ["self", "value"] (defScope s_Undefined__init) := ⟨rfl, rfl, rfl, by decide +kernel, rfl, by decide +kernel, by decide +kernel⟩
abbrev s_InvalidMap__init : Stmt := inClass (top 1) 0
abbrev n_InvalidMap__init : List Str := ["self", "part"]
theorem sc_InvalidMap__init : FnScope n_InvalidMap__init ["self", "part"] (defScope s_InvalidMap__init) := ⟨rfl, rfl, rfl, by decide +kernel, rfl, by decide +kernel, by decide +kernel⟩
abbrev s_InvalidShape__init : Stmt := inClass (top 4) 0
abbrev n_InvalidShape__init : List Str := ["self", "part"]
theorem sc_InvalidShape__init : FnScope n_InvalidShape__init ["self", "part"] (defScope s_InvalidShape__init) := ⟨rfl, rfl, rfl, by decide +kernel, rfl, by decide +kernel, by decide +kernel⟩
abbrev s_InvalidPartial__init : Stmt := inClass (top 13) 0
abbrev n_InvalidPartial__init : List Str := ["self", "part"]
theorem sc_InvalidPartial__init : FnScope n_InvalidPartial__init ["self", "part"] (defScope s_InvalidPartial__init) := ⟨rfl, rfl, rfl, by decide +kernel, rfl, by decide +kernel, by decide +kernel⟩
abbrev s_ParseError__init : Stmt := inClass (top 19) 0
abbrev n_ParseError__init : List Str := ["self", "part"]
theorem sc_ParseError__init : FnScope n_ParseError__init ["self", "part"] (defScope s_ParseError__init) := ⟨rfl, rfl, rfl, by decide +kernel, rfl, by decide +kernel, by decide +kernel⟩
abbrev s_InvalidSteps__init : Stmt := inClass (top 6) 0
abbrev n_InvalidSteps__init : List Str := ["self", "position"]
theorem sc_InvalidSteps__init : FnScope n_InvalidSteps__init ["self", "position"] (defScope s_InvalidSteps__init) := ⟨rfl, rfl, rfl, by decide +kernel, rfl, by decide +kernel, by decide +kernel⟩
abbrev s_InvalidWord__init : Stmt := inClass (top 12) 0
abbrev n_InvalidWord__init : List Str := ["self", "position"]
theorem sc_InvalidWord__init : FnScope n_InvalidWord__init ["self", "position"] (defScope s_InvalidWord__init) := ⟨rfl, rfl, rfl, by decide +kernel, rfl, by decide +kernel, by decide +kernel⟩
abbrev s_LimitExceeded__init : Stmt := inClass (top 10) 0
abbrev n_LimitExceeded__init : List Str := ["self", "limit"]
theorem sc_LimitExceeded__init : FnScope n_LimitExceeded__init ["self", "limit"] (defScope s_LimitExceeded__init) := ⟨rfl, rfl, rfl, by decide +kernel, rfl, by decide +kernel, by decide +kernel⟩
abbrev s_NotLast__init : Stmt := inClass (top 15) 0
abbrev n_NotLast__init : List Str := ["self", "user"]
theorem sc_NotLast__init : FnScope n_NotLast__init ["self", "user"] (defScope s_NotLast__init) := ⟨rfl, rfl, rfl, by decide +kernel, rfl, by decide +kernel, by decide +kernel⟩
abbrev s_NothingToUndo__init : Stmt := inClass (top 16) 0
abbrev n_NothingToUndo__init : List Str := ["self", "user"]
theorem sc_NothingToUndo__init : FnScope n_NothingToUndo__init ["self", "user"] (defScope s_NothingToUndo__init) := ⟨rfl, rfl, rfl, by decide +kernel, rfl, by decide +kernel, by decide +kernel⟩
abbrev s_TooFew__init : Stmt := inClass (top 17) 0
abbrev n_TooFew__init : List Str := ["self", "number"]
theorem sc_TooFew__init : FnScope n_TooFew__init ["self", "number"] (defScope s_TooFew__init) := ⟨rfl, rfl, rfl, by decide +kernel, rfl, by decide +kernel, by decide +kernel⟩
abbrev s_UnknownName__init : Stmt := inClass (top 18) 0
abbrev n_UnknownName__init : List Str := ["self", "name"]
theorem sc_UnknownName__init : FnScope n_UnknownName__init ["self", "name"] (defScope s_UnknownName__init) := ⟨rfl, rfl, rfl, by decide +kernel, rfl, by decide +kernel, by decide +kernel⟩
abbrev s_SizeMismatch__init : Stmt := inClass (top 7) 0
abbrev n_SizeMismatch__init : List Str := ["self", "first", "second"]
theorem sc_SizeMismatch__init : FnScope n_SizeMismatch__init ["self", "first", "second"] (defScope s_SizeMismatch__init) := ⟨rfl, rfl, rfl, by decide +kernel, rfl, by decide +kernel, by decide +kernel⟩
abbrev s_Clash__init : Stmt := inClass (top 8) 0
abbrev n_Clash__init : List Str := ["self", "first", "second"]
theorem sc_Clash__init : FnScope n_Clash__init ["self", "first", "second"] (defScope s_Clash__init) := ⟨rfl, rfl, rfl, by decide +kernel, rfl, by decide +kernel, by decide +kernel⟩
set_option genInjectivity false
set_option genSizeOf false
structure Txt (K : PySem.W.Frag) (mg : Str → Option Value) where
  f_l_hand : Addr
  f_l_draw : Addr
  f_l_item : Addr
  f_l_of_values : Addr
  f_l_others : Addr
  f_l_marks : Addr
  f_l_above : Addr
  f_l_bases : Addr
  f_law : Addr
  C_InvalidSize : Addr
  f_InvalidSize__init : Addr
  C_InvalidElement : Addr
  f_InvalidElement__init : Addr
  C_InvalidNumber : Addr
  f_InvalidNumber__init : Addr
  C_InvalidFamily : Addr
  f_InvalidFamily__init : Addr
  C_InvalidUser : Addr
  f_InvalidUser__init : Addr
  C_InvalidCommand : Addr
  f_InvalidCommand__init : Addr
  C_Undefined : Addr
  f_Undefined__init : Addr
  C_InvalidMap : Addr
  f_InvalidMap__init : Addr
  C_InvalidShape : Addr
  f_InvalidShape__init : Addr
  C_InvalidPartial : Addr
  f_InvalidPartial__init : Addr
  C_ParseError : Addr
  f_ParseError__init : Addr
  C_InvalidSteps : Addr
  f_InvalidSteps__init : Addr
  C_InvalidWord : Addr
  f_InvalidWord__init : Addr
  C_LimitExceeded : Addr
  f_LimitExceeded__init : Addr
  C_NotLast : Addr
  f_NotLast__init : Addr
  C_NothingToUndo : Addr
  f_NothingToUndo__init : Addr
  C_TooFew : Addr
  f_TooFew__init : Addr
  C_UnknownName : Addr
  f_UnknownName__init : Addr
  C_SizeMismatch : Addr
  f_SizeMismatch__init : Addr
  C_Clash : Addr
  f_Clash__init : Addr
  A_l_hand : U.FnAt K "_law_hand" "_law_hand" s_l_hand f_l_hand ["_law_script", "_law_k"]
  g_l_hand : mg "_law_hand" = some (.ref f_l_hand)
  A_l_draw : U.FnAt K "_law_draw" "_law_draw" s_l_draw f_l_draw ["_law_pool", "_law_size"]
  g_l_draw : mg "_law_draw" = some (.ref f_l_draw)
  A_l_item : U.FnAt K "_law_item" "_law_item" s_l_item f_l_item ["_law_pool"]
  g_l_item : mg "_law_item" = some (.ref f_l_item)
  A_l_of_values : U.FnAt K "_law_of_values" "_law_of_values" s_l_of_values f_l_of_values ["_law_pool", "_law_item_here"]
  g_l_of_values : mg "_law_of_values" = some (.ref f_l_of_values)
  A_l_others : U.FnAt K "_law_others" "_law_others" s_l_others f_l_others ["_law_pool", "_law_item_here"]
  g_l_others : mg "_law_others" = some (.ref f_l_others)
  A_l_marks : U.FnAt K "_law_marks" "_law_marks" s_l_marks f_l_marks ["_law_e"]
  g_l_marks : mg "_law_marks" = some (.ref f_l_marks)
  A_l_above : U.FnAt K "_law_above" "_law_above" s_l_above f_l_above ["_law_e"]
  g_l_above : mg "_law_above" = some (.ref f_l_above)
  A_l_bases : U.FnAt K "_law_bases" "_law_bases" s_l_bases f_l_bases ["_law_place"]
  g_l_bases : mg "_law_bases" = some (.ref f_l_bases)
  A_law : U.FnAt K "law" "law" s_law f_law ["_law_script"]
  L_law : ∃ fd, Fun K "law" "law" s_law f_law fd ∧ ∀ (s : Shared) (u : Value), BindsTo s fd ⟨[u], []⟩ [("_law_script", u)]
  g_law : mg "law" = some (.ref f_law)
  g_InvalidSize : mg "InvalidSize" = some (.ref C_InvalidSize)
  x_InvalidSize : OexG K C_InvalidSize
  xf_InvalidSize : XfC K C_InvalidSize
  xe_InvalidSize : ExcC K C_InvalidSize
  te_InvalidSize : PySem.W.exmOne K (.ref C_InvalidSize) (.ref C_InvalidSize) = some true
  na_value_InvalidSize : PySem.W.findIn K (.ref C_InvalidSize) "value" = some none
  A_InvalidSize__init : U.FnAt K "__init__" "InvalidSize.__init__" s_InvalidSize__init f_InvalidSize__init ["self", "value"]
  m_InvalidSize__init : PySem.W.findIn K (.ref C_InvalidSize) "__init__" = some (some (.ref f_InvalidSize__init))
  ti_InvalidSize__init : PySem.W.typeIn K (.ref f_InvalidSize__init) = some (.type "function")
  KW_InvalidSize__init : ∃ fd, Fun K "__init__" "InvalidSize.__init__" s_InvalidSize__init f_InvalidSize__init fd ∧ ∀ (s : Shared) (v u : Value), BindsTo s fd ⟨[v], [("value", u)]⟩ [("self", v), ("value", u)]
  g_InvalidElement : mg "InvalidElement" = some (.ref C_InvalidElement)
  x_InvalidElement : OexG K C_InvalidElement
  xf_InvalidElement : XfC K C_InvalidElement
  xe_InvalidElement : ExcC K C_InvalidElement
  te_InvalidElement : PySem.W.exmOne K (.ref C_InvalidElement) (.ref C_InvalidElement) = some true
  na_value_InvalidElement : PySem.W.findIn K (.ref C_InvalidElement) "value" = some none
  A_InvalidElement__init : U.FnAt K "__init__" "InvalidElement.__init__" s_InvalidElement__init f_InvalidElement__init ["self", "value"]
  m_InvalidElement__init : PySem.W.findIn K (.ref C_InvalidElement) "__init__" = some (some (.ref f_InvalidElement__init))
  ti_InvalidElement__init : PySem.W.typeIn K (.ref f_InvalidElement__init) = some (.type "function")
  KW_InvalidElement__init : ∃ fd, Fun K "__init__" "InvalidElement.__init__" s_InvalidElement__init f_InvalidElement__init fd ∧ ∀ (s : Shared) (v u : Value), BindsTo s fd ⟨[v], [("value", u)]⟩ [("self", v), ("value", u)]
  g_InvalidNumber : mg "InvalidNumber" = some (.ref C_InvalidNumber)
  x_InvalidNumber : OexG K C_InvalidNumber
  xf_InvalidNumber : XfC K C_InvalidNumber
  xe_InvalidNumber : ExcC K C_InvalidNumber
  te_InvalidNumber : PySem.W.exmOne K (.ref C_InvalidNumber) (.ref C_InvalidNumber) = some true
  na_value_InvalidNumber : PySem.W.findIn K (.ref C_InvalidNumber) "value" = some none
  A_InvalidNumber__init : U.FnAt K "__init__" "InvalidNumber.__init__" s_InvalidNumber__init f_InvalidNumber__init ["self", "value"]
  m_InvalidNumber__init : PySem.W.findIn K (.ref C_InvalidNumber) "__init__" = some (some (.ref f_InvalidNumber__init))
  ti_InvalidNumber__init : PySem.W.typeIn K (.ref f_InvalidNumber__init) = some (.type "function")
  KW_InvalidNumber__init : ∃ fd, Fun K "__init__" "InvalidNumber.__init__" s_InvalidNumber__init f_InvalidNumber__init fd ∧ ∀ (s : Shared) (v u : Value), BindsTo s fd ⟨[v], [("value", u)]⟩ [("self", v), ("value", u)]
  g_InvalidFamily : mg "InvalidFamily" = some (.ref C_InvalidFamily)
  x_InvalidFamily : OexG K C_InvalidFamily
  xf_InvalidFamily : XfC K C_InvalidFamily
  xe_InvalidFamily : ExcC K C_InvalidFamily
  te_InvalidFamily : PySem.W.exmOne K (.ref C_InvalidFamily) (.ref C_InvalidFamily) = some true
  na_value_InvalidFamily : PySem.W.findIn K (.ref C_InvalidFamily) "value" = some none
  A_InvalidFamily__init : U.FnAt K "__init__" "InvalidFamily.__init__" s_InvalidFamily__init f_InvalidFamily__init ["self", "value"]
  m_InvalidFamily__init : PySem.W.findIn K (.ref C_InvalidFamily) "__init__" = some (some (.ref f_InvalidFamily__init))
  ti_InvalidFamily__init : PySem.W.typeIn K (.ref f_InvalidFamily__init) = some (.type "function")
  KW_InvalidFamily__init : ∃ fd, Fun K "__init__" "InvalidFamily.__init__" s_InvalidFamily__init f_InvalidFamily__init fd ∧ ∀ (s : Shared) (v u : Value), BindsTo s fd ⟨[v], [("value", u)]⟩ [("self", v), ("value", u)]
  g_InvalidUser : mg "InvalidUser" = some (.ref C_InvalidUser)
  x_InvalidUser : OexG K C_InvalidUser
  xf_InvalidUser : XfC K C_InvalidUser
  xe_InvalidUser : ExcC K C_InvalidUser
  te_InvalidUser : PySem.W.exmOne K (.ref C_InvalidUser) (.ref C_InvalidUser) = some true
  na_value_InvalidUser : PySem.W.findIn K (.ref C_InvalidUser) "value" = some none
  A_InvalidUser__init : U.FnAt K "__init__" "InvalidUser.__init__" s_InvalidUser__init f_InvalidUser__init ["self", "value"]
  m_InvalidUser__init : PySem.W.findIn K (.ref C_InvalidUser) "__init__" = some (some (.ref f_InvalidUser__init))
  ti_InvalidUser__init : PySem.W.typeIn K (.ref f_InvalidUser__init) = some (.type "function")
  KW_InvalidUser__init : ∃ fd, Fun K "__init__" "InvalidUser.__init__" s_InvalidUser__init f_InvalidUser__init fd ∧ ∀ (s : Shared) (v u : Value), BindsTo s fd ⟨[v], [("value", u)]⟩ [("self", v), ("value", u)]
  g_InvalidCommand : mg "InvalidCommand" = some (.ref C_InvalidCommand)
  x_InvalidCommand : OexG K C_InvalidCommand
  xf_InvalidCommand : XfC K C_InvalidCommand
  xe_InvalidCommand : ExcC K C_InvalidCommand
  te_InvalidCommand : PySem.W.exmOne K (.ref C_InvalidCommand) (.ref C_InvalidCommand) = some true
  na_value_InvalidCommand : PySem.W.findIn K (.ref C_InvalidCommand) "value" = some none
  A_InvalidCommand__init : U.FnAt K "__init__" "InvalidCommand.__init__" s_InvalidCommand__init f_InvalidCommand__init ["self", "value"]
  m_InvalidCommand__init : PySem.W.findIn K (.ref C_InvalidCommand) "__init__" = some (some (.ref f_InvalidCommand__init))
  ti_InvalidCommand__init : PySem.W.typeIn K (.ref f_InvalidCommand__init) = some (.type "function")
  KW_InvalidCommand__init : ∃ fd, Fun K "__init__" "InvalidCommand.__init__" s_InvalidCommand__init f_InvalidCommand__init fd ∧ ∀ (s : Shared) (v u : Value), BindsTo s fd ⟨[v], [("value", u)]⟩ [("self", v), ("value", u)]
  g_Undefined : mg "Undefined" = some (.ref C_Undefined)
  x_Undefined : OexG K C_Undefined
  xf_Undefined : XfC K C_Undefined
  xe_Undefined : ExcC K C_Undefined
  te_Undefined : PySem.W.exmOne K (.ref C_Undefined) (.ref C_Undefined) = some true
  na_value_Undefined : PySem.W.findIn K (.ref C_Undefined) "value" = some none
  A_Undefined__init : U.FnAt K "__init__" "Undefined.__init__" s_Undefined__init f_Undefined__init ["self", "value"]
  m_Undefined__init : PySem.W.findIn K (.ref C_Undefined) "__init__" = some (some (.ref f_Undefined__init))
  ti_Undefined__init : PySem.W.typeIn K (.ref f_Undefined__init) = some (.type "function")
  KW_Undefined__init : ∃ fd, Fun K "__init__" "Undefined.__init__" s_Undefined__init f_Undefined__init fd ∧ ∀ (s : Shared) (v u : Value), BindsTo s fd ⟨[v], [("value", u)]⟩ [("self", v), ("value", u)]
  g_InvalidMap : mg "InvalidMap" = some (.ref C_InvalidMap)
  x_InvalidMap : OexG K C_InvalidMap
  xf_InvalidMap : XfC K C_InvalidMap
  xe_InvalidMap : ExcC K C_InvalidMap
  te_InvalidMap : PySem.W.exmOne K (.ref C_InvalidMap) (.ref C_InvalidMap) = some true
  na_part_InvalidMap : PySem.W.findIn K (.ref C_InvalidMap) "part" = some none
  A_InvalidMap__init : U.FnAt K "__init__" "InvalidMap.__init__" s_InvalidMap__init f_InvalidMap__init ["self", "part"]
  m_InvalidMap__init : PySem.W.findIn K (.ref C_InvalidMap) "__init__" = some (some (.ref f_InvalidMap__init))
  ti_InvalidMap__init : PySem.W.typeIn K (.ref f_InvalidMap__init) = some (.type "function")
  KW_InvalidMap__init : ∃ fd, Fun K "__init__" "InvalidMap.__init__" s_InvalidMap__init f_InvalidMap__init fd ∧ ∀ (s : Shared) (v u : Value), BindsTo s fd ⟨[v], [("part", u)]⟩ [("self", v), ("part", u)]
  g_InvalidShape : mg "InvalidShape" = some (.ref C_InvalidShape)
  x_InvalidShape : OexG K C_InvalidShape
  xf_InvalidShape : XfC K C_InvalidShape
  xe_InvalidShape : ExcC K C_InvalidShape
  te_InvalidShape : PySem.W.exmOne K (.ref C_InvalidShape) (.ref C_InvalidShape) = some true
  na_part_InvalidShape : PySem.W.findIn K (.ref C_InvalidShape) "part" = some none
  A_InvalidShape__init : U.FnAt K "__init__" "InvalidShape.__init__" s_InvalidShape__init f_InvalidShape__init ["self", "part"]
  m_InvalidShape__init : PySem.W.findIn K (.ref C_InvalidShape) "__init__" = some (some (.ref f_InvalidShape__init))
  ti_InvalidShape__init : PySem.W.typeIn K (.ref f_InvalidShape__init) = some (.type "function")
  KW_InvalidShape__init : ∃ fd, Fun K "__init__" "InvalidShape.__init__" s_InvalidShape__init f_InvalidShape__init fd ∧ ∀ (s : Shared) (v u : Value), BindsTo s fd ⟨[v], [("part", u)]⟩ [("self", v), ("part", u)]
  g_InvalidPartial : mg "InvalidPartial" = some (.ref C_InvalidPartial)
  x_InvalidPartial : OexG K C_InvalidPartial
  xf_InvalidPartial : XfC K C_InvalidPartial
  xe_InvalidPartial : ExcC K C_InvalidPartial
  te_InvalidPartial : PySem.W.exmOne K (.ref C_InvalidPartial) (.ref C_InvalidPartial) = some true
  na_part_InvalidPartial : PySem.W.findIn K (.ref C_InvalidPartial) "part" = some none
  A_InvalidPartial__init : U.FnAt K "__init__" "InvalidPartial.__init__" s_InvalidPartial__init f_InvalidPartial__init ["self", "part"]
  m_InvalidPartial__init : PySem.W.findIn K (.ref C_InvalidPartial) "__init__" = some (some (.ref f_InvalidPartial__init))
  ti_InvalidPartial__init : PySem.W.typeIn K (.ref f_InvalidPartial__init) = some (.type "function")
  KW_InvalidPartial__init : ∃ fd, Fun K "__init__" "InvalidPartial.__init__" s_InvalidPartial__init f_InvalidPartial__init fd ∧ ∀ (s : Shared) (v u : Value), BindsTo s fd ⟨[v], [("part", u)]⟩ [("self", v), ("part", u)]
  g_ParseError : mg "ParseError" = some (.ref C_ParseError)
  x_ParseError : OexG K C_ParseError
  xf_ParseError : XfC K C_ParseError
  xe_ParseError : ExcC K C_ParseError
  te_ParseError : PySem.W.exmOne K (.ref C_ParseError) (.ref C_ParseError) = some true
  na_part_ParseError : PySem.W.findIn K (.ref C_ParseError) "part" = some none
  A_ParseError__init : U.FnAt K "__init__" "ParseError.__init__" s_ParseError__init f_ParseError__init ["self", "part"]
  m_ParseError__init : PySem.W.findIn K (.ref C_ParseError) "__init__" = some (some (.ref f_ParseError__init))
  ti_ParseError__init : PySem.W.typeIn K (.ref f_ParseError__init) = some (.type "function")
  KW_ParseError__init : ∃ fd, Fun K "__init__" "ParseError.__init__" s_ParseError__init f_ParseError__init fd ∧ ∀ (s : Shared) (v u : Value), BindsTo s fd ⟨[v], [("part", u)]⟩ [("self", v), ("part", u)]
  g_InvalidSteps : mg "InvalidSteps" = some (.ref C_InvalidSteps)
  x_InvalidSteps : OexG K C_InvalidSteps
  xf_InvalidSteps : XfC K C_InvalidSteps
  xe_InvalidSteps : ExcC K C_InvalidSteps
  te_InvalidSteps : PySem.W.exmOne K (.ref C_InvalidSteps) (.ref C_InvalidSteps) = some true
  na_position_InvalidSteps : PySem.W.findIn K (.ref C_InvalidSteps) "position" = some none
  A_InvalidSteps__init : U.FnAt K "__init__" "InvalidSteps.__init__" s_InvalidSteps__init f_InvalidSteps__init ["self", "position"]
  m_InvalidSteps__init : PySem.W.findIn K (.ref C_InvalidSteps) "__init__" = some (some (.ref f_InvalidSteps__init))
  ti_InvalidSteps__init : PySem.W.typeIn K (.ref f_InvalidSteps__init) = some (.type "function")
  KW_InvalidSteps__init : ∃ fd, Fun K "__init__" "InvalidSteps.__init__" s_InvalidSteps__init f_InvalidSteps__init fd ∧ ∀ (s : Shared) (v u : Value), BindsTo s fd ⟨[v], [("position", u)]⟩ [("self", v), ("position", u)]
  g_InvalidWord : mg "InvalidWord" = some (.ref C_InvalidWord)
  x_InvalidWord : OexG K C_InvalidWord
  xf_InvalidWord : XfC K C_InvalidWord
  xe_InvalidWord : ExcC K C_InvalidWord
  te_InvalidWord : PySem.W.exmOne K (.ref C_InvalidWord) (.ref C_InvalidWord) = some true
  na_position_InvalidWord : PySem.W.findIn K (.ref C_InvalidWord) "position" = some none
  A_InvalidWord__init : U.FnAt K "__init__" "InvalidWord.__init__" s_InvalidWord__init f_InvalidWord__init ["self", "position"]
  m_InvalidWord__init : PySem.W.findIn K (.ref C_InvalidWord) "__init__" = some (some (.ref f_InvalidWord__init))
  ti_InvalidWord__init : PySem.W.typeIn K (.ref f_InvalidWord__init) = some (.type "function")
  KW_InvalidWord__init : ∃ fd, Fun K "__init__" "InvalidWord.__init__" s_InvalidWord__init f_InvalidWord__init fd ∧ ∀ (s : Shared) (v u : Value), BindsTo s fd ⟨[v], [("position", u)]⟩ [("self", v), ("position", u)]
  g_LimitExceeded : mg "LimitExceeded" = some (.ref C_LimitExceeded)
  x_LimitExceeded : OexG K C_LimitExceeded
  xf_LimitExceeded : XfC K C_LimitExceeded
  xe_LimitExceeded : ExcC K C_LimitExceeded
  te_LimitExceeded : PySem.W.exmOne K (.ref C_LimitExceeded) (.ref C_LimitExceeded) = some true
  na_limit_LimitExceeded : PySem.W.findIn K (.ref C_LimitExceeded) "limit" = some none
  A_LimitExceeded__init : U.FnAt K "__init__" "LimitExceeded.__init__" s_LimitExceeded__init f_LimitExceeded__init ["self", "limit"]
  m_LimitExceeded__init : PySem.W.findIn K (.ref C_LimitExceeded) "__init__" = some (some (.ref f_LimitExceeded__init))
  ti_LimitExceeded__init : PySem.W.typeIn K (.ref f_LimitExceeded__init) = some (.type "function")
  KW_LimitExceeded__init : ∃ fd, Fun K "__init__" "LimitExceeded.__init__" s_LimitExceeded__init f_LimitExceeded__init fd ∧ ∀ (s : Shared) (v u : Value), BindsTo s fd ⟨[v], [("limit", u)]⟩ [("self", v), ("limit", u)]
  g_NotLast : mg "NotLast" = some (.ref C_NotLast)
  x_NotLast : OexG K C_NotLast
  xf_NotLast : XfC K C_NotLast
  xe_NotLast : ExcC K C_NotLast
  te_NotLast : PySem.W.exmOne K (.ref C_NotLast) (.ref C_NotLast) = some true
  na_user_NotLast : PySem.W.findIn K (.ref C_NotLast) "user" = some none
  A_NotLast__init : U.FnAt K "__init__" "NotLast.__init__" s_NotLast__init f_NotLast__init ["self", "user"]
  m_NotLast__init : PySem.W.findIn K (.ref C_NotLast) "__init__" = some (some (.ref f_NotLast__init))
  ti_NotLast__init : PySem.W.typeIn K (.ref f_NotLast__init) = some (.type "function")
  KW_NotLast__init : ∃ fd, Fun K "__init__" "NotLast.__init__" s_NotLast__init f_NotLast__init fd ∧ ∀ (s : Shared) (v u : Value), BindsTo s fd ⟨[v], [("user", u)]⟩ [("self", v), ("user", u)]
  g_NothingToUndo : mg "NothingToUndo" = some (.ref C_NothingToUndo)
  x_NothingToUndo : OexG K C_NothingToUndo
  xf_NothingToUndo : XfC K C_NothingToUndo
  xe_NothingToUndo : ExcC K C_NothingToUndo
  te_NothingToUndo : PySem.W.exmOne K (.ref C_NothingToUndo) (.ref C_NothingToUndo) = some true
  na_user_NothingToUndo : PySem.W.findIn K (.ref C_NothingToUndo) "user" = some none
  A_NothingToUndo__init : U.FnAt K "__init__" "NothingToUndo.__init__" s_NothingToUndo__init f_NothingToUndo__init ["self", "user"]
  m_NothingToUndo__init : PySem.W.findIn K (.ref C_NothingToUndo) "__init__" = some (some (.ref f_NothingToUndo__init))
  ti_NothingToUndo__init : PySem.W.typeIn K (.ref f_NothingToUndo__init) = some (.type "function")
  KW_NothingToUndo__init : ∃ fd, Fun K "__init__" "NothingToUndo.__init__" s_NothingToUndo__init f_NothingToUndo__init fd ∧ ∀ (s : Shared) (v u : Value), BindsTo s fd ⟨[v], [("user", u)]⟩ [("self", v), ("user", u)]
  g_TooFew : mg "TooFew" = some (.ref C_TooFew)
  x_TooFew : OexG K C_TooFew
  xf_TooFew : XfC K C_TooFew
  xe_TooFew : ExcC K C_TooFew
  te_TooFew : PySem.W.exmOne K (.ref C_TooFew) (.ref C_TooFew) = some true
  na_number_TooFew : PySem.W.findIn K (.ref C_TooFew) "number" = some none
  A_TooFew__init : U.FnAt K "__init__" "TooFew.__init__" s_TooFew__init f_TooFew__init ["self", "number"]
  m_TooFew__init : PySem.W.findIn K (.ref C_TooFew) "__init__" = some (some (.ref f_TooFew__init))
  ti_TooFew__init : PySem.W.typeIn K (.ref f_TooFew__init) = some (.type "function")
  KW_TooFew__init : ∃ fd, Fun K "__init__" "TooFew.__init__" s_TooFew__init f_TooFew__init fd ∧ ∀ (s : Shared) (v u : Value), BindsTo s fd ⟨[v], [("number", u)]⟩ [("self", v), ("number", u)]
  g_UnknownName : mg "UnknownName" = some (.ref C_UnknownName)
  x_UnknownName : U.OexH K C_UnknownName
  xf_UnknownName : XfC K C_UnknownName
  xe_UnknownName : ExcC K C_UnknownName
  te_UnknownName : PySem.W.exmOne K (.ref C_UnknownName) (.ref C_UnknownName) = some true
  na_name_UnknownName : PySem.W.findIn K (.ref C_UnknownName) "name" = some none
  A_UnknownName__init : U.FnAt K "__init__" "UnknownName.__init__" s_UnknownName__init f_UnknownName__init ["self", "name"]
  m_UnknownName__init : PySem.W.findIn K (.ref C_UnknownName) "__init__" = some (some (.ref f_UnknownName__init))
  ti_UnknownName__init : PySem.W.typeIn K (.ref f_UnknownName__init) = some (.type "function")
  KW_UnknownName__init : ∃ fd, Fun K "__init__" "UnknownName.__init__" s_UnknownName__init f_UnknownName__init fd ∧ ∀ (s : Shared) (v u : Value), BindsTo s fd ⟨[v], [("name", u)]⟩ [("self", v), ("name", u)]
  g_SizeMismatch : mg "SizeMismatch" = some (.ref C_SizeMismatch)
  x_SizeMismatch : OexG K C_SizeMismatch
  xf_SizeMismatch : XfC K C_SizeMismatch
  xe_SizeMismatch : ExcC K C_SizeMismatch
  te_SizeMismatch : PySem.W.exmOne K (.ref C_SizeMismatch) (.ref C_SizeMismatch) = some true
  na_first_SizeMismatch : PySem.W.findIn K (.ref C_SizeMismatch) "first" = some none
  na_second_SizeMismatch : PySem.W.findIn K (.ref C_SizeMismatch) "second" = some none
  A_SizeMismatch__init : U.FnAt K "__init__" "SizeMismatch.__init__" s_SizeMismatch__init f_SizeMismatch__init ["self", "first", "second"]
  m_SizeMismatch__init : PySem.W.findIn K (.ref C_SizeMismatch) "__init__" = some (some (.ref f_SizeMismatch__init))
  ti_SizeMismatch__init : PySem.W.typeIn K (.ref f_SizeMismatch__init) = some (.type "function")
  KW_SizeMismatch__init : ∃ fd, Fun K "__init__" "SizeMismatch.__init__" s_SizeMismatch__init f_SizeMismatch__init fd ∧ ∀ (s : Shared) (v u w : Value), BindsTo s fd ⟨[v], [("second", w), ("first", u)]⟩ [("self", v), ("first", u), ("second", w)]
  g_Clash : mg "Clash" = some (.ref C_Clash)
  x_Clash : OexG K C_Clash
  xf_Clash : XfC K C_Clash
  xe_Clash : ExcC K C_Clash
  te_Clash : PySem.W.exmOne K (.ref C_Clash) (.ref C_Clash) = some true
  na_first_Clash : PySem.W.findIn K (.ref C_Clash) "first" = some none
  na_second_Clash : PySem.W.findIn K (.ref C_Clash) "second" = some none
  A_Clash__init : U.FnAt K "__init__" "Clash.__init__" s_Clash__init f_Clash__init ["self", "first", "second"]
  m_Clash__init : PySem.W.findIn K (.ref C_Clash) "__init__" = some (some (.ref f_Clash__init))
  ti_Clash__init : PySem.W.typeIn K (.ref f_Clash__init) = some (.type "function")
  KW_Clash__init : ∃ fd, Fun K "__init__" "Clash.__init__" s_Clash__init f_Clash__init fd ∧ ∀ (s : Shared) (v u w : Value), BindsTo s fd ⟨[v], [("second", w), ("first", u)]⟩ [("self", v), ("first", u), ("second", w)]
  kit_tabA : U.tabA K [C_InvalidSize, C_InvalidElement, C_InvalidNumber, C_InvalidFamily, C_InvalidUser, C_InvalidCommand, C_Undefined, C_InvalidMap, C_InvalidShape, C_InvalidPartial, C_ParseError, C_InvalidSteps, C_InvalidWord, C_LimitExceeded, C_NotLast, C_NothingToUndo, C_TooFew, C_UnknownName, C_SizeMismatch, C_Clash] = true
  kit_tabB : U.tabB K [C_InvalidSize, C_InvalidElement, C_InvalidNumber, C_InvalidFamily, C_InvalidUser, C_InvalidCommand, C_Undefined, C_InvalidMap, C_InvalidShape, C_InvalidPartial, C_ParseError, C_InvalidSteps, C_InvalidWord, C_LimitExceeded, C_NotLast, C_NothingToUndo, C_TooFew, C_UnknownName, C_SizeMismatch, C_Clash] = true
  n_isinstance : mg "isinstance" = none
  n_int : mg "int" = none
  n_len : mg "len" = none
  n_range : mg "range" = none
  n_max : mg "max" = none
  n_min : mg "min" = none
  n_repr : mg "repr" = none
  n_enumerate : mg "enumerate" = none
  n_ValueError : mg "ValueError" = none
  n_RuntimeError : mg "RuntimeError" = none
  n_OverflowError : mg "OverflowError" = none
  n_LookupError : mg "LookupError" = none
  n_KeyError : mg "KeyError" = none
  n_ArithmeticError : mg "ArithmeticError" = none
theorem mk_txt {K : PySem.W.Frag} {h : Heap} {mg : Str → Option Value} (X : K.In h) (G : h.Ns mainGlobals mg)
    {f_l_hand : Addr} {oc_l_hand kV_l_hand dc_l_hand pm_l_hand cd_l_hand ct_l_hand : Value} {od_l_hand an_l_hand : Option Addr} {sl_l_hand : Array (Option Value)}
    {f_l_draw : Addr} {oc_l_draw kV_l_draw dc_l_draw pm_l_draw cd_l_draw ct_l_draw : Value} {od_l_draw an_l_draw : Option Addr} {sl_l_draw : Array (Option Value)}
    {f_l_item : Addr} {oc_l_item kV_l_item dc_l_item pm_l_item cd_l_item ct_l_item : Value} {od_l_item an_l_item : Option Addr} {sl_l_item : Array (Option Value)}
    {f_l_of_values : Addr} {oc_l_of_values kV_l_of_values dc_l_of_values pm_l_of_values cd_l_of_values ct_l_of_values : Value} {od_l_of_values an_l_of_values : Option Addr} {sl_l_of_values : Array (Option Value)}
    {f_l_others : Addr} {oc_l_others kV_l_others dc_l_others pm_l_others cd_l_others ct_l_others : Value} {od_l_others an_l_others : Option Addr} {sl_l_others : Array (Option Value)}
    {f_l_marks : Addr} {oc_l_marks kV_l_marks dc_l_marks pm_l_marks cd_l_marks ct_l_marks : Value} {od_l_marks an_l_marks : Option Addr} {sl_l_marks : Array (Option Value)}
    {f_l_above : Addr} {oc_l_above kV_l_above dc_l_above pm_l_above cd_l_above ct_l_above : Value} {od_l_above an_l_above : Option Addr} {sl_l_above : Array (Option Value)}
    {f_l_bases : Addr} {oc_l_bases kV_l_bases dc_l_bases pm_l_bases cd_l_bases ct_l_bases : Value} {od_l_bases an_l_bases : Option Addr} {sl_l_bases : Array (Option Value)}
    {f_law : Addr} {oc_law kV_law dc_law pm_law cd_law ct_law : Value} {od_law an_law : Option Addr} {sl_law : Array (Option Value)}
    {C_InvalidSize : Addr} {nm_InvalidSize q_InvalidSize : Str} {N_InvalidSize : Addr} {bs_InvalidSize : List Value} {sn_InvalidSize : List Str} {sub_InvalidSize : List Value} {ab_InvalidSize : Bool} {col_InvalidSize : Option Bool} {dd_InvalidSize : Option Addr} {m0_InvalidSize m1_InvalidSize m2_InvalidSize m3_InvalidSize m5_InvalidSize : Option Value}
    {f_InvalidSize__init : Addr} {oc_InvalidSize__init kV_InvalidSize__init dc_InvalidSize__init pm_InvalidSize__init cd_InvalidSize__init ct_InvalidSize__init : Value} {od_InvalidSize__init an_InvalidSize__init : Option Addr} {sl_InvalidSize__init : Array (Option Value)}
    {C_InvalidElement : Addr} {nm_InvalidElement q_InvalidElement : Str} {N_InvalidElement : Addr} {bs_InvalidElement : List Value} {sn_InvalidElement : List Str} {sub_InvalidElement : List Value} {ab_InvalidElement : Bool} {col_InvalidElement : Option Bool} {dd_InvalidElement : Option Addr} {m0_InvalidElement m1_InvalidElement m2_InvalidElement m3_InvalidElement m5_InvalidElement : Option Value}
    {f_InvalidElement__init : Addr} {oc_InvalidElement__init kV_InvalidElement__init dc_InvalidElement__init pm_InvalidElement__init cd_InvalidElement__init ct_InvalidElement__init : Value} {od_InvalidElement__init an_InvalidElement__init : Option Addr} {sl_InvalidElement__init : Array (Option Value)}
    {C_InvalidNumber : Addr} {nm_InvalidNumber q_InvalidNumber : Str} {N_InvalidNumber : Addr} {bs_InvalidNumber : List Value} {sn_InvalidNumber : List Str} {sub_InvalidNumber : List Value} {ab_InvalidNumber : Bool} {col_InvalidNumber : Option Bool} {dd_InvalidNumber : Option Addr} {m0_InvalidNumber m1_InvalidNumber m2_InvalidNumber m3_InvalidNumber m5_InvalidNumber : Option Value}
    {f_InvalidNumber__init : Addr} {oc_InvalidNumber__init kV_InvalidNumber__init dc_InvalidNumber__init pm_InvalidNumber__init cd_InvalidNumber__init ct_InvalidNumber__init : Value} {od_InvalidNumber__init an_InvalidNumber__init : Option Addr} {sl_InvalidNumber__init : Array (Option Value)}
    {C_InvalidFamily : Addr} {nm_InvalidFamily q_InvalidFamily : Str} {N_InvalidFamily : Addr} {bs_InvalidFamily : List Value} {sn_InvalidFamily : List Str} {sub_InvalidFamily : List Value} {ab_InvalidFamily : Bool} {col_InvalidFamily : Option Bool} {dd_InvalidFamily : Option Addr} {m0_InvalidFamily m1_InvalidFamily m2_InvalidFamily m3_InvalidFamily m5_InvalidFamily : Option Value}
    {f_InvalidFamily__init : Addr} {oc_InvalidFamily__init kV_InvalidFamily__init dc_InvalidFamily__init pm_InvalidFamily__init cd_InvalidFamily__init ct_InvalidFamily__init : Value} {od_InvalidFamily__init an_InvalidFamily__init : Option Addr} {sl_InvalidFamily__init : Array (Option Value)}
    {C_InvalidUser : Addr} {nm_InvalidUser q_InvalidUser : Str} {N_InvalidUser : Addr} {bs_InvalidUser : List Value} {sn_InvalidUser : List Str} {sub_InvalidUser : List Value} {ab_InvalidUser : Bool} {col_InvalidUser : Option Bool} {dd_InvalidUser : Option Addr} {m0_InvalidUser m1_InvalidUser m2_InvalidUser m3_InvalidUser m5_InvalidUser : Option Value}
    {f_InvalidUser__init : Addr} {oc_InvalidUser__init kV_InvalidUser__init dc_InvalidUser__init pm_InvalidUser__init cd_InvalidUser__init ct_InvalidUser__init : Value} {od_InvalidUser__init an_InvalidUser__init : Option Addr} {sl_InvalidUser__init : Array (Option Value)}
    {C_InvalidCommand : Addr} {nm_InvalidCommand q_InvalidCommand : Str} {N_InvalidCommand : Addr} {bs_InvalidCommand : List Value} {sn_InvalidCommand : List Str} {sub_InvalidCommand : List Value} {ab_InvalidCommand : Bool} {col_InvalidCommand : Option Bool} {dd_InvalidCommand : Option Addr} {m0_InvalidCommand m1_InvalidCommand m2_InvalidCommand m3_InvalidCommand m5_InvalidCommand : Option Value}
    {f_InvalidCommand__init : Addr} {oc_InvalidCommand__init kV_InvalidCommand__init dc_InvalidCommand__init pm_InvalidCommand__init cd_InvalidCommand__init ct_InvalidCommand__init : Value} {od_InvalidCommand__init an_InvalidCommand__init : Option Addr} {sl_InvalidCommand__init : Array (Option Value)}
    {C_Undefined : Addr} {nm_Undefined q_Undefined : Str} {N_Undefined : Addr} {bs_Undefined : List Value} {sn_Undefined : List Str} {sub_Undefined : List Value} {ab_Undefined : Bool} {col_Undefined : Option Bool} {dd_Undefined : Option Addr} {m0_Undefined m1_Undefined m2_Undefined m3_Undefined m5_Undefined : Option Value}
    {f_Undefined__init : Addr} {oc_Undefined__init kV_Undefined__init dc_Undefined__init pm_Undefined__init cd_Undefined__init ct_Undefined__init : Value} {od_Undefined__init an_Undefined__init : Option Addr} {sl_Undefined__init : Array (Option Value)}
    {C_InvalidMap : Addr} {nm_InvalidMap q_InvalidMap : Str} {N_InvalidMap : Addr} {bs_InvalidMap : List Value} {sn_InvalidMap : List Str} {sub_InvalidMap : List Value} {ab_InvalidMap : Bool} {col_InvalidMap : Option Bool} {dd_InvalidMap : Option Addr} {m0_InvalidMap m1_InvalidMap m2_InvalidMap m3_InvalidMap m5_InvalidMap : Option Value}
    {f_InvalidMap__init : Addr} {oc_InvalidMap__init kV_InvalidMap__init dc_InvalidMap__init pm_InvalidMap__init cd_InvalidMap__init ct_InvalidMap__init : Value} {od_InvalidMap__init an_InvalidMap__init : Option Addr} {sl_InvalidMap__init : Array (Option Value)}
    {C_InvalidShape : Addr} {nm_InvalidShape q_InvalidShape : Str} {N_InvalidShape : Addr} {bs_InvalidShape : List Value} {sn_InvalidShape : List Str} {sub_InvalidShape : List Value} {ab_InvalidShape : Bool} {col_InvalidShape : Option Bool} {dd_InvalidShape : Option Addr} {m0_InvalidShape m1_InvalidShape m2_InvalidShape m3_InvalidShape m5_InvalidShape : Option Value}
    {f_InvalidShape__init : Addr} {oc_InvalidShape__init kV_InvalidShape__init dc_InvalidShape__init pm_InvalidShape__init cd_InvalidShape__init ct_InvalidShape__init : Value} {od_InvalidShape__init an_InvalidShape__init : Option Addr} {sl_InvalidShape__init : Array (Option Value)}
    {C_InvalidPartial : Addr} {nm_InvalidPartial q_InvalidPartial : Str} {N_InvalidPartial : Addr} {bs_InvalidPartial : List Value} {sn_InvalidPartial : List Str} {sub_InvalidPartial : List Value} {ab_InvalidPartial : Bool} {col_InvalidPartial : Option Bool} {dd_InvalidPartial : Option Addr} {m0_InvalidPartial m1_InvalidPartial m2_InvalidPartial m3_InvalidPartial m5_InvalidPartial : Option Value}
    {f_InvalidPartial__init : Addr} {oc_InvalidPartial__init kV_InvalidPartial__init dc_InvalidPartial__init pm_InvalidPartial__init cd_InvalidPartial__init ct_InvalidPartial__init : Value} {od_InvalidPartial__init an_InvalidPartial__init : Option Addr} {sl_InvalidPartial__init : Array (Option Value)}
    {C_ParseError : Addr} {nm_ParseError q_ParseError : Str} {N_ParseError : Addr} {bs_ParseError : List Value} {sn_ParseError : List Str} {sub_ParseError : List Value} {ab_ParseError : Bool} {col_ParseError : Option Bool} {dd_ParseError : Option Addr} {m0_ParseError m1_ParseError m2_ParseError m3_ParseError m5_ParseError : Option Value}
    {f_ParseError__init : Addr} {oc_ParseError__init kV_ParseError__init dc_ParseError__init pm_ParseError__init cd_ParseError__init ct_ParseError__init : Value} {od_ParseError__init an_ParseError__init : Option Addr} {sl_ParseError__init : Array (Option Value)}
    {C_InvalidSteps : Addr} {nm_InvalidSteps q_InvalidSteps : Str} {N_InvalidSteps : Addr} {bs_InvalidSteps : List Value} {sn_InvalidSteps : List Str} {sub_InvalidSteps : List Value} {ab_InvalidSteps : Bool} {col_InvalidSteps : Option Bool} {dd_InvalidSteps : Option Addr} {m0_InvalidSteps m1_InvalidSteps m2_InvalidSteps m3_InvalidSteps m5_InvalidSteps : Option Value}
    {f_InvalidSteps__init : Addr} {oc_InvalidSteps__init kV_InvalidSteps__init dc_InvalidSteps__init pm_InvalidSteps__init cd_InvalidSteps__init ct_InvalidSteps__init : Value} {od_InvalidSteps__init an_InvalidSteps__init : Option Addr} {sl_InvalidSteps__init : Array (Option Value)}
    {C_InvalidWord : Addr} {nm_InvalidWord q_InvalidWord : Str} {N_InvalidWord : Addr} {bs_InvalidWord : List Value} {sn_InvalidWord : List Str} {sub_InvalidWord : List Value} {ab_InvalidWord : Bool} {col_InvalidWord : Option Bool} {dd_InvalidWord : Option Addr} {m0_InvalidWord m1_InvalidWord m2_InvalidWord m3_InvalidWord m5_InvalidWord : Option Value}
    {f_InvalidWord__init : Addr} {oc_InvalidWord__init kV_InvalidWord__init dc_InvalidWord__init pm_InvalidWord__init cd_InvalidWord__init ct_InvalidWord__init : Value} {od_InvalidWord__init an_InvalidWord__init : Option Addr} {sl_InvalidWord__init : Array (Option Value)}
    {C_LimitExceeded : Addr} {nm_LimitExceeded q_LimitExceeded : Str} {N_LimitExceeded : Addr} {bs_LimitExceeded : List Value} {sn_LimitExceeded : List Str} {sub_LimitExceeded : List Value} {ab_LimitExceeded : Bool} {col_LimitExceeded : Option Bool} {dd_LimitExceeded : Option Addr} {m0_LimitExceeded m1_LimitExceeded m2_LimitExceeded m3_LimitExceeded m5_LimitExceeded : Option Value}
    {f_LimitExceeded__init : Addr} {oc_LimitExceeded__init kV_LimitExceeded__init dc_LimitExceeded__init pm_LimitExceeded__init cd_LimitExceeded__init ct_LimitExceeded__init : Value} {od_LimitExceeded__init an_LimitExceeded__init : Option Addr} {sl_LimitExceeded__init : Array (Option Value)}
    {C_NotLast : Addr} {nm_NotLast q_NotLast : Str} {N_NotLast : Addr} {bs_NotLast : List Value} {sn_NotLast : List Str} {sub_NotLast : List Value} {ab_NotLast : Bool} {col_NotLast : Option Bool} {dd_NotLast : Option Addr} {m0_NotLast m1_NotLast m2_NotLast m3_NotLast m5_NotLast : Option Value}
    {f_NotLast__init : Addr} {oc_NotLast__init kV_NotLast__init dc_NotLast__init pm_NotLast__init cd_NotLast__init ct_NotLast__init : Value} {od_NotLast__init an_NotLast__init : Option Addr} {sl_NotLast__init : Array (Option Value)}
    {C_NothingToUndo : Addr} {nm_NothingToUndo q_NothingToUndo : Str} {N_NothingToUndo : Addr} {bs_NothingToUndo : List Value} {sn_NothingToUndo : List Str} {sub_NothingToUndo : List Value} {ab_NothingToUndo : Bool} {col_NothingToUndo : Option Bool} {dd_NothingToUndo : Option Addr} {m0_NothingToUndo m1_NothingToUndo m2_NothingToUndo m3_NothingToUndo m5_NothingToUndo : Option Value}
    {f_NothingToUndo__init : Addr} {oc_NothingToUndo__init kV_NothingToUndo__init dc_NothingToUndo__init pm_NothingToUndo__init cd_NothingToUndo__init ct_NothingToUndo__init : Value} {od_NothingToUndo__init an_NothingToUndo__init : Option Addr} {sl_NothingToUndo__init : Array (Option Value)}
    {C_TooFew : Addr} {nm_TooFew q_TooFew : Str} {N_TooFew : Addr} {bs_TooFew : List Value} {sn_TooFew : List Str} {sub_TooFew : List Value} {ab_TooFew : Bool} {col_TooFew : Option Bool} {dd_TooFew : Option Addr} {m0_TooFew m1_TooFew m2_TooFew m3_TooFew m5_TooFew : Option Value}
    {f_TooFew__init : Addr} {oc_TooFew__init kV_TooFew__init dc_TooFew__init pm_TooFew__init cd_TooFew__init ct_TooFew__init : Value} {od_TooFew__init an_TooFew__init : Option Addr} {sl_TooFew__init : Array (Option Value)}
    {C_UnknownName : Addr} {nm_UnknownName q_UnknownName : Str} {N_UnknownName : Addr} {bs_UnknownName : List Value} {sn_UnknownName : List Str} {sub_UnknownName : List Value} {ab_UnknownName : Bool} {col_UnknownName : Option Bool} {dd_UnknownName : Option Addr} {m0_UnknownName m1_UnknownName m2_UnknownName m3_UnknownName m5_UnknownName : Option Value}
    {f_UnknownName__init : Addr} {oc_UnknownName__init kV_UnknownName__init dc_UnknownName__init pm_UnknownName__init cd_UnknownName__init ct_UnknownName__init : Value} {od_UnknownName__init an_UnknownName__init : Option Addr} {sl_UnknownName__init : Array (Option Value)}
    {C_SizeMismatch : Addr} {nm_SizeMismatch q_SizeMismatch : Str} {N_SizeMismatch : Addr} {bs_SizeMismatch : List Value} {sn_SizeMismatch : List Str} {sub_SizeMismatch : List Value} {ab_SizeMismatch : Bool} {col_SizeMismatch : Option Bool} {dd_SizeMismatch : Option Addr} {m0_SizeMismatch m1_SizeMismatch m2_SizeMismatch m3_SizeMismatch m5_SizeMismatch : Option Value}
    {f_SizeMismatch__init : Addr} {oc_SizeMismatch__init kV_SizeMismatch__init dc_SizeMismatch__init pm_SizeMismatch__init cd_SizeMismatch__init ct_SizeMismatch__init : Value} {od_SizeMismatch__init an_SizeMismatch__init : Option Addr} {sl_SizeMismatch__init : Array (Option Value)}
    {C_Clash : Addr} {nm_Clash q_Clash : Str} {N_Clash : Addr} {bs_Clash : List Value} {sn_Clash : List Str} {sub_Clash : List Value} {ab_Clash : Bool} {col_Clash : Option Bool} {dd_Clash : Option Addr} {m0_Clash m1_Clash m2_Clash m3_Clash m5_Clash : Option Value}
    {f_Clash__init : Addr} {oc_Clash__init kV_Clash__init dc_Clash__init pm_Clash__init cd_Clash__init ct_Clash__init : Value} {od_Clash__init an_Clash__init : Option Addr} {sl_Clash__init : Array (Option Value)}
    (a_l_hand : PySem.W.nsIn K mainGlobals "_law_hand" = some (some (.ref f_l_hand)))
    (l_l_hand : K.lookup f_l_hand = some ⟨oc_l_hand, od_l_hand, .func (PySem.W.fnOf "_law_hand" "_law_hand" (defArgs s_l_hand) (defBody s_l_hand) (defScope s_l_hand) .none kV_l_hand dc_l_hand pm_l_hand an_l_hand cd_l_hand ct_l_hand), sl_l_hand⟩)
    (c_l_hand : PySem.W.codeIn K cd_l_hand "_law_hand" = true)
    (k_l_hand : PySem.W.keepIn K (.ref f_l_hand) = true)
    (a_l_draw : PySem.W.nsIn K mainGlobals "_law_draw" = some (some (.ref f_l_draw)))
    (l_l_draw : K.lookup f_l_draw = some ⟨oc_l_draw, od_l_draw, .func (PySem.W.fnOf "_law_draw" "_law_draw" (defArgs s_l_draw) (defBody s_l_draw) (defScope s_l_draw) .none kV_l_draw dc_l_draw pm_l_draw an_l_draw cd_l_draw ct_l_draw), sl_l_draw⟩)
    (c_l_draw : PySem.W.codeIn K cd_l_draw "_law_draw" = true)
    (k_l_draw : PySem.W.keepIn K (.ref f_l_draw) = true)
    (a_l_item : PySem.W.nsIn K mainGlobals "_law_item" = some (some (.ref f_l_item)))
    (l_l_item : K.lookup f_l_item = some ⟨oc_l_item, od_l_item, .func (PySem.W.fnOf "_law_item" "_law_item" (defArgs s_l_item) (defBody s_l_item) (defScope s_l_item) .none kV_l_item dc_l_item pm_l_item an_l_item cd_l_item ct_l_item), sl_l_item⟩)
    (c_l_item : PySem.W.codeIn K cd_l_item "_law_item" = true)
    (k_l_item : PySem.W.keepIn K (.ref f_l_item) = true)
    (a_l_of_values : PySem.W.nsIn K mainGlobals "_law_of_values" = some (some (.ref f_l_of_values)))
    (l_l_of_values : K.lookup f_l_of_values = some ⟨oc_l_of_values, od_l_of_values, .func (PySem.W.fnOf "_law_of_values" "_law_of_values" (defArgs s_l_of_values) (defBody s_l_of_values) (defScope s_l_of_values) .none kV_l_of_values dc_l_of_values pm_l_of_values an_l_of_values cd_l_of_values ct_l_of_values), sl_l_of_values⟩)
    (c_l_of_values : PySem.W.codeIn K cd_l_of_values "_law_of_values" = true)
    (k_l_of_values : PySem.W.keepIn K (.ref f_l_of_values) = true)
    (a_l_others : PySem.W.nsIn K mainGlobals "_law_others" = some (some (.ref f_l_others)))
    (l_l_others : K.lookup f_l_others = some ⟨oc_l_others, od_l_others, .func (PySem.W.fnOf "_law_others" "_law_others" (defArgs s_l_others) (defBody s_l_others) (defScope s_l_others) .none kV_l_others dc_l_others pm_l_others an_l_others cd_l_others ct_l_others), sl_l_others⟩)
    (c_l_others : PySem.W.codeIn K cd_l_others "_law_others" = true)
    (k_l_others : PySem.W.keepIn K (.ref f_l_others) = true)
    (a_l_marks : PySem.W.nsIn K mainGlobals "_law_marks" = some (some (.ref f_l_marks)))
    (l_l_marks : K.lookup f_l_marks = some ⟨oc_l_marks, od_l_marks, .func (PySem.W.fnOf "_law_marks" "_law_marks" (defArgs s_l_marks) (defBody s_l_marks) (defScope s_l_marks) .none kV_l_marks dc_l_marks pm_l_marks an_l_marks cd_l_marks ct_l_marks), sl_l_marks⟩)
    (c_l_marks : PySem.W.codeIn K cd_l_marks "_law_marks" = true)
    (k_l_marks : PySem.W.keepIn K (.ref f_l_marks) = true)
    (a_l_above : PySem.W.nsIn K mainGlobals "_law_above" = some (some (.ref f_l_above)))
    (l_l_above : K.lookup f_l_above = some ⟨oc_l_above, od_l_above, .func (PySem.W.fnOf "_law_above" "_law_above" (defArgs s_l_above) (defBody s_l_above) (defScope s_l_above) .none kV_l_above dc_l_above pm_l_above an_l_above cd_l_above ct_l_above), sl_l_above⟩)
    (c_l_above : PySem.W.codeIn K cd_l_above "_law_above" = true)
    (k_l_above : PySem.W.keepIn K (.ref f_l_above) = true)
    (a_l_bases : PySem.W.nsIn K mainGlobals "_law_bases" = some (some (.ref f_l_bases)))
    (l_l_bases : K.lookup f_l_bases = some ⟨oc_l_bases, od_l_bases, .func (PySem.W.fnOf "_law_bases" "_law_bases" (defArgs s_l_bases) (defBody s_l_bases) (defScope s_l_bases) .none kV_l_bases dc_l_bases pm_l_bases an_l_bases cd_l_bases ct_l_bases), sl_l_bases⟩)
    (c_l_bases : PySem.W.codeIn K cd_l_bases "_law_bases" = true)
    (k_l_bases : PySem.W.keepIn K (.ref f_l_bases) = true)
    (a_law : PySem.W.nsIn K mainGlobals "law" = some (some (.ref f_law)))
    (l_law : K.lookup f_law = some ⟨oc_law, od_law, .func (PySem.W.fnOf "law" "law" (defArgs s_law) (defBody s_law) (defScope s_law) .none kV_law dc_law pm_law an_law cd_law ct_law), sl_law⟩)
    (c_law : PySem.W.codeIn K cd_law "law" = true)
    (k_law : PySem.W.keepIn K (.ref f_law) = true)
    (a_InvalidSize : PySem.W.nsIn K mainGlobals "InvalidSize" = some (some (.ref C_InvalidSize)))
    (xl_InvalidSize : K.lookup C_InvalidSize = some (excClassObj nm_InvalidSize q_InvalidSize C_InvalidSize N_InvalidSize bs_InvalidSize [.type "ValueError", .type "Exception", .type "BaseException", .type "object"] true sn_InvalidSize sub_InvalidSize ab_InvalidSize col_InvalidSize dd_InvalidSize m0_InvalidSize m1_InvalidSize m2_InvalidSize m3_InvalidSize m5_InvalidSize "ValueError.__new__"))
    (sa_InvalidSize : PySem.W.findIn K (.ref C_InvalidSize) "__setattr__" = some (some (.builtin "object.__setattr__")))
    (ex_InvalidSize : PySem.W.subIn K (.ref C_InvalidSize) (.type "BaseException") = some true)
    (ty_InvalidSize : PySem.W.typeIn K (.ref C_InvalidSize) = some (.type "type"))
    (kc_InvalidSize : PySem.W.keepIn K (.ref C_InvalidSize) = true)
    (hd_InvalidSize : PySem.W.hasDictIn K C_InvalidSize = true)
    (ga_InvalidSize : PySem.W.findIn K (.ref C_InvalidSize) "__getattribute__" = some (some (.builtin "BaseException.__getattribute__")))
    (gg_InvalidSize : PySem.W.findIn K (.ref C_InvalidSize) "__getattr__" = some none)
    (ss_InvalidSize : PySem.W.subIn K (.ref C_InvalidSize) (.ref C_InvalidSize) = some true)
    (ca_InvalidSize : PySem.W.findIn K (.ref C_InvalidSize) "__class__" = some (some (.builtin "object.__class__")))
    (cn_InvalidSize : PySem.W.specialIn K (.builtin "object.__class__") "__get__" = some (some (.builtin "getset_descriptor.__get__")))
    (ct_InvalidSize : PySem.W.takesIn K (.builtin "object.__class__") = some true)
    (cm_InvalidSize : PySem.W.mroIn K C_InvalidSize (.type "object") = some true)
    (na_value_InvalidSize : PySem.W.findIn K (.ref C_InvalidSize) "value" = some none)
    (m_InvalidSize__init : PySem.W.findIn K (.ref C_InvalidSize) "__init__" = some (some (.ref f_InvalidSize__init)))
    (ti_InvalidSize__init : PySem.W.typeIn K (.ref f_InvalidSize__init) = some (.type "function"))
    (l_InvalidSize__init : K.lookup f_InvalidSize__init = some ⟨oc_InvalidSize__init, od_InvalidSize__init, .func (PySem.W.fnOf "__init__" "InvalidSize.__init__" (defArgs s_InvalidSize__init) (defBody s_InvalidSize__init) (defScope s_InvalidSize__init) .none kV_InvalidSize__init dc_InvalidSize__init pm_InvalidSize__init an_InvalidSize__init cd_InvalidSize__init ct_InvalidSize__init), sl_InvalidSize__init⟩)
    (c_InvalidSize__init : PySem.W.codeIn K cd_InvalidSize__init "InvalidSize.__init__" = true)
    (k_InvalidSize__init : PySem.W.keepIn K (.ref f_InvalidSize__init) = true)
    (a_InvalidElement : PySem.W.nsIn K mainGlobals "InvalidElement" = some (some (.ref C_InvalidElement)))
    (xl_InvalidElement : K.lookup C_InvalidElement = some (excClassObj nm_InvalidElement q_InvalidElement C_InvalidElement N_InvalidElement bs_InvalidElement [.type "ValueError", .type "Exception", .type "BaseException", .type "object"] true sn_InvalidElement sub_InvalidElement ab_InvalidElement col_InvalidElement dd_InvalidElement m0_InvalidElement m1_InvalidElement m2_InvalidElement m3_InvalidElement m5_InvalidElement "ValueError.__new__"))
    (sa_InvalidElement : PySem.W.findIn K (.ref C_InvalidElement) "__setattr__" = some (some (.builtin "object.__setattr__")))
    (ex_InvalidElement : PySem.W.subIn K (.ref C_InvalidElement) (.type "BaseException") = some true)
    (ty_InvalidElement : PySem.W.typeIn K (.ref C_InvalidElement) = some (.type "type"))
    (kc_InvalidElement : PySem.W.keepIn K (.ref C_InvalidElement) = true)
    (hd_InvalidElement : PySem.W.hasDictIn K C_InvalidElement = true)
    (ga_InvalidElement : PySem.W.findIn K (.ref C_InvalidElement) "__getattribute__" = some (some (.builtin "BaseException.__getattribute__")))
    (gg_InvalidElement : PySem.W.findIn K (.ref C_InvalidElement) "__getattr__" = some none)
    (ss_InvalidElement : PySem.W.subIn K (.ref C_InvalidElement) (.ref C_InvalidElement) = some true)
    (ca_InvalidElement : PySem.W.findIn K (.ref C_InvalidElement) "__class__" = some (some (.builtin "object.__class__")))
    (cn_InvalidElement : PySem.W.specialIn K (.builtin "object.__class__") "__get__" = some (some (.builtin "getset_descriptor.__get__")))
    (ct_InvalidElement : PySem.W.takesIn K (.builtin "object.__class__") = some true)
    (cm_InvalidElement : PySem.W.mroIn K C_InvalidElement (.type "object") = some true)
    (na_value_InvalidElement : PySem.W.findIn K (.ref C_InvalidElement) "value" = some none)
    (m_InvalidElement__init : PySem.W.findIn K (.ref C_InvalidElement) "__init__" = some (some (.ref f_InvalidElement__init)))
    (ti_InvalidElement__init : PySem.W.typeIn K (.ref f_InvalidElement__init) = some (.type "function"))
    (l_InvalidElement__init : K.lookup f_InvalidElement__init = some ⟨oc_InvalidElement__init, od_InvalidElement__init, .func (PySem.W.fnOf "__init__" "InvalidElement.__init__" (defArgs s_InvalidElement__init) (defBody s_InvalidElement__init) (defScope s_InvalidElement__init) .none kV_InvalidElement__init dc_InvalidElement__init pm_InvalidElement__init an_InvalidElement__init cd_InvalidElement__init ct_InvalidElement__init), sl_InvalidElement__init⟩)
    (c_InvalidElement__init : PySem.W.codeIn K cd_InvalidElement__init "InvalidElement.__init__" = true)
    (k_InvalidElement__init : PySem.W.keepIn K (.ref f_InvalidElement__init) = true)
    (a_InvalidNumber : PySem.W.nsIn K mainGlobals "InvalidNumber" = some (some (.ref C_InvalidNumber)))
    (xl_InvalidNumber : K.lookup C_InvalidNumber = some (excClassObj nm_InvalidNumber q_InvalidNumber C_InvalidNumber N_InvalidNumber bs_InvalidNumber [.type "ValueError", .type "Exception", .type "BaseException", .type "object"] true sn_InvalidNumber sub_InvalidNumber ab_InvalidNumber col_InvalidNumber dd_InvalidNumber m0_InvalidNumber m1_InvalidNumber m2_InvalidNumber m3_InvalidNumber m5_InvalidNumber "ValueError.__new__"))
    (sa_InvalidNumber : PySem.W.findIn K (.ref C_InvalidNumber) "__setattr__" = some (some (.builtin "object.__setattr__")))
    (ex_InvalidNumber : PySem.W.subIn K (.ref C_InvalidNumber) (.type "BaseException") = some true)
    (ty_InvalidNumber : PySem.W.typeIn K (.ref C_InvalidNumber) = some (.type "type"))
    (kc_InvalidNumber : PySem.W.keepIn K (.ref C_InvalidNumber) = true)
    (hd_InvalidNumber : PySem.W.hasDictIn K C_InvalidNumber = true)
    (ga_InvalidNumber : PySem.W.findIn K (.ref C_InvalidNumber) "__getattribute__" = some (some (.builtin "BaseException.__getattribute__")))
    (gg_InvalidNumber : PySem.W.findIn K (.ref C_InvalidNumber) "__getattr__" = some none)
    (ss_InvalidNumber : PySem.W.subIn K (.ref C_InvalidNumber) (.ref C_InvalidNumber) = some true)
    (ca_InvalidNumber : PySem.W.findIn K (.ref C_InvalidNumber) "__class__" = some (some (.builtin "object.__class__")))
    (cn_InvalidNumber : PySem.W.specialIn K (.builtin "object.__class__") "__get__" = some (some (.builtin "getset_descriptor.__get__")))
    (ct_InvalidNumber : PySem.W.takesIn K (.builtin "object.__class__") = some true)
    (cm_InvalidNumber : PySem.W.mroIn K C_InvalidNumber (.type "object") = some true)
    (na_value_InvalidNumber : PySem.W.findIn K (.ref C_InvalidNumber) "value" = some none)
    (m_InvalidNumber__init : PySem.W.findIn K (.ref C_InvalidNumber) "__init__" = some (some (.ref f_InvalidNumber__init)))
    (ti_InvalidNumber__init : PySem.W.typeIn K (.ref f_InvalidNumber__init) = some (.type "function"))
    (l_InvalidNumber__init : K.lookup f_InvalidNumber__init = some ⟨oc_InvalidNumber__init, od_InvalidNumber__init, .func (PySem.W.fnOf "__init__" "InvalidNumber.__init__" (defArgs s_InvalidNumber__init) (defBody s_InvalidNumber__init) (defScope s_InvalidNumber__init) .none kV_InvalidNumber__init dc_InvalidNumber__init pm_InvalidNumber__init an_InvalidNumber__init cd_InvalidNumber__init ct_InvalidNumber__init), sl_InvalidNumber__init⟩)
    (c_InvalidNumber__init : PySem.W.codeIn K cd_InvalidNumber__init "InvalidNumber.__init__" = true)
    (k_InvalidNumber__init : PySem.W.keepIn K (.ref f_InvalidNumber__init) = true)
    (a_InvalidFamily : PySem.W.nsIn K mainGlobals "InvalidFamily" = some (some (.ref C_InvalidFamily)))
    (xl_InvalidFamily : K.lookup C_InvalidFamily = some (excClassObj nm_InvalidFamily q_InvalidFamily C_InvalidFamily N_InvalidFamily bs_InvalidFamily [.type "ValueError", .type "Exception", .type "BaseException", .type "object"] true sn_InvalidFamily sub_InvalidFamily ab_InvalidFamily col_InvalidFamily dd_InvalidFamily m0_InvalidFamily m1_InvalidFamily m2_InvalidFamily m3_InvalidFamily m5_InvalidFamily "ValueError.__new__"))
    (sa_InvalidFamily : PySem.W.findIn K (.ref C_InvalidFamily) "__setattr__" = some (some (.builtin "object.__setattr__")))
    (ex_InvalidFamily : PySem.W.subIn K (.ref C_InvalidFamily) (.type "BaseException") = some true)
    (ty_InvalidFamily : PySem.W.typeIn K (.ref C_InvalidFamily) = some (.type "type"))
    (kc_InvalidFamily : PySem.W.keepIn K (.ref C_InvalidFamily) = true)
    (hd_InvalidFamily : PySem.W.hasDictIn K C_InvalidFamily = true)
    (ga_InvalidFamily : PySem.W.findIn K (.ref C_InvalidFamily) "__getattribute__" = some (some (.builtin "BaseException.__getattribute__")))
    (gg_InvalidFamily : PySem.W.findIn K (.ref C_InvalidFamily) "__getattr__" = some none)
    (ss_InvalidFamily : PySem.W.subIn K (.ref C_InvalidFamily) (.ref C_InvalidFamily) = some true)
    (ca_InvalidFamily : PySem.W.findIn K (.ref C_InvalidFamily) "__class__" = some (some (.builtin "object.__class__")))
    (cn_InvalidFamily : PySem.W.specialIn K (.builtin "object.__class__") "__get__" = some (some (.builtin "getset_descriptor.__get__")))
    (ct_InvalidFamily : PySem.W.takesIn K (.builtin "object.__class__") = some true)
    (cm_InvalidFamily : PySem.W.mroIn K C_InvalidFamily (.type "object") = some true)
    (na_value_InvalidFamily : PySem.W.findIn K (.ref C_InvalidFamily) "value" = some none)
    (m_InvalidFamily__init : PySem.W.findIn K (.ref C_InvalidFamily) "__init__" = some (some (.ref f_InvalidFamily__init)))
    (ti_InvalidFamily__init : PySem.W.typeIn K (.ref f_InvalidFamily__init) = some (.type "function"))
    (l_InvalidFamily__init : K.lookup f_InvalidFamily__init = some ⟨oc_InvalidFamily__init, od_InvalidFamily__init, .func (PySem.W.fnOf "__init__" "InvalidFamily.__init__" (defArgs s_InvalidFamily__init) (defBody s_InvalidFamily__init) (defScope s_InvalidFamily__init) .none kV_InvalidFamily__init dc_InvalidFamily__init pm_InvalidFamily__init an_InvalidFamily__init cd_InvalidFamily__init ct_InvalidFamily__init), sl_InvalidFamily__init⟩)
    (c_InvalidFamily__init : PySem.W.codeIn K cd_InvalidFamily__init "InvalidFamily.__init__" = true)
    (k_InvalidFamily__init : PySem.W.keepIn K (.ref f_InvalidFamily__init) = true)
    (a_InvalidUser : PySem.W.nsIn K mainGlobals "InvalidUser" = some (some (.ref C_InvalidUser)))
    (xl_InvalidUser : K.lookup C_InvalidUser = some (excClassObj nm_InvalidUser q_InvalidUser C_InvalidUser N_InvalidUser bs_InvalidUser [.type "ValueError", .type "Exception", .type "BaseException", .type "object"] true sn_InvalidUser sub_InvalidUser ab_InvalidUser col_InvalidUser dd_InvalidUser m0_InvalidUser m1_InvalidUser m2_InvalidUser m3_InvalidUser m5_InvalidUser "ValueError.__new__"))
    (sa_InvalidUser : PySem.W.findIn K (.ref C_InvalidUser) "__setattr__" = some (some (.builtin "object.__setattr__")))
    (ex_InvalidUser : PySem.W.subIn K (.ref C_InvalidUser) (.type "BaseException") = some true)
    (ty_InvalidUser : PySem.W.typeIn K (.ref C_InvalidUser) = some (.type "type"))
    (kc_InvalidUser : PySem.W.keepIn K (.ref C_InvalidUser) = true)
    (hd_InvalidUser : PySem.W.hasDictIn K C_InvalidUser = true)
    (ga_InvalidUser : PySem.W.findIn K (.ref C_InvalidUser) "__getattribute__" = some (some (.builtin "BaseException.__getattribute__")))
    (gg_InvalidUser : PySem.W.findIn K (.ref C_InvalidUser) "__getattr__" = some none)
    (ss_InvalidUser : PySem.W.subIn K (.ref C_InvalidUser) (.ref C_InvalidUser) = some true)
    (ca_InvalidUser : PySem.W.findIn K (.ref C_InvalidUser) "__class__" = some (some (.builtin "object.__class__")))
    (cn_InvalidUser : PySem.W.specialIn K (.builtin "object.__class__") "__get__" = some (some (.builtin "getset_descriptor.__get__")))
    (ct_InvalidUser : PySem.W.takesIn K (.builtin "object.__class__") = some true)
    (cm_InvalidUser : PySem.W.mroIn K C_InvalidUser (.type "object") = some true)
    (na_value_InvalidUser : PySem.W.findIn K (.ref C_InvalidUser) "value" = some none)
    (m_InvalidUser__init : PySem.W.findIn K (.ref C_InvalidUser) "__init__" = some (some (.ref f_InvalidUser__init)))
    (ti_InvalidUser__init : PySem.W.typeIn K (.ref f_InvalidUser__init) = some (.type "function"))
    (l_InvalidUser__init : K.lookup f_InvalidUser__init = some ⟨oc_InvalidUser__init, od_InvalidUser__init, .func (PySem.W.fnOf "__init__" "InvalidUser.__init__" (defArgs s_InvalidUser__init) (defBody s_InvalidUser__init) (defScope s_InvalidUser__init) .none kV_InvalidUser__init dc_InvalidUser__init pm_InvalidUser__init an_InvalidUser__init cd_InvalidUser__init ct_InvalidUser__init), sl_InvalidUser__init⟩)
    (c_InvalidUser__init : PySem.W.codeIn K cd_InvalidUser__init "InvalidUser.__init__" = true)
    (k_InvalidUser__init : PySem.W.keepIn K (.ref f_InvalidUser__init) = true)
    (a_InvalidCommand : PySem.W.nsIn K mainGlobals "InvalidCommand" = some (some (.ref C_InvalidCommand)))
    (xl_InvalidCommand : K.lookup C_InvalidCommand = some (excClassObj nm_InvalidCommand q_InvalidCommand C_InvalidCommand N_InvalidCommand bs_InvalidCommand [.type "ValueError", .type "Exception", .type "BaseException", .type "object"] true sn_InvalidCommand sub_InvalidCommand ab_InvalidCommand col_InvalidCommand dd_InvalidCommand m0_InvalidCommand m1_InvalidCommand m2_InvalidCommand m3_InvalidCommand m5_InvalidCommand "ValueError.__new__"))
    (sa_InvalidCommand : PySem.W.findIn K (.ref C_InvalidCommand) "__setattr__" = some (some (.builtin "object.__setattr__")))
    (ex_InvalidCommand : PySem.W.subIn K (.ref C_InvalidCommand) (.type "BaseException") = some true)
    (ty_InvalidCommand : PySem.W.typeIn K (.ref C_InvalidCommand) = some (.type "type"))
    (kc_InvalidCommand : PySem.W.keepIn K (.ref C_InvalidCommand) = true)
    (hd_InvalidCommand : PySem.W.hasDictIn K C_InvalidCommand = true)
    (ga_InvalidCommand : PySem.W.findIn K (.ref C_InvalidCommand) "__getattribute__" = some (some (.builtin "BaseException.__getattribute__")))
    (gg_InvalidCommand : PySem.W.findIn K (.ref C_InvalidCommand) "__getattr__" = some none)
    (ss_InvalidCommand : PySem.W.subIn K (.ref C_InvalidCommand) (.ref C_InvalidCommand) = some true)
    (ca_InvalidCommand : PySem.W.findIn K (.ref C_InvalidCommand) "__class__" = some (some (.builtin "object.__class__")))
    (cn_InvalidCommand : PySem.W.specialIn K (.builtin "object.__class__") "__get__" = some (some (.builtin "getset_descriptor.__get__")))
    (ct_InvalidCommand : PySem.W.takesIn K (.builtin "object.__class__") = some true)
    (cm_InvalidCommand : PySem.W.mroIn K C_InvalidCommand (.type "object") = some true)
    (na_value_InvalidCommand : PySem.W.findIn K (.ref C_InvalidCommand) "value" = some none)
    (m_InvalidCommand__init : PySem.W.findIn K (.ref C_InvalidCommand) "__init__" = some (some (.ref f_InvalidCommand__init)))
    (ti_InvalidCommand__init : PySem.W.typeIn K (.ref f_InvalidCommand__init) = some (.type "function"))
    (l_InvalidCommand__init : K.lookup f_InvalidCommand__init = some ⟨oc_InvalidCommand__init, od_InvalidCommand__init, .func (PySem.W.fnOf "__init__" "InvalidCommand.__init__" (defArgs s_InvalidCommand__init) (defBody s_InvalidCommand__init) (defScope s_InvalidCommand__init) .none kV_InvalidCommand__init dc_InvalidCommand__init pm_InvalidCommand__init an_InvalidCommand__init cd_InvalidCommand__init ct_InvalidCommand__init), sl_InvalidCommand__init⟩)
    (c_InvalidCommand__init : PySem.W.codeIn K cd_InvalidCommand__init "InvalidCommand.__init__" = true)
    (k_InvalidCommand__init : PySem.W.keepIn K (.ref f_InvalidCommand__init) = true)
    (a_Undefined : PySem.W.nsIn K mainGlobals "Undefined" = some (some (.ref C_Undefined)))
    (xl_Undefined : K.lookup C_Undefined = some (excClassObj nm_Undefined q_Undefined C_Undefined N_Undefined bs_Undefined [.type "LookupError", .type "Exception", .type "BaseException", .type "object"] true sn_Undefined sub_Undefined ab_Undefined col_Undefined dd_Undefined m0_Undefined m1_Undefined m2_Undefined m3_Undefined m5_Undefined "LookupError.__new__"))
    (sa_Undefined : PySem.W.findIn K (.ref C_Undefined) "__setattr__" = some (some (.builtin "object.__setattr__")))
    (ex_Undefined : PySem.W.subIn K (.ref C_Undefined) (.type "BaseException") = some true)
    (ty_Undefined : PySem.W.typeIn K (.ref C_Undefined) = some (.type "type"))
    (kc_Undefined : PySem.W.keepIn K (.ref C_Undefined) = true)
    (hd_Undefined : PySem.W.hasDictIn K C_Undefined = true)
    (ga_Undefined : PySem.W.findIn K (.ref C_Undefined) "__getattribute__" = some (some (.builtin "BaseException.__getattribute__")))
    (gg_Undefined : PySem.W.findIn K (.ref C_Undefined) "__getattr__" = some none)
    (ss_Undefined : PySem.W.subIn K (.ref C_Undefined) (.ref C_Undefined) = some true)
    (ca_Undefined : PySem.W.findIn K (.ref C_Undefined) "__class__" = some (some (.builtin "object.__class__")))
    (cn_Undefined : PySem.W.specialIn K (.builtin "object.__class__") "__get__" = some (some (.builtin "getset_descriptor.__get__")))
    (ct_Undefined : PySem.W.takesIn K (.builtin "object.__class__") = some true)
    (cm_Undefined : PySem.W.mroIn K C_Undefined (.type "object") = some true)
    (na_value_Undefined : PySem.W.findIn K (.ref C_Undefined) "value" = some none)
    (m_Undefined__init : PySem.W.findIn K (.ref C_Undefined) "__init__" = some (some (.ref f_Undefined__init)))
    (ti_Undefined__init : PySem.W.typeIn K (.ref f_Undefined__init) = some (.type "function"))
    (l_Undefined__init : K.lookup f_Undefined__init = some ⟨oc_Undefined__init, od_Undefined__init, .func (PySem.W.fnOf "__init__" "Undefined.__init__" (defArgs s_Undefined__init) (defBody s_Undefined__init) (defScope s_Undefined__init) .none kV_Undefined__init dc_Undefined__init pm_Undefined__init an_Undefined__init cd_Undefined__init ct_Undefined__init), sl_Undefined__init⟩)
    (c_Undefined__init : PySem.W.codeIn K cd_Undefined__init "Undefined.__init__" = true)
    (k_Undefined__init : PySem.W.keepIn K (.ref f_Undefined__init) = true)
    (a_InvalidMap : PySem.W.nsIn K mainGlobals "InvalidMap" = some (some (.ref C_InvalidMap)))
    (xl_InvalidMap : K.lookup C_InvalidMap = some (excClassObj nm_InvalidMap q_InvalidMap C_InvalidMap N_InvalidMap bs_InvalidMap [.type "ValueError", .type "Exception", .type "BaseException", .type "object"] true sn_InvalidMap sub_InvalidMap ab_InvalidMap col_InvalidMap dd_InvalidMap m0_InvalidMap m1_InvalidMap m2_InvalidMap m3_InvalidMap m5_InvalidMap "ValueError.__new__"))
    (sa_InvalidMap : PySem.W.findIn K (.ref C_InvalidMap) "__setattr__" = some (some (.builtin "object.__setattr__")))
    (ex_InvalidMap : PySem.W.subIn K (.ref C_InvalidMap) (.type "BaseException") = some true)
    (ty_InvalidMap : PySem.W.typeIn K (.ref C_InvalidMap) = some (.type "type"))
    (kc_InvalidMap : PySem.W.keepIn K (.ref C_InvalidMap) = true)
    (hd_InvalidMap : PySem.W.hasDictIn K C_InvalidMap = true)
    (ga_InvalidMap : PySem.W.findIn K (.ref C_InvalidMap) "__getattribute__" = some (some (.builtin "BaseException.__getattribute__")))
    (gg_InvalidMap : PySem.W.findIn K (.ref C_InvalidMap) "__getattr__" = some none)
    (ss_InvalidMap : PySem.W.subIn K (.ref C_InvalidMap) (.ref C_InvalidMap) = some true)
    (ca_InvalidMap : PySem.W.findIn K (.ref C_InvalidMap) "__class__" = some (some (.builtin "object.__class__")))
    (cn_InvalidMap : PySem.W.specialIn K (.builtin "object.__class__") "__get__" = some (some (.builtin "getset_descriptor.__get__")))
    (ct_InvalidMap : PySem.W.takesIn K (.builtin "object.__class__") = some true)
    (cm_InvalidMap : PySem.W.mroIn K C_InvalidMap (.type "object") = some true)
    (na_part_InvalidMap : PySem.W.findIn K (.ref C_InvalidMap) "part" = some none)
    (m_InvalidMap__init : PySem.W.findIn K (.ref C_InvalidMap) "__init__" = some (some (.ref f_InvalidMap__init)))
    (ti_InvalidMap__init : PySem.W.typeIn K (.ref f_InvalidMap__init) = some (.type "function"))
    (l_InvalidMap__init : K.lookup f_InvalidMap__init = some ⟨oc_InvalidMap__init, od_InvalidMap__init, .func (PySem.W.fnOf "__init__" "InvalidMap.__init__" (defArgs s_InvalidMap__init) (defBody s_InvalidMap__init) (defScope s_InvalidMap__init) .none kV_InvalidMap__init dc_InvalidMap__init pm_InvalidMap__init an_InvalidMap__init cd_InvalidMap__init ct_InvalidMap__init), sl_InvalidMap__init⟩)
    (c_InvalidMap__init : PySem.W.codeIn K cd_InvalidMap__init "InvalidMap.__init__" = true)
    (k_InvalidMap__init : PySem.W.keepIn K (.ref f_InvalidMap__init) = true)
    (a_InvalidShape : PySem.W.nsIn K mainGlobals "InvalidShape" = some (some (.ref C_InvalidShape)))
    (xl_InvalidShape : K.lookup C_InvalidShape = some (excClassObj nm_InvalidShape q_InvalidShape C_InvalidShape N_InvalidShape bs_InvalidShape [.type "ValueError", .type "Exception", .type "BaseException", .type "object"] true sn_InvalidShape sub_InvalidShape ab_InvalidShape col_InvalidShape dd_InvalidShape m0_InvalidShape m1_InvalidShape m2_InvalidShape m3_InvalidShape m5_InvalidShape "ValueError.__new__"))
    (sa_InvalidShape : PySem.W.findIn K (.ref C_InvalidShape) "__setattr__" = some (some (.builtin "object.__setattr__")))
    (ex_InvalidShape : PySem.W.subIn K (.ref C_InvalidShape) (.type "BaseException") = some true)
    (ty_InvalidShape : PySem.W.typeIn K (.ref C_InvalidShape) = some (.type "type"))
    (kc_InvalidShape : PySem.W.keepIn K (.ref C_InvalidShape) = true)
    (hd_InvalidShape : PySem.W.hasDictIn K C_InvalidShape = true)
    (ga_InvalidShape : PySem.W.findIn K (.ref C_InvalidShape) "__getattribute__" = some (some (.builtin "BaseException.__getattribute__")))
    (gg_InvalidShape : PySem.W.findIn K (.ref C_InvalidShape) "__getattr__" = some none)
    (ss_InvalidShape : PySem.W.subIn K (.ref C_InvalidShape) (.ref C_InvalidShape) = some true)
    (ca_InvalidShape : PySem.W.findIn K (.ref C_InvalidShape) "__class__" = some (some (.builtin "object.__class__")))
    (cn_InvalidShape : PySem.W.specialIn K (.builtin "object.__class__") "__get__" = some (some (.builtin "getset_descriptor.__get__")))
    (ct_InvalidShape : PySem.W.takesIn K (.builtin "object.__class__") = some true)
    (cm_InvalidShape : PySem.W.mroIn K C_InvalidShape (.type "object") = some true)
    (na_part_InvalidShape : PySem.W.findIn K (.ref C_InvalidShape) "part" = some none)
    (m_InvalidShape__init : PySem.W.findIn K (.ref C_InvalidShape) "__init__" = some (some (.ref f_InvalidShape__init)))
    (ti_InvalidShape__init : PySem.W.typeIn K (.ref f_InvalidShape__init) = some (.type "function"))
    (l_InvalidShape__init : K.lookup f_InvalidShape__init = some ⟨oc_InvalidShape__init, od_InvalidShape__init, .func (PySem.W.fnOf "__init__" "InvalidShape.__init__" (defArgs s_InvalidShape__init) (defBody s_InvalidShape__init) (defScope s_InvalidShape__init) .none kV_InvalidShape__init dc_InvalidShape__init pm_InvalidShape__init an_InvalidShape__init cd_InvalidShape__init ct_InvalidShape__init), sl_InvalidShape__init⟩)
    (c_InvalidShape__init : PySem.W.codeIn K cd_InvalidShape__init "InvalidShape.__init__" = true)
    (k_InvalidShape__init : PySem.W.keepIn K (.ref f_InvalidShape__init) = true)
    (a_InvalidPartial : PySem.W.nsIn K mainGlobals "InvalidPartial" = some (some (.ref C_InvalidPartial)))
    (xl_InvalidPartial : K.lookup C_InvalidPartial = some (excClassObj nm_InvalidPartial q_InvalidPartial C_InvalidPartial N_InvalidPartial bs_InvalidPartial [.type "ValueError", .type "Exception", .type "BaseException", .type "object"] true sn_InvalidPartial sub_InvalidPartial ab_InvalidPartial col_InvalidPartial dd_InvalidPartial m0_InvalidPartial m1_InvalidPartial m2_InvalidPartial m3_InvalidPartial m5_InvalidPartial "ValueError.__new__"))
    (sa_InvalidPartial : PySem.W.findIn K (.ref C_InvalidPartial) "__setattr__" = some (some (.builtin "object.__setattr__")))
    (ex_InvalidPartial : PySem.W.subIn K (.ref C_InvalidPartial) (.type "BaseException") = some true)
    (ty_InvalidPartial : PySem.W.typeIn K (.ref C_InvalidPartial) = some (.type "type"))
    (kc_InvalidPartial : PySem.W.keepIn K (.ref C_InvalidPartial) = true)
    (hd_InvalidPartial : PySem.W.hasDictIn K C_InvalidPartial = true)
    (ga_InvalidPartial : PySem.W.findIn K (.ref C_InvalidPartial) "__getattribute__" = some (some (.builtin "BaseException.__getattribute__")))
    (gg_InvalidPartial : PySem.W.findIn K (.ref C_InvalidPartial) "__getattr__" = some none)
    (ss_InvalidPartial : PySem.W.subIn K (.ref C_InvalidPartial) (.ref C_InvalidPartial) = some true)
    (ca_InvalidPartial : PySem.W.findIn K (.ref C_InvalidPartial) "__class__" = some (some (.builtin "object.__class__")))
    (cn_InvalidPartial : PySem.W.specialIn K (.builtin "object.__class__") "__get__" = some (some (.builtin "getset_descriptor.__get__")))
    (ct_InvalidPartial : PySem.W.takesIn K (.builtin "object.__class__") = some true)
    (cm_InvalidPartial : PySem.W.mroIn K C_InvalidPartial (.type "object") = some true)
    (na_part_InvalidPartial : PySem.W.findIn K (.ref C_InvalidPartial) "part" = some none)
    (m_InvalidPartial__init : PySem.W.findIn K (.ref C_InvalidPartial) "__init__" = some (some (.ref f_InvalidPartial__init)))
    (ti_InvalidPartial__init : PySem.W.typeIn K (.ref f_InvalidPartial__init) = some (.type "function"))
    (l_InvalidPartial__init : K.lookup f_InvalidPartial__init = some ⟨oc_InvalidPartial__init, od_InvalidPartial__init, .func (PySem.W.fnOf "__init__" "InvalidPartial.__init__" (defArgs s_InvalidPartial__init) (defBody s_InvalidPartial__init) (defScope s_InvalidPartial__init) .none kV_InvalidPartial__init dc_InvalidPartial__init pm_InvalidPartial__init an_InvalidPartial__init cd_InvalidPartial__init ct_InvalidPartial__init), sl_InvalidPartial__init⟩)
    (c_InvalidPartial__init : PySem.W.codeIn K cd_InvalidPartial__init "InvalidPartial.__init__" = true)
    (k_InvalidPartial__init : PySem.W.keepIn K (.ref f_InvalidPartial__init) = true)
    (a_ParseError : PySem.W.nsIn K mainGlobals "ParseError" = some (some (.ref C_ParseError)))
    (xl_ParseError : K.lookup C_ParseError = some (excClassObj nm_ParseError q_ParseError C_ParseError N_ParseError bs_ParseError [.type "ValueError", .type "Exception", .type "BaseException", .type "object"] true sn_ParseError sub_ParseError ab_ParseError col_ParseError dd_ParseError m0_ParseError m1_ParseError m2_ParseError m3_ParseError m5_ParseError "ValueError.__new__"))
    (sa_ParseError : PySem.W.findIn K (.ref C_ParseError) "__setattr__" = some (some (.builtin "object.__setattr__")))
    (ex_ParseError : PySem.W.subIn K (.ref C_ParseError) (.type "BaseException") = some true)
    (ty_ParseError : PySem.W.typeIn K (.ref C_ParseError) = some (.type "type"))
    (kc_ParseError : PySem.W.keepIn K (.ref C_ParseError) = true)
    (hd_ParseError : PySem.W.hasDictIn K C_ParseError = true)
    (ga_ParseError : PySem.W.findIn K (.ref C_ParseError) "__getattribute__" = some (some (.builtin "BaseException.__getattribute__")))
    (gg_ParseError : PySem.W.findIn K (.ref C_ParseError) "__getattr__" = some none)
    (ss_ParseError : PySem.W.subIn K (.ref C_ParseError) (.ref C_ParseError) = some true)
    (ca_ParseError : PySem.W.findIn K (.ref C_ParseError) "__class__" = some (some (.builtin "object.__class__")))
    (cn_ParseError : PySem.W.specialIn K (.builtin "object.__class__") "__get__" = some (some (.builtin "getset_descriptor.__get__")))
    (ct_ParseError : PySem.W.takesIn K (.builtin "object.__class__") = some true)
    (cm_ParseError : PySem.W.mroIn K C_ParseError (.type "object") = some true)
    (na_part_ParseError : PySem.W.findIn K (.ref C_ParseError) "part" = some none)
    (m_ParseError__init : PySem.W.findIn K (.ref C_ParseError) "__init__" = some (some (.ref f_ParseError__init)))
    (ti_ParseError__init : PySem.W.typeIn K (.ref f_ParseError__init) = some (.type "function"))
    (l_ParseError__init : K.lookup f_ParseError__init = some ⟨oc_ParseError__init, od_ParseError__init, .func (PySem.W.fnOf "__init__" "ParseError.__init__" (defArgs s_ParseError__init) (defBody s_ParseError__init) (defScope s_ParseError__init) .none kV_ParseError__init dc_ParseError__init pm_ParseError__init an_ParseError__init cd_ParseError__init ct_ParseError__init), sl_ParseError__init⟩)
    (c_ParseError__init : PySem.W.codeIn K cd_ParseError__init "ParseError.__init__" = true)
    (k_ParseError__init : PySem.W.keepIn K (.ref f_ParseError__init) = true)
    (a_InvalidSteps : PySem.W.nsIn K mainGlobals "InvalidSteps" = some (some (.ref C_InvalidSteps)))
    (xl_InvalidSteps : K.lookup C_InvalidSteps = some (excClassObj nm_InvalidSteps q_InvalidSteps C_InvalidSteps N_InvalidSteps bs_InvalidSteps [.type "ValueError", .type "Exception", .type "BaseException", .type "object"] true sn_InvalidSteps sub_InvalidSteps ab_InvalidSteps col_InvalidSteps dd_InvalidSteps m0_InvalidSteps m1_InvalidSteps m2_InvalidSteps m3_InvalidSteps m5_InvalidSteps "ValueError.__new__"))
    (sa_InvalidSteps : PySem.W.findIn K (.ref C_InvalidSteps) "__setattr__" = some (some (.builtin "object.__setattr__")))
    (ex_InvalidSteps : PySem.W.subIn K (.ref C_InvalidSteps) (.type "BaseException") = some true)
    (ty_InvalidSteps : PySem.W.typeIn K (.ref C_InvalidSteps) = some (.type "type"))
    (kc_InvalidSteps : PySem.W.keepIn K (.ref C_InvalidSteps) = true)
    (hd_InvalidSteps : PySem.W.hasDictIn K C_InvalidSteps = true)
    (ga_InvalidSteps : PySem.W.findIn K (.ref C_InvalidSteps) "__getattribute__" = some (some (.builtin "BaseException.__getattribute__")))
    (gg_InvalidSteps : PySem.W.findIn K (.ref C_InvalidSteps) "__getattr__" = some none)
    (ss_InvalidSteps : PySem.W.subIn K (.ref C_InvalidSteps) (.ref C_InvalidSteps) = some true)
    (ca_InvalidSteps : PySem.W.findIn K (.ref C_InvalidSteps) "__class__" = some (some (.builtin "object.__class__")))
    (cn_InvalidSteps : PySem.W.specialIn K (.builtin "object.__class__") "__get__" = some (some (.builtin "getset_descriptor.__get__")))
    (ct_InvalidSteps : PySem.W.takesIn K (.builtin "object.__class__") = some true)
    (cm_InvalidSteps : PySem.W.mroIn K C_InvalidSteps (.type "object") = some true)
    (na_position_InvalidSteps : PySem.W.findIn K (.ref C_InvalidSteps) "position" = some none)
    (m_InvalidSteps__init : PySem.W.findIn K (.ref C_InvalidSteps) "__init__" = some (some (.ref f_InvalidSteps__init)))
    (ti_InvalidSteps__init : PySem.W.typeIn K (.ref f_InvalidSteps__init) = some (.type "function"))
    (l_InvalidSteps__init : K.lookup f_InvalidSteps__init = some ⟨oc_InvalidSteps__init, od_InvalidSteps__init, .func (PySem.W.fnOf "__init__" "InvalidSteps.__init__" (defArgs s_InvalidSteps__init) (defBody s_InvalidSteps__init) (defScope s_InvalidSteps__init) .none kV_InvalidSteps__init dc_InvalidSteps__init pm_InvalidSteps__init an_InvalidSteps__init cd_InvalidSteps__init ct_InvalidSteps__init), sl_InvalidSteps__init⟩)
    (c_InvalidSteps__init : PySem.W.codeIn K cd_InvalidSteps__init "InvalidSteps.__init__" = true)
    (k_InvalidSteps__init : PySem.W.keepIn K (.ref f_InvalidSteps__init) = true)
    (a_InvalidWord : PySem.W.nsIn K mainGlobals "InvalidWord" = some (some (.ref C_InvalidWord)))
    (xl_InvalidWord : K.lookup C_InvalidWord = some (excClassObj nm_InvalidWord q_InvalidWord C_InvalidWord N_InvalidWord bs_InvalidWord [.type "ValueError", .type "Exception", .type "BaseException", .type "object"] true sn_InvalidWord sub_InvalidWord ab_InvalidWord col_InvalidWord dd_InvalidWord m0_InvalidWord m1_InvalidWord m2_InvalidWord m3_InvalidWord m5_InvalidWord "ValueError.__new__"))
    (sa_InvalidWord : PySem.W.findIn K (.ref C_InvalidWord) "__setattr__" = some (some (.builtin "object.__setattr__")))
    (ex_InvalidWord : PySem.W.subIn K (.ref C_InvalidWord) (.type "BaseException") = some true)
    (ty_InvalidWord : PySem.W.typeIn K (.ref C_InvalidWord) = some (.type "type"))
    (kc_InvalidWord : PySem.W.keepIn K (.ref C_InvalidWord) = true)
    (hd_InvalidWord : PySem.W.hasDictIn K C_InvalidWord = true)
    (ga_InvalidWord : PySem.W.findIn K (.ref C_InvalidWord) "__getattribute__" = some (some (.builtin "BaseException.__getattribute__")))
    (gg_InvalidWord : PySem.W.findIn K (.ref C_InvalidWord) "__getattr__" = some none)
    (ss_InvalidWord : PySem.W.subIn K (.ref C_InvalidWord) (.ref C_InvalidWord) = some true)
    (ca_InvalidWord : PySem.W.findIn K (.ref C_InvalidWord) "__class__" = some (some (.builtin "object.__class__")))
    (cn_InvalidWord : PySem.W.specialIn K (.builtin "object.__class__") "__get__" = some (some (.builtin "getset_descriptor.__get__")))
    (ct_InvalidWord : PySem.W.takesIn K (.builtin "object.__class__") = some true)
    (cm_InvalidWord : PySem.W.mroIn K C_InvalidWord (.type "object") = some true)
    (na_position_InvalidWord : PySem.W.findIn K (.ref C_InvalidWord) "position" = some none)
    (m_InvalidWord__init : PySem.W.findIn K (.ref C_InvalidWord) "__init__" = some (some (.ref f_InvalidWord__init)))
    (ti_InvalidWord__init : PySem.W.typeIn K (.ref f_InvalidWord__init) = some (.type "function"))
    (l_InvalidWord__init : K.lookup f_InvalidWord__init = some ⟨oc_InvalidWord__init, od_InvalidWord__init, .func (PySem.W.fnOf "__init__" "InvalidWord.__init__" (defArgs s_InvalidWord__init) (defBody s_InvalidWord__init) (defScope s_InvalidWord__init) .none kV_InvalidWord__init dc_InvalidWord__init pm_InvalidWord__init an_InvalidWord__init cd_InvalidWord__init ct_InvalidWord__init), sl_InvalidWord__init⟩)
    (c_InvalidWord__init : PySem.W.codeIn K cd_InvalidWord__init "InvalidWord.__init__" = true)
    (k_InvalidWord__init : PySem.W.keepIn K (.ref f_InvalidWord__init) = true)
    (a_LimitExceeded : PySem.W.nsIn K mainGlobals "LimitExceeded" = some (some (.ref C_LimitExceeded)))
    (xl_LimitExceeded : K.lookup C_LimitExceeded = some (excClassObj nm_LimitExceeded q_LimitExceeded C_LimitExceeded N_LimitExceeded bs_LimitExceeded [.type "OverflowError", .type "ArithmeticError", .type "Exception", .type "BaseException", .type "object"] true sn_LimitExceeded sub_LimitExceeded ab_LimitExceeded col_LimitExceeded dd_LimitExceeded m0_LimitExceeded m1_LimitExceeded m2_LimitExceeded m3_LimitExceeded m5_LimitExceeded "OverflowError.__new__"))
    (sa_LimitExceeded : PySem.W.findIn K (.ref C_LimitExceeded) "__setattr__" = some (some (.builtin "object.__setattr__")))
    (ex_LimitExceeded : PySem.W.subIn K (.ref C_LimitExceeded) (.type "BaseException") = some true)
    (ty_LimitExceeded : PySem.W.typeIn K (.ref C_LimitExceeded) = some (.type "type"))
    (kc_LimitExceeded : PySem.W.keepIn K (.ref C_LimitExceeded) = true)
    (hd_LimitExceeded : PySem.W.hasDictIn K C_LimitExceeded = true)
    (ga_LimitExceeded : PySem.W.findIn K (.ref C_LimitExceeded) "__getattribute__" = some (some (.builtin "BaseException.__getattribute__")))
    (gg_LimitExceeded : PySem.W.findIn K (.ref C_LimitExceeded) "__getattr__" = some none)
    (ss_LimitExceeded : PySem.W.subIn K (.ref C_LimitExceeded) (.ref C_LimitExceeded) = some true)
    (ca_LimitExceeded : PySem.W.findIn K (.ref C_LimitExceeded) "__class__" = some (some (.builtin "object.__class__")))
    (cn_LimitExceeded : PySem.W.specialIn K (.builtin "object.__class__") "__get__" = some (some (.builtin "getset_descriptor.__get__")))
    (ct_LimitExceeded : PySem.W.takesIn K (.builtin "object.__class__") = some true)
    (cm_LimitExceeded : PySem.W.mroIn K C_LimitExceeded (.type "object") = some true)
    (na_limit_LimitExceeded : PySem.W.findIn K (.ref C_LimitExceeded) "limit" = some none)
    (m_LimitExceeded__init : PySem.W.findIn K (.ref C_LimitExceeded) "__init__" = some (some (.ref f_LimitExceeded__init)))
    (ti_LimitExceeded__init : PySem.W.typeIn K (.ref f_LimitExceeded__init) = some (.type "function"))
    (l_LimitExceeded__init : K.lookup f_LimitExceeded__init = some ⟨oc_LimitExceeded__init, od_LimitExceeded__init, .func (PySem.W.fnOf "__init__" "LimitExceeded.__init__" (defArgs s_LimitExceeded__init) (defBody s_LimitExceeded__init) (defScope s_LimitExceeded__init) .none kV_LimitExceeded__init dc_LimitExceeded__init pm_LimitExceeded__init an_LimitExceeded__init cd_LimitExceeded__init ct_LimitExceeded__init), sl_LimitExceeded__init⟩)
    (c_LimitExceeded__init : PySem.W.codeIn K cd_LimitExceeded__init "LimitExceeded.__init__" = true)
    (k_LimitExceeded__init : PySem.W.keepIn K (.ref f_LimitExceeded__init) = true)
    (a_NotLast : PySem.W.nsIn K mainGlobals "NotLast" = some (some (.ref C_NotLast)))
    (xl_NotLast : K.lookup C_NotLast = some (excClassObj nm_NotLast q_NotLast C_NotLast N_NotLast bs_NotLast [.type "RuntimeError", .type "Exception", .type "BaseException", .type "object"] true sn_NotLast sub_NotLast ab_NotLast col_NotLast dd_NotLast m0_NotLast m1_NotLast m2_NotLast m3_NotLast m5_NotLast "RuntimeError.__new__"))
    (sa_NotLast : PySem.W.findIn K (.ref C_NotLast) "__setattr__" = some (some (.builtin "object.__setattr__")))
    (ex_NotLast : PySem.W.subIn K (.ref C_NotLast) (.type "BaseException") = some true)
    (ty_NotLast : PySem.W.typeIn K (.ref C_NotLast) = some (.type "type"))
    (kc_NotLast : PySem.W.keepIn K (.ref C_NotLast) = true)
    (hd_NotLast : PySem.W.hasDictIn K C_NotLast = true)
    (ga_NotLast : PySem.W.findIn K (.ref C_NotLast) "__getattribute__" = some (some (.builtin "BaseException.__getattribute__")))
    (gg_NotLast : PySem.W.findIn K (.ref C_NotLast) "__getattr__" = some none)
    (ss_NotLast : PySem.W.subIn K (.ref C_NotLast) (.ref C_NotLast) = some true)
    (ca_NotLast : PySem.W.findIn K (.ref C_NotLast) "__class__" = some (some (.builtin "object.__class__")))
    (cn_NotLast : PySem.W.specialIn K (.builtin "object.__class__") "__get__" = some (some (.builtin "getset_descriptor.__get__")))
    (ct_NotLast : PySem.W.takesIn K (.builtin "object.__class__") = some true)
    (cm_NotLast : PySem.W.mroIn K C_NotLast (.type "object") = some true)
    (na_user_NotLast : PySem.W.findIn K (.ref C_NotLast) "user" = some none)
    (m_NotLast__init : PySem.W.findIn K (.ref C_NotLast) "__init__" = some (some (.ref f_NotLast__init)))
    (ti_NotLast__init : PySem.W.typeIn K (.ref f_NotLast__init) = some (.type "function"))
    (l_NotLast__init : K.lookup f_NotLast__init = some ⟨oc_NotLast__init, od_NotLast__init, .func (PySem.W.fnOf "__init__" "NotLast.__init__" (defArgs s_NotLast__init) (defBody s_NotLast__init) (defScope s_NotLast__init) .none kV_NotLast__init dc_NotLast__init pm_NotLast__init an_NotLast__init cd_NotLast__init ct_NotLast__init), sl_NotLast__init⟩)
    (c_NotLast__init : PySem.W.codeIn K cd_NotLast__init "NotLast.__init__" = true)
    (k_NotLast__init : PySem.W.keepIn K (.ref f_NotLast__init) = true)
    (a_NothingToUndo : PySem.W.nsIn K mainGlobals "NothingToUndo" = some (some (.ref C_NothingToUndo)))
    (xl_NothingToUndo : K.lookup C_NothingToUndo = some (excClassObj nm_NothingToUndo q_NothingToUndo C_NothingToUndo N_NothingToUndo bs_NothingToUndo [.type "LookupError", .type "Exception", .type "BaseException", .type "object"] true sn_NothingToUndo sub_NothingToUndo ab_NothingToUndo col_NothingToUndo dd_NothingToUndo m0_NothingToUndo m1_NothingToUndo m2_NothingToUndo m3_NothingToUndo m5_NothingToUndo "LookupError.__new__"))
    (sa_NothingToUndo : PySem.W.findIn K (.ref C_NothingToUndo) "__setattr__" = some (some (.builtin "object.__setattr__")))
    (ex_NothingToUndo : PySem.W.subIn K (.ref C_NothingToUndo) (.type "BaseException") = some true)
    (ty_NothingToUndo : PySem.W.typeIn K (.ref C_NothingToUndo) = some (.type "type"))
    (kc_NothingToUndo : PySem.W.keepIn K (.ref C_NothingToUndo) = true)
    (hd_NothingToUndo : PySem.W.hasDictIn K C_NothingToUndo = true)
    (ga_NothingToUndo : PySem.W.findIn K (.ref C_NothingToUndo) "__getattribute__" = some (some (.builtin "BaseException.__getattribute__")))
    (gg_NothingToUndo : PySem.W.findIn K (.ref C_NothingToUndo) "__getattr__" = some none)
    (ss_NothingToUndo : PySem.W.subIn K (.ref C_NothingToUndo) (.ref C_NothingToUndo) = some true)
    (ca_NothingToUndo : PySem.W.findIn K (.ref C_NothingToUndo) "__class__" = some (some (.builtin "object.__class__")))
    (cn_NothingToUndo : PySem.W.specialIn K (.builtin "object.__class__") "__get__" = some (some (.builtin "getset_descriptor.__get__")))
    (ct_NothingToUndo : PySem.W.takesIn K (.builtin "object.__class__") = some true)
    (cm_NothingToUndo : PySem.W.mroIn K C_NothingToUndo (.type "object") = some true)
    (na_user_NothingToUndo : PySem.W.findIn K (.ref C_NothingToUndo) "user" = some none)
    (m_NothingToUndo__init : PySem.W.findIn K (.ref C_NothingToUndo) "__init__" = some (some (.ref f_NothingToUndo__init)))
    (ti_NothingToUndo__init : PySem.W.typeIn K (.ref f_NothingToUndo__init) = some (.type "function"))
    (l_NothingToUndo__init : K.lookup f_NothingToUndo__init = some ⟨oc_NothingToUndo__init, od_NothingToUndo__init, .func (PySem.W.fnOf "__init__" "NothingToUndo.__init__" (defArgs s_NothingToUndo__init) (defBody s_NothingToUndo__init) (defScope s_NothingToUndo__init) .none kV_NothingToUndo__init dc_NothingToUndo__init pm_NothingToUndo__init an_NothingToUndo__init cd_NothingToUndo__init ct_NothingToUndo__init), sl_NothingToUndo__init⟩)
    (c_NothingToUndo__init : PySem.W.codeIn K cd_NothingToUndo__init "NothingToUndo.__init__" = true)
    (k_NothingToUndo__init : PySem.W.keepIn K (.ref f_NothingToUndo__init) = true)
    (a_TooFew : PySem.W.nsIn K mainGlobals "TooFew" = some (some (.ref C_TooFew)))
    (xl_TooFew : K.lookup C_TooFew = some (excClassObj nm_TooFew q_TooFew C_TooFew N_TooFew bs_TooFew [.type "RuntimeError", .type "Exception", .type "BaseException", .type "object"] true sn_TooFew sub_TooFew ab_TooFew col_TooFew dd_TooFew m0_TooFew m1_TooFew m2_TooFew m3_TooFew m5_TooFew "RuntimeError.__new__"))
    (sa_TooFew : PySem.W.findIn K (.ref C_TooFew) "__setattr__" = some (some (.builtin "object.__setattr__")))
    (ex_TooFew : PySem.W.subIn K (.ref C_TooFew) (.type "BaseException") = some true)
    (ty_TooFew : PySem.W.typeIn K (.ref C_TooFew) = some (.type "type"))
    (kc_TooFew : PySem.W.keepIn K (.ref C_TooFew) = true)
    (hd_TooFew : PySem.W.hasDictIn K C_TooFew = true)
    (ga_TooFew : PySem.W.findIn K (.ref C_TooFew) "__getattribute__" = some (some (.builtin "BaseException.__getattribute__")))
    (gg_TooFew : PySem.W.findIn K (.ref C_TooFew) "__getattr__" = some none)
    (ss_TooFew : PySem.W.subIn K (.ref C_TooFew) (.ref C_TooFew) = some true)
    (ca_TooFew : PySem.W.findIn K (.ref C_TooFew) "__class__" = some (some (.builtin "object.__class__")))
    (cn_TooFew : PySem.W.specialIn K (.builtin "object.__class__") "__get__" = some (some (.builtin "getset_descriptor.__get__")))
    (ct_TooFew : PySem.W.takesIn K (.builtin "object.__class__") = some true)
    (cm_TooFew : PySem.W.mroIn K C_TooFew (.type "object") = some true)
    (na_number_TooFew : PySem.W.findIn K (.ref C_TooFew) "number" = some none)
    (m_TooFew__init : PySem.W.findIn K (.ref C_TooFew) "__init__" = some (some (.ref f_TooFew__init)))
    (ti_TooFew__init : PySem.W.typeIn K (.ref f_TooFew__init) = some (.type "function"))
    (l_TooFew__init : K.lookup f_TooFew__init = some ⟨oc_TooFew__init, od_TooFew__init, .func (PySem.W.fnOf "__init__" "TooFew.__init__" (defArgs s_TooFew__init) (defBody s_TooFew__init) (defScope s_TooFew__init) .none kV_TooFew__init dc_TooFew__init pm_TooFew__init an_TooFew__init cd_TooFew__init ct_TooFew__init), sl_TooFew__init⟩)
    (c_TooFew__init : PySem.W.codeIn K cd_TooFew__init "TooFew.__init__" = true)
    (k_TooFew__init : PySem.W.keepIn K (.ref f_TooFew__init) = true)
    (a_UnknownName : PySem.W.nsIn K mainGlobals "UnknownName" = some (some (.ref C_UnknownName)))
    (xl_UnknownName : K.lookup C_UnknownName = some (excClassObj nm_UnknownName q_UnknownName C_UnknownName N_UnknownName bs_UnknownName [.type "KeyError", .type "LookupError", .type "Exception", .type "BaseException", .type "object"] true sn_UnknownName sub_UnknownName ab_UnknownName col_UnknownName dd_UnknownName m0_UnknownName m1_UnknownName m2_UnknownName m3_UnknownName m5_UnknownName "LookupError.__new__"))
    (sa_UnknownName : PySem.W.findIn K (.ref C_UnknownName) "__setattr__" = some (some (.builtin "object.__setattr__")))
    (ex_UnknownName : PySem.W.subIn K (.ref C_UnknownName) (.type "BaseException") = some true)
    (ty_UnknownName : PySem.W.typeIn K (.ref C_UnknownName) = some (.type "type"))
    (kc_UnknownName : PySem.W.keepIn K (.ref C_UnknownName) = true)
    (hd_UnknownName : PySem.W.hasDictIn K C_UnknownName = true)
    (ga_UnknownName : PySem.W.findIn K (.ref C_UnknownName) "__getattribute__" = some (some (.builtin "BaseException.__getattribute__")))
    (gg_UnknownName : PySem.W.findIn K (.ref C_UnknownName) "__getattr__" = some none)
    (ss_UnknownName : PySem.W.subIn K (.ref C_UnknownName) (.ref C_UnknownName) = some true)
    (ca_UnknownName : PySem.W.findIn K (.ref C_UnknownName) "__class__" = some (some (.builtin "object.__class__")))
    (cn_UnknownName : PySem.W.specialIn K (.builtin "object.__class__") "__get__" = some (some (.builtin "getset_descriptor.__get__")))
    (ct_UnknownName : PySem.W.takesIn K (.builtin "object.__class__") = some true)
    (cm_UnknownName : PySem.W.mroIn K C_UnknownName (.type "object") = some true)
    (na_name_UnknownName : PySem.W.findIn K (.ref C_UnknownName) "name" = some none)
    (m_UnknownName__init : PySem.W.findIn K (.ref C_UnknownName) "__init__" = some (some (.ref f_UnknownName__init)))
    (ti_UnknownName__init : PySem.W.typeIn K (.ref f_UnknownName__init) = some (.type "function"))
    (l_UnknownName__init : K.lookup f_UnknownName__init = some ⟨oc_UnknownName__init, od_UnknownName__init, .func (PySem.W.fnOf "__init__" "UnknownName.__init__" (defArgs s_UnknownName__init) (defBody s_UnknownName__init) (defScope s_UnknownName__init) .none kV_UnknownName__init dc_UnknownName__init pm_UnknownName__init an_UnknownName__init cd_UnknownName__init ct_UnknownName__init), sl_UnknownName__init⟩)
    (c_UnknownName__init : PySem.W.codeIn K cd_UnknownName__init "UnknownName.__init__" = true)
    (k_UnknownName__init : PySem.W.keepIn K (.ref f_UnknownName__init) = true)
    (a_SizeMismatch : PySem.W.nsIn K mainGlobals "SizeMismatch" = some (some (.ref C_SizeMismatch)))
    (xl_SizeMismatch : K.lookup C_SizeMismatch = some (excClassObj nm_SizeMismatch q_SizeMismatch C_SizeMismatch N_SizeMismatch bs_SizeMismatch [.type "ValueError", .type "Exception", .type "BaseException", .type "object"] true sn_SizeMismatch sub_SizeMismatch ab_SizeMismatch col_SizeMismatch dd_SizeMismatch m0_SizeMismatch m1_SizeMismatch m2_SizeMismatch m3_SizeMismatch m5_SizeMismatch "ValueError.__new__"))
    (sa_SizeMismatch : PySem.W.findIn K (.ref C_SizeMismatch) "__setattr__" = some (some (.builtin "object.__setattr__")))
    (ex_SizeMismatch : PySem.W.subIn K (.ref C_SizeMismatch) (.type "BaseException") = some true)
    (ty_SizeMismatch : PySem.W.typeIn K (.ref C_SizeMismatch) = some (.type "type"))
    (kc_SizeMismatch : PySem.W.keepIn K (.ref C_SizeMismatch) = true)
    (hd_SizeMismatch : PySem.W.hasDictIn K C_SizeMismatch = true)
    (ga_SizeMismatch : PySem.W.findIn K (.ref C_SizeMismatch) "__getattribute__" = some (some (.builtin "BaseException.__getattribute__")))
    (gg_SizeMismatch : PySem.W.findIn K (.ref C_SizeMismatch) "__getattr__" = some none)
    (ss_SizeMismatch : PySem.W.subIn K (.ref C_SizeMismatch) (.ref C_SizeMismatch) = some true)
    (ca_SizeMismatch : PySem.W.findIn K (.ref C_SizeMismatch) "__class__" = some (some (.builtin "object.__class__")))
    (cn_SizeMismatch : PySem.W.specialIn K (.builtin "object.__class__") "__get__" = some (some (.builtin "getset_descriptor.__get__")))
    (ct_SizeMismatch : PySem.W.takesIn K (.builtin "object.__class__") = some true)
    (cm_SizeMismatch : PySem.W.mroIn K C_SizeMismatch (.type "object") = some true)
    (na_first_SizeMismatch : PySem.W.findIn K (.ref C_SizeMismatch) "first" = some none)
    (na_second_SizeMismatch : PySem.W.findIn K (.ref C_SizeMismatch) "second" = some none)
    (m_SizeMismatch__init : PySem.W.findIn K (.ref C_SizeMismatch) "__init__" = some (some (.ref f_SizeMismatch__init)))
    (ti_SizeMismatch__init : PySem.W.typeIn K (.ref f_SizeMismatch__init) = some (.type "function"))
    (l_SizeMismatch__init : K.lookup f_SizeMismatch__init = some ⟨oc_SizeMismatch__init, od_SizeMismatch__init, .func (PySem.W.fnOf "__init__" "SizeMismatch.__init__" (defArgs s_SizeMismatch__init) (defBody s_SizeMismatch__init) (defScope s_SizeMismatch__init) .none kV_SizeMismatch__init dc_SizeMismatch__init pm_SizeMismatch__init an_SizeMismatch__init cd_SizeMismatch__init ct_SizeMismatch__init), sl_SizeMismatch__init⟩)
    (c_SizeMismatch__init : PySem.W.codeIn K cd_SizeMismatch__init "SizeMismatch.__init__" = true)
    (k_SizeMismatch__init : PySem.W.keepIn K (.ref f_SizeMismatch__init) = true)
    (a_Clash : PySem.W.nsIn K mainGlobals "Clash" = some (some (.ref C_Clash)))
    (xl_Clash : K.lookup C_Clash = some (excClassObj nm_Clash q_Clash C_Clash N_Clash bs_Clash [.type "RuntimeError", .type "Exception", .type "BaseException", .type "object"] true sn_Clash sub_Clash ab_Clash col_Clash dd_Clash m0_Clash m1_Clash m2_Clash m3_Clash m5_Clash "RuntimeError.__new__"))
    (sa_Clash : PySem.W.findIn K (.ref C_Clash) "__setattr__" = some (some (.builtin "object.__setattr__")))
    (ex_Clash : PySem.W.subIn K (.ref C_Clash) (.type "BaseException") = some true)
    (ty_Clash : PySem.W.typeIn K (.ref C_Clash) = some (.type "type"))
    (kc_Clash : PySem.W.keepIn K (.ref C_Clash) = true)
    (hd_Clash : PySem.W.hasDictIn K C_Clash = true)
    (ga_Clash : PySem.W.findIn K (.ref C_Clash) "__getattribute__" = some (some (.builtin "BaseException.__getattribute__")))
    (gg_Clash : PySem.W.findIn K (.ref C_Clash) "__getattr__" = some none)
    (ss_Clash : PySem.W.subIn K (.ref C_Clash) (.ref C_Clash) = some true)
    (ca_Clash : PySem.W.findIn K (.ref C_Clash) "__class__" = some (some (.builtin "object.__class__")))
    (cn_Clash : PySem.W.specialIn K (.builtin "object.__class__") "__get__" = some (some (.builtin "getset_descriptor.__get__")))
    (ct_Clash : PySem.W.takesIn K (.builtin "object.__class__") = some true)
    (cm_Clash : PySem.W.mroIn K C_Clash (.type "object") = some true)
    (na_first_Clash : PySem.W.findIn K (.ref C_Clash) "first" = some none)
    (na_second_Clash : PySem.W.findIn K (.ref C_Clash) "second" = some none)
    (m_Clash__init : PySem.W.findIn K (.ref C_Clash) "__init__" = some (some (.ref f_Clash__init)))
    (ti_Clash__init : PySem.W.typeIn K (.ref f_Clash__init) = some (.type "function"))
    (l_Clash__init : K.lookup f_Clash__init = some ⟨oc_Clash__init, od_Clash__init, .func (PySem.W.fnOf "__init__" "Clash.__init__" (defArgs s_Clash__init) (defBody s_Clash__init) (defScope s_Clash__init) .none kV_Clash__init dc_Clash__init pm_Clash__init an_Clash__init cd_Clash__init ct_Clash__init), sl_Clash__init⟩)
    (c_Clash__init : PySem.W.codeIn K cd_Clash__init "Clash.__init__" = true)
    (k_Clash__init : PySem.W.keepIn K (.ref f_Clash__init) = true)
    (kit_tabA : U.tabA K [C_InvalidSize, C_InvalidElement, C_InvalidNumber, C_InvalidFamily, C_InvalidUser, C_InvalidCommand, C_Undefined, C_InvalidMap, C_InvalidShape, C_InvalidPartial, C_ParseError, C_InvalidSteps, C_InvalidWord, C_LimitExceeded, C_NotLast, C_NothingToUndo, C_TooFew, C_UnknownName, C_SizeMismatch, C_Clash] = true)
    (kit_tabB : U.tabB K [C_InvalidSize, C_InvalidElement, C_InvalidNumber, C_InvalidFamily, C_InvalidUser, C_InvalidCommand, C_Undefined, C_InvalidMap, C_InvalidShape, C_InvalidPartial, C_ParseError, C_InvalidSteps, C_InvalidWord, C_LimitExceeded, C_NotLast, C_NothingToUndo, C_TooFew, C_UnknownName, C_SizeMismatch, C_Clash] = true)
    (z_isinstance : PySem.W.nsIn K mainGlobals "isinstance" = some none)
    (z_int : PySem.W.nsIn K mainGlobals "int" = some none)
    (z_len : PySem.W.nsIn K mainGlobals "len" = some none)
    (z_range : PySem.W.nsIn K mainGlobals "range" = some none)
    (z_max : PySem.W.nsIn K mainGlobals "max" = some none)
    (z_min : PySem.W.nsIn K mainGlobals "min" = some none)
    (z_repr : PySem.W.nsIn K mainGlobals "repr" = some none)
    (z_enumerate : PySem.W.nsIn K mainGlobals "enumerate" = some none)
    (z_ValueError : PySem.W.nsIn K mainGlobals "ValueError" = some none)
    (z_RuntimeError : PySem.W.nsIn K mainGlobals "RuntimeError" = some none)
    (z_OverflowError : PySem.W.nsIn K mainGlobals "OverflowError" = some none)
    (z_LookupError : PySem.W.nsIn K mainGlobals "LookupError" = some none)
    (z_KeyError : PySem.W.nsIn K mainGlobals "KeyError" = some none)
    (z_ArithmeticError : PySem.W.nsIn K mainGlobals "ArithmeticError" = some none) :
    Nonempty (Txt K mg) := ⟨{
    f_l_hand := f_l_hand,
    A_l_hand := ⟨_, fun_mk (st := s_l_hand) l_l_hand c_l_hand k_l_hand, (fun_mk (st := s_l_hand) l_l_hand c_l_hand k_l_hand).binds (ps := ["_law_script", "_law_k"]) fun _ _ _ _ _ _ us hl => match us, hl with | [_, _], _ => rfl⟩,
    g_l_hand := PySem.W.mg_of X G a_l_hand,
    f_l_draw := f_l_draw,
    A_l_draw := ⟨_, fun_mk (st := s_l_draw) l_l_draw c_l_draw k_l_draw, (fun_mk (st := s_l_draw) l_l_draw c_l_draw k_l_draw).binds (ps := ["_law_pool", "_law_size"]) fun _ _ _ _ _ _ us hl => match us, hl with | [_, _], _ => rfl⟩,
    g_l_draw := PySem.W.mg_of X G a_l_draw,
    f_l_item := f_l_item,
    A_l_item := ⟨_, fun_mk (st := s_l_item) l_l_item c_l_item k_l_item, (fun_mk (st := s_l_item) l_l_item c_l_item k_l_item).binds (ps := ["_law_pool"]) fun _ _ _ _ _ _ us hl => match us, hl with | [_], _ => rfl⟩,
    g_l_item := PySem.W.mg_of X G a_l_item,
    f_l_of_values := f_l_of_values,
    A_l_of_values := ⟨_, fun_mk (st := s_l_of_values) l_l_of_values c_l_of_values k_l_of_values, (fun_mk (st := s_l_of_values) l_l_of_values c_l_of_values k_l_of_values).binds (ps := ["_law_pool", "_law_item_here"]) fun _ _ _ _ _ _ us hl => match us, hl with | [_, _], _ => rfl⟩,
    g_l_of_values := PySem.W.mg_of X G a_l_of_values,
    f_l_others := f_l_others,
    A_l_others := ⟨_, fun_mk (st := s_l_others) l_l_others c_l_others k_l_others, (fun_mk (st := s_l_others) l_l_others c_l_others k_l_others).binds (ps := ["_law_pool", "_law_item_here"]) fun _ _ _ _ _ _ us hl => match us, hl with | [_, _], _ => rfl⟩,
    g_l_others := PySem.W.mg_of X G a_l_others,
    f_l_marks := f_l_marks,
    A_l_marks := ⟨_, fun_mk (st := s_l_marks) l_l_marks c_l_marks k_l_marks, (fun_mk (st := s_l_marks) l_l_marks c_l_marks k_l_marks).binds (ps := ["_law_e"]) fun _ _ _ _ _ _ us hl => match us, hl with | [_], _ => rfl⟩,
    g_l_marks := PySem.W.mg_of X G a_l_marks,
    f_l_above := f_l_above,
    A_l_above := ⟨_, fun_mk (st := s_l_above) l_l_above c_l_above k_l_above, (fun_mk (st := s_l_above) l_l_above c_l_above k_l_above).binds (ps := ["_law_e"]) fun _ _ _ _ _ _ us hl => match us, hl with | [_], _ => rfl⟩,
    g_l_above := PySem.W.mg_of X G a_l_above,
    f_l_bases := f_l_bases,
    A_l_bases := ⟨_, fun_mk (st := s_l_bases) l_l_bases c_l_bases k_l_bases, (fun_mk (st := s_l_bases) l_l_bases c_l_bases k_l_bases).binds (ps := ["_law_place"]) fun _ _ _ _ _ _ us hl => match us, hl with | [_], _ => rfl⟩,
    g_l_bases := PySem.W.mg_of X G a_l_bases,
    f_law := f_law,
    A_law := ⟨_, fun_mk (st := s_law) l_law c_law k_law, (fun_mk (st := s_law) l_law c_law k_law).binds (ps := ["_law_script"]) fun _ _ _ _ _ _ us hl => match us, hl with | [_], _ => rfl⟩,
    L_law := ⟨_, fun_mk (st := s_law) l_law c_law k_law, fun s v => .of_eq rfl⟩,
    g_law := PySem.W.mg_of X G a_law,
    C_InvalidSize := C_InvalidSize,
    g_InvalidSize := PySem.W.mg_of X G a_InvalidSize,
    x_InvalidSize := ⟨⟨"ValueError", _, _, _, _, _, _, _, _, _, _, _, _, _, _, _, _, _, _, PySem.F.store_ValueError, PySem.F.excBase_ValueError, xl_InvalidSize, by decide +kernel⟩, sa_InvalidSize, ex_InvalidSize, ty_InvalidSize, kc_InvalidSize⟩,
    xf_InvalidSize := ⟨ga_InvalidSize, gg_InvalidSize, ex_InvalidSize, hd_InvalidSize⟩,
    xe_InvalidSize := ⟨ga_InvalidSize, gg_InvalidSize, ex_InvalidSize, hd_InvalidSize, ca_InvalidSize, cn_InvalidSize, ct_InvalidSize, cm_InvalidSize⟩,
    te_InvalidSize := PySem.W.exm_ref ex_InvalidSize hd_InvalidSize ty_InvalidSize ss_InvalidSize,
    na_value_InvalidSize := na_value_InvalidSize,
    f_InvalidSize__init := f_InvalidSize__init,
    A_InvalidSize__init := ⟨_, fun_mk (st := s_InvalidSize__init) l_InvalidSize__init c_InvalidSize__init k_InvalidSize__init, (fun_mk (st := s_InvalidSize__init) l_InvalidSize__init c_InvalidSize__init k_InvalidSize__init).binds (ps := ["self", "value"]) fun _ _ _ _ _ _ us hl => match us, hl with | [_, _], _ => rfl⟩,
    m_InvalidSize__init := m_InvalidSize__init,
    ti_InvalidSize__init := ti_InvalidSize__init,
    KW_InvalidSize__init := ⟨_, fun_mk (st := s_InvalidSize__init) l_InvalidSize__init c_InvalidSize__init k_InvalidSize__init, fun s v u => .of_eq rfl⟩,
    C_InvalidElement := C_InvalidElement,
    g_InvalidElement := PySem.W.mg_of X G a_InvalidElement,
    x_InvalidElement := ⟨⟨"ValueError", _, _, _, _, _, _, _, _, _, _, _, _, _, _, _, _, _, _, PySem.F.store_ValueError, PySem.F.excBase_ValueError, xl_InvalidElement, by decide +kernel⟩, sa_InvalidElement, ex_InvalidElement, ty_InvalidElement, kc_InvalidElement⟩,
    xf_InvalidElement := ⟨ga_InvalidElement, gg_InvalidElement, ex_InvalidElement, hd_InvalidElement⟩,
    xe_InvalidElement := ⟨ga_InvalidElement, gg_InvalidElement, ex_InvalidElement, hd_InvalidElement, ca_InvalidElement, cn_InvalidElement, ct_InvalidElement, cm_InvalidElement⟩,
    te_InvalidElement := PySem.W.exm_ref ex_InvalidElement hd_InvalidElement ty_InvalidElement ss_InvalidElement,
    na_value_InvalidElement := na_value_InvalidElement,
    f_InvalidElement__init := f_InvalidElement__init,
    A_InvalidElement__init := ⟨_, fun_mk (st := s_InvalidElement__init) l_InvalidElement__init c_InvalidElement__init k_InvalidElement__init, (fun_mk (st := s_InvalidElement__init) l_InvalidElement__init c_InvalidElement__init k_InvalidElement__init).binds (ps := ["self", "value"]) fun _ _ _ _ _ _ us hl => match us, hl with | [_, _], _ => rfl⟩,
    m_InvalidElement__init := m_InvalidElement__init,
    ti_InvalidElement__init := ti_InvalidElement__init,
    KW_InvalidElement__init := ⟨_, fun_mk (st := s_InvalidElement__init) l_InvalidElement__init c_InvalidElement__init k_InvalidElement__init, fun s v u => .of_eq rfl⟩,
    C_InvalidNumber := C_InvalidNumber,
    g_InvalidNumber := PySem.W.mg_of X G a_InvalidNumber,
    x_InvalidNumber := ⟨⟨"ValueError", _, _, _, _, _, _, _, _, _, _, _, _, _, _, _, _, _, _, PySem.F.store_ValueError, PySem.F.excBase_ValueError, xl_InvalidNumber, by decide +kernel⟩, sa_InvalidNumber, ex_InvalidNumber, ty_InvalidNumber, kc_InvalidNumber⟩,
    xf_InvalidNumber := ⟨ga_InvalidNumber, gg_InvalidNumber, ex_InvalidNumber, hd_InvalidNumber⟩,
    xe_InvalidNumber := ⟨ga_InvalidNumber, gg_InvalidNumber, ex_InvalidNumber, hd_InvalidNumber, ca_InvalidNumber, cn_InvalidNumber, ct_InvalidNumber, cm_InvalidNumber⟩,
    te_InvalidNumber := PySem.W.exm_ref ex_InvalidNumber hd_InvalidNumber ty_InvalidNumber ss_InvalidNumber,
    na_value_InvalidNumber := na_value_InvalidNumber,
    f_InvalidNumber__init := f_InvalidNumber__init,
    A_InvalidNumber__init := ⟨_, fun_mk (st := s_InvalidNumber__init) l_InvalidNumber__init c_InvalidNumber__init k_InvalidNumber__init, (fun_mk (st := s_InvalidNumber__init) l_InvalidNumber__init c_InvalidNumber__init k_InvalidNumber__init).binds (ps := ["self", "value"]) fun _ _ _ _ _ _ us hl => match us, hl with | [_, _], _ => rfl⟩,
    m_InvalidNumber__init := m_InvalidNumber__init,
    ti_InvalidNumber__init := ti_InvalidNumber__init,
    KW_InvalidNumber__init := ⟨_, fun_mk (st := s_InvalidNumber__init) l_InvalidNumber__init c_InvalidNumber__init k_InvalidNumber__init, fun s v u => .of_eq rfl⟩,
    C_InvalidFamily := C_InvalidFamily,
    g_InvalidFamily := PySem.W.mg_of X G a_InvalidFamily,
    x_InvalidFamily := ⟨⟨"ValueError", _, _, _, _, _, _, _, _, _, _, _, _, _, _, _, _, _, _, PySem.F.store_ValueError, PySem.F.excBase_ValueError, xl_InvalidFamily, by decide +kernel⟩, sa_InvalidFamily, ex_InvalidFamily, ty_InvalidFamily, kc_InvalidFamily⟩,
    xf_InvalidFamily := ⟨ga_InvalidFamily, gg_InvalidFamily, ex_InvalidFamily, hd_InvalidFamily⟩,
    xe_InvalidFamily := ⟨ga_InvalidFamily, gg_InvalidFamily, ex_InvalidFamily, hd_InvalidFamily, ca_InvalidFamily, cn_InvalidFamily, ct_InvalidFamily, cm_InvalidFamily⟩,
    te_InvalidFamily := PySem.W.exm_ref ex_InvalidFamily hd_InvalidFamily ty_InvalidFamily ss_InvalidFamily,
    na_value_InvalidFamily := na_value_InvalidFamily,
    f_InvalidFamily__init := f_InvalidFamily__init,
    A_InvalidFamily__init := ⟨_, fun_mk (st := s_InvalidFamily__init) l_InvalidFamily__init c_InvalidFamily__init k_InvalidFamily__init, (fun_mk (st := s_InvalidFamily__init) l_InvalidFamily__init c_InvalidFamily__init k_InvalidFamily__init).binds (ps := ["self", "value"]) fun _ _ _ _ _ _ us hl => match us, hl with | [_, _], _ => rfl⟩,
    m_InvalidFamily__init := m_InvalidFamily__init,
    ti_InvalidFamily__init := ti_InvalidFamily__init,
    KW_InvalidFamily__init := ⟨_, fun_mk (st := s_InvalidFamily__init) l_InvalidFamily__init c_InvalidFamily__init k_InvalidFamily__init, fun s v u => .of_eq rfl⟩,
    C_InvalidUser := C_InvalidUser,
    g_InvalidUser := PySem.W.mg_of X G a_InvalidUser,
    x_InvalidUser := ⟨⟨"ValueError", _, _, _, _, _, _, _, _, _, _, _, _, _, _, _, _, _, _, PySem.F.store_ValueError, PySem.F.excBase_ValueError, xl_InvalidUser, by decide +kernel⟩, sa_InvalidUser, ex_InvalidUser, ty_InvalidUser, kc_InvalidUser⟩,
    xf_InvalidUser := ⟨ga_InvalidUser, gg_InvalidUser, ex_InvalidUser, hd_InvalidUser⟩,
    xe_InvalidUser := ⟨ga_InvalidUser, gg_InvalidUser, ex_InvalidUser, hd_InvalidUser, ca_InvalidUser, cn_InvalidUser, ct_InvalidUser, cm_InvalidUser⟩,
    te_InvalidUser := PySem.W.exm_ref ex_InvalidUser hd_InvalidUser ty_InvalidUser ss_InvalidUser,
    na_value_InvalidUser := na_value_InvalidUser,
    f_InvalidUser__init := f_InvalidUser__init,
    A_InvalidUser__init := ⟨_, fun_mk (st := s_InvalidUser__init) l_InvalidUser__init c_InvalidUser__init k_InvalidUser__init, (fun_mk (st := s_InvalidUser__init) l_InvalidUser__init c_InvalidUser__init k_InvalidUser__init).binds (ps := ["self", "value"]) fun _ _ _ _ _ _ us hl => match us, hl with | [_, _], _ => rfl⟩,
    m_InvalidUser__init := m_InvalidUser__init,
    ti_InvalidUser__init := ti_InvalidUser__init,
    KW_InvalidUser__init := ⟨_, fun_mk (st := s_InvalidUser__init) l_InvalidUser__init c_InvalidUser__init k_InvalidUser__init, fun s v u => .of_eq rfl⟩,
    C_InvalidCommand := C_InvalidCommand,
    g_InvalidCommand := PySem.W.mg_of X G a_InvalidCommand,
    x_InvalidCommand := ⟨⟨"ValueError", _, _, _, _, _, _, _, _, _, _, _, _, _, _, _, _, _, _, PySem.F.store_ValueError, PySem.F.excBase_ValueError, xl_InvalidCommand, by decide +kernel⟩, sa_InvalidCommand, ex_InvalidCommand, ty_InvalidCommand, kc_InvalidCommand⟩,
    xf_InvalidCommand := ⟨ga_InvalidCommand, gg_InvalidCommand, ex_InvalidCommand, hd_InvalidCommand⟩,
    xe_InvalidCommand := ⟨ga_InvalidCommand, gg_InvalidCommand, ex_InvalidCommand, hd_InvalidCommand, ca_InvalidCommand, cn_InvalidCommand, ct_InvalidCommand, cm_InvalidCommand⟩,
    te_InvalidCommand := PySem.W.exm_ref ex_InvalidCommand hd_InvalidCommand ty_InvalidCommand ss_InvalidCommand,
    na_value_InvalidCommand := na_value_InvalidCommand,
    f_InvalidCommand__init := f_InvalidCommand__init,
    A_InvalidCommand__init := ⟨_, fun_mk (st := s_InvalidCommand__init) l_InvalidCommand__init c_InvalidCommand__init k_InvalidCommand__init, (fun_mk (st := s_InvalidCommand__init) l_InvalidCommand__init c_InvalidCommand__init k_InvalidCommand__init).binds (ps := ["self", "value"]) fun _ _ _ _ _ _ us hl => match us, hl with | [_, _], _ => rfl⟩,
    m_InvalidCommand__init := m_InvalidCommand__init,
    ti_InvalidCommand__init := ti_InvalidCommand__init,
    KW_InvalidCommand__init := ⟨_, fun_mk (st := s_InvalidCommand__init) l_InvalidCommand__init c_InvalidCommand__init k_InvalidCommand__init, fun s v u => .of_eq rfl⟩,
    C_Undefined := C_Undefined,
    g_Undefined := PySem.W.mg_of X G a_Undefined,
    x_Undefined := ⟨⟨"LookupError", _, _, _, _, _, _, _, _, _, _, _, _, _, _, _, _, _, _, PySem.F.store_LookupError, PySem.F.excBase_LookupError, xl_Undefined, by decide +kernel⟩, sa_Undefined, ex_Undefined, ty_Undefined, kc_Undefined⟩,
    xf_Undefined := ⟨ga_Undefined, gg_Undefined, ex_Undefined, hd_Undefined⟩,
    xe_Undefined := ⟨ga_Undefined, gg_Undefined, ex_Undefined, hd_Undefined, ca_Undefined, cn_Undefined, ct_Undefined, cm_Undefined⟩,
    te_Undefined := PySem.W.exm_ref ex_Undefined hd_Undefined ty_Undefined ss_Undefined,
    na_value_Undefined := na_value_Undefined,
    f_Undefined__init := f_Undefined__init,
    A_Undefined__init := ⟨_, fun_mk (st := s_Undefined__init) l_Undefined__init c_Undefined__init k_Undefined__init, (fun_mk (st := s_Undefined__init) l_Undefined__init c_Undefined__init k_Undefined__init).binds (ps := ["self", "value"]) fun _ _ _ _ _ _ us hl => match us, hl with | [_, _], _ => rfl⟩,
    m_Undefined__init := m_Undefined__init,
    ti_Undefined__init := ti_Undefined__init,
    KW_Undefined__init := ⟨_, fun_mk (st := s_Undefined__init) l_Undefined__init c_Undefined__init k_Undefined__init, fun s v u => .of_eq rfl⟩,
    C_InvalidMap := C_InvalidMap,
    g_InvalidMap := PySem.W.mg_of X G a_InvalidMap,
    x_InvalidMap := ⟨⟨"ValueError", _, _, _, _, _, _, _, _, _, _, _, _, _, _, _, _, _, _, PySem.F.store_ValueError, PySem.F.excBase_ValueError, xl_InvalidMap, by decide +kernel⟩, sa_InvalidMap, ex_InvalidMap, ty_InvalidMap, kc_InvalidMap⟩,
    xf_InvalidMap := ⟨ga_InvalidMap, gg_InvalidMap, ex_InvalidMap, hd_InvalidMap⟩,
    xe_InvalidMap := ⟨ga_InvalidMap, gg_InvalidMap, ex_InvalidMap, hd_InvalidMap, ca_InvalidMap, cn_InvalidMap, ct_InvalidMap, cm_InvalidMap⟩,
    te_InvalidMap := PySem.W.exm_ref ex_InvalidMap hd_InvalidMap ty_InvalidMap ss_InvalidMap,
    na_part_InvalidMap := na_part_InvalidMap,
    f_InvalidMap__init := f_InvalidMap__init,
    A_InvalidMap__init := ⟨_, fun_mk (st := s_InvalidMap__init) l_InvalidMap__init c_InvalidMap__init k_InvalidMap__init, (fun_mk (st := s_InvalidMap__init) l_InvalidMap__init c_InvalidMap__init k_InvalidMap__init).binds (ps := ["self", "part"]) fun _ _ _ _ _ _ us hl => match us, hl with | [_, _], _ => rfl⟩,
    m_InvalidMap__init := m_InvalidMap__init,
    ti_InvalidMap__init := ti_InvalidMap__init,
    KW_InvalidMap__init := ⟨_, fun_mk (st := s_InvalidMap__init) l_InvalidMap__init c_InvalidMap__init k_InvalidMap__init, fun s v u => .of_eq rfl⟩,
    C_InvalidShape := C_InvalidShape,
    g_InvalidShape := PySem.W.mg_of X G a_InvalidShape,
    x_InvalidShape := ⟨⟨"ValueError", _, _, _, _, _, _, _, _, _, _, _, _, _, _, _, _, _, _, PySem.F.store_ValueError, PySem.F.excBase_ValueError, xl_InvalidShape, by decide +kernel⟩, sa_InvalidShape, ex_InvalidShape, ty_InvalidShape, kc_InvalidShape⟩,
    xf_InvalidShape := ⟨ga_InvalidShape, gg_InvalidShape, ex_InvalidShape, hd_InvalidShape⟩,
    xe_InvalidShape := ⟨ga_InvalidShape, gg_InvalidShape, ex_InvalidShape, hd_InvalidShape, ca_InvalidShape, cn_InvalidShape, ct_InvalidShape, cm_InvalidShape⟩,
    te_InvalidShape := PySem.W.exm_ref ex_InvalidShape hd_InvalidShape ty_InvalidShape ss_InvalidShape,
    na_part_InvalidShape := na_part_InvalidShape,
    f_InvalidShape__init := f_InvalidShape__init,
    A_InvalidShape__init := ⟨_, fun_mk (st := s_InvalidShape__init) l_InvalidShape__init c_InvalidShape__init k_InvalidShape__init, (fun_mk (st := s_InvalidShape__init) l_InvalidShape__init c_InvalidShape__init k_InvalidShape__init).binds (ps := ["self", "part"]) fun _ _ _ _ _ _ us hl => match us, hl with | [_, _], _ => rfl⟩,
    m_InvalidShape__init := m_InvalidShape__init,
    ti_InvalidShape__init := ti_InvalidShape__init,
    KW_InvalidShape__init := ⟨_, fun_mk (st := s_InvalidShape__init) l_InvalidShape__init c_InvalidShape__init k_InvalidShape__init, fun s v u => .of_eq rfl⟩,
    C_InvalidPartial := C_InvalidPartial,
    g_InvalidPartial := PySem.W.mg_of X G a_InvalidPartial,
    x_InvalidPartial := ⟨⟨"ValueError", _, _, _, _, _, _, _, _, _, _, _, _, _, _, _, _, _, _, PySem.F.store_ValueError, PySem.F.excBase_ValueError, xl_InvalidPartial, by decide +kernel⟩, sa_InvalidPartial, ex_InvalidPartial, ty_InvalidPartial, kc_InvalidPartial⟩,
    xf_InvalidPartial := ⟨ga_InvalidPartial, gg_InvalidPartial, ex_InvalidPartial, hd_InvalidPartial⟩,
    xe_InvalidPartial := ⟨ga_InvalidPartial, gg_InvalidPartial, ex_InvalidPartial, hd_InvalidPartial, ca_InvalidPartial, cn_InvalidPartial, ct_InvalidPartial, cm_InvalidPartial⟩,
    te_InvalidPartial := PySem.W.exm_ref ex_InvalidPartial hd_InvalidPartial ty_InvalidPartial ss_InvalidPartial,
    na_part_InvalidPartial := na_part_InvalidPartial,
    f_InvalidPartial__init := f_InvalidPartial__init,
    A_InvalidPartial__init := ⟨_, fun_mk (st := s_InvalidPartial__init) l_InvalidPartial__init c_InvalidPartial__init k_InvalidPartial__init, (fun_mk (st := s_InvalidPartial__init) l_InvalidPartial__init c_InvalidPartial__init k_InvalidPartial__init).binds (ps := ["self", "part"]) fun _ _ _ _ _ _ us hl => match us, hl with | [_, _], _ => rfl⟩,
    m_InvalidPartial__init := m_InvalidPartial__init,
    ti_InvalidPartial__init := ti_InvalidPartial__init,
    KW_InvalidPartial__init := ⟨_, fun_mk (st := s_InvalidPartial__init) l_InvalidPartial__init c_InvalidPartial__init k_InvalidPartial__init, fun s v u => .of_eq rfl⟩,
    C_ParseError := C_ParseError,
    g_ParseError := PySem.W.mg_of X G a_ParseError,
    x_ParseError := ⟨⟨"ValueError", _, _, _, _, _, _, _, _, _, _, _, _, _, _, _, _, _, _, PySem.F.store_ValueError, PySem.F.excBase_ValueError, xl_ParseError, by decide +kernel⟩, sa_ParseError, ex_ParseError, ty_ParseError, kc_ParseError⟩,
    xf_ParseError := ⟨ga_ParseError, gg_ParseError, ex_ParseError, hd_ParseError⟩,
    xe_ParseError := ⟨ga_ParseError, gg_ParseError, ex_ParseError, hd_ParseError, ca_ParseError, cn_ParseError, ct_ParseError, cm_ParseError⟩,
    te_ParseError := PySem.W.exm_ref ex_ParseError hd_ParseError ty_ParseError ss_ParseError,
    na_part_ParseError := na_part_ParseError,
    f_ParseError__init := f_ParseError__init,
    A_ParseError__init := ⟨_, fun_mk (st := s_ParseError__init) l_ParseError__init c_ParseError__init k_ParseError__init, (fun_mk (st := s_ParseError__init) l_ParseError__init c_ParseError__init k_ParseError__init).binds (ps := ["self", "part"]) fun _ _ _ _ _ _ us hl => match us, hl with | [_, _], _ => rfl⟩,
    m_ParseError__init := m_ParseError__init,
    ti_ParseError__init := ti_ParseError__init,
    KW_ParseError__init := ⟨_, fun_mk (st := s_ParseError__init) l_ParseError__init c_ParseError__init k_ParseError__init, fun s v u => .of_eq rfl⟩,
    C_InvalidSteps := C_InvalidSteps,
    g_InvalidSteps := PySem.W.mg_of X G a_InvalidSteps,
    x_InvalidSteps := ⟨⟨"ValueError", _, _, _, _, _, _, _, _, _, _, _, _, _, _, _, _, _, _, PySem.F.store_ValueError, PySem.F.excBase_ValueError, xl_InvalidSteps, by decide +kernel⟩, sa_InvalidSteps, ex_InvalidSteps, ty_InvalidSteps, kc_InvalidSteps⟩,
    xf_InvalidSteps := ⟨ga_InvalidSteps, gg_InvalidSteps, ex_InvalidSteps, hd_InvalidSteps⟩,
    xe_InvalidSteps := ⟨ga_InvalidSteps, gg_InvalidSteps, ex_InvalidSteps, hd_InvalidSteps, ca_InvalidSteps, cn_InvalidSteps, ct_InvalidSteps, cm_InvalidSteps⟩,
    te_InvalidSteps := PySem.W.exm_ref ex_InvalidSteps hd_InvalidSteps ty_InvalidSteps ss_InvalidSteps,
    na_position_InvalidSteps := na_position_InvalidSteps,
    f_InvalidSteps__init := f_InvalidSteps__init,
    A_InvalidSteps__init := ⟨_, fun_mk (st := s_InvalidSteps__init) l_InvalidSteps__init c_InvalidSteps__init k_InvalidSteps__init, (fun_mk (st := s_InvalidSteps__init) l_InvalidSteps__init c_InvalidSteps__init k_InvalidSteps__init).binds (ps := ["self", "position"]) fun _ _ _ _ _ _ us hl => match us, hl with | [_, _], _ => rfl⟩,
    m_InvalidSteps__init := m_InvalidSteps__init,
    ti_InvalidSteps__init := ti_InvalidSteps__init,
    KW_InvalidSteps__init := ⟨_, fun_mk (st := s_InvalidSteps__init) l_InvalidSteps__init c_InvalidSteps__init k_InvalidSteps__init, fun s v u => .of_eq rfl⟩,
    C_InvalidWord := C_InvalidWord,
    g_InvalidWord := PySem.W.mg_of X G a_InvalidWord,
    x_InvalidWord := ⟨⟨"ValueError", _, _, _, _, _, _, _, _, _, _, _, _, _, _, _, _, _, _, PySem.F.store_ValueError, PySem.F.excBase_ValueError, xl_InvalidWord, by decide +kernel⟩, sa_InvalidWord, ex_InvalidWord, ty_InvalidWord, kc_InvalidWord⟩,
    xf_InvalidWord := ⟨ga_InvalidWord, gg_InvalidWord, ex_InvalidWord, hd_InvalidWord⟩,
    xe_InvalidWord := ⟨ga_InvalidWord, gg_InvalidWord, ex_InvalidWord, hd_InvalidWord, ca_InvalidWord, cn_InvalidWord, ct_InvalidWord, cm_InvalidWord⟩,
    te_InvalidWord := PySem.W.exm_ref ex_InvalidWord hd_InvalidWord ty_InvalidWord ss_InvalidWord,
    na_position_InvalidWord := na_position_InvalidWord,
    f_InvalidWord__init := f_InvalidWord__init,
    A_InvalidWord__init := ⟨_, fun_mk (st := s_InvalidWord__init) l_InvalidWord__init c_InvalidWord__init k_InvalidWord__init, (fun_mk (st := s_InvalidWord__init) l_InvalidWord__init c_InvalidWord__init k_InvalidWord__init).binds (ps := ["self", "position"]) fun _ _ _ _ _ _ us hl => match us, hl with | [_, _], _ => rfl⟩,
    m_InvalidWord__init := m_InvalidWord__init,
    ti_InvalidWord__init := ti_InvalidWord__init,
    KW_InvalidWord__init := ⟨_, fun_mk (st := s_InvalidWord__init) l_InvalidWord__init c_InvalidWord__init k_InvalidWord__init, fun s v u => .of_eq rfl⟩,
    C_LimitExceeded := C_LimitExceeded,
    g_LimitExceeded := PySem.W.mg_of X G a_LimitExceeded,
    x_LimitExceeded := ⟨⟨"OverflowError", _, _, _, _, _, _, _, _, _, _, _, _, _, _, _, _, _, _, PySem.F.store_OverflowError, PySem.F.excBase_OverflowError, xl_LimitExceeded, by decide +kernel⟩, sa_LimitExceeded, ex_LimitExceeded, ty_LimitExceeded, kc_LimitExceeded⟩,
    xf_LimitExceeded := ⟨ga_LimitExceeded, gg_LimitExceeded, ex_LimitExceeded, hd_LimitExceeded⟩,
    xe_LimitExceeded := ⟨ga_LimitExceeded, gg_LimitExceeded, ex_LimitExceeded, hd_LimitExceeded, ca_LimitExceeded, cn_LimitExceeded, ct_LimitExceeded, cm_LimitExceeded⟩,
    te_LimitExceeded := PySem.W.exm_ref ex_LimitExceeded hd_LimitExceeded ty_LimitExceeded ss_LimitExceeded,
    na_limit_LimitExceeded := na_limit_LimitExceeded,
    f_LimitExceeded__init := f_LimitExceeded__init,
    A_LimitExceeded__init := ⟨_, fun_mk (st := s_LimitExceeded__init) l_LimitExceeded__init c_LimitExceeded__init k_LimitExceeded__init, (fun_mk (st := s_LimitExceeded__init) l_LimitExceeded__init c_LimitExceeded__init k_LimitExceeded__init).binds (ps := ["self", "limit"]) fun _ _ _ _ _ _ us hl => match us, hl with | [_, _], _ => rfl⟩,
    m_LimitExceeded__init := m_LimitExceeded__init,
    ti_LimitExceeded__init := ti_LimitExceeded__init,
    KW_LimitExceeded__init := ⟨_, fun_mk (st := s_LimitExceeded__init) l_LimitExceeded__init c_LimitExceeded__init k_LimitExceeded__init, fun s v u => .of_eq rfl⟩,
    C_NotLast := C_NotLast,
    g_NotLast := PySem.W.mg_of X G a_NotLast,
    x_NotLast := ⟨⟨"RuntimeError", _, _, _, _, _, _, _, _, _, _, _, _, _, _, _, _, _, _, PySem.F.store_RuntimeError, PySem.F.excBase_RuntimeError, xl_NotLast, by decide +kernel⟩, sa_NotLast, ex_NotLast, ty_NotLast, kc_NotLast⟩,
    xf_NotLast := ⟨ga_NotLast, gg_NotLast, ex_NotLast, hd_NotLast⟩,
    xe_NotLast := ⟨ga_NotLast, gg_NotLast, ex_NotLast, hd_NotLast, ca_NotLast, cn_NotLast, ct_NotLast, cm_NotLast⟩,
    te_NotLast := PySem.W.exm_ref ex_NotLast hd_NotLast ty_NotLast ss_NotLast,
    na_user_NotLast := na_user_NotLast,
    f_NotLast__init := f_NotLast__init,
    A_NotLast__init := ⟨_, fun_mk (st := s_NotLast__init) l_NotLast__init c_NotLast__init k_NotLast__init, (fun_mk (st := s_NotLast__init) l_NotLast__init c_NotLast__init k_NotLast__init).binds (ps := ["self", "user"]) fun _ _ _ _ _ _ us hl => match us, hl with | [_, _], _ => rfl⟩,
    m_NotLast__init := m_NotLast__init,
    ti_NotLast__init := ti_NotLast__init,
    KW_NotLast__init := ⟨_, fun_mk (st := s_NotLast__init) l_NotLast__init c_NotLast__init k_NotLast__init, fun s v u => .of_eq rfl⟩,
    C_NothingToUndo := C_NothingToUndo,
    g_NothingToUndo := PySem.W.mg_of X G a_NothingToUndo,
    x_NothingToUndo := ⟨⟨"LookupError", _, _, _, _, _, _, _, _, _, _, _, _, _, _, _, _, _, _, PySem.F.store_LookupError, PySem.F.excBase_LookupError, xl_NothingToUndo, by decide +kernel⟩, sa_NothingToUndo, ex_NothingToUndo, ty_NothingToUndo, kc_NothingToUndo⟩,
    xf_NothingToUndo := ⟨ga_NothingToUndo, gg_NothingToUndo, ex_NothingToUndo, hd_NothingToUndo⟩,
    xe_NothingToUndo := ⟨ga_NothingToUndo, gg_NothingToUndo, ex_NothingToUndo, hd_NothingToUndo, ca_NothingToUndo, cn_NothingToUndo, ct_NothingToUndo, cm_NothingToUndo⟩,
    te_NothingToUndo := PySem.W.exm_ref ex_NothingToUndo hd_NothingToUndo ty_NothingToUndo ss_NothingToUndo,
    na_user_NothingToUndo := na_user_NothingToUndo,
    f_NothingToUndo__init := f_NothingToUndo__init,
    A_NothingToUndo__init := ⟨_, fun_mk (st := s_NothingToUndo__init) l_NothingToUndo__init c_NothingToUndo__init k_NothingToUndo__init, (fun_mk (st := s_NothingToUndo__init) l_NothingToUndo__init c_NothingToUndo__init k_NothingToUndo__init).binds (ps := ["self", "user"]) fun _ _ _ _ _ _ us hl => match us, hl with | [_, _], _ => rfl⟩,
    m_NothingToUndo__init := m_NothingToUndo__init,
    ti_NothingToUndo__init := ti_NothingToUndo__init,
    KW_NothingToUndo__init := ⟨_, fun_mk (st := s_NothingToUndo__init) l_NothingToUndo__init c_NothingToUndo__init k_NothingToUndo__init, fun s v u => .of_eq rfl⟩,
    C_TooFew := C_TooFew,
    g_TooFew := PySem.W.mg_of X G a_TooFew,
    x_TooFew := ⟨⟨"RuntimeError", _, _, _, _, _, _, _, _, _, _, _, _, _, _, _, _, _, _, PySem.F.store_RuntimeError, PySem.F.excBase_RuntimeError, xl_TooFew, by decide +kernel⟩, sa_TooFew, ex_TooFew, ty_TooFew, kc_TooFew⟩,
    xf_TooFew := ⟨ga_TooFew, gg_TooFew, ex_TooFew, hd_TooFew⟩,
    xe_TooFew := ⟨ga_TooFew, gg_TooFew, ex_TooFew, hd_TooFew, ca_TooFew, cn_TooFew, ct_TooFew, cm_TooFew⟩,
    te_TooFew := PySem.W.exm_ref ex_TooFew hd_TooFew ty_TooFew ss_TooFew,
    na_number_TooFew := na_number_TooFew,
    f_TooFew__init := f_TooFew__init,
    A_TooFew__init := ⟨_, fun_mk (st := s_TooFew__init) l_TooFew__init c_TooFew__init k_TooFew__init, (fun_mk (st := s_TooFew__init) l_TooFew__init c_TooFew__init k_TooFew__init).binds (ps := ["self", "number"]) fun _ _ _ _ _ _ us hl => match us, hl with | [_, _], _ => rfl⟩,
    m_TooFew__init := m_TooFew__init,
    ti_TooFew__init := ti_TooFew__init,
    KW_TooFew__init := ⟨_, fun_mk (st := s_TooFew__init) l_TooFew__init c_TooFew__init k_TooFew__init, fun s v u => .of_eq rfl⟩,
    C_UnknownName := C_UnknownName,
    g_UnknownName := PySem.W.mg_of X G a_UnknownName,
    x_UnknownName := U.oexH_key xl_UnknownName sa_UnknownName ex_UnknownName ty_UnknownName kc_UnknownName,
    xf_UnknownName := ⟨ga_UnknownName, gg_UnknownName, ex_UnknownName, hd_UnknownName⟩,
    xe_UnknownName := ⟨ga_UnknownName, gg_UnknownName, ex_UnknownName, hd_UnknownName, ca_UnknownName, cn_UnknownName, ct_UnknownName, cm_UnknownName⟩,
    te_UnknownName := PySem.W.exm_ref ex_UnknownName hd_UnknownName ty_UnknownName ss_UnknownName,
    na_name_UnknownName := na_name_UnknownName,
    f_UnknownName__init := f_UnknownName__init,
    A_UnknownName__init := ⟨_, fun_mk (st := s_UnknownName__init) l_UnknownName__init c_UnknownName__init k_UnknownName__init, (fun_mk (st := s_UnknownName__init) l_UnknownName__init c_UnknownName__init k_UnknownName__init).binds (ps := ["self", "name"]) fun _ _ _ _ _ _ us hl => match us, hl with | [_, _], _ => rfl⟩,
    m_UnknownName__init := m_UnknownName__init,
    ti_UnknownName__init := ti_UnknownName__init,
    KW_UnknownName__init := ⟨_, fun_mk (st := s_UnknownName__init) l_UnknownName__init c_UnknownName__init k_UnknownName__init, fun s v u => .of_eq rfl⟩,
    C_SizeMismatch := C_SizeMismatch,
    g_SizeMismatch := PySem.W.mg_of X G a_SizeMismatch,
    x_SizeMismatch := ⟨⟨"ValueError", _, _, _, _, _, _, _, _, _, _, _, _, _, _, _, _, _, _, PySem.F.store_ValueError, PySem.F.excBase_ValueError, xl_SizeMismatch, by decide +kernel⟩, sa_SizeMismatch, ex_SizeMismatch, ty_SizeMismatch, kc_SizeMismatch⟩,
    xf_SizeMismatch := ⟨ga_SizeMismatch, gg_SizeMismatch, ex_SizeMismatch, hd_SizeMismatch⟩,
    xe_SizeMismatch := ⟨ga_SizeMismatch, gg_SizeMismatch, ex_SizeMismatch, hd_SizeMismatch, ca_SizeMismatch, cn_SizeMismatch, ct_SizeMismatch, cm_SizeMismatch⟩,
    te_SizeMismatch := PySem.W.exm_ref ex_SizeMismatch hd_SizeMismatch ty_SizeMismatch ss_SizeMismatch,
    na_first_SizeMismatch := na_first_SizeMismatch,
    na_second_SizeMismatch := na_second_SizeMismatch,
    f_SizeMismatch__init := f_SizeMismatch__init,
    A_SizeMismatch__init := ⟨_, fun_mk (st := s_SizeMismatch__init) l_SizeMismatch__init c_SizeMismatch__init k_SizeMismatch__init, (fun_mk (st := s_SizeMismatch__init) l_SizeMismatch__init c_SizeMismatch__init k_SizeMismatch__init).binds (ps := ["self", "first", "second"]) fun _ _ _ _ _ _ us hl => match us, hl with | [_, _, _], _ => rfl⟩,
    m_SizeMismatch__init := m_SizeMismatch__init,
    ti_SizeMismatch__init := ti_SizeMismatch__init,
    KW_SizeMismatch__init := ⟨_, fun_mk (st := s_SizeMismatch__init) l_SizeMismatch__init c_SizeMismatch__init k_SizeMismatch__init, fun s v u w => .of_eq rfl⟩,
    C_Clash := C_Clash,
    g_Clash := PySem.W.mg_of X G a_Clash,
    x_Clash := ⟨⟨"RuntimeError", _, _, _, _, _, _, _, _, _, _, _, _, _, _, _, _, _, _, PySem.F.store_RuntimeError, PySem.F.excBase_RuntimeError, xl_Clash, by decide +kernel⟩, sa_Clash, ex_Clash, ty_Clash, kc_Clash⟩,
    xf_Clash := ⟨ga_Clash, gg_Clash, ex_Clash, hd_Clash⟩,
    xe_Clash := ⟨ga_Clash, gg_Clash, ex_Clash, hd_Clash, ca_Clash, cn_Clash, ct_Clash, cm_Clash⟩,
    te_Clash := PySem.W.exm_ref ex_Clash hd_Clash ty_Clash ss_Clash,
    na_first_Clash := na_first_Clash,
    na_second_Clash := na_second_Clash,
    f_Clash__init := f_Clash__init,
    A_Clash__init := ⟨_, fun_mk (st := s_Clash__init) l_Clash__init c_Clash__init k_Clash__init, (fun_mk (st := s_Clash__init) l_Clash__init c_Clash__init k_Clash__init).binds (ps := ["self", "first", "second"]) fun _ _ _ _ _ _ us hl => match us, hl with | [_, _, _], _ => rfl⟩,
    m_Clash__init := m_Clash__init,
    ti_Clash__init := ti_Clash__init,
    KW_Clash__init := ⟨_, fun_mk (st := s_Clash__init) l_Clash__init c_Clash__init k_Clash__init, fun s v u w => .of_eq rfl⟩,
    kit_tabA := kit_tabA,
    kit_tabB := kit_tabB,
    n_isinstance := PySem.W.mg_none_of X G z_isinstance,
    n_int := PySem.W.mg_none_of X G z_int,
    n_len := PySem.W.mg_none_of X G z_len,
    n_range := PySem.W.mg_none_of X G z_range,
    n_max := PySem.W.mg_none_of X G z_max,
    n_min := PySem.W.mg_none_of X G z_min,
    n_repr := PySem.W.mg_none_of X G z_repr,
    n_enumerate := PySem.W.mg_none_of X G z_enumerate,
    n_ValueError := PySem.W.mg_none_of X G z_ValueError,
    n_RuntimeError := PySem.W.mg_none_of X G z_RuntimeError,
    n_OverflowError := PySem.W.mg_none_of X G z_OverflowError,
    n_LookupError := PySem.W.mg_none_of X G z_LookupError,
    n_KeyError := PySem.W.mg_none_of X G z_KeyError,
    n_ArithmeticError := PySem.W.mg_none_of X G z_ArithmeticError }⟩
end My
namespace My
open PySem L2 U StX
/-! ### values of any known form -/
section
variable {P : Program} {w : World} {K : PySem.W.Frag} {mg : Str → Option Value} {base : Heap}
/-! ### the law's draws -/
def spDraw : Sp := fun vs H Q _ => ∃ (p : Addr) (a b n : Int), vs = [.ref p, .int n] ∧ H p = some (.lst [.int a, .int b]) ∧ 0 ≤ a ∧ 0 ≤ b ∧ b < 2147483647 ∧ 0 < n ∧ n < 1073741824 ∧
  ∀ a' b' r : Int, 0 ≤ a' → 0 ≤ b' → b' < 2147483647 → 0 ≤ r → r < n → Q (.int r) (upd H p (.lst [.int a', .int b']))
theorem ok_draw (T : Txt K mg) : FnR P w K mg base CX0 1 T.f_l_draw spDraw := by
  refine T.A_l_draw.ok sc_l_draw (fun vs H Q E h => ?_) (fun cdv A outer s H vs Q E hr h => ?_)
  · obtain ⟨p, a, b, n, rfl, _⟩ := h
    rfl
  · obtain ⟨p, a, b, n, rfl, hp, ha, hb, hb2, hn, hn2, k⟩ := h
    refine ⟨_, pss_cons (ps_if (pt_cmpR op_gt (pe_ix ix_list (pv 0) pe_int (fun _ _ => rfl)) pe_int (nomark _))
        (pss_cons (ps_set (i := 2) sc_l_draw.nd rfl (Or.inl rfl) (pe_op op_mod (pe_ix ix_list (pv 0) pe_int (fun _ _ => rfl)) (pv 1)))
        (pss_cons (ps_asg (pe_op op_fdiv (pe_ix ix_list (pv 0) pe_int (fun _ _ => rfl)) (pv 1)) (pg_sub (pv 0) pe_int set_list))
        (pss_one (ps_ret (pv 2))))) pss_nil)
      (pss_cons (ps_asg (pe_op op_mod (pe_op op_add (pe_op op_mul (pe_ix ix_list (pv 0) pe_int (fun _ _ => rfl)) pe_int) pe_int) pe_int) (pg_sub (pv 0) pe_int set_list))
      (pss_one (ps_ret (pe_op op_mod (pe_op op_fdiv (pe_op op_mod (pe_op op_mul (pe_ix ix_list (pv 0) pe_int (fun _ _ => rfl)) (pe_ix ix_list (pv 0) pe_int (fun _ _ => rfl))) pe_int) pe_int) (pv 1))))), ?_⟩
    refine ⟨_, rfl, p, _, 0, _, rfl, rfl, SqL.of hp, rfl, _, _, rfl, rfl, _, rfl, ?_⟩
    refine ifD (fun h => ?_) (fun h => ?_)
    · refine ⟨_, rfl, p, _, 0, _, rfl, rfl, SqL.of hp, rfl, _, rfl, _, _, rfl, rfl, hn, ?_⟩
      refine ⟨_, rfl, p, _, 0, _, rfl, rfl, SqL.of hp, rfl, _, rfl, _, _, rfl, rfl, ⟨hn, hn2⟩, _, rfl, p, _, 0, _, rfl, rfl, hp, rfl, ?_⟩
      refine ⟨_, rfl, ?_⟩
      exact k (a / n) b (a % n) (Int.ediv_nonneg ha (by omega)) hb hb2 (Int.emod_nonneg _ (by omega)) (Int.emod_lt_of_pos _ hn)
    · have m1 : 0 ≤ (b * 48271 + 11) % 2147483647 := Int.emod_nonneg _ (by decide)
      have m2 : (b * 48271 + 11) % 2147483647 < 2147483647 := Int.emod_lt_of_pos _ (by decide)
      refine ⟨_, rfl, p, _, 1, _, rfl, rfl, SqL.of hp, rfl, _, _, rfl, rfl, .inr ⟨by decide, by decide⟩, _, _, rfl, rfl, _, _, rfl, rfl, (by show (0 : Int) < 2147483647; decide), _, rfl, p, _, 1, _, rfl, rfl, hp, rfl, ?_⟩
      refine ⟨_, rfl, p, _, 1, _, rfl, rfl, SqL.of upd_same, rfl, _, rfl, p, _, 1, _, rfl, rfl, SqL.of upd_same, rfl, _, _, rfl, rfl, .inl ⟨by omega, by omega⟩, _, _, rfl, rfl, (by show (0 : Int) < 2147483629; decide), _, _, rfl, rfl, ⟨by decide, by decide⟩, _, rfl, _, _, rfl, rfl, hn, ?_⟩
      exact k a ((b * 48271 + 11) % 2147483647) _ ha m1 m2 (Int.emod_nonneg _ (by omega)) (Int.emod_lt_of_pos _ hn)
end
end My
namespace My
open PySem L2 U StX PM
section
variable {P : Program} {w : World} {K : PySem.W.Frag} {mg : Str → Option Value} {base : Heap}
theorem head_int (xs : List V) (h : ∀ v ∈ xs, ∃ i, v = V.int i) : ∃ c, atI (xs ++ [V.int 0]) 0 = some (V.int c) := by
  cases xs with
  | nil => exact ⟨0, rfl⟩
  | cons a r =>
    obtain ⟨i, rfl⟩ := h a List.mem_cons_self
    refine ⟨i, atI_nat (j := 0) ?_⟩
    rfl
theorem cut_int (ns : List Int) (lo hi : Option Int) : ∀ v ∈ cutV (ns.map V.int) lo hi, ∃ i, v = V.int i := by
  intro v hv
  unfold cutV at hv
  have h1 := List.mem_of_mem_drop (List.mem_of_mem_take hv)
  obtain ⟨i, _, rfl⟩ := List.mem_map.mp h1
  exact ⟨i, rfl⟩
def spHand (K : PySem.W.Frag) : Sp := fun vs H Q _ => ∃ (a : Addr) (ns : List Int) (k : Int), vs = [.ref a, .int k] ∧ SqL K H a (ns.map V.int) ∧ ns.length ≤ 63 ∧
  ∀ p H' x y, H p = none → H' p = some (.lst [.int x, .int y]) → Same H H' → 0 ≤ x → 0 ≤ y → y < 2147483647 → Q (.ref p) H'
theorem ok_hand (T : Txt K mg) : FnR P w K mg base CX0 1 T.f_l_hand (spHand K) := by
  refine T.A_l_hand.ok sc_l_hand (fun vs H Q E h => ?_) (fun cdv A outer s H vs Q E hr h => ?_)
  · obtain ⟨a, ns, k, rfl, _⟩ := h
    rfl
  · obtain ⟨a, ns, k, rfl, hS, hl, q⟩ := h
    refine ⟨_, pss_cons (ps_set (i := 2) sc_l_hand.nd rfl (Or.inl rfl) (pe_ix ix_list (pe_op op_cat (pe_slice sl_list (pv 0) (po_some (pv 1)) (po_some (pe_op op_add (pv 1) pe_int))) (pe_lst (pa_cons pe_int pa_nil))) pe_int (fun _ _ => rfl)))
      (pss_cons (ps_set (i := 3) sc_l_hand.nd rfl (Or.inl rfl) (pe_op op_mod (pe_op op_mul (pe_op op_add (pe_op op_add (pe_op op_mod (pv 2) pe_int) (pe_op op_mul pe_int (pv 1))) pe_int) pe_int) pe_int))
      (pss_one (ps_ret (pe_lst (pa_cons (pe_op op_mul (pe_callTy call_int1 (by rfl) T.n_int (by decide +kernel) (pa_cons (pe_cmpR op_ge (pv 2) (pe_op op_pow pe_int pe_int) (nomark _)) pa_nil)) (pv 2)) (pa_cons (pv 3) pa_nil)))))), ?_⟩
    refine ⟨_, rfl, _, rfl, _, rfl, _, rfl, _, _, rfl, rfl, _, rfl, a, _, rfl, hS, fun p1 n1 => ?_⟩
    refine ⟨(by show 1 ≤ sizeLine; decide), fun p2 n2 => ?_⟩
    have n12 : p1 ≠ p2 := ne_of_none upd_same n2
    have hcl := cutV_length (ns.map V.int) (some k) (some (k + 1))
    rw [List.length_map] at hcl
    refine ⟨p1, p2, cutV (ns.map V.int) (some k) (some (k + 1)), [.int 0], rfl, rfl, (by rw [upd_ne n12, upd_same]), upd_same, ?_, fun p3 n3 => ?_⟩
    · show _ + 1 ≤ sizeLine
      exact Nat.le_trans (by omega : _ ≤ 64) (by decide)
    obtain ⟨c, hc⟩ := head_int _ (cut_int ns (some k) (some (k + 1)))
    refine ⟨p3, _, 0, .int c, rfl, rfl, SqL.of upd_same, hc, ?_⟩
    refine ⟨_, rfl, _, _, rfl, rfl, (by show (0 : Int) < 2147483647; decide), _, rfl, _, _, rfl, rfl, .inl ⟨by decide, by decide⟩, _, _, rfl, rfl, _, _, rfl, rfl, _, _, rfl, rfl, .inr ⟨by decide, by decide⟩, _, _, rfl, rfl, (by show (0 : Int) < 2147483629; decide), ?_⟩
    refine ⟨_, rfl, _, _, rfl, rfl, ⟨by decide, by decide, by decide⟩, _, _, rfl, rfl, .inr ⟨_, rfl, _, rfl, _, _, rfl, rfl, .inl ?_, _, rfl, (by show 2 ≤ sizeLine; decide), fun p4 n4 => ?_⟩⟩
    · cases decide ((10 : Int) ^ (18 : Int).toNat ≤ c) <;> exact ⟨by decide, by decide⟩
    · have s3 := ((Same.new (o := .lst (cutV (ns.map V.int) (some k) (some (k + 1)))) n1).trans (Same.new (o := .lst [.int 0]) n2)).trans (Same.new (o := .lst (cutV (ns.map V.int) (some k) (some (k + 1)) ++ [.int 0])) n3)
      refine q p4 _ _ _ (s3.free n4) upd_same (s3.trans (Same.new n4)) ?_ (Int.emod_nonneg _ (by decide)) ?_
      · cases hd : decide ((10 : Int) ^ (18 : Int).toNat ≤ c) with
        | true =>
          have := of_decide_eq_true hd
          have h10 : (0 : Int) ≤ 10 ^ (18 : Int).toNat := by decide
          show 0 ≤ 1 * c
          omega
        | false => show 0 ≤ 0 * c; omega
      · have := Int.emod_lt_of_pos ((c % 2147483647 + 7919 * k + 1) * 48271) (show (0 : Int) < 2147483629 by decide)
        omega
end
end My
set_option maxHeartbeats 1000000
namespace My
open PySem L2 U StX PM
section
variable {P : Program} {w : World} {K : PySem.W.Frag} {mg : Str → Option Value} {base : Heap}
theorem okx_InvalidSize (T : Txt K mg) : FnR P w K mg base CX0 1 T.f_InvalidSize__init (spX1 T.C_InvalidSize "value") := T.A_InvalidSize__init.ok sc_InvalidSize__init (fun vs H Q E h => by obtain ⟨a, v, rfl, _⟩ := h; rfl) (fun cdv A outer s H vs Q E hr h => by
    obtain ⟨a, v, rfl, ha, q⟩ := h
    refine ⟨_, pss_one (ps_ostH (pv 0) (pv 1)), ?_⟩
    exact ⟨_, rfl, _, rfl, a, T.C_InvalidSize, rfl, oexH_of T.x_InvalidSize, T.na_value_InvalidSize, .inl ⟨ha, fun dx h1 h2 => q _ (x1_off h1 h2) (x1_exa h2)⟩⟩)
theorem okk_InvalidSize (T : Txt K mg) {fd : FuncData} (F : Fun K "__init__" "InvalidSize.__init__" s_InvalidSize__init T.f_InvalidSize__init fd) : FnOk P w K mg base CX0 1 T.f_InvalidSize__init fd ["self", "value"] (spX1 T.C_InvalidSize "value") := F.ok sc_InvalidSize__init (fun vs H Q E h => by obtain ⟨a, v, rfl, _⟩ := h; rfl) (fun cdv A outer s H vs Q E hr h => by
    obtain ⟨a, v, rfl, ha, q⟩ := h
    refine ⟨_, pss_one (ps_ostH (pv 0) (pv 1)), ?_⟩
    exact ⟨_, rfl, _, rfl, a, T.C_InvalidSize, rfl, oexH_of T.x_InvalidSize, T.na_value_InvalidSize, .inl ⟨ha, fun dx h1 h2 => q _ (x1_off h1 h2) (x1_exa h2)⟩⟩)
theorem okx_InvalidElement (T : Txt K mg) : FnR P w K mg base CX0 1 T.f_InvalidElement__init (spX1 T.C_InvalidElement "value") := T.A_InvalidElement__init.ok sc_InvalidElement__init (fun vs H Q E h => by obtain ⟨a, v, rfl, _⟩ := h; rfl) (fun cdv A outer s H vs Q E hr h => by
    obtain ⟨a, v, rfl, ha, q⟩ := h
    refine ⟨_, pss_one (ps_ostH (pv 0) (pv 1)), ?_⟩
    exact ⟨_, rfl, _, rfl, a, T.C_InvalidElement, rfl, oexH_of T.x_InvalidElement, T.na_value_InvalidElement, .inl ⟨ha, fun dx h1 h2 => q _ (x1_off h1 h2) (x1_exa h2)⟩⟩)
theorem okk_InvalidElement (T : Txt K mg) {fd : FuncData} (F : Fun K "__init__" "InvalidElement.__init__" s_InvalidElement__init T.f_InvalidElement__init fd) : FnOk P w K mg base CX0 1 T.f_InvalidElement__init fd ["self", "value"] (spX1 T.C_InvalidElement "value") := F.ok sc_InvalidElement__init (fun vs H Q E h => by obtain ⟨a, v, rfl, _⟩ := h; rfl) (fun cdv A outer s H vs Q E hr h => by
    obtain ⟨a, v, rfl, ha, q⟩ := h
    refine ⟨_, pss_one (ps_ostH (pv 0) (pv 1)), ?_⟩
    exact ⟨_, rfl, _, rfl, a, T.C_InvalidElement, rfl, oexH_of T.x_InvalidElement, T.na_value_InvalidElement, .inl ⟨ha, fun dx h1 h2 => q _ (x1_off h1 h2) (x1_exa h2)⟩⟩)
theorem okx_InvalidNumber (T : Txt K mg) : FnR P w K mg base CX0 1 T.f_InvalidNumber__init (spX1 T.C_InvalidNumber "value") := T.A_InvalidNumber__init.ok sc_InvalidNumber__init (fun vs H Q E h => by obtain ⟨a, v, rfl, _⟩ := h; rfl) (fun cdv A outer s H vs Q E hr h => by
    obtain ⟨a, v, rfl, ha, q⟩ := h
    refine ⟨_, pss_one (ps_ostH (pv 0) (pv 1)), ?_⟩
    exact ⟨_, rfl, _, rfl, a, T.C_InvalidNumber, rfl, oexH_of T.x_InvalidNumber, T.na_value_InvalidNumber, .inl ⟨ha, fun dx h1 h2 => q _ (x1_off h1 h2) (x1_exa h2)⟩⟩)
theorem okk_InvalidNumber (T : Txt K mg) {fd : FuncData} (F : Fun K "__init__" "InvalidNumber.__init__" s_InvalidNumber__init T.f_InvalidNumber__init fd) : FnOk P w K mg base CX0 1 T.f_InvalidNumber__init fd ["self", "value"] (spX1 T.C_InvalidNumber "value") := F.ok sc_InvalidNumber__init (fun vs H Q E h => by obtain ⟨a, v, rfl, _⟩ := h; rfl) (fun cdv A outer s H vs Q E hr h => by
    obtain ⟨a, v, rfl, ha, q⟩ := h
    refine ⟨_, pss_one (ps_ostH (pv 0) (pv 1)), ?_⟩
    exact ⟨_, rfl, _, rfl, a, T.C_InvalidNumber, rfl, oexH_of T.x_InvalidNumber, T.na_value_InvalidNumber, .inl ⟨ha, fun dx h1 h2 => q _ (x1_off h1 h2) (x1_exa h2)⟩⟩)
theorem okx_InvalidFamily (T : Txt K mg) : FnR P w K mg base CX0 1 T.f_InvalidFamily__init (spX1 T.C_InvalidFamily "value") := T.A_InvalidFamily__init.ok sc_InvalidFamily__init (fun vs H Q E h => by obtain ⟨a, v, rfl, _⟩ := h; rfl) (fun cdv A outer s H vs Q E hr h => by
    obtain ⟨a, v, rfl, ha, q⟩ := h
    refine ⟨_, pss_one (ps_ostH (pv 0) (pv 1)), ?_⟩
    exact ⟨_, rfl, _, rfl, a, T.C_InvalidFamily, rfl, oexH_of T.x_InvalidFamily, T.na_value_InvalidFamily, .inl ⟨ha, fun dx h1 h2 => q _ (x1_off h1 h2) (x1_exa h2)⟩⟩)
theorem okk_InvalidFamily (T : Txt K mg) {fd : FuncData} (F : Fun K "__init__" "InvalidFamily.__init__" s_InvalidFamily__init T.f_InvalidFamily__init fd) : FnOk P w K mg base CX0 1 T.f_InvalidFamily__init fd ["self", "value"] (spX1 T.C_InvalidFamily "value") := F.ok sc_InvalidFamily__init (fun vs H Q E h => by obtain ⟨a, v, rfl, _⟩ := h; rfl) (fun cdv A outer s H vs Q E hr h => by
    obtain ⟨a, v, rfl, ha, q⟩ := h
    refine ⟨_, pss_one (ps_ostH (pv 0) (pv 1)), ?_⟩
    exact ⟨_, rfl, _, rfl, a, T.C_InvalidFamily, rfl, oexH_of T.x_InvalidFamily, T.na_value_InvalidFamily, .inl ⟨ha, fun dx h1 h2 => q _ (x1_off h1 h2) (x1_exa h2)⟩⟩)
theorem okx_InvalidUser (T : Txt K mg) : FnR P w K mg base CX0 1 T.f_InvalidUser__init (spX1 T.C_InvalidUser "value") := T.A_InvalidUser__init.ok sc_InvalidUser__init (fun vs H Q E h => by obtain ⟨a, v, rfl, _⟩ := h; rfl) (fun cdv A outer s H vs Q E hr h => by
    obtain ⟨a, v, rfl, ha, q⟩ := h
    refine ⟨_, pss_one (ps_ostH (pv 0) (pv 1)), ?_⟩
    exact ⟨_, rfl, _, rfl, a, T.C_InvalidUser, rfl, oexH_of T.x_InvalidUser, T.na_value_InvalidUser, .inl ⟨ha, fun dx h1 h2 => q _ (x1_off h1 h2) (x1_exa h2)⟩⟩)
theorem okk_InvalidUser (T : Txt K mg) {fd : FuncData} (F : Fun K "__init__" "InvalidUser.__init__" s_InvalidUser__init T.f_InvalidUser__init fd) : FnOk P w K mg base CX0 1 T.f_InvalidUser__init fd ["self", "value"] (spX1 T.C_InvalidUser "value") := F.ok sc_InvalidUser__init (fun vs H Q E h => by obtain ⟨a, v, rfl, _⟩ := h; rfl) (fun cdv A outer s H vs Q E hr h => by
    obtain ⟨a, v, rfl, ha, q⟩ := h
    refine ⟨_, pss_one (ps_ostH (pv 0) (pv 1)), ?_⟩
    exact ⟨_, rfl, _, rfl, a, T.C_InvalidUser, rfl, oexH_of T.x_InvalidUser, T.na_value_InvalidUser, .inl ⟨ha, fun dx h1 h2 => q _ (x1_off h1 h2) (x1_exa h2)⟩⟩)
theorem okx_InvalidCommand (T : Txt K mg) : FnR P w K mg base CX0 1 T.f_InvalidCommand__init (spX1 T.C_InvalidCommand "value") := T.A_InvalidCommand__init.ok sc_InvalidCommand__init (fun vs H Q E h => by obtain ⟨a, v, rfl, _⟩ := h; rfl) (fun cdv A outer s H vs Q E hr h => by
    obtain ⟨a, v, rfl, ha, q⟩ := h
    refine ⟨_, pss_one (ps_ostH (pv 0) (pv 1)), ?_⟩
    exact ⟨_, rfl, _, rfl, a, T.C_InvalidCommand, rfl, oexH_of T.x_InvalidCommand, T.na_value_InvalidCommand, .inl ⟨ha, fun dx h1 h2 => q _ (x1_off h1 h2) (x1_exa h2)⟩⟩)
theorem okk_InvalidCommand (T : Txt K mg) {fd : FuncData} (F : Fun K "__init__" "InvalidCommand.__init__" s_InvalidCommand__init T.f_InvalidCommand__init fd) : FnOk P w K mg base CX0 1 T.f_InvalidCommand__init fd ["self", "value"] (spX1 T.C_InvalidCommand "value") := F.ok sc_InvalidCommand__init (fun vs H Q E h => by obtain ⟨a, v, rfl, _⟩ := h; rfl) (fun cdv A outer s H vs Q E hr h => by
    obtain ⟨a, v, rfl, ha, q⟩ := h
    refine ⟨_, pss_one (ps_ostH (pv 0) (pv 1)), ?_⟩
    exact ⟨_, rfl, _, rfl, a, T.C_InvalidCommand, rfl, oexH_of T.x_InvalidCommand, T.na_value_InvalidCommand, .inl ⟨ha, fun dx h1 h2 => q _ (x1_off h1 h2) (x1_exa h2)⟩⟩)
theorem okx_Undefined (T : Txt K mg) : FnR P w K mg base CX0 1 T.f_Undefined__init (spX1 T.C_Undefined "value") := T.A_Undefined__init.ok sc_Undefined__init (fun vs H Q E h => by obtain ⟨a, v, rfl, _⟩ := h; rfl) (fun cdv A outer s H vs Q E hr h => by
    obtain ⟨a, v, rfl, ha, q⟩ := h
    refine ⟨_, pss_one (ps_ostH (pv 0) (pv 1)), ?_⟩
    exact ⟨_, rfl, _, rfl, a, T.C_Undefined, rfl, oexH_of T.x_Undefined, T.na_value_Undefined, .inl ⟨ha, fun dx h1 h2 => q _ (x1_off h1 h2) (x1_exa h2)⟩⟩)
theorem okk_Undefined (T : Txt K mg) {fd : FuncData} (F : Fun K "__init__" "Undefined.__init__" s_Undefined__init T.f_Undefined__init fd) : FnOk P w K mg base CX0 1 T.f_Undefined__init fd ["self", "value"] (spX1 T.C_Undefined "value") := F.ok sc_Undefined__init (fun vs H Q E h => by obtain ⟨a, v, rfl, _⟩ := h; rfl) (fun cdv A outer s H vs Q E hr h => by
    obtain ⟨a, v, rfl, ha, q⟩ := h
    refine ⟨_, pss_one (ps_ostH (pv 0) (pv 1)), ?_⟩
    exact ⟨_, rfl, _, rfl, a, T.C_Undefined, rfl, oexH_of T.x_Undefined, T.na_value_Undefined, .inl ⟨ha, fun dx h1 h2 => q _ (x1_off h1 h2) (x1_exa h2)⟩⟩)
theorem okx_InvalidMap (T : Txt K mg) : FnR P w K mg base CX0 1 T.f_InvalidMap__init (spX1 T.C_InvalidMap "part") := T.A_InvalidMap__init.ok sc_InvalidMap__init (fun vs H Q E h => by obtain ⟨a, v, rfl, _⟩ := h; rfl) (fun cdv A outer s H vs Q E hr h => by
    obtain ⟨a, v, rfl, ha, q⟩ := h
    refine ⟨_, pss_one (ps_ostH (pv 0) (pv 1)), ?_⟩
    exact ⟨_, rfl, _, rfl, a, T.C_InvalidMap, rfl, oexH_of T.x_InvalidMap, T.na_part_InvalidMap, .inl ⟨ha, fun dx h1 h2 => q _ (x1_off h1 h2) (x1_exa h2)⟩⟩)
theorem okk_InvalidMap (T : Txt K mg) {fd : FuncData} (F : Fun K "__init__" "InvalidMap.__init__" s_InvalidMap__init T.f_InvalidMap__init fd) : FnOk P w K mg base CX0 1 T.f_InvalidMap__init fd ["self", "part"] (spX1 T.C_InvalidMap "part") := F.ok sc_InvalidMap__init (fun vs H Q E h => by obtain ⟨a, v, rfl, _⟩ := h; rfl) (fun cdv A outer s H vs Q E hr h => by
    obtain ⟨a, v, rfl, ha, q⟩ := h
    refine ⟨_, pss_one (ps_ostH (pv 0) (pv 1)), ?_⟩
    exact ⟨_, rfl, _, rfl, a, T.C_InvalidMap, rfl, oexH_of T.x_InvalidMap, T.na_part_InvalidMap, .inl ⟨ha, fun dx h1 h2 => q _ (x1_off h1 h2) (x1_exa h2)⟩⟩)
theorem okx_InvalidShape (T : Txt K mg) : FnR P w K mg base CX0 1 T.f_InvalidShape__init (spX1 T.C_InvalidShape "part") := T.A_InvalidShape__init.ok sc_InvalidShape__init (fun vs H Q E h => by obtain ⟨a, v, rfl, _⟩ := h; rfl) (fun cdv A outer s H vs Q E hr h => by
    obtain ⟨a, v, rfl, ha, q⟩ := h
    refine ⟨_, pss_one (ps_ostH (pv 0) (pv 1)), ?_⟩
    exact ⟨_, rfl, _, rfl, a, T.C_InvalidShape, rfl, oexH_of T.x_InvalidShape, T.na_part_InvalidShape, .inl ⟨ha, fun dx h1 h2 => q _ (x1_off h1 h2) (x1_exa h2)⟩⟩)
theorem okk_InvalidShape (T : Txt K mg) {fd : FuncData} (F : Fun K "__init__" "InvalidShape.__init__" s_InvalidShape__init T.f_InvalidShape__init fd) : FnOk P w K mg base CX0 1 T.f_InvalidShape__init fd ["self", "part"] (spX1 T.C_InvalidShape "part") := F.ok sc_InvalidShape__init (fun vs H Q E h => by obtain ⟨a, v, rfl, _⟩ := h; rfl) (fun cdv A outer s H vs Q E hr h => by
    obtain ⟨a, v, rfl, ha, q⟩ := h
    refine ⟨_, pss_one (ps_ostH (pv 0) (pv 1)), ?_⟩
    exact ⟨_, rfl, _, rfl, a, T.C_InvalidShape, rfl, oexH_of T.x_InvalidShape, T.na_part_InvalidShape, .inl ⟨ha, fun dx h1 h2 => q _ (x1_off h1 h2) (x1_exa h2)⟩⟩)
theorem okx_InvalidPartial (T : Txt K mg) : FnR P w K mg base CX0 1 T.f_InvalidPartial__init (spX1 T.C_InvalidPartial "part") := T.A_InvalidPartial__init.ok sc_InvalidPartial__init (fun vs H Q E h => by obtain ⟨a, v, rfl, _⟩ := h; rfl) (fun cdv A outer s H vs Q E hr h => by
    obtain ⟨a, v, rfl, ha, q⟩ := h
    refine ⟨_, pss_one (ps_ostH (pv 0) (pv 1)), ?_⟩
    exact ⟨_, rfl, _, rfl, a, T.C_InvalidPartial, rfl, oexH_of T.x_InvalidPartial, T.na_part_InvalidPartial, .inl ⟨ha, fun dx h1 h2 => q _ (x1_off h1 h2) (x1_exa h2)⟩⟩)
theorem okk_InvalidPartial (T : Txt K mg) {fd : FuncData} (F : Fun K "__init__" "InvalidPartial.__init__" s_InvalidPartial__init T.f_InvalidPartial__init fd) : FnOk P w K mg base CX0 1 T.f_InvalidPartial__init fd ["self", "part"] (spX1 T.C_InvalidPartial "part") := F.ok sc_InvalidPartial__init (fun vs H Q E h => by obtain ⟨a, v, rfl, _⟩ := h; rfl) (fun cdv A outer s H vs Q E hr h => by
    obtain ⟨a, v, rfl, ha, q⟩ := h
    refine ⟨_, pss_one (ps_ostH (pv 0) (pv 1)), ?_⟩
    exact ⟨_, rfl, _, rfl, a, T.C_InvalidPartial, rfl, oexH_of T.x_InvalidPartial, T.na_part_InvalidPartial, .inl ⟨ha, fun dx h1 h2 => q _ (x1_off h1 h2) (x1_exa h2)⟩⟩)
theorem okx_ParseError (T : Txt K mg) : FnR P w K mg base CX0 1 T.f_ParseError__init (spX1 T.C_ParseError "part") := T.A_ParseError__init.ok sc_ParseError__init (fun vs H Q E h => by obtain ⟨a, v, rfl, _⟩ := h; rfl) (fun cdv A outer s H vs Q E hr h => by
    obtain ⟨a, v, rfl, ha, q⟩ := h
    refine ⟨_, pss_one (ps_ostH (pv 0) (pv 1)), ?_⟩
    exact ⟨_, rfl, _, rfl, a, T.C_ParseError, rfl, oexH_of T.x_ParseError, T.na_part_ParseError, .inl ⟨ha, fun dx h1 h2 => q _ (x1_off h1 h2) (x1_exa h2)⟩⟩)
theorem okk_ParseError (T : Txt K mg) {fd : FuncData} (F : Fun K "__init__" "ParseError.__init__" s_ParseError__init T.f_ParseError__init fd) : FnOk P w K mg base CX0 1 T.f_ParseError__init fd ["self", "part"] (spX1 T.C_ParseError "part") := F.ok sc_ParseError__init (fun vs H Q E h => by obtain ⟨a, v, rfl, _⟩ := h; rfl) (fun cdv A outer s H vs Q E hr h => by
    obtain ⟨a, v, rfl, ha, q⟩ := h
    refine ⟨_, pss_one (ps_ostH (pv 0) (pv 1)), ?_⟩
    exact ⟨_, rfl, _, rfl, a, T.C_ParseError, rfl, oexH_of T.x_ParseError, T.na_part_ParseError, .inl ⟨ha, fun dx h1 h2 => q _ (x1_off h1 h2) (x1_exa h2)⟩⟩)
theorem okx_InvalidSteps (T : Txt K mg) : FnR P w K mg base CX0 1 T.f_InvalidSteps__init (spX1 T.C_InvalidSteps "position") := T.A_InvalidSteps__init.ok sc_InvalidSteps__init (fun vs H Q E h => by obtain ⟨a, v, rfl, _⟩ := h; rfl) (fun cdv A outer s H vs Q E hr h => by
    obtain ⟨a, v, rfl, ha, q⟩ := h
    refine ⟨_, pss_one (ps_ostH (pv 0) (pv 1)), ?_⟩
    exact ⟨_, rfl, _, rfl, a, T.C_InvalidSteps, rfl, oexH_of T.x_InvalidSteps, T.na_position_InvalidSteps, .inl ⟨ha, fun dx h1 h2 => q _ (x1_off h1 h2) (x1_exa h2)⟩⟩)
theorem okk_InvalidSteps (T : Txt K mg) {fd : FuncData} (F : Fun K "__init__" "InvalidSteps.__init__" s_InvalidSteps__init T.f_InvalidSteps__init fd) : FnOk P w K mg base CX0 1 T.f_InvalidSteps__init fd ["self", "position"] (spX1 T.C_InvalidSteps "position") := F.ok sc_InvalidSteps__init (fun vs H Q E h => by obtain ⟨a, v, rfl, _⟩ := h; rfl) (fun cdv A outer s H vs Q E hr h => by
    obtain ⟨a, v, rfl, ha, q⟩ := h
    refine ⟨_, pss_one (ps_ostH (pv 0) (pv 1)), ?_⟩
    exact ⟨_, rfl, _, rfl, a, T.C_InvalidSteps, rfl, oexH_of T.x_InvalidSteps, T.na_position_InvalidSteps, .inl ⟨ha, fun dx h1 h2 => q _ (x1_off h1 h2) (x1_exa h2)⟩⟩)
theorem okx_InvalidWord (T : Txt K mg) : FnR P w K mg base CX0 1 T.f_InvalidWord__init (spX1 T.C_InvalidWord "position") := T.A_InvalidWord__init.ok sc_InvalidWord__init (fun vs H Q E h => by obtain ⟨a, v, rfl, _⟩ := h; rfl) (fun cdv A outer s H vs Q E hr h => by
    obtain ⟨a, v, rfl, ha, q⟩ := h
    refine ⟨_, pss_one (ps_ostH (pv 0) (pv 1)), ?_⟩
    exact ⟨_, rfl, _, rfl, a, T.C_InvalidWord, rfl, oexH_of T.x_InvalidWord, T.na_position_InvalidWord, .inl ⟨ha, fun dx h1 h2 => q _ (x1_off h1 h2) (x1_exa h2)⟩⟩)
theorem okk_InvalidWord (T : Txt K mg) {fd : FuncData} (F : Fun K "__init__" "InvalidWord.__init__" s_InvalidWord__init T.f_InvalidWord__init fd) : FnOk P w K mg base CX0 1 T.f_InvalidWord__init fd ["self", "position"] (spX1 T.C_InvalidWord "position") := F.ok sc_InvalidWord__init (fun vs H Q E h => by obtain ⟨a, v, rfl, _⟩ := h; rfl) (fun cdv A outer s H vs Q E hr h => by
    obtain ⟨a, v, rfl, ha, q⟩ := h
    refine ⟨_, pss_one (ps_ostH (pv 0) (pv 1)), ?_⟩
    exact ⟨_, rfl, _, rfl, a, T.C_InvalidWord, rfl, oexH_of T.x_InvalidWord, T.na_position_InvalidWord, .inl ⟨ha, fun dx h1 h2 => q _ (x1_off h1 h2) (x1_exa h2)⟩⟩)
theorem okx_LimitExceeded (T : Txt K mg) : FnR P w K mg base CX0 1 T.f_LimitExceeded__init (spX1 T.C_LimitExceeded "limit") := T.A_LimitExceeded__init.ok sc_LimitExceeded__init (fun vs H Q E h => by obtain ⟨a, v, rfl, _⟩ := h; rfl) (fun cdv A outer s H vs Q E hr h => by
    obtain ⟨a, v, rfl, ha, q⟩ := h
    refine ⟨_, pss_one (ps_ostH (pv 0) (pv 1)), ?_⟩
    exact ⟨_, rfl, _, rfl, a, T.C_LimitExceeded, rfl, oexH_of T.x_LimitExceeded, T.na_limit_LimitExceeded, .inl ⟨ha, fun dx h1 h2 => q _ (x1_off h1 h2) (x1_exa h2)⟩⟩)
theorem okk_LimitExceeded (T : Txt K mg) {fd : FuncData} (F : Fun K "__init__" "LimitExceeded.__init__" s_LimitExceeded__init T.f_LimitExceeded__init fd) : FnOk P w K mg base CX0 1 T.f_LimitExceeded__init fd ["self", "limit"] (spX1 T.C_LimitExceeded "limit") := F.ok sc_LimitExceeded__init (fun vs H Q E h => by obtain ⟨a, v, rfl, _⟩ := h; rfl) (fun cdv A outer s H vs Q E hr h => by
    obtain ⟨a, v, rfl, ha, q⟩ := h
    refine ⟨_, pss_one (ps_ostH (pv 0) (pv 1)), ?_⟩
    exact ⟨_, rfl, _, rfl, a, T.C_LimitExceeded, rfl, oexH_of T.x_LimitExceeded, T.na_limit_LimitExceeded, .inl ⟨ha, fun dx h1 h2 => q _ (x1_off h1 h2) (x1_exa h2)⟩⟩)
theorem okx_NotLast (T : Txt K mg) : FnR P w K mg base CX0 1 T.f_NotLast__init (spX1 T.C_NotLast "user") := T.A_NotLast__init.ok sc_NotLast__init (fun vs H Q E h => by obtain ⟨a, v, rfl, _⟩ := h; rfl) (fun cdv A outer s H vs Q E hr h => by
    obtain ⟨a, v, rfl, ha, q⟩ := h
    refine ⟨_, pss_one (ps_ostH (pv 0) (pv 1)), ?_⟩
    exact ⟨_, rfl, _, rfl, a, T.C_NotLast, rfl, oexH_of T.x_NotLast, T.na_user_NotLast, .inl ⟨ha, fun dx h1 h2 => q _ (x1_off h1 h2) (x1_exa h2)⟩⟩)
theorem okk_NotLast (T : Txt K mg) {fd : FuncData} (F : Fun K "__init__" "NotLast.__init__" s_NotLast__init T.f_NotLast__init fd) : FnOk P w K mg base CX0 1 T.f_NotLast__init fd ["self", "user"] (spX1 T.C_NotLast "user") := F.ok sc_NotLast__init (fun vs H Q E h => by obtain ⟨a, v, rfl, _⟩ := h; rfl) (fun cdv A outer s H vs Q E hr h => by
    obtain ⟨a, v, rfl, ha, q⟩ := h
    refine ⟨_, pss_one (ps_ostH (pv 0) (pv 1)), ?_⟩
    exact ⟨_, rfl, _, rfl, a, T.C_NotLast, rfl, oexH_of T.x_NotLast, T.na_user_NotLast, .inl ⟨ha, fun dx h1 h2 => q _ (x1_off h1 h2) (x1_exa h2)⟩⟩)
theorem okx_NothingToUndo (T : Txt K mg) : FnR P w K mg base CX0 1 T.f_NothingToUndo__init (spX1 T.C_NothingToUndo "user") := T.A_NothingToUndo__init.ok sc_NothingToUndo__init (fun vs H Q E h => by obtain ⟨a, v, rfl, _⟩ := h; rfl) (fun cdv A outer s H vs Q E hr h => by
    obtain ⟨a, v, rfl, ha, q⟩ := h
    refine ⟨_, pss_one (ps_ostH (pv 0) (pv 1)), ?_⟩
    exact ⟨_, rfl, _, rfl, a, T.C_NothingToUndo, rfl, oexH_of T.x_NothingToUndo, T.na_user_NothingToUndo, .inl ⟨ha, fun dx h1 h2 => q _ (x1_off h1 h2) (x1_exa h2)⟩⟩)
theorem okk_NothingToUndo (T : Txt K mg) {fd : FuncData} (F : Fun K "__init__" "NothingToUndo.__init__" s_NothingToUndo__init T.f_NothingToUndo__init fd) : FnOk P w K mg base CX0 1 T.f_NothingToUndo__init fd ["self", "user"] (spX1 T.C_NothingToUndo "user") := F.ok sc_NothingToUndo__init (fun vs H Q E h => by obtain ⟨a, v, rfl, _⟩ := h; rfl) (fun cdv A outer s H vs Q E hr h => by
    obtain ⟨a, v, rfl, ha, q⟩ := h
    refine ⟨_, pss_one (ps_ostH (pv 0) (pv 1)), ?_⟩
    exact ⟨_, rfl, _, rfl, a, T.C_NothingToUndo, rfl, oexH_of T.x_NothingToUndo, T.na_user_NothingToUndo, .inl ⟨ha, fun dx h1 h2 => q _ (x1_off h1 h2) (x1_exa h2)⟩⟩)
theorem okx_TooFew (T : Txt K mg) : FnR P w K mg base CX0 1 T.f_TooFew__init (spX1 T.C_TooFew "number") := T.A_TooFew__init.ok sc_TooFew__init (fun vs H Q E h => by obtain ⟨a, v, rfl, _⟩ := h; rfl) (fun cdv A outer s H vs Q E hr h => by
    obtain ⟨a, v, rfl, ha, q⟩ := h
    refine ⟨_, pss_one (ps_ostH (pv 0) (pv 1)), ?_⟩
    exact ⟨_, rfl, _, rfl, a, T.C_TooFew, rfl, oexH_of T.x_TooFew, T.na_number_TooFew, .inl ⟨ha, fun dx h1 h2 => q _ (x1_off h1 h2) (x1_exa h2)⟩⟩)
theorem okk_TooFew (T : Txt K mg) {fd : FuncData} (F : Fun K "__init__" "TooFew.__init__" s_TooFew__init T.f_TooFew__init fd) : FnOk P w K mg base CX0 1 T.f_TooFew__init fd ["self", "number"] (spX1 T.C_TooFew "number") := F.ok sc_TooFew__init (fun vs H Q E h => by obtain ⟨a, v, rfl, _⟩ := h; rfl) (fun cdv A outer s H vs Q E hr h => by
    obtain ⟨a, v, rfl, ha, q⟩ := h
    refine ⟨_, pss_one (ps_ostH (pv 0) (pv 1)), ?_⟩
    exact ⟨_, rfl, _, rfl, a, T.C_TooFew, rfl, oexH_of T.x_TooFew, T.na_number_TooFew, .inl ⟨ha, fun dx h1 h2 => q _ (x1_off h1 h2) (x1_exa h2)⟩⟩)
theorem okx_UnknownName (T : Txt K mg) : FnR P w K mg base CX0 1 T.f_UnknownName__init (spX1 T.C_UnknownName "name") := T.A_UnknownName__init.ok sc_UnknownName__init (fun vs H Q E h => by obtain ⟨a, v, rfl, _⟩ := h; rfl) (fun cdv A outer s H vs Q E hr h => by
    obtain ⟨a, v, rfl, ha, q⟩ := h
    refine ⟨_, pss_one (ps_ostH (pv 0) (pv 1)), ?_⟩
    exact ⟨_, rfl, _, rfl, a, T.C_UnknownName, rfl, T.x_UnknownName, T.na_name_UnknownName, .inl ⟨ha, fun dx h1 h2 => q _ (x1_off h1 h2) (x1_exa h2)⟩⟩)
theorem okk_UnknownName (T : Txt K mg) {fd : FuncData} (F : Fun K "__init__" "UnknownName.__init__" s_UnknownName__init T.f_UnknownName__init fd) : FnOk P w K mg base CX0 1 T.f_UnknownName__init fd ["self", "name"] (spX1 T.C_UnknownName "name") := F.ok sc_UnknownName__init (fun vs H Q E h => by obtain ⟨a, v, rfl, _⟩ := h; rfl) (fun cdv A outer s H vs Q E hr h => by
    obtain ⟨a, v, rfl, ha, q⟩ := h
    refine ⟨_, pss_one (ps_ostH (pv 0) (pv 1)), ?_⟩
    exact ⟨_, rfl, _, rfl, a, T.C_UnknownName, rfl, T.x_UnknownName, T.na_name_UnknownName, .inl ⟨ha, fun dx h1 h2 => q _ (x1_off h1 h2) (x1_exa h2)⟩⟩)
theorem okx_SizeMismatch (T : Txt K mg) : FnR P w K mg base CX0 1 T.f_SizeMismatch__init (spX2 T.C_SizeMismatch "first" "second") := T.A_SizeMismatch__init.ok sc_SizeMismatch__init (fun vs H Q E h => by obtain ⟨a, x, y, rfl, _⟩ := h; rfl) (fun cdv A outer s H vs Q E hr h => by
    obtain ⟨a, x, y, rfl, ha, q⟩ := h
    refine ⟨_, pss_cons (ps_ostH (pv 0) (pv 1)) (pss_one (ps_ostH (pv 0) (pv 2))), ?_⟩
    exact ⟨_, rfl, _, rfl, a, T.C_SizeMismatch, rfl, oexH_of T.x_SizeMismatch, T.na_first_SizeMismatch, .inl ⟨ha, fun dx h1 h2 => ⟨_, rfl, _, rfl, a, T.C_SizeMismatch, rfl, oexH_of T.x_SizeMismatch, T.na_second_SizeMismatch, .inr ⟨dx, _, upd_same, by rw [upd_ne h2, upd_same], by simp, q _ (x2_off h1 h2) (x2_exa h2)⟩⟩⟩⟩)
theorem okk_SizeMismatch (T : Txt K mg) {fd : FuncData} (F : Fun K "__init__" "SizeMismatch.__init__" s_SizeMismatch__init T.f_SizeMismatch__init fd) : FnOk P w K mg base CX0 1 T.f_SizeMismatch__init fd ["self", "first", "second"] (spX2 T.C_SizeMismatch "first" "second") := F.ok sc_SizeMismatch__init (fun vs H Q E h => by obtain ⟨a, x, y, rfl, _⟩ := h; rfl) (fun cdv A outer s H vs Q E hr h => by
    obtain ⟨a, x, y, rfl, ha, q⟩ := h
    refine ⟨_, pss_cons (ps_ostH (pv 0) (pv 1)) (pss_one (ps_ostH (pv 0) (pv 2))), ?_⟩
    exact ⟨_, rfl, _, rfl, a, T.C_SizeMismatch, rfl, oexH_of T.x_SizeMismatch, T.na_first_SizeMismatch, .inl ⟨ha, fun dx h1 h2 => ⟨_, rfl, _, rfl, a, T.C_SizeMismatch, rfl, oexH_of T.x_SizeMismatch, T.na_second_SizeMismatch, .inr ⟨dx, _, upd_same, by rw [upd_ne h2, upd_same], by simp, q _ (x2_off h1 h2) (x2_exa h2)⟩⟩⟩⟩)
theorem okx_Clash (T : Txt K mg) : FnR P w K mg base CX0 1 T.f_Clash__init (spX2 T.C_Clash "first" "second") := T.A_Clash__init.ok sc_Clash__init (fun vs H Q E h => by obtain ⟨a, x, y, rfl, _⟩ := h; rfl) (fun cdv A outer s H vs Q E hr h => by
    obtain ⟨a, x, y, rfl, ha, q⟩ := h
    refine ⟨_, pss_cons (ps_ostH (pv 0) (pv 1)) (pss_one (ps_ostH (pv 0) (pv 2))), ?_⟩
    exact ⟨_, rfl, _, rfl, a, T.C_Clash, rfl, oexH_of T.x_Clash, T.na_first_Clash, .inl ⟨ha, fun dx h1 h2 => ⟨_, rfl, _, rfl, a, T.C_Clash, rfl, oexH_of T.x_Clash, T.na_second_Clash, .inr ⟨dx, _, upd_same, by rw [upd_ne h2, upd_same], by simp, q _ (x2_off h1 h2) (x2_exa h2)⟩⟩⟩⟩)
theorem okk_Clash (T : Txt K mg) {fd : FuncData} (F : Fun K "__init__" "Clash.__init__" s_Clash__init T.f_Clash__init fd) : FnOk P w K mg base CX0 1 T.f_Clash__init fd ["self", "first", "second"] (spX2 T.C_Clash "first" "second") := F.ok sc_Clash__init (fun vs H Q E h => by obtain ⟨a, x, y, rfl, _⟩ := h; rfl) (fun cdv A outer s H vs Q E hr h => by
    obtain ⟨a, x, y, rfl, ha, q⟩ := h
    refine ⟨_, pss_cons (ps_ostH (pv 0) (pv 1)) (pss_one (ps_ostH (pv 0) (pv 2))), ?_⟩
    exact ⟨_, rfl, _, rfl, a, T.C_Clash, rfl, oexH_of T.x_Clash, T.na_first_Clash, .inl ⟨ha, fun dx h1 h2 => ⟨_, rfl, _, rfl, a, T.C_Clash, rfl, oexH_of T.x_Clash, T.na_second_Clash, .inr ⟨dx, _, upd_same, by rw [upd_ne h2, upd_same], by simp, q _ (x2_off h1 h2) (x2_exa h2)⟩⟩⟩⟩)
end
end My
local macro_rules | `(tactic| array_get_dec) => `(tactic| first | assumption | exact L2.upd_same | (refine U.carryNew (by assumption) ?_; array_get_dec) | (refine U.carry (by assumption) ?_; array_get_dec))
local macro_rules | `(tactic| array_mem_dec) => `(tactic| first | exact L2.Same.refl _ | assumption | (refine U.sameUp (by assumption) ?_; array_mem_dec) | (refine U.sameVia (by assumption) ?_; array_mem_dec))
local macro_rules | `(tactic| sizeOf_list_dec) => `(tactic| first | assumption | (refine U.freeVia (by assumption) ?_; sizeOf_list_dec) | (refine U.freeUp (o := _) (q := _) ?_; assumption))
local macro_rules | `(tactic| deriving_LawfulEq_tactic_step) => `(tactic| first | exact rfl | exact U.nil_le | exact U.one_le | exact U.two_le | exact U.three_le | exact L2.SqL.of (by array_get_dec) | exact L2.SqT.of (by array_get_dec) | exact ⟨_, L2.SqL.of (by array_get_dec)⟩ | exact ⟨_, L2.SqT.of (by array_get_dec)⟩ | exact Or.inl (by array_get_dec) | array_get_dec)
local macro_rules | `(tactic| and_intros) => `(tactic| repeat (first | refine And.intro (by deriving_LawfulEq_tactic_step) ?_ | (apply Exists.intro; refine And.intro (by deriving_LawfulEq_tactic_step) ?_) | (apply Exists.intro; apply Exists.intro; refine And.intro (by deriving_LawfulEq_tactic_step) ?_) | (apply Exists.intro; apply Exists.intro; apply Exists.intro; refine And.intro (by deriving_LawfulEq_tactic_step) ?_) | (apply Exists.intro; apply Exists.intro; apply Exists.intro; apply Exists.intro; refine And.intro (by deriving_LawfulEq_tactic_step) ?_)))
namespace My
open PySem L2 U StX PM
def PoolAt (H : Hp) (p : Addr) : Prop := ∃ a b : Int, H p = some (.lst [.int a, .int b]) ∧ 0 ≤ a ∧ 0 ≤ b ∧ b < 2147483647
theorem Off.at {p : Addr} {H H' : Hp} {o : HO} (a : Off p H H') : Off p H (upd H' p o) := fun b u hb e => by rw [upd_ne hb]; exact a b u hb e
theorem asg_of {t : TE} {D : Ends} {σ : L2.St} {H : Hp} {i : Nat} (h : t σ H (fun v H' => D.nx (σ.set i (some v)) H')) : tAsg t (gName i) D σ H := h
theorem SqL.same {K : PySem.W.Frag} {H H' : Hp} {a : Addr} {xs : List V} (h : SqL K H a xs) (s : Same H H') : SqL K H' a xs := by
  rcases h with (h | ⟨o, h⟩) | h
  · exact .inl (.inl (s _ _ h))
  · exact .inl (.inr ⟨o, s _ _ h⟩)
  · exact .inr h
theorem Same.off {H H1 H2 : Hp} {p : Addr} (s : Same H H1) (o : Off p H1 H2) (h : H p = none) : Same H H2 := fun b u e => o b u (ne_of_none e h) (s b u e)
theorem yes_ {σ : L2.St} {H : Hp} {A B : Hp → Prop} (h : A H) : tYes σ H (fun b H3 => if b = true then A H3 else B H3) := by
  show (if true = true then A H else B H)
  rw [if_pos rfl]
  exact h
theorem PoolAt.same {H H' : Hp} {p : Addr} (h : PoolAt H p) (s : Same H H') : PoolAt H' p := by
  obtain ⟨a, b, e, r⟩ := h
  exact ⟨a, b, s _ _ e, r⟩
theorem PoolAt.lst {H : Hp} {p : Addr} (h : PoolAt H p) : ∃ xs, H p = some (.lst xs) := by
  obtain ⟨a, b, e, r⟩ := h
  exact ⟨_, e⟩
theorem PoolAt.ne {H : Hp} {p q : Addr} (h : PoolAt H p) (hq : H q = none) : p ≠ q := by
  obtain ⟨xs, e⟩ := h.lst
  exact ne_of_none e hq
def spLaw (K : PySem.W.Frag) : Sp := fun vs H Q _ => ∃ (a : Addr) (ns : List Int), vs = [.ref a] ∧ SqL K H a (ns.map V.int) ∧ ns.length ≤ 63 ∧ ∀ H', Q (.bl true) H'
/-- the law's draw, told by the pool alone -/
theorem draw_of {H : Hp} {p : Addr} {n : Int} {Q : VK} {E : XK} (h : PoolAt H p) (n0 : 0 < n) (n1 : n < 1073741824) (k : ∀ r H', 0 ≤ r → r < n → PoolAt H' p → Off p H H' → (∃ xs, H' = upd H p (.lst xs)) → Q (.int r) H') : spDraw [.ref p, .int n] H Q E := by
  obtain ⟨a, b, e, ha, hb, hc⟩ := h
  exact ⟨p, a, b, n, rfl, e, ha, hb, hc, n0, n1, fun a' b' r h1 h2 h3 h4 h5 => k r _ h4 h5 ⟨a', b', upd_same, h1, h2, h3⟩ Off.lock ⟨_, rfl⟩⟩
theorem draw_R {i : Nat} {tb : TE} {σ : L2.St} {H : Hp} {Q : VK} {p : Addr} {n : Int} (hi : σ[i]? = some (some (.ref p))) (hb : ∀ R : VK, R (.int n) H → tb σ H R) (h : PoolAt H p) (n0 : 0 < n) (n1 : n < 1073741824)
    (k : ∀ r H', 0 ≤ r → r < n → PoolAt H' p → Off p H H' → Q (.int r) H') : tCallR spDraw E0 (tCons (tVar i) (tCons tb tNil)) σ H Q :=
  ⟨_, hi, hb _ (draw_of (E := E0) h n0 n1 fun r H' h1 h2 h3 h4 _ => k r H' h1 h2 h3 h4)⟩
theorem Off.ofS' {p : Addr} {H H' : Hp} (s : Same H H') : Off p H H' := fun _ _ _ h => s _ _ h
theorem Same.put {H H' : Hp} {p : Addr} {o : HO} (s : Same H H') (h : H p = none) : Same H (upd H' p o) := fun b u e => by rw [upd_ne (ne_of_none e h)]; exact s b u e
/-! ### the item that is kept -/
def spItem (K : PySem.W.Frag) : Sp := fun vs H Q _ => ∃ p : Addr, vs = [.ref p] ∧ PoolAt H p ∧ ∀ v d H', It p H' v d → PoolAt H' p → Off p H H' → Q v H'
theorem big_len {r : Int} (h0 : 0 ≤ r) (h1 : r < 900) : (PyData.int (10 ^ (25 : Int).toNat + r)).showable = true ∧ (PyData.int (10 ^ (25 : Int).toNat + r)).shown.length ≤ 41 := by
  have e : (10 : Int) ^ (25 : Int).toNat = 10000000000000000000000000 := by decide +kernel
  refine ⟨?_, ?_⟩
  · show decide _ = true
    refine decide_eq_true ?_
    refine (Nat.log2_lt (by omega)).mpr ?_
    have : (100000000000000000000000000 : Nat) < 2 ^ 1920 := by decide +kernel
    omega
  · refine PyProof.Rows.toString_length_le (by omega) (by decide) ?_
    have : (10 : Int) ^ 41 = 100000000000000000000000000000000000000000 := by decide +kernel
    omega
section
variable {P : Program} {w : World} {K : PySem.W.Frag} {mg : Str → Option Value} {base : Heap}
set_option pp.maxSteps 3000 in
theorem ok_item (T : Txt K mg) : FnR P w K mg base CX0 3 T.f_l_item (spItem K) := by
  refine T.A_l_item.ok sc_l_item (fun vs H Q E h => ?_) (fun cdv A outer s H vs Q E hr h => ?_)
  · obtain ⟨p, rfl, _⟩ := h
    rfl
  · obtain ⟨p, rfl, hp, q⟩ := h
    refine ⟨_, (pss_cons (ps_set (i := 1) sc_l_item.nd rfl (Or.inl rfl) (pe_lst (pa_cons pe_non (pa_cons pe_bl (pa_cons pe_int (pa_cons (pe_un un_neg pe_int) (pa_cons (pe_op op_add (pe_op op_pow pe_int pe_int) (pe_callR (ok_draw T) (hr.mono (by decide)) T.A_l_draw.kp rfl T.g_l_draw pass0 (pa_cons (pv 0) (pa_cons pe_int pa_nil)))) (pa_cons pe_str (pa_cons pe_str (pa_cons (pe_tup (pa_cons pe_int (pa_cons pe_int pa_nil))) (pa_cons (pe_lst pa_nil) (pa_cons (pe_lst (pa_cons pe_str pa_nil)) (pa_cons pe_dnewK (pa_cons (pe_disp (pps_cons pe_str pe_int pps_nil) (by rfl) (by rfl) (fun z => by cases z) (by decide)) pa_nil))))))))))))))
      (pss_one (ps_ret (pe_ix ix_list (pe_op op_cat (pv 1) (pe_lst (pa_cons (pe_tup (pa_cons (pe_tup pa_nil) pa_nil)) pa_nil))) (pe_callR (ok_draw T) (hr.mono (by decide)) T.A_l_draw.kp rfl T.g_l_draw pass0 (pa_cons (pv 0) (pa_cons pe_int pa_nil))) (fun _ _ => rfl))))), ?_⟩
    refine ⟨_, rfl, _, _, rfl, rfl, ⟨by decide, by decide, by decide⟩, draw_R rfl (fun R r => r) hp (by decide) (by decide) fun r1 H1 r0 r9 hp1 o1 => ?_⟩
    refine ⟨_, _, rfl, rfl, ?_⟩
    refine ⟨(by show 2 ≤ sizeLine; decide), ?_⟩
    refine fun t2 n_t2 => ?_
    generalize g_t2 : L2.upd _ t2 _ = H2
    obtain ⟨s_H2, e_t2⟩ := U.upd_facts g_t2 n_t2
    clear g_t2
    refine ⟨(by show 0 ≤ sizeLine; decide), ?_⟩
    refine fun t3 n_t3 => ?_
    generalize g_t3 : L2.upd _ t3 _ = H3
    obtain ⟨s_H3, e_t3⟩ := U.upd_facts g_t3 n_t3
    clear g_t3
    refine ⟨(by show 1 ≤ sizeLine; decide), ?_⟩
    refine fun t4 n_t4 => ?_
    generalize g_t4 : L2.upd _ t4 _ = H4
    obtain ⟨s_H4, e_t4⟩ := U.upd_facts g_t4 n_t4
    clear g_t4
    refine fun t5 n_t5 => ?_
    generalize g_t5 : L2.upd _ t5 _ = H5
    obtain ⟨s_H5, e_t5⟩ := U.upd_facts g_t5 n_t5
    clear g_t5
    refine fun t6 n_t6 => ?_
    refine ⟨upd_same, [(Sum.inr "x", .int 5)], rfl, by show 1 ≤ 15; decide, ?_⟩
    have e_t6 : (upd (upd H5 t6 (.dK [])) t6 (.dK (mergeK [] [(Sum.inr "x", V.int 5)]))) t6 = some (.dK [(Sum.inr "x", .int 5)]) := upd_same
    have s_H6 : Same H5 (upd (upd H5 t6 (.dK [])) t6 (.dK (mergeK [] [(Sum.inr "x", V.int 5)]))) := Same.put (Same.new n_t6) n_t6
    generalize upd (upd H5 t6 (.dK [])) t6 (.dK (mergeK [] [(Sum.inr "x", V.int 5)])) = H6 at e_t6 s_H6 ⊢
    refine ⟨(by show 12 ≤ sizeLine; decide), ?_⟩
    refine fun t7 n_t7 => ?_
    generalize g_t7 : L2.upd _ t7 _ = H7
    obtain ⟨s_H7, e_t7⟩ := U.upd_facts g_t7 n_t7
    clear g_t7
    refine ⟨_, rfl, (by show 0 ≤ sizeLine; decide), ?_⟩
    refine fun t8 n_t8 => ?_
    generalize g_t8 : L2.upd _ t8 _ = H8
    obtain ⟨s_H8, e_t8⟩ := U.upd_facts g_t8 n_t8
    clear g_t8
    refine ⟨(by show 1 ≤ sizeLine; decide), ?_⟩
    refine fun t9 n_t9 => ?_
    generalize g_t9 : L2.upd _ t9 _ = H9
    obtain ⟨s_H9, e_t9⟩ := U.upd_facts g_t9 n_t9
    clear g_t9
    refine ⟨(by show 1 ≤ sizeLine; decide), ?_⟩
    refine fun tx n_tx => ?_
    generalize g_tx : L2.upd _ tx _ = Hx
    obtain ⟨s_Hx, e_tx⟩ := U.upd_facts g_tx n_tx
    clear g_tx
    refine ⟨t7, tx, _, _, rfl, rfl, (by array_get_dec), (by array_get_dec), (by show 13 ≤ sizeLine; decide), ?_⟩
    refine fun ty n_ty => ?_
    generalize g_ty : L2.upd _ ty _ = Hy
    obtain ⟨s_Hy, e_ty⟩ := U.upd_facts g_ty n_ty
    clear g_ty
    have hpy : PoolAt Hy p := hp1.same (by array_mem_dec)
    refine draw_R rfl (fun R r => r) hpy (by decide) (by decide) fun r Hz z0 z9 hpz o2 => ?_
    have np : ∀ {H' : Hp} {b : Addr}, PoolAt H' p → H' b = none → b ≠ p := fun h n z => h.ne (z ▸ n) rfl
    have y2 := np hp1 n_t2
    have y3 := np (hp1.same (by array_mem_dec)) n_t3
    have y4 := np (hp1.same (by array_mem_dec)) n_t4
    have y5 := np (hp1.same (by array_mem_dec)) n_t5
    have y6 := np (hp1.same (by array_mem_dec)) n_t6
    have y8 := np (hp1.same (by array_mem_dec)) n_t8
    have y9 := np (hp1.same (by array_mem_dec)) n_t9
    have yy := np (hp1.same (by array_mem_dec)) n_ty
    have k2 : Hy t2 = some (HO.tup [.int 0, .int 1]) := (by array_get_dec)
    have k3 : Hy t3 = some (HO.lst []) := (by array_get_dec)
    have k4 : Hy t4 = some (HO.lst [.str "a"]) := (by array_get_dec)
    have k5 : Hy t5 = some (HO.dK []) := (by array_get_dec)
    have k6 : Hy t6 = some (HO.dK [(.inr "x", .int 5)]) := (by array_get_dec)
    have k8 : Hy t8 = some (HO.tup []) := (by array_get_dec)
    have k9 : Hy t9 = some (HO.tup [.ref t8]) := (by array_get_dec)
    have e_y : Hy ty = _ := e_ty
    have sy : Same H1 Hy := (by array_mem_dec)
    have bl := big_len r0 r9
    have ox : Off p H Hz := (o1.tr (Off.ofS' sy)).tr o2
    obtain ⟨k, rfl⟩ : ∃ k : Nat, r = k := ⟨r.toNat, by omega⟩
    have hk : k < 13 := by omega
    have key : ∃ v d, ([V.non, .bl true, .int 0, .int (-7), .int (10 ^ (25 : Int).toNat + r1), .str "a", .str "", .ref t2, .ref t3, .ref t4, .ref t5, .ref t6, .ref t9] : List V)[k]? = some v ∧ It p Hz v d := by
      match k, hk with
      | 0, _ => exact ⟨_, _, rfl, .sc .non (by decide +kernel) (by decide +kernel)⟩
      | 1, _ => exact ⟨_, _, rfl, .sc (.bl _) (by decide +kernel) (by decide +kernel)⟩
      | 2, _ => exact ⟨_, _, rfl, .sc (.int _) (by decide +kernel) (by decide +kernel)⟩
      | 3, _ => exact ⟨_, _, rfl, .sc (.int _) (by decide +kernel) (by decide +kernel)⟩
      | 4, _ => exact ⟨_, _, rfl, .sc (.int _) bl.1 bl.2⟩
      | 5, _ => exact ⟨_, _, rfl, .sc (.str _) (by decide +kernel) (by decide +kernel)⟩
      | 6, _ => exact ⟨_, _, rfl, .sc (.str _) (by decide +kernel) (by decide +kernel)⟩
      | 7, _ => exact ⟨_, _, rfl, .tup y2 (o2 _ _ y2 k2)⟩
      | 8, _ => exact ⟨_, _, rfl, .lst0 y3 (o2 _ _ y3 k3)⟩
      | 9, _ => exact ⟨_, _, rfl, .lst1 y4 (o2 _ _ y4 k4)⟩
      | 10, _ => exact ⟨_, _, rfl, .dic0 y5 (o2 _ _ y5 k5)⟩
      | 11, _ => exact ⟨_, _, rfl, .dic1 y6 (o2 _ _ y6 k6)⟩
      | 12, _ => exact ⟨_, _, rfl, .tup2 y9 y8 (o2 _ _ y9 k9) (o2 _ _ y8 k8)⟩
    obtain ⟨v, d, ev, hv⟩ := key
    exact ⟨ty, _, _, v, rfl, rfl, SqL.of (o2 _ _ yy e_y), atI_nat ev, q v d Hz hv hpz ox⟩
theorem freeO {p b : Addr} {H H1 : Hp} (o : Off p H H1) (h : PoolAt H1 p) (n : H1 b = none) : H b = none := by
  obtain ⟨xs, e⟩ := h.lst
  exact Off.free o e n
/-! ### the errors made of one item -/
def Cls (T : Txt K mg) : List Addr := [T.C_InvalidSize, T.C_InvalidElement, T.C_InvalidNumber, T.C_InvalidFamily, T.C_InvalidUser, T.C_InvalidCommand, T.C_Undefined, T.C_InvalidMap, T.C_InvalidShape, T.C_InvalidPartial, T.C_ParseError, T.C_InvalidSteps, T.C_InvalidWord, T.C_LimitExceeded, T.C_NotLast, T.C_NothingToUndo, T.C_TooFew, T.C_UnknownName, T.C_SizeMismatch, T.C_Clash]
def ErrL (T : Txt K mg) (H : Hp) (p : Addr) (v : V) : List Str → Nat → List V → Prop
  | [], _, vs => vs = []
  | f :: fs, i, vs => ∃ a C r, vs = .ref a :: r ∧ a ≠ p ∧ (Cls T)[i]? = some C ∧ ExA H a C [(f, v)] ∧ ErrL T H p v fs (i + 1) r
theorem ErrL.same {T : Txt K mg} {H H' : Hp} {p : Addr} {v : V} (s : Same H H') : ∀ {fs : List Str} {i : Nat} {vs : List V}, ErrL T H p v fs i vs → ErrL T H' p v fs i vs
  | [], _, _, h => h
  | _ :: _, _, _, ⟨a, C, r, e, n, c, x, t⟩ => ⟨a, C, r, e, n, c, x.same s, t.same s⟩
theorem ErrL.len {T : Txt K mg} {H : Hp} {p : Addr} {v : V} : ∀ {fs : List Str} {i : Nat} {vs : List V}, ErrL T H p v fs i vs → vs.length = fs.length
  | [], _, _, h => by rw [h]; rfl
  | _ :: _, _, _, ⟨a, C, r, e, n, c, x, t⟩ => by rw [e, List.length_cons, List.length_cons, t.len]
theorem ErrL.append {T : Txt K mg} {H : Hp} {p : Addr} {v : V} {gs : List Str} {ws : List V} : ∀ {fs : List Str} {i : Nat} {vs : List V}, ErrL T H p v fs i vs → ErrL T H p v gs (i + fs.length) ws → ErrL T H p v (fs ++ gs) i (vs ++ ws)
  | [], _, _, h, g => by rw [h]; exact g
  | _ :: fs, i, _, ⟨a, C, r, e, n, c, x, t⟩, g => ⟨a, C, r ++ ws, by rw [e]; rfl, n, c, x, t.append (by rw [show i + 1 + fs.length = i + (fs.length + 1) by omega]; exact g)⟩
def MakesA (T : Txt K mg) (σ : L2.St) (p : Addr) (v : V) (fs : List Str) (i : Nat) (ta : TA) : Prop := ∀ (H : Hp) (R : List V → Hp → Prop), PoolAt H p → (∀ vs H', Same H H' → ErrL T H' p v fs i vs → R vs H') → ta σ H R
theorem makes_nil {T : Txt K mg} {σ : L2.St} {p : Addr} {v : V} {i : Nat} : MakesA T σ p v [] i tNil := fun H R _ k => k [] H (Same.refl H) rfl
theorem makes_V {T : Txt K mg} {σ : L2.St} {p : Addr} {v : V} {i j : Nat} {f : Str} {fs : List Str} {C : Addr} {ta : TA} (hj : σ[j]? = some (some v)) (hC : (Cls T)[i]? = some C) (h : MakesA T σ p v fs (i + 1) ta) : MakesA T σ p v (f :: fs) i (tCons (tExV C (spX1 C f) (tCons (tVar j) tNil)) ta) :=
  fun H R hp k => ⟨v, hj, xn1 (Q := fun x H2 => ta σ H2 fun vs H3 => R (x :: vs) H3) fun a H2 na s x => h H2 _ (hp.same s) fun vs H3 s3 e => k _ H3 (s.trans s3) ⟨a, C, vs, rfl, fun z => hp.ne (z ▸ na) rfl, hC, x.same s3, e⟩⟩
theorem makes_K {T : Txt K mg} {σ : L2.St} {p : Addr} {v : V} {i j : Nat} {f : Str} {fs : List Str} {C : Addr} {ta : TA} (hj : σ[j]? = some (some v)) (hC : (Cls T)[i]? = some C) (h : MakesA T σ p v fs (i + 1) ta) : MakesA T σ p v (f :: fs) i (tCons (tExK C 1 (spX1 C f) id (tCons (tVar j) tNil)) ta) :=
  fun H R hp k => ⟨v, hj, xk1 (Q := fun x H2 => ta σ H2 fun vs H3 => R (x :: vs) H3) fun a H2 na s x => h H2 _ (hp.same s) fun vs H3 s3 e => k _ H3 (s.trans s3) ⟨a, C, vs, rfl, fun z => hp.ne (z ▸ na) rfl, hC, x.same s3, e⟩⟩
theorem mk_of {T : Txt K mg} {σ : L2.St} {p : Addr} {v : V} {i : Nat} {fs : List Str} {ta : TA} {H : Hp} {R : List V → Hp → Prop} (m : MakesA T σ p v fs i ta) (hp : PoolAt H p) (k : ∀ vs H', Same H H' → ErrL T H' p v fs i vs → R vs H') : ta σ H R := m H R hp k
def f7 : List Str := ["value", "value", "value", "value", "value", "value", "value"]
def f11 : List Str := ["part", "part", "part", "part", "position", "position", "limit", "user", "user", "number", "name"]
def spVals (T : Txt K mg) (fs : List Str) (i : Nat) : Sp := fun vs H Q _ => ∃ (p : Addr) (v : V), vs = [.ref p, v] ∧ PoolAt H p ∧ ∀ l es H', H l = none → H' l = some (.lst es) → ErrL T H' p v fs i es → PoolAt H' p → Off p H H' → Q (.ref l) H'
set_option pp.maxSteps 3000 in
theorem ok_vals (T : Txt K mg) : FnR P w K mg base CX0 4 T.f_l_of_values (spVals T f7 0) := by
  refine T.A_l_of_values.ok sc_l_of_values (fun vs H Q E h => ?_) (fun cdv A outer s H vs Q E hr h => ?_)
  · obtain ⟨p, v, rfl, _⟩ := h
    rfl
  · obtain ⟨p, v, rfl, hp, q⟩ := h
    obtain ⟨fd_InvalidSize, F_InvalidSize, B_InvalidSize⟩ := T.KW_InvalidSize__init
    obtain ⟨fd_InvalidElement, F_InvalidElement, B_InvalidElement⟩ := T.KW_InvalidElement__init
    obtain ⟨fd_InvalidNumber, F_InvalidNumber, B_InvalidNumber⟩ := T.KW_InvalidNumber__init
    obtain ⟨fd_InvalidFamily, F_InvalidFamily, B_InvalidFamily⟩ := T.KW_InvalidFamily__init
    obtain ⟨fd_InvalidUser, F_InvalidUser, B_InvalidUser⟩ := T.KW_InvalidUser__init
    obtain ⟨fd_InvalidCommand, F_InvalidCommand, B_InvalidCommand⟩ := T.KW_InvalidCommand__init
    obtain ⟨fd_Undefined, F_Undefined, B_Undefined⟩ := T.KW_Undefined__init
    refine ⟨_, (pss_cons (ps_if (pt_cmpR op_eq (pe_callR (ok_draw T) (hr.mono (by decide)) T.A_l_draw.kp rfl T.g_l_draw pass0 (pa_cons (pv 0) (pa_cons pe_int pa_nil))) pe_int (nomark _))
        (pss_cons (ps_set (i := 2) sc_l_of_values.nd rfl (Or.inl rfl) (pe_lst (pa_cons (pe_exV (oexH_of T.x_InvalidSize) T.m_InvalidSize__init T.ti_InvalidSize__init (okx_InvalidSize T) (hr.mono (by decide)) pass0 rfl T.g_InvalidSize (pa_cons (pv 1) pa_nil)) (pa_cons (pe_exV (oexH_of T.x_InvalidElement) T.m_InvalidElement__init T.ti_InvalidElement__init (okx_InvalidElement T) (hr.mono (by decide)) pass0 rfl T.g_InvalidElement (pa_cons (pv 1) pa_nil)) (pa_cons (pe_exV (oexH_of T.x_InvalidNumber) T.m_InvalidNumber__init T.ti_InvalidNumber__init (okx_InvalidNumber T) (hr.mono (by decide)) pass0 rfl T.g_InvalidNumber (pa_cons (pv 1) pa_nil)) (pa_cons (pe_exV (oexH_of T.x_InvalidFamily) T.m_InvalidFamily__init T.ti_InvalidFamily__init (okx_InvalidFamily T) (hr.mono (by decide)) pass0 rfl T.g_InvalidFamily (pa_cons (pv 1) pa_nil)) (pa_cons (pe_exV (oexH_of T.x_InvalidUser) T.m_InvalidUser__init T.ti_InvalidUser__init (okx_InvalidUser T) (hr.mono (by decide)) pass0 rfl T.g_InvalidUser (pa_cons (pv 1) pa_nil)) pa_nil)))))))
      (pss_one (ps_ret (pe_op op_cat (pv 2) (pe_lst (pa_cons (pe_exV (oexH_of T.x_InvalidCommand) T.m_InvalidCommand__init T.ti_InvalidCommand__init (okx_InvalidCommand T) (hr.mono (by decide)) pass0 rfl T.g_InvalidCommand (pa_cons (pv 1) pa_nil)) (pa_cons (pe_exV (oexH_of T.x_Undefined) T.m_Undefined__init T.ti_Undefined__init (okx_Undefined T) (hr.mono (by decide)) pass0 rfl T.g_Undefined (pa_cons (pv 1) pa_nil)) pa_nil))))))) pss_nil)
      (pss_cons (ps_set (i := 2) sc_l_of_values.nd rfl (Or.inl rfl) (pe_lst (pa_cons (pe_exK (ks := ["value"]) (g := id) (gV := id) (oexH_of T.x_InvalidSize) T.m_InvalidSize__init T.ti_InvalidSize__init (okk_InvalidSize T F_InvalidSize) (hr.mono (by decide)) pass0 rfl T.g_InvalidSize (pk_cons (pv 1) pk_nil) (fun s v ws hl => match ws, hl with | [u], _ => B_InvalidSize s v u) (fun r => r)) (pa_cons (pe_exK (ks := ["value"]) (g := id) (gV := id) (oexH_of T.x_InvalidElement) T.m_InvalidElement__init T.ti_InvalidElement__init (okk_InvalidElement T F_InvalidElement) (hr.mono (by decide)) pass0 rfl T.g_InvalidElement (pk_cons (pv 1) pk_nil) (fun s v ws hl => match ws, hl with | [u], _ => B_InvalidElement s v u) (fun r => r)) (pa_cons (pe_exK (ks := ["value"]) (g := id) (gV := id) (oexH_of T.x_InvalidNumber) T.m_InvalidNumber__init T.ti_InvalidNumber__init (okk_InvalidNumber T F_InvalidNumber) (hr.mono (by decide)) pass0 rfl T.g_InvalidNumber (pk_cons (pv 1) pk_nil) (fun s v ws hl => match ws, hl with | [u], _ => B_InvalidNumber s v u) (fun r => r)) (pa_cons (pe_exK (ks := ["value"]) (g := id) (gV := id) (oexH_of T.x_InvalidFamily) T.m_InvalidFamily__init T.ti_InvalidFamily__init (okk_InvalidFamily T F_InvalidFamily) (hr.mono (by decide)) pass0 rfl T.g_InvalidFamily (pk_cons (pv 1) pk_nil) (fun s v ws hl => match ws, hl with | [u], _ => B_InvalidFamily s v u) (fun r => r)) pa_nil))))))
      (pss_one (ps_ret (pe_op op_cat (pv 2) (pe_lst (pa_cons (pe_exK (ks := ["value"]) (g := id) (gV := id) (oexH_of T.x_InvalidUser) T.m_InvalidUser__init T.ti_InvalidUser__init (okk_InvalidUser T F_InvalidUser) (hr.mono (by decide)) pass0 rfl T.g_InvalidUser (pk_cons (pv 1) pk_nil) (fun s v ws hl => match ws, hl with | [u], _ => B_InvalidUser s v u) (fun r => r)) (pa_cons (pe_exK (ks := ["value"]) (g := id) (gV := id) (oexH_of T.x_InvalidCommand) T.m_InvalidCommand__init T.ti_InvalidCommand__init (okk_InvalidCommand T F_InvalidCommand) (hr.mono (by decide)) pass0 rfl T.g_InvalidCommand (pk_cons (pv 1) pk_nil) (fun s v ws hl => match ws, hl with | [u], _ => B_InvalidCommand s v u) (fun r => r)) (pa_cons (pe_exK (ks := ["value"]) (g := id) (gV := id) (oexH_of T.x_Undefined) T.m_Undefined__init T.ti_Undefined__init (okk_Undefined T F_Undefined) (hr.mono (by decide)) pass0 rfl T.g_Undefined (pk_cons (pv 1) pk_nil) (fun s v ws hl => match ws, hl with | [u], _ => B_Undefined s v u) (fun r => r)) pa_nil))))))))), ?_⟩
    refine draw_R rfl (fun R r => r) hp (by decide) (by decide) fun r1 H1 r0 r9 hp1 o1 => ?_
    refine ⟨rfl, _, rfl, ifD (fun _ => ?_) (fun _ => ?_)⟩
    · dsimp only [tNext, tSeq, tAsg, tLst]
      refine mk_of (fs := ["value", "value", "value", "value", "value"]) (i := 0) (v := v) (p := p) (T := T) (makes_V rfl rfl (makes_V rfl rfl (makes_V rfl rfl (makes_V rfl rfl (makes_V rfl rfl makes_nil))))) hp1 fun es H2 s_H2 l2 => ?_
      refine ⟨(by rw [l2.len]; show 5 ≤ sizeLine; decide), ?_⟩
      refine fun lA n_lA => ?_
      generalize g_lA : L2.upd _ lA _ = H3
      obtain ⟨s_H3, e_lA⟩ := U.upd_facts g_lA n_lA
      clear g_lA
      dsimp only [gName, tRet, tOp, tVar, tLst]
      refine ⟨_, rfl, mk_of (fs := ["value", "value"]) (i := 5) (v := v) (p := p) (T := T) (makes_V rfl rfl (makes_V rfl rfl makes_nil)) (hp1.same (by array_mem_dec)) fun es' H4 s_H4 l4 => ?_⟩
      refine ⟨(by rw [l4.len]; show 2 ≤ sizeLine; decide), ?_⟩
      refine fun lB n_lB => ?_
      generalize g_lB : L2.upd _ lB _ = H5
      obtain ⟨s_H5, e_lB⟩ := U.upd_facts g_lB n_lB
      clear g_lB
      refine ⟨lA, lB, _, _, rfl, rfl, (by array_get_dec), (by array_get_dec), (by rw [l2.len, l4.len]; show 7 ≤ sizeLine; decide), ?_⟩
      refine fun lC n_lC => ?_
      generalize g_lC : L2.upd _ lC _ = H6
      obtain ⟨s_H6, e_lC⟩ := U.upd_facts g_lC n_lC
      clear g_lC
      exact q lC _ H6 (freeO o1 hp1 (by sizeOf_list_dec)) (by array_get_dec) (ErrL.append (l2.same (by array_mem_dec)) (l4.same (by array_mem_dec))) (hp1.same (by array_mem_dec)) (o1.tr (Off.ofS' (by array_mem_dec)))
    · dsimp only [tNext, tSeq, tAsg, tLst]
      refine mk_of (fs := ["value", "value", "value", "value"]) (i := 0) (v := v) (p := p) (T := T) (makes_K rfl rfl (makes_K rfl rfl (makes_K rfl rfl (makes_K rfl rfl makes_nil)))) hp1 fun es H2 s_H2 l2 => ?_
      refine ⟨(by rw [l2.len]; show 4 ≤ sizeLine; decide), ?_⟩
      refine fun lA n_lA => ?_
      generalize g_lA : L2.upd _ lA _ = H3
      obtain ⟨s_H3, e_lA⟩ := U.upd_facts g_lA n_lA
      clear g_lA
      dsimp only [gName, tRet, tOp, tVar, tLst]
      refine ⟨_, rfl, mk_of (fs := ["value", "value", "value"]) (i := 4) (v := v) (p := p) (T := T) (makes_K rfl rfl (makes_K rfl rfl (makes_K rfl rfl makes_nil))) (hp1.same (by array_mem_dec)) fun es' H4 s_H4 l4 => ?_⟩
      refine ⟨(by rw [l4.len]; show 3 ≤ sizeLine; decide), ?_⟩
      refine fun lB n_lB => ?_
      generalize g_lB : L2.upd _ lB _ = H5
      obtain ⟨s_H5, e_lB⟩ := U.upd_facts g_lB n_lB
      clear g_lB
      refine ⟨lA, lB, _, _, rfl, rfl, (by array_get_dec), (by array_get_dec), (by rw [l2.len, l4.len]; show 7 ≤ sizeLine; decide), ?_⟩
      refine fun lC n_lC => ?_
      generalize g_lC : L2.upd _ lC _ = H6
      obtain ⟨s_H6, e_lC⟩ := U.upd_facts g_lC n_lC
      clear g_lC
      exact q lC _ H6 (freeO o1 hp1 (by sizeOf_list_dec)) (by array_get_dec) (ErrL.append (l2.same (by array_mem_dec)) (l4.same (by array_mem_dec))) (hp1.same (by array_mem_dec)) (o1.tr (Off.ofS' (by array_mem_dec)))
theorem ok_others (T : Txt K mg) : FnR P w K mg base CX0 4 T.f_l_others (spVals T f11 7) := by
  refine T.A_l_others.ok sc_l_others (fun vs H Q E h => ?_) (fun cdv A outer s H vs Q E hr h => ?_)
  · obtain ⟨p, v, rfl, _⟩ := h
    rfl
  · obtain ⟨p, v, rfl, hp, q⟩ := h
    obtain ⟨fd_InvalidMap, F_InvalidMap, B_InvalidMap⟩ := T.KW_InvalidMap__init
    obtain ⟨fd_InvalidShape, F_InvalidShape, B_InvalidShape⟩ := T.KW_InvalidShape__init
    obtain ⟨fd_InvalidPartial, F_InvalidPartial, B_InvalidPartial⟩ := T.KW_InvalidPartial__init
    obtain ⟨fd_ParseError, F_ParseError, B_ParseError⟩ := T.KW_ParseError__init
    obtain ⟨fd_InvalidSteps, F_InvalidSteps, B_InvalidSteps⟩ := T.KW_InvalidSteps__init
    obtain ⟨fd_InvalidWord, F_InvalidWord, B_InvalidWord⟩ := T.KW_InvalidWord__init
    obtain ⟨fd_LimitExceeded, F_LimitExceeded, B_LimitExceeded⟩ := T.KW_LimitExceeded__init
    obtain ⟨fd_NotLast, F_NotLast, B_NotLast⟩ := T.KW_NotLast__init
    obtain ⟨fd_NothingToUndo, F_NothingToUndo, B_NothingToUndo⟩ := T.KW_NothingToUndo__init
    obtain ⟨fd_TooFew, F_TooFew, B_TooFew⟩ := T.KW_TooFew__init
    obtain ⟨fd_UnknownName, F_UnknownName, B_UnknownName⟩ := T.KW_UnknownName__init
    refine ⟨_, (pss_cons (ps_if (pt_cmpR op_eq (pe_callR (ok_draw T) (hr.mono (by decide)) T.A_l_draw.kp rfl T.g_l_draw pass0 (pa_cons (pv 0) (pa_cons pe_int pa_nil))) pe_int (nomark _))
        (pss_cons (ps_set (i := 2) sc_l_others.nd rfl (Or.inl rfl) (pe_lst (pa_cons (pe_exV (oexH_of T.x_InvalidMap) T.m_InvalidMap__init T.ti_InvalidMap__init (okx_InvalidMap T) (hr.mono (by decide)) pass0 rfl T.g_InvalidMap (pa_cons (pv 1) pa_nil)) (pa_cons (pe_exV (oexH_of T.x_InvalidShape) T.m_InvalidShape__init T.ti_InvalidShape__init (okx_InvalidShape T) (hr.mono (by decide)) pass0 rfl T.g_InvalidShape (pa_cons (pv 1) pa_nil)) (pa_cons (pe_exV (oexH_of T.x_InvalidPartial) T.m_InvalidPartial__init T.ti_InvalidPartial__init (okx_InvalidPartial T) (hr.mono (by decide)) pass0 rfl T.g_InvalidPartial (pa_cons (pv 1) pa_nil)) (pa_cons (pe_exV (oexH_of T.x_ParseError) T.m_ParseError__init T.ti_ParseError__init (okx_ParseError T) (hr.mono (by decide)) pass0 rfl T.g_ParseError (pa_cons (pv 1) pa_nil)) (pa_cons (pe_exV (oexH_of T.x_InvalidSteps) T.m_InvalidSteps__init T.ti_InvalidSteps__init (okx_InvalidSteps T) (hr.mono (by decide)) pass0 rfl T.g_InvalidSteps (pa_cons (pv 1) pa_nil)) pa_nil)))))))
      (pss_cons (ps_set (i := 2) sc_l_others.nd rfl (Or.inl rfl) (pe_op op_cat (pv 2) (pe_lst (pa_cons (pe_exV (oexH_of T.x_InvalidWord) T.m_InvalidWord__init T.ti_InvalidWord__init (okx_InvalidWord T) (hr.mono (by decide)) pass0 rfl T.g_InvalidWord (pa_cons (pv 1) pa_nil)) (pa_cons (pe_exV (oexH_of T.x_LimitExceeded) T.m_LimitExceeded__init T.ti_LimitExceeded__init (okx_LimitExceeded T) (hr.mono (by decide)) pass0 rfl T.g_LimitExceeded (pa_cons (pv 1) pa_nil)) (pa_cons (pe_exV (oexH_of T.x_NotLast) T.m_NotLast__init T.ti_NotLast__init (okx_NotLast T) (hr.mono (by decide)) pass0 rfl T.g_NotLast (pa_cons (pv 1) pa_nil)) (pa_cons (pe_exV (oexH_of T.x_NothingToUndo) T.m_NothingToUndo__init T.ti_NothingToUndo__init (okx_NothingToUndo T) (hr.mono (by decide)) pass0 rfl T.g_NothingToUndo (pa_cons (pv 1) pa_nil)) (pa_cons (pe_exV (oexH_of T.x_TooFew) T.m_TooFew__init T.ti_TooFew__init (okx_TooFew T) (hr.mono (by decide)) pass0 rfl T.g_TooFew (pa_cons (pv 1) pa_nil)) pa_nil))))))))
      (pss_one (ps_ret (pe_op op_cat (pv 2) (pe_lst (pa_cons (pe_exV (T.x_UnknownName) T.m_UnknownName__init T.ti_UnknownName__init (okx_UnknownName T) (hr.mono (by decide)) pass0 rfl T.g_UnknownName (pa_cons (pv 1) pa_nil)) pa_nil))))))) pss_nil)
      (pss_cons (ps_set (i := 2) sc_l_others.nd rfl (Or.inl rfl) (pe_lst (pa_cons (pe_exK (ks := ["part"]) (g := id) (gV := id) (oexH_of T.x_InvalidMap) T.m_InvalidMap__init T.ti_InvalidMap__init (okk_InvalidMap T F_InvalidMap) (hr.mono (by decide)) pass0 rfl T.g_InvalidMap (pk_cons (pv 1) pk_nil) (fun s v ws hl => match ws, hl with | [u], _ => B_InvalidMap s v u) (fun r => r)) (pa_cons (pe_exK (ks := ["part"]) (g := id) (gV := id) (oexH_of T.x_InvalidShape) T.m_InvalidShape__init T.ti_InvalidShape__init (okk_InvalidShape T F_InvalidShape) (hr.mono (by decide)) pass0 rfl T.g_InvalidShape (pk_cons (pv 1) pk_nil) (fun s v ws hl => match ws, hl with | [u], _ => B_InvalidShape s v u) (fun r => r)) (pa_cons (pe_exK (ks := ["part"]) (g := id) (gV := id) (oexH_of T.x_InvalidPartial) T.m_InvalidPartial__init T.ti_InvalidPartial__init (okk_InvalidPartial T F_InvalidPartial) (hr.mono (by decide)) pass0 rfl T.g_InvalidPartial (pk_cons (pv 1) pk_nil) (fun s v ws hl => match ws, hl with | [u], _ => B_InvalidPartial s v u) (fun r => r)) (pa_cons (pe_exK (ks := ["part"]) (g := id) (gV := id) (oexH_of T.x_ParseError) T.m_ParseError__init T.ti_ParseError__init (okk_ParseError T F_ParseError) (hr.mono (by decide)) pass0 rfl T.g_ParseError (pk_cons (pv 1) pk_nil) (fun s v ws hl => match ws, hl with | [u], _ => B_ParseError s v u) (fun r => r)) pa_nil))))))
      (pss_cons (ps_set (i := 2) sc_l_others.nd rfl (Or.inl rfl) (pe_op op_cat (pv 2) (pe_lst (pa_cons (pe_exK (ks := ["position"]) (g := id) (gV := id) (oexH_of T.x_InvalidSteps) T.m_InvalidSteps__init T.ti_InvalidSteps__init (okk_InvalidSteps T F_InvalidSteps) (hr.mono (by decide)) pass0 rfl T.g_InvalidSteps (pk_cons (pv 1) pk_nil) (fun s v ws hl => match ws, hl with | [u], _ => B_InvalidSteps s v u) (fun r => r)) (pa_cons (pe_exK (ks := ["position"]) (g := id) (gV := id) (oexH_of T.x_InvalidWord) T.m_InvalidWord__init T.ti_InvalidWord__init (okk_InvalidWord T F_InvalidWord) (hr.mono (by decide)) pass0 rfl T.g_InvalidWord (pk_cons (pv 1) pk_nil) (fun s v ws hl => match ws, hl with | [u], _ => B_InvalidWord s v u) (fun r => r)) (pa_cons (pe_exK (ks := ["limit"]) (g := id) (gV := id) (oexH_of T.x_LimitExceeded) T.m_LimitExceeded__init T.ti_LimitExceeded__init (okk_LimitExceeded T F_LimitExceeded) (hr.mono (by decide)) pass0 rfl T.g_LimitExceeded (pk_cons (pv 1) pk_nil) (fun s v ws hl => match ws, hl with | [u], _ => B_LimitExceeded s v u) (fun r => r)) pa_nil))))))
      (pss_cons (ps_set (i := 2) sc_l_others.nd rfl (Or.inl rfl) (pe_op op_cat (pv 2) (pe_lst (pa_cons (pe_exK (ks := ["user"]) (g := id) (gV := id) (oexH_of T.x_NotLast) T.m_NotLast__init T.ti_NotLast__init (okk_NotLast T F_NotLast) (hr.mono (by decide)) pass0 rfl T.g_NotLast (pk_cons (pv 1) pk_nil) (fun s v ws hl => match ws, hl with | [u], _ => B_NotLast s v u) (fun r => r)) (pa_cons (pe_exK (ks := ["user"]) (g := id) (gV := id) (oexH_of T.x_NothingToUndo) T.m_NothingToUndo__init T.ti_NothingToUndo__init (okk_NothingToUndo T F_NothingToUndo) (hr.mono (by decide)) pass0 rfl T.g_NothingToUndo (pk_cons (pv 1) pk_nil) (fun s v ws hl => match ws, hl with | [u], _ => B_NothingToUndo s v u) (fun r => r)) (pa_cons (pe_exK (ks := ["number"]) (g := id) (gV := id) (oexH_of T.x_TooFew) T.m_TooFew__init T.ti_TooFew__init (okk_TooFew T F_TooFew) (hr.mono (by decide)) pass0 rfl T.g_TooFew (pk_cons (pv 1) pk_nil) (fun s v ws hl => match ws, hl with | [u], _ => B_TooFew s v u) (fun r => r)) pa_nil))))))
      (pss_one (ps_ret (pe_op op_cat (pv 2) (pe_lst (pa_cons (pe_exK (ks := ["name"]) (g := id) (gV := id) (T.x_UnknownName) T.m_UnknownName__init T.ti_UnknownName__init (okk_UnknownName T F_UnknownName) (hr.mono (by decide)) pass0 rfl T.g_UnknownName (pk_cons (pv 1) pk_nil) (fun s v ws hl => match ws, hl with | [u], _ => B_UnknownName s v u) (fun r => r)) pa_nil))))))))), ?_⟩
    refine draw_R rfl (fun R r => r) hp (by decide) (by decide) fun r1 H1 r0 r9 hp1 o1 => ?_
    refine ⟨rfl, _, rfl, ifD (fun _ => ?_) (fun _ => ?_)⟩
    · dsimp only [tNext, tSeq, tAsg, tLst]
      refine mk_of (fs := ["part", "part", "part", "part", "position"]) (i := 7) (v := v) (p := p) (T := T) (makes_V rfl rfl (makes_V rfl rfl (makes_V rfl rfl (makes_V rfl rfl (makes_V rfl rfl makes_nil))))) hp1 fun es0 HA0 s_HA0 l0 => ?_
      refine ⟨(by rw [l0.len]; show 5 ≤ sizeLine; decide), ?_⟩
      refine fun lA n_lA => ?_
      generalize g_lA : L2.upd _ lA _ = HC0
      obtain ⟨s_HC0, e_lA⟩ := U.upd_facts g_lA n_lA
      clear g_lA
      dsimp only [gName, tRet, tOp, tVar, tLst]
      have m0 : ErrL T HC0 p v ["part", "part", "part", "part", "position"] 7 es0 := l0.same (by array_mem_dec)
      refine ⟨_, rfl, mk_of (fs := ["position", "limit", "user", "user", "number"]) (i := 12) (v := v) (p := p) (T := T) (makes_V rfl rfl (makes_V rfl rfl (makes_V rfl rfl (makes_V rfl rfl (makes_V rfl rfl makes_nil))))) (hp1.same (by array_mem_dec)) fun es1 HA1 s_HA1 l1 => ?_⟩
      refine ⟨(by rw [l1.len]; show 5 ≤ sizeLine; decide), ?_⟩
      refine fun lB1 n_lB1 => ?_
      generalize g_lB1 : L2.upd _ lB1 _ = HB1
      obtain ⟨s_HB1, e_lB1⟩ := U.upd_facts g_lB1 n_lB1
      clear g_lB1
      refine ⟨lA, lB1, _, _, rfl, rfl, (by array_get_dec), (by array_get_dec), (by rw [m0.len, l1.len]; show 10 ≤ sizeLine; decide), ?_⟩
      refine fun lC1 n_lC1 => ?_
      generalize g_lC1 : L2.upd _ lC1 _ = HC1
      obtain ⟨s_HC1, e_lC1⟩ := U.upd_facts g_lC1 n_lC1
      clear g_lC1
      have m1 : ErrL T HC1 p v ["part", "part", "part", "part", "position", "position", "limit", "user", "user", "number"] 7 _ := ErrL.append (m0.same (by array_mem_dec)) (l1.same (by array_mem_dec))
      refine ⟨_, rfl, mk_of (fs := ["name"]) (i := 17) (v := v) (p := p) (T := T) (makes_V rfl rfl makes_nil) (hp1.same (by array_mem_dec)) fun es2 HA2 s_HA2 l2 => ?_⟩
      refine ⟨(by rw [l2.len]; show 1 ≤ sizeLine; decide), ?_⟩
      refine fun lB2 n_lB2 => ?_
      generalize g_lB2 : L2.upd _ lB2 _ = HB2
      obtain ⟨s_HB2, e_lB2⟩ := U.upd_facts g_lB2 n_lB2
      clear g_lB2
      refine ⟨lC1, lB2, _, _, rfl, rfl, (by array_get_dec), (by array_get_dec), (by rw [m1.len, l2.len]; show 11 ≤ sizeLine; decide), ?_⟩
      refine fun lC2 n_lC2 => ?_
      generalize g_lC2 : L2.upd _ lC2 _ = HC2
      obtain ⟨s_HC2, e_lC2⟩ := U.upd_facts g_lC2 n_lC2
      clear g_lC2
      have m2 : ErrL T HC2 p v ["part", "part", "part", "part", "position", "position", "limit", "user", "user", "number", "name"] 7 _ := ErrL.append (m1.same (by array_mem_dec)) (l2.same (by array_mem_dec))
      exact q lC2 _ HC2 (freeO o1 hp1 (by sizeOf_list_dec)) (by array_get_dec) m2 (hp1.same (by array_mem_dec)) (o1.tr (Off.ofS' (by array_mem_dec)))
    · dsimp only [tNext, tSeq, tAsg, tLst]
      refine mk_of (fs := ["part", "part", "part", "part"]) (i := 7) (v := v) (p := p) (T := T) (makes_K rfl rfl (makes_K rfl rfl (makes_K rfl rfl (makes_K rfl rfl makes_nil)))) hp1 fun es0 HA0 s_HA0 l0 => ?_
      refine ⟨(by rw [l0.len]; show 4 ≤ sizeLine; decide), ?_⟩
      refine fun lA n_lA => ?_
      generalize g_lA : L2.upd _ lA _ = HC0
      obtain ⟨s_HC0, e_lA⟩ := U.upd_facts g_lA n_lA
      clear g_lA
      dsimp only [gName, tRet, tOp, tVar, tLst]
      have m0 : ErrL T HC0 p v ["part", "part", "part", "part"] 7 es0 := l0.same (by array_mem_dec)
      refine ⟨_, rfl, mk_of (fs := ["position", "position", "limit"]) (i := 11) (v := v) (p := p) (T := T) (makes_K rfl rfl (makes_K rfl rfl (makes_K rfl rfl makes_nil))) (hp1.same (by array_mem_dec)) fun es1 HA1 s_HA1 l1 => ?_⟩
      refine ⟨(by rw [l1.len]; show 3 ≤ sizeLine; decide), ?_⟩
      refine fun lB1 n_lB1 => ?_
      generalize g_lB1 : L2.upd _ lB1 _ = HB1
      obtain ⟨s_HB1, e_lB1⟩ := U.upd_facts g_lB1 n_lB1
      clear g_lB1
      refine ⟨lA, lB1, _, _, rfl, rfl, (by array_get_dec), (by array_get_dec), (by rw [m0.len, l1.len]; show 7 ≤ sizeLine; decide), ?_⟩
      refine fun lC1 n_lC1 => ?_
      generalize g_lC1 : L2.upd _ lC1 _ = HC1
      obtain ⟨s_HC1, e_lC1⟩ := U.upd_facts g_lC1 n_lC1
      clear g_lC1
      have m1 : ErrL T HC1 p v ["part", "part", "part", "part", "position", "position", "limit"] 7 _ := ErrL.append (m0.same (by array_mem_dec)) (l1.same (by array_mem_dec))
      refine ⟨_, rfl, mk_of (fs := ["user", "user", "number"]) (i := 14) (v := v) (p := p) (T := T) (makes_K rfl rfl (makes_K rfl rfl (makes_K rfl rfl makes_nil))) (hp1.same (by array_mem_dec)) fun es2 HA2 s_HA2 l2 => ?_⟩
      refine ⟨(by rw [l2.len]; show 3 ≤ sizeLine; decide), ?_⟩
      refine fun lB2 n_lB2 => ?_
      generalize g_lB2 : L2.upd _ lB2 _ = HB2
      obtain ⟨s_HB2, e_lB2⟩ := U.upd_facts g_lB2 n_lB2
      clear g_lB2
      refine ⟨lC1, lB2, _, _, rfl, rfl, (by array_get_dec), (by array_get_dec), (by rw [m1.len, l2.len]; show 10 ≤ sizeLine; decide), ?_⟩
      refine fun lC2 n_lC2 => ?_
      generalize g_lC2 : L2.upd _ lC2 _ = HC2
      obtain ⟨s_HC2, e_lC2⟩ := U.upd_facts g_lC2 n_lC2
      clear g_lC2
      have m2 : ErrL T HC2 p v ["part", "part", "part", "part", "position", "position", "limit", "user", "user", "number"] 7 _ := ErrL.append (m1.same (by array_mem_dec)) (l2.same (by array_mem_dec))
      refine ⟨_, rfl, mk_of (fs := ["name"]) (i := 17) (v := v) (p := p) (T := T) (makes_K rfl rfl makes_nil) (hp1.same (by array_mem_dec)) fun es3 HA3 s_HA3 l3 => ?_⟩
      refine ⟨(by rw [l3.len]; show 1 ≤ sizeLine; decide), ?_⟩
      refine fun lB3 n_lB3 => ?_
      generalize g_lB3 : L2.upd _ lB3 _ = HB3
      obtain ⟨s_HB3, e_lB3⟩ := U.upd_facts g_lB3 n_lB3
      clear g_lB3
      refine ⟨lC2, lB3, _, _, rfl, rfl, (by array_get_dec), (by array_get_dec), (by rw [m2.len, l3.len]; show 11 ≤ sizeLine; decide), ?_⟩
      refine fun lC3 n_lC3 => ?_
      generalize g_lC3 : L2.upd _ lC3 _ = HC3
      obtain ⟨s_HC3, e_lC3⟩ := U.upd_facts g_lC3 n_lC3
      clear g_lC3
      have m3 : ErrL T HC3 p v ["part", "part", "part", "part", "position", "position", "limit", "user", "user", "number", "name"] 7 _ := ErrL.append (m2.same (by array_mem_dec)) (l3.same (by array_mem_dec))
      exact q lC3 _ HC3 (freeO o1 hp1 (by sizeOf_list_dec)) (by array_get_dec) m3 (hp1.same (by array_mem_dec)) (o1.tr (Off.ofS' (by array_mem_dec)))
end
end My
namespace My
open PySem L2 U StX PM
section
variable {P : Program} {w : World} {K : PySem.W.Frag} {mg : Str → Option Value} {base : Heap}
def fld : Nat → Str
  | 0 | 1 | 2 | 3 | 4 | 5 | 6 => "value" | 7 | 8 | 9 | 10 => "part" | 11 | 12 => "position" | 13 => "limit" | 14 | 15 => "user" | 16 => "number" | 17 => "name" | _ => "first"
theorem exc_at (T : Txt K mg) {C : Addr} : ∀ {i : Nat}, (Cls T)[i]? = some C → ExcC K C
  | 0, h => by cases h; exact T.xe_InvalidSize
  | 1, h => by cases h; exact T.xe_InvalidElement
  | 2, h => by cases h; exact T.xe_InvalidNumber
  | 3, h => by cases h; exact T.xe_InvalidFamily
  | 4, h => by cases h; exact T.xe_InvalidUser
  | 5, h => by cases h; exact T.xe_InvalidCommand
  | 6, h => by cases h; exact T.xe_Undefined
  | 7, h => by cases h; exact T.xe_InvalidMap
  | 8, h => by cases h; exact T.xe_InvalidShape
  | 9, h => by cases h; exact T.xe_InvalidPartial
  | 10, h => by cases h; exact T.xe_ParseError
  | 11, h => by cases h; exact T.xe_InvalidSteps
  | 12, h => by cases h; exact T.xe_InvalidWord
  | 13, h => by cases h; exact T.xe_LimitExceeded
  | 14, h => by cases h; exact T.xe_NotLast
  | 15, h => by cases h; exact T.xe_NothingToUndo
  | 16, h => by cases h; exact T.xe_TooFew
  | 17, h => by cases h; exact T.xe_UnknownName
  | 18, h => by cases h; exact T.xe_SizeMismatch
  | 19, h => by cases h; exact T.xe_Clash
  | n + 20, h => by cases h
theorem xf_at (T : Txt K mg) {C : Addr} : ∀ {i : Nat}, (Cls T)[i]? = some C → XfC K C
  | 0, h => by cases h; exact T.xf_InvalidSize
  | 1, h => by cases h; exact T.xf_InvalidElement
  | 2, h => by cases h; exact T.xf_InvalidNumber
  | 3, h => by cases h; exact T.xf_InvalidFamily
  | 4, h => by cases h; exact T.xf_InvalidUser
  | 5, h => by cases h; exact T.xf_InvalidCommand
  | 6, h => by cases h; exact T.xf_Undefined
  | 7, h => by cases h; exact T.xf_InvalidMap
  | 8, h => by cases h; exact T.xf_InvalidShape
  | 9, h => by cases h; exact T.xf_InvalidPartial
  | 10, h => by cases h; exact T.xf_ParseError
  | 11, h => by cases h; exact T.xf_InvalidSteps
  | 12, h => by cases h; exact T.xf_InvalidWord
  | 13, h => by cases h; exact T.xf_LimitExceeded
  | 14, h => by cases h; exact T.xf_NotLast
  | 15, h => by cases h; exact T.xf_NothingToUndo
  | 16, h => by cases h; exact T.xf_TooFew
  | 17, h => by cases h; exact T.xf_UnknownName
  | 18, h => by cases h; exact T.xf_SizeMismatch
  | 19, h => by cases h; exact T.xf_Clash
  | n + 20, h => by cases h
theorem na_at (T : Txt K mg) {C : Addr} : ∀ {i : Nat}, (Cls T)[i]? = some C → PySem.W.findIn K (.ref C) (fld i) = some none
  | 0, h => by cases h; exact T.na_value_InvalidSize
  | 1, h => by cases h; exact T.na_value_InvalidElement
  | 2, h => by cases h; exact T.na_value_InvalidNumber
  | 3, h => by cases h; exact T.na_value_InvalidFamily
  | 4, h => by cases h; exact T.na_value_InvalidUser
  | 5, h => by cases h; exact T.na_value_InvalidCommand
  | 6, h => by cases h; exact T.na_value_Undefined
  | 7, h => by cases h; exact T.na_part_InvalidMap
  | 8, h => by cases h; exact T.na_part_InvalidShape
  | 9, h => by cases h; exact T.na_part_InvalidPartial
  | 10, h => by cases h; exact T.na_part_ParseError
  | 11, h => by cases h; exact T.na_position_InvalidSteps
  | 12, h => by cases h; exact T.na_position_InvalidWord
  | 13, h => by cases h; exact T.na_limit_LimitExceeded
  | 14, h => by cases h; exact T.na_user_NotLast
  | 15, h => by cases h; exact T.na_user_NothingToUndo
  | 16, h => by cases h; exact T.na_number_TooFew
  | 17, h => by cases h; exact T.na_name_UnknownName
  | 18, h => by cases h; exact T.na_first_SizeMismatch
  | 19, h => by cases h; exact T.na_first_Clash
  | n + 20, h => by cases h
def spAb (T : Txt K mg) : Sp := fun vs H Q _ => ∃ (a C : Addr) (i : Nat) (fs : List (Str × V)), vs = [.ref a] ∧ (Cls T)[i]? = some C ∧ ExA H a C fs ∧ ∀ l H', H l = none → Same H H' → H' l = some (.lst ((baseRow i).map V.bl)) → Q (.ref l) H'
def spMk (T : Txt K mg) : Sp := fun vs H Q _ => ∃ (a C : Addr) (i : Nat) (fs : List (Str × V)), vs = [.ref a] ∧ (Cls T)[i]? = some C ∧ ExA H a C fs ∧ ∀ l H', H l = none → Same H H' → H' l = some (.lst ((List.range 20).map fun j => V.bl (i == j))) → Q (.ref l) H'
def spBs : Sp := fun vs H Q _ => ∃ i : Nat, vs = [.int i] ∧ i < 20 ∧ ∀ l H', H l = none → Same H H' → H' l = some (.lst ((baseRow i).map V.bl)) → Q (.ref l) H'
theorem inV_ints (x : Int) (l : List Int) : inV (.int x) (l.map V.int) = decide (x ∈ l) := by
  unfold inV
  rw [Bool.eq_iff_iff, List.any_eq_true, decide_eq_true_eq]
  constructor
  · rintro ⟨v, hv, e⟩
    obtain ⟨y, hy, rfl⟩ := List.mem_map.mp hv
    have : y = x := by simpa [eqV] using e
    exact this ▸ hy
  · intro h
    exact ⟨.int x, List.mem_map.mpr ⟨x, h, rfl⟩, by simp [eqV]⟩
theorem is_b {σ : L2.St} {H : Hp} {Q : VK} {j : Nat} {a C : Addr} {fs : List (Str × V)} {c : V} {u : Value} {b : Bool} (hi : σ[j]? = some (some (.ref a))) (hx : ExA H a C fs) (hc : ExcC K C) (k : ClsV c u) (e : PySem.W.kitOne K (.ref C) u = some b) (q : Q (.bl b) H) : tCB (rIsX K) (tCons (tVar j) (tCons (tC c) tNil)) σ H Q := ⟨_, hi, a, C, c, u, b, fs, rfl, k, hc, hx, e, q⟩
def IsA (σ : L2.St) (a C : Addr) (fs : List (Str × V)) (bs : List Bool) (ta : TA) : Prop := ∀ (H : Hp) (R : List V → Hp → Prop), ExA H a C fs → R (bs.map V.bl) H → ta σ H R
theorem isa_nil {σ : L2.St} {a C : Addr} {fs : List (Str × V)} : IsA σ a C fs [] tNil := fun _ _ _ k => k
theorem isa_A {σ : L2.St} {a C D : Addr} {fs : List (Str × V)} {bs : List Bool} {ta : TA} {i j : Nat} {T : Txt K mg} (hi : σ[0]? = some (some (.ref a))) (hC : (Cls T)[i]? = some C) (hD : (Cls T)[j]? = some D) (h : IsA σ a C fs bs ta) : IsA σ a C fs ((i == j) :: bs) (tCons (tCB (rIsX K) (tCons (tVar 0) (tCons (tC (.ref D)) tNil))) ta) :=
  fun H R hx k => is_b hi hx (exc_at T hC) (.own D) (tabA_at T.kit_tabA hC hD) (h H _ hx k)
theorem isa_B {σ : L2.St} {a C : Addr} {fs : List (Str × V)} {bs : List Bool} {ta : TA} {i : Nat} {T : Txt K mg} (j : Nat) (hi : σ[0]? = some (some (.ref a))) (hC : (Cls T)[i]? = some C) (hj : j < 6) (h : IsA σ a C fs bs ta) : IsA σ a C fs ((baseRow i).getD j false :: bs) (tCons (tCB (rIsX K) (tCons (tVar 0) (tCons (tC (.ty (bNames.getD j ""))) tNil))) ta) :=
  fun H R hx k => is_b hi hx (exc_at T hC) (.ty _) (tabB_at T.kit_tabB hC hj) (h H _ hx k)
theorem isa_of {σ : L2.St} {a C : Addr} {fs : List (Str × V)} {bs : List Bool} {ta : TA} {H : Hp} {R : List V → Hp → Prop} (m : IsA σ a C fs bs ta) (hx : ExA H a C fs) (k : R (bs.map V.bl) H) : ta σ H R := m H R hx k
theorem row_map (i : Nat) : [(baseRow i).getD 0 false, (baseRow i).getD 1 false, (baseRow i).getD 2 false, (baseRow i).getD 3 false, (baseRow i).getD 4 false, (baseRow i).getD 5 false].map V.bl = (baseRow i).map V.bl := by
  unfold baseRow
  (repeat' split) <;> rfl
set_option pp.maxSteps 3000 in
theorem ok_above (T : Txt K mg) : FnR P w K mg base CX0 3 T.f_l_above (spAb T) := by
  refine T.A_l_above.ok sc_l_above (fun vs H Q E h => ?_) (fun cdv A outer s H vs Q E hr h => ?_)
  · obtain ⟨a, C, i, fs, rfl, _⟩ := h
    rfl
  · obtain ⟨a, C, i, fs, rfl, hC, hx, q⟩ := h
    refine ⟨_, (pss_cons (ps_set (i := 1) sc_l_above.nd rfl (Or.inl rfl) (pe_lst (pa_cons (pe_callB call_isX (by rfl) T.n_isinstance (by decide +kernel) (pa_cons (pv 0) (pa_cons (pe_bltn (v := .ty "ValueError") (u := .type "ValueError") (by rfl) T.n_ValueError (by decide +kernel) rfl) pa_nil))) (pa_cons (pe_callB call_isX (by rfl) T.n_isinstance (by decide +kernel) (pa_cons (pv 0) (pa_cons (pe_bltn (v := .ty "RuntimeError") (u := .type "RuntimeError") (by rfl) T.n_RuntimeError (by decide +kernel) rfl) pa_nil))) (pa_cons (pe_callB call_isX (by rfl) T.n_isinstance (by decide +kernel) (pa_cons (pv 0) (pa_cons (pe_bltn (v := .ty "OverflowError") (u := .type "OverflowError") (by rfl) T.n_OverflowError (by decide +kernel) rfl) pa_nil))) pa_nil)))))
      (pss_one (ps_ret (pe_op op_cat (pv 1) (pe_lst (pa_cons (pe_callB call_isX (by rfl) T.n_isinstance (by decide +kernel) (pa_cons (pv 0) (pa_cons (pe_bltn (v := .ty "LookupError") (u := .type "LookupError") (by rfl) T.n_LookupError (by decide +kernel) rfl) pa_nil))) (pa_cons (pe_callB call_isX (by rfl) T.n_isinstance (by decide +kernel) (pa_cons (pv 0) (pa_cons (pe_bltn (v := .ty "KeyError") (u := .type "KeyError") (by rfl) T.n_KeyError (by decide +kernel) rfl) pa_nil))) (pa_cons (pe_callB call_isX (by rfl) T.n_isinstance (by decide +kernel) (pa_cons (pv 0) (pa_cons (pe_bltn (v := .ty "ArithmeticError") (u := .type "ArithmeticError") (by rfl) T.n_ArithmeticError (by decide +kernel) rfl) pa_nil))) pa_nil)))))))), ?_⟩
    dsimp only [tSeq, tAsg, tLst]
    refine isa_of (isa_B (j := 0) rfl hC (by decide) (isa_B (j := 1) rfl hC (by decide) (isa_B (j := 2) rfl hC (by decide) isa_nil))) hx ?_
    refine ⟨(by show 3 ≤ sizeLine; decide), ?_⟩
    refine fun l1 n_l1 => ?_
    generalize g_l1 : L2.upd _ l1 _ = H1
    obtain ⟨s_H1, e_l1⟩ := U.upd_facts g_l1 n_l1
    clear g_l1
    dsimp only [gName, tRet, tOp, tVar, tLst]
    refine ⟨_, rfl, isa_of (isa_B (j := 3) rfl hC (by decide) (isa_B (j := 4) rfl hC (by decide) (isa_B (j := 5) rfl hC (by decide) isa_nil))) (hx.same s_H1) ?_⟩
    refine ⟨(by show 3 ≤ sizeLine; decide), ?_⟩
    refine fun l2 n_l2 => ?_
    generalize g_l2 : L2.upd _ l2 _ = H2
    obtain ⟨s_H2, e_l2⟩ := U.upd_facts g_l2 n_l2
    clear g_l2
    refine ⟨l1, l2, _, _, rfl, rfl, (by array_get_dec), (by array_get_dec), (by show 6 ≤ sizeLine; decide), ?_⟩
    refine fun l3 n_l3 => ?_
    generalize g_l3 : L2.upd _ l3 _ = H3
    obtain ⟨s_H3, e_l3⟩ := U.upd_facts g_l3 n_l3
    clear g_l3
    exact q l3 H3 (by sizeOf_list_dec) (by array_mem_dec) (e_l3.trans (congrArg (fun l => some (HO.lst l)) (row_map i)))
set_option pp.maxSteps 3000 in
theorem ok_marks (T : Txt K mg) : FnR P w K mg base CX0 3 T.f_l_marks (spMk T) := by
  refine T.A_l_marks.ok sc_l_marks (fun vs H Q E h => ?_) (fun cdv A outer s H vs Q E hr h => ?_)
  · obtain ⟨a, C, i, fs, rfl, _⟩ := h
    rfl
  · obtain ⟨a, C, i, fs, rfl, hC, hx, q⟩ := h
    refine ⟨_, (pss_cons (ps_set (i := 1) sc_l_marks.nd rfl (Or.inl rfl) (pe_lst (pa_cons (pe_callB call_isX (by rfl) T.n_isinstance (by decide +kernel) (pa_cons (pv 0) (pa_cons (pe_glob (v := .ref T.C_InvalidSize) rfl T.g_InvalidSize rfl) pa_nil))) (pa_cons (pe_callB call_isX (by rfl) T.n_isinstance (by decide +kernel) (pa_cons (pv 0) (pa_cons (pe_glob (v := .ref T.C_InvalidElement) rfl T.g_InvalidElement rfl) pa_nil))) (pa_cons (pe_callB call_isX (by rfl) T.n_isinstance (by decide +kernel) (pa_cons (pv 0) (pa_cons (pe_glob (v := .ref T.C_InvalidNumber) rfl T.g_InvalidNumber rfl) pa_nil))) pa_nil)))))
      (pss_cons (ps_set (i := 1) sc_l_marks.nd rfl (Or.inl rfl) (pe_op op_cat (pv 1) (pe_lst (pa_cons (pe_callB call_isX (by rfl) T.n_isinstance (by decide +kernel) (pa_cons (pv 0) (pa_cons (pe_glob (v := .ref T.C_InvalidFamily) rfl T.g_InvalidFamily rfl) pa_nil))) (pa_cons (pe_callB call_isX (by rfl) T.n_isinstance (by decide +kernel) (pa_cons (pv 0) (pa_cons (pe_glob (v := .ref T.C_InvalidUser) rfl T.g_InvalidUser rfl) pa_nil))) (pa_cons (pe_callB call_isX (by rfl) T.n_isinstance (by decide +kernel) (pa_cons (pv 0) (pa_cons (pe_glob (v := .ref T.C_InvalidCommand) rfl T.g_InvalidCommand rfl) pa_nil))) pa_nil))))))
      (pss_cons (ps_set (i := 1) sc_l_marks.nd rfl (Or.inl rfl) (pe_op op_cat (pv 1) (pe_lst (pa_cons (pe_callB call_isX (by rfl) T.n_isinstance (by decide +kernel) (pa_cons (pv 0) (pa_cons (pe_glob (v := .ref T.C_Undefined) rfl T.g_Undefined rfl) pa_nil))) (pa_cons (pe_callB call_isX (by rfl) T.n_isinstance (by decide +kernel) (pa_cons (pv 0) (pa_cons (pe_glob (v := .ref T.C_InvalidMap) rfl T.g_InvalidMap rfl) pa_nil))) (pa_cons (pe_callB call_isX (by rfl) T.n_isinstance (by decide +kernel) (pa_cons (pv 0) (pa_cons (pe_glob (v := .ref T.C_InvalidShape) rfl T.g_InvalidShape rfl) pa_nil))) pa_nil))))))
      (pss_cons (ps_set (i := 1) sc_l_marks.nd rfl (Or.inl rfl) (pe_op op_cat (pv 1) (pe_lst (pa_cons (pe_callB call_isX (by rfl) T.n_isinstance (by decide +kernel) (pa_cons (pv 0) (pa_cons (pe_glob (v := .ref T.C_InvalidPartial) rfl T.g_InvalidPartial rfl) pa_nil))) (pa_cons (pe_callB call_isX (by rfl) T.n_isinstance (by decide +kernel) (pa_cons (pv 0) (pa_cons (pe_glob (v := .ref T.C_ParseError) rfl T.g_ParseError rfl) pa_nil))) (pa_cons (pe_callB call_isX (by rfl) T.n_isinstance (by decide +kernel) (pa_cons (pv 0) (pa_cons (pe_glob (v := .ref T.C_InvalidSteps) rfl T.g_InvalidSteps rfl) pa_nil))) pa_nil))))))
      (pss_cons (ps_set (i := 1) sc_l_marks.nd rfl (Or.inl rfl) (pe_op op_cat (pv 1) (pe_lst (pa_cons (pe_callB call_isX (by rfl) T.n_isinstance (by decide +kernel) (pa_cons (pv 0) (pa_cons (pe_glob (v := .ref T.C_InvalidWord) rfl T.g_InvalidWord rfl) pa_nil))) (pa_cons (pe_callB call_isX (by rfl) T.n_isinstance (by decide +kernel) (pa_cons (pv 0) (pa_cons (pe_glob (v := .ref T.C_LimitExceeded) rfl T.g_LimitExceeded rfl) pa_nil))) (pa_cons (pe_callB call_isX (by rfl) T.n_isinstance (by decide +kernel) (pa_cons (pv 0) (pa_cons (pe_glob (v := .ref T.C_NotLast) rfl T.g_NotLast rfl) pa_nil))) pa_nil))))))
      (pss_cons (ps_set (i := 1) sc_l_marks.nd rfl (Or.inl rfl) (pe_op op_cat (pv 1) (pe_lst (pa_cons (pe_callB call_isX (by rfl) T.n_isinstance (by decide +kernel) (pa_cons (pv 0) (pa_cons (pe_glob (v := .ref T.C_NothingToUndo) rfl T.g_NothingToUndo rfl) pa_nil))) (pa_cons (pe_callB call_isX (by rfl) T.n_isinstance (by decide +kernel) (pa_cons (pv 0) (pa_cons (pe_glob (v := .ref T.C_TooFew) rfl T.g_TooFew rfl) pa_nil))) (pa_cons (pe_callB call_isX (by rfl) T.n_isinstance (by decide +kernel) (pa_cons (pv 0) (pa_cons (pe_glob (v := .ref T.C_UnknownName) rfl T.g_UnknownName rfl) pa_nil))) pa_nil))))))
      (pss_one (ps_ret (pe_op op_cat (pv 1) (pe_lst (pa_cons (pe_callB call_isX (by rfl) T.n_isinstance (by decide +kernel) (pa_cons (pv 0) (pa_cons (pe_glob (v := .ref T.C_SizeMismatch) rfl T.g_SizeMismatch rfl) pa_nil))) (pa_cons (pe_callB call_isX (by rfl) T.n_isinstance (by decide +kernel) (pa_cons (pv 0) (pa_cons (pe_glob (v := .ref T.C_Clash) rfl T.g_Clash rfl) pa_nil))) pa_nil)))))))))))), ?_⟩
    dsimp only [tSeq, tAsg, tLst]
    refine isa_of (isa_A (j := 0) rfl hC rfl (isa_A (j := 1) rfl hC rfl (isa_A (j := 2) rfl hC rfl isa_nil))) hx ?_
    refine ⟨(by show 3 ≤ sizeLine; decide), ?_⟩
    refine fun l0 n_l0 => ?_
    generalize g_l0 : L2.upd _ l0 _ = H0
    obtain ⟨s_H0, e_l0⟩ := U.upd_facts g_l0 n_l0
    clear g_l0
    have x0 : ExA H0 a C fs := hx.same s_H0
    dsimp only [gName, tRet, tOp, tVar, tLst]
    refine ⟨_, rfl, isa_of (isa_A (j := 3) rfl hC rfl (isa_A (j := 4) rfl hC rfl (isa_A (j := 5) rfl hC rfl isa_nil))) x0 ?_⟩
    refine ⟨(by show 3 ≤ sizeLine; decide), ?_⟩
    refine fun m1 n_m1 => ?_
    generalize g_m1 : L2.upd _ m1 _ = J1
    obtain ⟨s_J1, e_m1⟩ := U.upd_facts g_m1 n_m1
    clear g_m1
    refine ⟨l0, m1, _, _, rfl, rfl, (by array_get_dec), (by array_get_dec), (by show 6 ≤ sizeLine; decide), ?_⟩
    refine fun l1 n_l1 => ?_
    generalize g_l1 : L2.upd _ l1 _ = H1
    obtain ⟨s_H1, e_l1⟩ := U.upd_facts g_l1 n_l1
    clear g_l1
    have x1 : ExA H1 a C fs := hx.same (by array_mem_dec)
    dsimp only [gName, tRet, tOp, tVar, tLst]
    refine ⟨_, rfl, isa_of (isa_A (j := 6) rfl hC rfl (isa_A (j := 7) rfl hC rfl (isa_A (j := 8) rfl hC rfl isa_nil))) x1 ?_⟩
    refine ⟨(by show 3 ≤ sizeLine; decide), ?_⟩
    refine fun m2 n_m2 => ?_
    generalize g_m2 : L2.upd _ m2 _ = J2
    obtain ⟨s_J2, e_m2⟩ := U.upd_facts g_m2 n_m2
    clear g_m2
    refine ⟨l1, m2, _, _, rfl, rfl, (by array_get_dec), (by array_get_dec), (by show 9 ≤ sizeLine; decide), ?_⟩
    refine fun l2 n_l2 => ?_
    generalize g_l2 : L2.upd _ l2 _ = H2
    obtain ⟨s_H2, e_l2⟩ := U.upd_facts g_l2 n_l2
    clear g_l2
    have x2 : ExA H2 a C fs := hx.same (by array_mem_dec)
    dsimp only [gName, tRet, tOp, tVar, tLst]
    refine ⟨_, rfl, isa_of (isa_A (j := 9) rfl hC rfl (isa_A (j := 10) rfl hC rfl (isa_A (j := 11) rfl hC rfl isa_nil))) x2 ?_⟩
    refine ⟨(by show 3 ≤ sizeLine; decide), ?_⟩
    refine fun m3 n_m3 => ?_
    generalize g_m3 : L2.upd _ m3 _ = J3
    obtain ⟨s_J3, e_m3⟩ := U.upd_facts g_m3 n_m3
    clear g_m3
    refine ⟨l2, m3, _, _, rfl, rfl, (by array_get_dec), (by array_get_dec), (by show 12 ≤ sizeLine; decide), ?_⟩
    refine fun l3 n_l3 => ?_
    generalize g_l3 : L2.upd _ l3 _ = H3
    obtain ⟨s_H3, e_l3⟩ := U.upd_facts g_l3 n_l3
    clear g_l3
    have x3 : ExA H3 a C fs := hx.same (by array_mem_dec)
    dsimp only [gName, tRet, tOp, tVar, tLst]
    refine ⟨_, rfl, isa_of (isa_A (j := 12) rfl hC rfl (isa_A (j := 13) rfl hC rfl (isa_A (j := 14) rfl hC rfl isa_nil))) x3 ?_⟩
    refine ⟨(by show 3 ≤ sizeLine; decide), ?_⟩
    refine fun m4 n_m4 => ?_
    generalize g_m4 : L2.upd _ m4 _ = J4
    obtain ⟨s_J4, e_m4⟩ := U.upd_facts g_m4 n_m4
    clear g_m4
    refine ⟨l3, m4, _, _, rfl, rfl, (by array_get_dec), (by array_get_dec), (by show 15 ≤ sizeLine; decide), ?_⟩
    refine fun l4 n_l4 => ?_
    generalize g_l4 : L2.upd _ l4 _ = H4
    obtain ⟨s_H4, e_l4⟩ := U.upd_facts g_l4 n_l4
    clear g_l4
    have x4 : ExA H4 a C fs := hx.same (by array_mem_dec)
    dsimp only [gName, tRet, tOp, tVar, tLst]
    refine ⟨_, rfl, isa_of (isa_A (j := 15) rfl hC rfl (isa_A (j := 16) rfl hC rfl (isa_A (j := 17) rfl hC rfl isa_nil))) x4 ?_⟩
    refine ⟨(by show 3 ≤ sizeLine; decide), ?_⟩
    refine fun m5 n_m5 => ?_
    generalize g_m5 : L2.upd _ m5 _ = J5
    obtain ⟨s_J5, e_m5⟩ := U.upd_facts g_m5 n_m5
    clear g_m5
    refine ⟨l4, m5, _, _, rfl, rfl, (by array_get_dec), (by array_get_dec), (by show 18 ≤ sizeLine; decide), ?_⟩
    refine fun l5 n_l5 => ?_
    generalize g_l5 : L2.upd _ l5 _ = H5
    obtain ⟨s_H5, e_l5⟩ := U.upd_facts g_l5 n_l5
    clear g_l5
    have x5 : ExA H5 a C fs := hx.same (by array_mem_dec)
    dsimp only [gName, tRet, tOp, tVar, tLst]
    refine ⟨_, rfl, isa_of (isa_A (j := 18) rfl hC rfl (isa_A (j := 19) rfl hC rfl isa_nil)) x5 ?_⟩
    refine ⟨(by show 2 ≤ sizeLine; decide), ?_⟩
    refine fun m6 n_m6 => ?_
    generalize g_m6 : L2.upd _ m6 _ = J6
    obtain ⟨s_J6, e_m6⟩ := U.upd_facts g_m6 n_m6
    clear g_m6
    refine ⟨l5, m6, _, _, rfl, rfl, (by array_get_dec), (by array_get_dec), (by show 20 ≤ sizeLine; decide), ?_⟩
    refine fun l6 n_l6 => ?_
    generalize g_l6 : L2.upd _ l6 _ = H6
    obtain ⟨s_H6, e_l6⟩ := U.upd_facts g_l6 n_l6
    clear g_l6
    have x6 : ExA H6 a C fs := hx.same (by array_mem_dec)
    exact q l6 H6 (by sizeOf_list_dec) (by array_mem_dec) e_l6
set_option pp.maxSteps 3000 in
theorem ok_bases (T : Txt K mg) : FnR P w K mg base CX0 3 T.f_l_bases spBs := by
  refine T.A_l_bases.ok sc_l_bases (fun vs H Q E h => ?_) (fun cdv A outer s H vs Q E hr h => ?_)
  · obtain ⟨i, rfl, _⟩ := h
    rfl
  · obtain ⟨i, rfl, hi, q⟩ := h
    refine ⟨_, (pss_cons (ps_if (pt_cmpR op_in_seq (pv 0) (pe_tup (pa_cons pe_int (pa_cons pe_int (pa_cons pe_int pa_nil)))) (by rfl))
        (pss_one (ps_ret (pe_lst (pa_cons pe_bl (pa_cons pe_bl (pa_cons pe_bl (pa_cons pe_bl (pa_cons pe_bl (pa_cons pe_bl pa_nil))))))))) pss_nil)
      (pss_cons (ps_if (pt_cmpR op_eq (pv 0) pe_int (nomark _))
        (pss_one (ps_ret (pe_lst (pa_cons pe_bl (pa_cons pe_bl (pa_cons pe_bl (pa_cons pe_bl (pa_cons pe_bl (pa_cons pe_bl pa_nil))))))))) pss_nil)
      (pss_cons (ps_if (pt_cmpR op_in_seq (pv 0) (pe_tup (pa_cons pe_int (pa_cons pe_int pa_nil))) (by rfl))
        (pss_one (ps_ret (pe_lst (pa_cons pe_bl (pa_cons pe_bl (pa_cons pe_bl (pa_cons pe_bl (pa_cons pe_bl (pa_cons pe_bl pa_nil))))))))) pss_nil)
      (pss_cons (ps_if (pt_cmpR op_eq (pv 0) pe_int (nomark _))
        (pss_one (ps_ret (pe_lst (pa_cons pe_bl (pa_cons pe_bl (pa_cons pe_bl (pa_cons pe_bl (pa_cons pe_bl (pa_cons pe_bl pa_nil))))))))) pss_nil)
      (pss_one (ps_ret (pe_lst (pa_cons pe_bl (pa_cons pe_bl (pa_cons pe_bl (pa_cons pe_bl (pa_cons pe_bl (pa_cons pe_bl pa_nil))))))))))))), ?_⟩
    refine ⟨_, rfl, (by show 3 ≤ sizeLine; decide), ?_⟩
    refine fun t1 n_t1 => ?_
    generalize g_t1 : L2.upd _ t1 _ = H1
    obtain ⟨s_H1, e_t1⟩ := U.upd_facts g_t1 n_t1
    clear g_t1
    refine ⟨t1, _, rfl, .inr (SqT.of (by array_get_dec)), rfl, rfl, _, rfl, ?_⟩
    rw [show [V.int 14, V.int 16, V.int 19] = [(14 : Int), 16, 19].map V.int from rfl, inV_ints]
    refine ifD (fun h1 => ?_) (fun h1 => ?_)
    · have k1 : i = 14 ∨ i = 16 ∨ i = 19 := by simp only [List.mem_cons, List.not_mem_nil, or_false] at h1; omega
      refine ⟨(by show 6 ≤ sizeLine; decide), ?_⟩
      refine fun ra n_ra => ?_
      generalize g_ra : L2.upd _ ra _ = J
      obtain ⟨s_J, e_ra⟩ := U.upd_facts g_ra n_ra
      clear g_ra
      refine q ra J (by sizeOf_list_dec) (by array_mem_dec) (e_ra.trans (congrArg (fun l => some (HO.lst l)) ?_))
      unfold baseRow
      rw [if_pos k1]
      rfl
    have k1 : ¬ (i = 14 ∨ i = 16 ∨ i = 19) := by simp only [List.mem_cons, List.not_mem_nil, or_false] at h1; omega
    dsimp only [tNext]
    refine ⟨_, rfl, rfl, _, rfl, ifD (fun h2 => ?_) (fun h2 => ?_)⟩
    · have k2 : i = 13 := by have := V.int.inj h2; omega
      refine ⟨(by show 6 ≤ sizeLine; decide), ?_⟩
      refine fun rb n_rb => ?_
      generalize g_rb : L2.upd _ rb _ = J
      obtain ⟨s_J, e_rb⟩ := U.upd_facts g_rb n_rb
      clear g_rb
      refine q rb J (by sizeOf_list_dec) (by array_mem_dec) (e_rb.trans (congrArg (fun l => some (HO.lst l)) ?_))
      unfold baseRow
      rw [if_neg k1, if_pos k2]
      rfl
    have k2 : ¬ i = 13 := fun z => h2 (by rw [z]; rfl)
    dsimp only [tNext]
    refine ⟨_, rfl, (by show 2 ≤ sizeLine; decide), ?_⟩
    refine fun t2 n_t2 => ?_
    generalize g_t2 : L2.upd _ t2 _ = H2
    obtain ⟨s_H2, e_t2⟩ := U.upd_facts g_t2 n_t2
    clear g_t2
    refine ⟨t2, _, rfl, .inr (SqT.of (by array_get_dec)), rfl, rfl, _, rfl, ?_⟩
    rw [show [V.int 6, V.int 15] = [(6 : Int), 15].map V.int from rfl, inV_ints]
    refine ifD (fun h3 => ?_) (fun h3 => ?_)
    · have k3 : i = 6 ∨ i = 15 := by simp only [List.mem_cons, List.not_mem_nil, or_false] at h3; omega
      refine ⟨(by show 6 ≤ sizeLine; decide), ?_⟩
      refine fun rc n_rc => ?_
      generalize g_rc : L2.upd _ rc _ = J
      obtain ⟨s_J, e_rc⟩ := U.upd_facts g_rc n_rc
      clear g_rc
      refine q rc J (by sizeOf_list_dec) (by array_mem_dec) (e_rc.trans (congrArg (fun l => some (HO.lst l)) ?_))
      unfold baseRow
      rw [if_neg k1, if_neg k2, if_pos k3]
      rfl
    have k3 : ¬ (i = 6 ∨ i = 15) := by simp only [List.mem_cons, List.not_mem_nil, or_false] at h3; omega
    dsimp only [tNext]
    refine ⟨_, rfl, rfl, _, rfl, ifD (fun h4 => ?_) (fun h4 => ?_)⟩
    · have k4 : i = 17 := by have := V.int.inj h4; omega
      refine ⟨(by show 6 ≤ sizeLine; decide), ?_⟩
      refine fun rd n_rd => ?_
      generalize g_rd : L2.upd _ rd _ = J
      obtain ⟨s_J, e_rd⟩ := U.upd_facts g_rd n_rd
      clear g_rd
      refine q rd J (by sizeOf_list_dec) (by array_mem_dec) (e_rd.trans (congrArg (fun l => some (HO.lst l)) ?_))
      unfold baseRow
      rw [if_neg k1, if_neg k2, if_neg k3, if_pos k4]
      rfl
    have k4 : ¬ i = 17 := fun z => h4 (by rw [z]; rfl)
    dsimp only [tNext]
    refine ⟨(by show 6 ≤ sizeLine; decide), ?_⟩
    refine fun re n_re => ?_
    generalize g_re : L2.upd _ re _ = J
    obtain ⟨s_J, e_re⟩ := U.upd_facts g_re n_re
    clear g_re
    refine q re J (by sizeOf_list_dec) (by array_mem_dec) (e_re.trans (congrArg (fun l => some (HO.lst l)) ?_))
    unfold baseRow
    rw [if_neg k1, if_neg k2, if_neg k3, if_neg k4]
    rfl
end
end My
namespace My
open PySem L2 U StX PM
section
variable {P : Program} {w : World} {K : PySem.W.Frag} {mg : Str → Option Value} {base : Heap}
theorem ErrL.get {T : Txt K mg} {H : Hp} {p : Addr} {v : V} : ∀ {fs : List Str} {i : Nat} {vs : List V}, ErrL T H p v fs i vs → ∀ {k : Nat} {x : V}, vs[k]? = some x → ∃ a C f, x = .ref a ∧ a ≠ p ∧ (Cls T)[i + k]? = some C ∧ fs[k]? = some f ∧ ExA H a C [(f, v)]
  | [], _, _, h, k, x, e => by rw [h] at e; cases e
  | f :: fs, i, _, ⟨a, C, r, e, n, c, y, t⟩, 0, x, ex => by
    rw [e] at ex
    cases ex
    exact ⟨a, C, f, rfl, n, c, rfl, y⟩
  | f :: fs, i, _, ⟨a, C, r, e, n, c, y, t⟩, k + 1, x, ex => by
    rw [e, List.getElem?_cons_succ] at ex
    obtain ⟨b, D, g, h1, h2, h3, h4, h5⟩ := t.get ex
    exact ⟨b, D, g, h1, h2, by rw [show i + (k + 1) = i + 1 + k by omega]; exact h3, h4, h5⟩
theorem ErrL.take {T : Txt K mg} {H : Hp} {p : Addr} {v : V} : ∀ {n : Nat} {fs : List Str} {i : Nat} {vs : List V}, ErrL T H p v fs i vs → ErrL T H p v (fs.take n) i (vs.take n)
  | 0, fs, i, vs, _ => by rw [List.take_zero, List.take_zero]; exact rfl
  | n + 1, [], i, vs, h => by rw [h]; exact rfl
  | n + 1, f :: fs, i, _, ⟨a, C, r, e, m, c, y, t⟩ => ⟨a, C, r.take n, by rw [e]; rfl, m, c, y, t.take⟩
theorem ErrL.drop {T : Txt K mg} {H : Hp} {p : Addr} {v : V} : ∀ {n : Nat} {fs : List Str} {i : Nat} {vs : List V}, ErrL T H p v fs i vs → ErrL T H p v (fs.drop n) (i + n) (vs.drop n)
  | 0, fs, i, vs, h => h
  | n + 1, [], i, vs, h => by rw [h]; exact rfl
  | n + 1, f :: fs, i, _, ⟨a, C, r, e, m, c, y, t⟩ => by
    rw [e]
    have := t.drop (n := n)
    rw [show i + (n + 1) = i + 1 + n by omega]
    exact this
theorem ErrL.off {T : Txt K mg} {H H' : Hp} {p : Addr} {v : V} (hp : PoolAt H p) (o : Off p H H') : ∀ {fs : List Str} {i : Nat} {vs : List V}, ErrL T H p v fs i vs → ErrL T H' p v fs i vs
  | [], _, _, h => h
  | _ :: _, _, _, ⟨a, C, r, e, n, c, ⟨dx, h1, h2⟩, t⟩ => by
    obtain ⟨xs, hx⟩ := hp.lst
    exact ⟨a, C, r, e, n, c, ⟨dx, o _ _ n h1, o _ _ (fun z => by rw [z, hx] at h2; cases h2) h2⟩, t.off hp o⟩
/-- e.f of an error of the classes -/
theorem xf_read {T : Txt K mg} {te : TE} {σ : L2.St} {H : Hp} {Q : VK} {a C : Addr} {v : V} {i : Nat} {f : Str} (hC : (Cls T)[i]? = some C) (hf : fld i = f) (hx : ExA H a C [(f, v)]) (ht : ∀ R : VK, R (.ref a) H → te σ H R) (q : Q v H) : tXfV K f te σ H Q :=
  ht _ ⟨a, C, _, v, rfl, xf_at T hC, by rw [← hf]; exact na_at T hC, hx, by simp [List.lookup], q⟩
theorem rep_snoc {α : Type} (k : Nat) (v : α) : List.replicate k v ++ [v] = List.replicate (k + 1) v := by rw [List.replicate_succ']
/-- [e.f for e in errors] -/
theorem lc_fld {T : Txt K mg} {te : TE} {i : Nat} {vs : List Nat} {σ : L2.St} {H0 : Hp} {Q : VK} {xs : List V} {p : Addr} {v : V} {fs : List Str} {n : Nat} {f : Str} (hE : ErrL T H0 p v fs n xs) (hf : ∀ k g, fs[k]? = some g → g = f ∧ fld (n + k) = f) (hz : fs.length < sizeLine)
    (hi : i < (wipe σ vs).length) (hw : ∀ a, wipe ((wipe σ vs).set i a) vs = wipe σ vs) (hte : ∀ R : VK, (∀ L H1, L2.Same H0 H1 → H1 L = some (.lst xs) → R (.ref L) H1) → te σ H0 R)
    (hq : ∀ D H', H0 D = none → H' D = some (.lst (List.replicate fs.length v)) → L2.Same H0 H' → Q (.ref D) H') : tLc (iList K te) (gName i) tYes (tXfV K f (tVar i)) vs σ H0 Q := by
  have hlen := hE.len
  refine hte _ fun L H s0 ha => ⟨L, rfl, ⟨_, SqL.of ha⟩, fun D hD => ?_⟩
  refine lc_it (walk_list (xs := xs)) (fun k H' => L2.Same H H' ∧ H' D = some (.lst (List.replicate k v))) ⟨Same.new hD, upd_same⟩ (fun k H' _ q => SqL.of (q.1 _ _ ha)) ?_ ?_
  · rintro k x H' H'' hk ⟨s1, e1⟩ ⟨rfl, ev⟩
    refine ⟨hw _, yes_ ?_⟩
    obtain ⟨a, C, g, rfl, _, hC, hg, hx⟩ := hE.get ev
    obtain ⟨rfl, hfl⟩ := hf k g hg
    refine xf_read hC hfl (hx.same (s0.trans s1)) (fun R r => ⟨_, ?_, r⟩) ?_
    · rw [List.getElem?_set_self hi]
    · refine ⟨_, e1, by rw [List.length_replicate]; omega, Same.put s1 hD, ?_⟩
      rw [upd_same, rep_snoc]
  · rintro H' ⟨s1, e1⟩
    exact hq D H' (s0.free hD) (by rw [hlen] at e1; exact e1) (s0.trans s1)
theorem exV2 {σ : L2.St} {H : Hp} {Q : VK} {i j : Nat} {v u : V} {C : Addr} {f g : Str} (hi : σ[i]? = some (some v)) (hj : σ[j]? = some (some u)) (q : ∀ a H2, H a = none → L2.Same H H2 → ExA H2 a C [(g, u), (f, v)] → Q (.ref a) H2) : tExV C (spX2 C f g) (tCons (tVar i) (tCons (tVar j) tNil)) σ H Q := ⟨v, hi, u, hj, xn2 (Q := Q) q⟩
theorem exK2 {σ : L2.St} {H : Hp} {Q : VK} {i j : Nat} {v u : V} {C : Addr} {f g : Str} (hi : σ[i]? = some (some v)) (hj : σ[j]? = some (some u)) (q : ∀ a H2, H a = none → L2.Same H H2 → ExA H2 a C [(g, u), (f, v)] → Q (.ref a) H2) : tExK C 2 (spX2 C f g) swap2 (tCons (tVar j) (tCons (tVar i) tNil)) σ H Q := ⟨u, hj, v, hi, xk2 (Q := Q) q⟩
/-- a pair of errors of two values each -/
def PrsAt (T : Txt K mg) (H : Hp) (p l : Addr) (v u : V) : Prop := ∃ a b, l ≠ p ∧ a ≠ p ∧ b ≠ p ∧ H l = some (.lst [.ref a, .ref b]) ∧ ExA H a T.C_SizeMismatch [("second", u), ("first", v)] ∧ ExA H b T.C_Clash [("second", u), ("first", v)]
theorem PrsAt.same {T : Txt K mg} {H H' : Hp} {p l : Addr} {v u : V} (h : PrsAt T H p l v u) (s : L2.Same H H') : PrsAt T H' p l v u := by
  obtain ⟨a, b, n1, n2, n3, e, x, y⟩ := h
  exact ⟨a, b, n1, n2, n3, s _ _ e, x.same s, y.same s⟩
theorem exa_off {H H' : Hp} {p a C : Addr} {fs : List (Str × V)} (h : ExA H a C fs) (hp : PoolAt H p) (n : a ≠ p) (o : Off p H H') : ExA H' a C fs := by
  obtain ⟨dx, h1, h2⟩ := h
  obtain ⟨xs, hx⟩ := hp.lst
  exact ⟨dx, o _ _ n h1, o _ _ (fun z => by rw [z, hx] at h2; cases h2) h2⟩
theorem PrsAt.off {T : Txt K mg} {H H' : Hp} {p l : Addr} {v u : V} (h : PrsAt T H p l v u) (hp : PoolAt H p) (o : Off p H H') : PrsAt T H' p l v u := by
  obtain ⟨a, b, n1, n2, n3, e, x, y⟩ := h
  exact ⟨a, b, n1, n2, n3, o _ _ n1 e, exa_off x hp n2 o, exa_off y hp n3 o⟩
theorem nx_cut {D : Ends} {σ : L2.St} {H : Hp} {M : L2.St → Hp → Prop} {a : TS} (h : ∀ nx : L2.St → Hp → Prop, (∀ σ' H', M σ' H' → nx σ' H') → a { D with nx := nx } σ H) (hM : ∀ σ' H', M σ' H' → D.nx σ' H') : a D σ H := h _ hM
theorem sl_take {K : PySem.W.Frag} {σ : L2.St} {H : Hp} {R : VK} {i : Nat} {l : Addr} {os : List V} {n : Int} (hi : σ[i]? = some (some (.ref l))) (e : H l = some (.lst os)) (r : ∀ L H1, L2.Same H H1 → H1 L = some (.lst (cutV os none (some n))) → R (.ref L) H1) : tSl (rSlL K) (tVar i) tNoPart (tPart (tC (.int n))) σ H R :=
  ⟨_, hi, _, rfl, l, _, rfl, SqL.of e, fun L n => r L _ (Same.new n) upd_same⟩
theorem sl_mid {K : PySem.W.Frag} {σ : L2.St} {H : Hp} {R : VK} {i : Nat} {l : Addr} {os : List V} {m n : Int} (hi : σ[i]? = some (some (.ref l))) (e : H l = some (.lst os)) (r : ∀ L H1, L2.Same H H1 → H1 L = some (.lst (cutV os (some m) (some n))) → R (.ref L) H1) : tSl (rSlL K) (tVar i) (tPart (tC (.int m))) (tPart (tC (.int n))) σ H R :=
  ⟨_, hi, _, rfl, _, rfl, l, _, rfl, SqL.of e, fun L n => r L _ (Same.new n) upd_same⟩
theorem cut4 {os : List V} (h : os.length = 11) : cutV os none (some 4) = os.take 4 := by
  unfold cutV
  rw [h]
  rfl
theorem cut46 {os : List V} (h : os.length = 11) : cutV os (some 4) (some 6) = (os.drop 4).take 2 := by
  unfold cutV
  rw [h]
  rfl
theorem ErrL.at {T : Txt K mg} {H : Hp} {p : Addr} {v : V} {fs : List Str} {i : Nat} {vs : List V} (h : ErrL T H p v fs i vs) {k : Nat} (hk : k < fs.length) : ∃ a C f, vs[k]? = some (.ref a) ∧ (Cls T)[i + k]? = some C ∧ fs[k]? = some f ∧ ExA H a C [(f, v)] := by
  have hl := h.len
  obtain ⟨x, ex⟩ : ∃ x, vs[k]? = some x := ⟨_, List.getElem?_eq_getElem (by omega)⟩
  obtain ⟨a, C, f, rfl, _, h1, h2, h3⟩ := h.get ex
  exact ⟨a, C, f, ex, h1, h2, h3⟩
theorem seq_of {a b : TS} {D : Ends} {σ : L2.St} {H : Hp} (h : a { D with nx := b D } σ H) : tSeq a b D σ H := h
theorem op_of {r : R2} {ta tb : TE} {σ : L2.St} {H : Hp} {Q : VK} (h : ta σ H fun x H1 => tb σ H1 fun y H2 => r x y H2 Q) : tOp r ta tb σ H Q := h
theorem lst_of {ta : TA} {σ : L2.St} {H : Hp} {Q : VK} (h : ta σ H fun xs H1 => xs.length ≤ sizeLine ∧ ∀ p, H1 p = none → Q (.ref p) (upd H1 p (.lst xs))) : tLst ta σ H Q := h
theorem cons_of {te : TE} {ta : TA} {σ : L2.St} {H : Hp} {R : List V → Hp → Prop} (h : te σ H fun x H1 => ta σ H1 fun xs H2 => R (x :: xs) H2) : tCons te ta σ H R := h
theorem ix_read {K : PySem.W.Frag} {σ : L2.St} {H : Hp} {R : VK} {i k : Nat} {l : Addr} {os : List V} {v : V} (hi : σ[i]? = some (some (.ref l))) (e : H l = some (.lst os)) (ex : os[k]? = some v) (r : R v H) : tOp (rIxL K) (tVar i) (tC (.int (k : Nat))) σ H R :=
  ⟨_, hi, l, _, _, _, rfl, rfl, SqL.of e, atI_nat ex, r⟩
theorem rep_sh {K : PySem.W.Frag} {p : Addr} {H : Hp} {v : V} {d : PyData} (h : It p H v d) : ∀ n, Paired (Sh2 K H) (List.replicate n v) (List.replicate n d)
  | 0 => .nil
  | n + 1 => .cons (.one h.sh) (rep_sh h n)
theorem rep_small {p : Addr} {H : Hp} {v : V} {d : PyData} (h : It p H v d) : (PyData.list (List.replicate 18 d)).depth ≤ 60 ∧ (PyData.list (List.replicate 18 d)).shown.length ≤ sizeLine := by
  have hl := h.len
  refine ⟨?_, ?_⟩
  · have := depthAll_le (n := 2) (ds := List.replicate 18 d) fun e he => by rw [List.eq_of_mem_replicate he]; exact hl.2
    simp only [PyData.depth]
    omega
  · have := list_shown_le (n := 41) (ds := List.replicate 18 d) fun e he => by rw [List.eq_of_mem_replicate he]; exact hl.1
    rw [List.length_replicate] at this
    exact Nat.le_trans this (by decide)
theorem two_small {p : Addr} {H : Hp} {v u : V} {d e : PyData} (h : It p H v d) (g : It p H u e) : (PyData.list [.list [d, e], .list [d, e]]).depth ≤ 60 ∧ (PyData.list [.list [d, e], .list [d, e]]).shown.length ≤ sizeLine := by
  have hl := h.len
  have gl := g.len
  refine ⟨?_, ?_⟩
  · simp only [PyData.depth, PyData.depthAll]
    omega
  · have h1 := list_shown_le (n := 41) (ds := [d, e]) fun x hx => by
      rcases List.mem_cons.mp hx with rfl | hx
      · exact hl.1
      · rw [List.mem_singleton.mp hx]; exact gl.1
    have h2 := list_shown_le (n := 89) (ds := [.list [d, e], .list [d, e]]) fun x hx => by
      rcases List.mem_cons.mp hx with rfl | hx
      · exact h1
      · rw [List.mem_singleton.mp hx]; exact h1
    exact Nat.le_trans h2 (by show (89 + 2) * 2 + 3 ≤ sizeLine; decide)
theorem prs_read {T : Txt K mg} {te : TE} {σ : L2.St} {H : Hp} {Q : VK} {a C : Addr} {v u : V} (hC : C = T.C_SizeMismatch ∨ C = T.C_Clash) (hx : ExA H a C [("second", u), ("first", v)]) (ht : ∀ R : VK, R (.ref a) H → te σ H R) : (Q v H → tXfV K "first" te σ H Q) ∧ (Q u H → tXfV K "second" te σ H Q) := by
  have h1 : XfC K C := by rcases hC with rfl | rfl <;> first | exact T.xf_SizeMismatch | exact T.xf_Clash
  have h2 : PySem.W.findIn K (.ref C) "first" = some none := by rcases hC with rfl | rfl <;> first | exact T.na_first_SizeMismatch | exact T.na_first_Clash
  have h3 : PySem.W.findIn K (.ref C) "second" = some none := by rcases hC with rfl | rfl <;> first | exact T.na_second_SizeMismatch | exact T.na_second_Clash
  exact ⟨fun q => ht _ ⟨a, C, _, v, rfl, h1, h2, hx, rfl, q⟩, fun q => ht _ ⟨a, C, _, u, rfl, h1, h3, hx, rfl, q⟩⟩
/-- [[e.first, e.second] for e in pairs] -/
theorem lc_prs {T : Txt K mg} {te : TE} {i : Nat} {vs : List Nat} {σ : L2.St} {H : Hp} {Q : VK} {p l : Addr} {v u : V} (h : PrsAt T H p l v u) (hi : i < (wipe σ vs).length) (hw : ∀ a, wipe ((wipe σ vs).set i a) vs = wipe σ vs) (hte : ∀ R : VK, R (.ref l) H → te σ H R)
    (hq : ∀ D b1 b2 H', H' D = some (.lst [.ref b1, .ref b2]) → H' b1 = some (.lst [v, u]) → H' b2 = some (.lst [v, u]) → L2.Same H H' → Q (.ref D) H') : tLc (iList K te) (gName i) tYes (tLst (tCons (tXfV K "first" (tVar i)) (tCons (tXfV K "second" (tVar i)) tNil))) vs σ H Q := by
  obtain ⟨a, b, n1, n2, n3, e, x, y⟩ := h
  refine hte _ ⟨l, rfl, ⟨_, SqL.of e⟩, fun D hD => ?_⟩
  refine lc_it (walk_list (xs := [.ref a, .ref b])) (fun k H' => L2.Same H H' ∧ ∃ bs : List Addr, H' D = some (.lst (bs.map V.ref)) ∧ bs.length = k ∧ ∀ b ∈ bs, b ≠ D ∧ H' b = some (.lst [v, u])) ⟨Same.new hD, [], upd_same, rfl, fun _ z => by cases z⟩ (fun k H' _ q => SqL.of (q.1 _ _ e)) ?_ ?_
  · rintro k z H' H'' hk ⟨s1, bs, e1, hl, hb⟩ ⟨rfl, ev⟩
    refine ⟨hw _, yes_ ?_⟩
    obtain ⟨c, C, rfl, hC, hx⟩ : ∃ c C, z = .ref c ∧ (C = T.C_SizeMismatch ∨ C = T.C_Clash) ∧ ExA H c C [("second", u), ("first", v)] := by
      match k, ev with
      | 0, ev => cases ev; exact ⟨_, _, rfl, .inl rfl, x⟩
      | 1, ev => cases ev; exact ⟨_, _, rfl, .inr rfl, y⟩
    have hv : ∀ R : VK, R (.ref c) H'' → tVar i ((wipe σ vs).set i (some (.ref c))) H'' R := fun R r => ⟨_, by rw [List.getElem?_set_self hi], r⟩
    refine lst_of (cons_of ((prs_read hC (hx.same s1) hv).1 (cons_of ((prs_read hC (hx.same s1) hv).2 ⟨(by show 2 ≤ sizeLine; decide), fun q n_q => ?_⟩))))
    have nq : q ≠ D := (ne_of_none e1 n_q).symm
    have e2 : upd H'' q (.lst [v, u]) D = some (.lst (bs.map V.ref)) := by rw [upd_ne nq.symm]; exact e1
    have hD2 : H D = none := hD
    refine ⟨_, e2, by rw [List.length_map, hl]; exact Nat.lt_of_lt_of_le hk (by show 2 ≤ sizeLine; decide), Same.put (s1.trans (Same.new n_q)) hD, bs ++ [q], ?_, by rw [List.length_append, hl]; rfl, ?_⟩
    · rw [upd_same, List.map_append]; rfl
    · intro b hb'
      rcases List.mem_append.mp hb' with hb' | hb'
      · obtain ⟨h1, h2⟩ := hb b hb'
        exact ⟨h1, by rw [upd_ne h1, upd_ne (ne_of_none h2 n_q)]; exact h2⟩
      · rw [List.mem_singleton.mp hb']
        exact ⟨nq, by rw [upd_ne nq, upd_same]⟩
  · rintro H' ⟨s1, bs, e1, hl, hb⟩
    match bs, hl with
    | [b1, b2], _ => exact hq D b1 b2 H' e1 (hb b1 List.mem_cons_self).2 (hb b2 (List.mem_cons_of_mem _ List.mem_cons_self)).2 s1
theorem ifS_of {t : TT} {a b : TS} {D : Ends} {σ : L2.St} {H : Hp} (h : t σ H fun k H1 => if k = true then a D σ H1 else b D σ H1) : tIfS t a b D σ H := h
theorem tst_of {r : R2} {ta tb : TE} {σ : L2.St} {H : Hp} {R : Bool → Hp → Prop} (h : ta σ H fun x H1 => tb σ H1 fun y H2 => r x y H2 fun v H3 => ∃ k, v = .bl k ∧ R k H3) : tTest (tOp r ta tb) σ H R := h
theorem cb_of {r : List V → Hp → VK → Prop} {t : TE} {σ : L2.St} {H : Hp} {Q : VK} (h : t σ H fun x H1 => r [x] H1 Q) : tCB r (tCons t tNil) σ H Q := h
theorem dp_bls {K : PySem.W.Frag} {H : Hp} : ∀ bs : List Bool, DpAll K H (bs.map V.bl) (bs.map PyData.bool)
  | [] => .nil
  | b :: bs => .cons (.bl b) (dp_bls bs)
theorem lay_bls : ∀ bs : List Bool, PyData.canLayAll0 (bs.map PyData.bool) = true ∧ PyData.depthAll (bs.map PyData.bool) = 0
  | [] => ⟨rfl, rfl⟩
  | x :: r => by
    have := lay_bls r
    constructor
    · show (PyData.canLay0 (.bool x) && PyData.canLayAll0 (r.map PyData.bool)) = true
      rw [this.1]; rfl
    · show max (PyData.depth (.bool x)) (PyData.depthAll (r.map PyData.bool)) = 0
      rw [this.2]; rfl
theorem ne_bls {K : PySem.W.Frag} {H : Hp} {p1 p2 : Addr} {bs : List Bool} {R : Bool → Hp → Prop} (h1 : H p1 = some (.lst (bs.map V.bl))) (h2 : H p2 = some (.lst (bs.map V.bl))) (r : R false H) : L2.rNeD K (.ref p1) (.ref p2) H fun x H' => ∃ k, x = .bl k ∧ R k H' := by
  have sh : SeqAt.shaped (.list (bs.map PyData.bool)) = true := by
    unfold SeqAt.shaped
    rw [Bool.and_eq_true]
    refine ⟨(lay_bls bs).1, decide_eq_true ?_⟩
    show PyData.depthAll (bs.map PyData.bool) + 1 ≤ 64
    rw [(lay_bls bs).2]
    decide
  refine ⟨.list (bs.map PyData.bool), .list (bs.map PyData.bool), .lst (SqL.of h1) (dp_bls bs), .lst (SqL.of h2) (dp_bls bs), sh, sh, _, rfl, ?_⟩
  rw [SeqAt.eqv_refl _ (SeqAt.canLay_of_shaped sh)]
  exact r
/-- [n == j for j in range(20)] -/
theorem lc_eqs {i j n : Nat} {vs : List Nat} {σ : L2.St} {H : Hp} {Q : VK} (hi : i < (wipe σ vs).length) (hj : (wipe σ vs)[j]? = some (some (.int n))) (hij : i ≠ j) (hw : ∀ a, wipe ((wipe σ vs).set i a) vs = wipe σ vs)
    (hq : ∀ D H', H D = none → H' D = some (.lst ((List.range 20).map fun m => V.bl (n == m))) → L2.Same H H' → Q (.ref D) H') : tLc (iRng1 (tCons (tC (.int 20)) tNil)) (gName i) tYes (tOp rEq (tVar j) (tVar i)) vs σ H Q := by
  refine ⟨20, rfl, by decide, by decide, fun D hD => ?_⟩
  refine lc_it (walk_range (lo := 0) (n := 20)) (fun k H' => L2.Same H H' ∧ H' D = some (.lst ((List.range k).map fun m => V.bl (n == m)))) ⟨Same.new hD, upd_same⟩ (fun _ _ _ _ => trivial) ?_ ?_
  · rintro k z H' H'' hk ⟨s1, e1⟩ ⟨rfl, rfl⟩
    refine ⟨hw _, yes_ ?_⟩
    refine op_of ⟨_, by rw [List.getElem?_set_ne hij]; exact hj, _, by rw [List.getElem?_set_self hi], rfl, _, e1, ?_, Same.put s1 hD, ?_⟩
    · rw [List.length_map, List.length_range]; exact Nat.lt_of_lt_of_le hk (by show 20 ≤ sizeLine; decide)
    · rw [upd_same, List.range_succ, List.map_append]
      have : decide (V.int (n : Nat) = V.int (0 + (k : Nat))) = (n == k) := by
        rw [Bool.eq_iff_iff, decide_eq_true_eq, beq_iff_eq]
        constructor
        · intro z; have := V.int.inj z; omega
        · intro z; rw [z, Int.zero_add]
      rw [this]
      rfl
  · rintro H' ⟨s1, e1⟩
    exact hq D H' hD e1 s1
theorem or_of {a b : TT} {σ : L2.St} {H : Hp} {R : Bool → Hp → Prop} (h : a σ H fun k H1 => if k = true then R true H1 else b σ H1 R) : tOr a b σ H R := h
theorem f7_all : ∀ (k : Nat) (g : Str), f7[k]? = some g → g = "value" ∧ fld (0 + k) = "value"
  | 0, g, h | 1, g, h | 2, g, h | 3, g, h | 4, g, h | 5, g, h | 6, g, h => by cases h; exact ⟨rfl, rfl⟩
  | n + 7, g, h => by cases h
theorem f4_all : ∀ (k : Nat) (g : Str), (f11.take 4)[k]? = some g → g = "part" ∧ fld (7 + k) = "part"
  | 0, g, h | 1, g, h | 2, g, h | 3, g, h => by cases h; exact ⟨rfl, rfl⟩
  | n + 4, g, h => by cases h
theorem f2_all : ∀ (k : Nat) (g : Str), ((f11.drop 4).take 2)[k]? = some g → g = "position" ∧ fld (7 + 4 + k) = "position"
  | 0, g, h | 1, g, h => by cases h; exact ⟨rfl, rfl⟩
  | n + 2, g, h => by cases h
set_option pp.maxSteps 6000 in
theorem ok_law (T : Txt K mg) : FnG P w K mg base CX0 40 T.f_law (spLaw K) := by
  refine T.A_law.okG sc_law (fun vs H Q E h => ?_) (fun cdv A outer s H vs Q E gd hr h => ?_)
  · obtain ⟨a, ns, rfl, _⟩ := h
    rfl
  · obtain ⟨a, ns, rfl, hS, hl, q⟩ := h
    have hu := hu_of hr
    obtain ⟨fd_SizeMismatch, F_SizeMismatch, B_SizeMismatch⟩ := T.KW_SizeMismatch__init
    obtain ⟨fd_Clash, F_Clash, B_Clash⟩ := T.KW_Clash__init
    refine ⟨_, (pss_cons (ps_for PassesOwn.never rfl (pi_range1 rfl T.n_range (pa_cons (pe_callB (call_max2 rfl) (by rfl) T.n_max (by decide +kernel) (pa_cons pe_int (pa_cons (pe_callB (call_min2 rfl) (by rfl) T.n_min (by decide +kernel) (pa_cons (pe_callB call_len_seq (by rfl) T.n_len (by decide +kernel) (pa_cons (pv 0) pa_nil)) (pa_cons pe_int pa_nil))) pa_nil))) pa_nil)) (pg_name (i := 1) sc_law.nd rfl (Or.inl rfl))
        (pss_cons (ps_set (i := 2) sc_law.nd rfl (Or.inl rfl) (pe_callR (ok_hand T) (hr.mono (by decide)) T.A_l_hand.kp rfl T.g_l_hand pass0 (pa_cons (pv 0) (pa_cons (pv 1) pa_nil))))
      (pss_cons (ps_par (i := 3) (j := 4) rfl sc_law.nd rfl rfl (by decide) rfl rfl (pa_cons (pe_callR (ok_item T) (hr.mono (by decide)) T.A_l_item.kp rfl T.g_l_item pass0 (pa_cons (pv 2) pa_nil)) (pa_cons (pe_callR (ok_item T) (hr.mono (by decide)) T.A_l_item.kp rfl T.g_l_item pass0 (pa_cons (pv 2) pa_nil)) pa_nil)) (by rfl))
      (pss_cons (ps_par (i := 5) (j := 6) rfl sc_law.nd rfl rfl (by decide) rfl rfl (pa_cons (pe_callR (ok_vals T) (hr.mono (by decide)) T.A_l_of_values.kp rfl T.g_l_of_values pass0 (pa_cons (pv 2) (pa_cons (pv 3) pa_nil))) (pa_cons (pe_callR (ok_others T) (hr.mono (by decide)) T.A_l_others.kp rfl T.g_l_others pass0 (pa_cons (pv 2) (pa_cons (pv 3) pa_nil))) pa_nil)) (by rfl))
      (pss_cons (ps_set (i := 7) sc_law.nd rfl (Or.inl rfl) (pe_lst (pa_cons (pe_exV (oexH_of T.x_SizeMismatch) T.m_SizeMismatch__init T.ti_SizeMismatch__init (okx_SizeMismatch T) (hr.mono (by decide)) pass0 rfl T.g_SizeMismatch (pa_cons (pv 3) (pa_cons (pv 4) pa_nil))) (pa_cons (pe_exV (oexH_of T.x_Clash) T.m_Clash__init T.ti_Clash__init (okx_Clash T) (hr.mono (by decide)) pass0 rfl T.g_Clash (pa_cons (pv 3) (pa_cons (pv 4) pa_nil))) pa_nil))))
      (pss_cons (ps_if (pt_cmpR op_eq (pe_callR (ok_draw T) (hr.mono (by decide)) T.A_l_draw.kp rfl T.g_l_draw pass0 (pa_cons (pv 2) (pa_cons pe_int pa_nil))) pe_int (nomark _))
        (pss_one (ps_set (i := 7) sc_law.nd rfl (Or.inl rfl) (pe_lst (pa_cons (pe_exK (ks := ["second", "first"]) (g := swap2) (gV := swap2) (oexH_of T.x_SizeMismatch) T.m_SizeMismatch__init T.ti_SizeMismatch__init (okk_SizeMismatch T F_SizeMismatch) (hr.mono (by decide)) pass0 rfl T.g_SizeMismatch (pk_cons (pv 4) (pk_cons (pv 3) pk_nil)) (fun s v ws hl => match ws, hl with | [w, u], _ => B_SizeMismatch s v u w) swap2_vals) (pa_cons (pe_exK (ks := ["second", "first"]) (g := swap2) (gV := swap2) (oexH_of T.x_Clash) T.m_Clash__init T.ti_Clash__init (okk_Clash T F_Clash) (hr.mono (by decide)) pass0 rfl T.g_Clash (pk_cons (pv 4) (pk_cons (pv 3) pk_nil)) (fun s v ws hl => match ws, hl with | [w, u], _ => B_Clash s v u w) swap2_vals) pa_nil))))) pss_nil)
      (pss_cons (ps_set (i := 8) sc_law.nd rfl (Or.inl rfl) (pe_op op_cat (pe_op op_cat (pe_lc (own := [("_law_e", 10)]) (g := (gName 10)) (tt := tYes) rfl sc_law.nd (pi_list (pv 5)) (blkOk_by (own := [("_law_e", 10)]) (N := n_law) (sc := defScope s_law) (by decide +kernel)) (fun _ _ _ _ _ => (pg_name (i := 10) sc_law.nd rfl (Or.inl rfl))) (fun _ _ _ _ _ => pts_nil) (fun _ _ _ _ _ => (pe_xfV (K0 := K) rfl (pv 10)))) (pe_lc (own := [("_law_e", 10)]) (g := (gName 10)) (tt := tYes) rfl sc_law.nd (pi_list (pe_slice sl_list (pv 6) po_none (po_some pe_int))) (blkOk_by (own := [("_law_e", 10)]) (N := n_law) (sc := defScope s_law) (by decide +kernel)) (fun _ _ _ _ _ => (pg_name (i := 10) sc_law.nd rfl (Or.inl rfl))) (fun _ _ _ _ _ => pts_nil) (fun _ _ _ _ _ => (pe_xfV (K0 := K) rfl (pv 10))))) (pe_lc (own := [("_law_e", 10)]) (g := (gName 10)) (tt := tYes) rfl sc_law.nd (pi_list (pe_slice sl_list (pv 6) (po_some pe_int) (po_some pe_int))) (blkOk_by (own := [("_law_e", 10)]) (N := n_law) (sc := defScope s_law) (by decide +kernel)) (fun _ _ _ _ _ => (pg_name (i := 10) sc_law.nd rfl (Or.inl rfl))) (fun _ _ _ _ _ => pts_nil) (fun _ _ _ _ _ => (pe_xfV (K0 := K) rfl (pv 10))))))
      (pss_cons (ps_set (i := 8) sc_law.nd rfl (Or.inl rfl) (pe_op op_cat (pv 8) (pe_lst (pa_cons (pe_xfV (K0 := K) rfl (pe_ix ix_list (pv 6) pe_int (fun _ _ => rfl))) (pa_cons (pe_xfV (K0 := K) rfl (pe_ix ix_list (pv 6) pe_int (fun _ _ => rfl))) (pa_cons (pe_xfV (K0 := K) rfl (pe_ix ix_list (pv 6) pe_int (fun _ _ => rfl))) (pa_cons (pe_xfV (K0 := K) rfl (pe_ix ix_list (pv 6) pe_int (fun _ _ => rfl))) (pa_cons (pe_xfV (K0 := K) rfl (pe_ix ix_list (pv 6) pe_int (fun _ _ => rfl))) pa_nil))))))))
      (pss_cons (ps_if (pt_cmpR op_ne (pe_callB (call_reprM gd hr.units) (by rfl) T.n_repr (by decide +kernel) (pa_cons (pv 8) pa_nil)) (pe_callB (call_reprM gd hr.units) (by rfl) T.n_repr (by decide +kernel) (pa_cons (pe_op op_rep (pe_lst (pa_cons (pv 3) pa_nil)) pe_int) pa_nil)) (nomark _))
        (pss_one (ps_ret pe_bl)) pss_nil)
      (pss_cons (ps_if (pt_cmpR op_ne (pe_callB (call_reprM gd hr.units) (by rfl) T.n_repr (by decide +kernel) (pa_cons (pe_lc (own := [("_law_e", 10)]) (g := (gName 10)) (tt := tYes) rfl sc_law.nd (pi_list (pv 7)) (blkOk_by (own := [("_law_e", 10)]) (N := n_law) (sc := defScope s_law) (by decide +kernel)) (fun _ _ _ _ _ => (pg_name (i := 10) sc_law.nd rfl (Or.inl rfl))) (fun _ _ _ _ _ => pts_nil) (fun _ _ _ _ _ => (pe_lst (pa_cons (pe_xfV (K0 := K) rfl (pv 10)) (pa_cons (pe_xfV (K0 := K) rfl (pv 10)) pa_nil))))) pa_nil)) (pe_callB (call_reprM gd hr.units) (by rfl) T.n_repr (by decide +kernel) (pa_cons (pe_op op_rep (pe_lst (pa_cons (pe_lst (pa_cons (pv 3) (pa_cons (pv 4) pa_nil))) pa_nil)) pe_int) pa_nil)) (nomark _))
        (pss_one (ps_ret pe_bl)) pss_nil)
      (pss_one (ps_for PassesOwn.never rfl (pi_enum rfl T.n_enumerate (pa_cons (pe_op op_cat (pe_op op_cat (pv 5) (pv 6)) (pv 7)) pa_nil)) (pg_tup rfl (pgs_cons (pg_name (i := 9) sc_law.nd rfl (Or.inr rfl)) (pgs_cons (pg_name (i := 10) sc_law.nd rfl (Or.inl rfl)) pgs_nil)))
        (pss_one (ps_if (PW.pt (pw_or (pt_cmpR (L2.op_neD hr.units) (pe_callR (ok_above T) (hr.mono (by decide)) T.A_l_above.kp rfl T.g_l_above pass0 (pa_cons (pv 10) pa_nil)) (pe_callR (ok_bases T) (hr.mono (by decide)) T.A_l_bases.kp rfl T.g_l_bases pass0 (pa_cons (pv 9) pa_nil)) (nomark _)) (pw_or1 (pt_cmpR (L2.op_neD hr.units) (pe_callR (ok_marks T) (hr.mono (by decide)) T.A_l_marks.kp rfl T.g_l_marks pass0 (pa_cons (pv 10) pa_nil)) (pe_lc (own := [("_law_at", 11)]) (g := (gName 11)) (tt := tYes) rfl sc_law.nd (pi_range1 rfl T.n_range (pa_cons pe_int pa_nil)) (blkOk_by (own := [("_law_at", 11)]) (N := n_law) (sc := defScope s_law) (by decide +kernel)) (fun _ _ _ _ _ => (pg_name (i := 11) sc_law.nd rfl (Or.inl rfl))) (fun _ _ _ _ _ => pts_nil) (fun _ _ _ _ _ => (pe_cmpR op_eq (pv 9) (pv 11) (nomark _)))) (nomark _)))))
        (pss_one (ps_ret pe_bl)) pss_nil))))))))))))))
      (pss_one (ps_ret pe_bl))), ?_⟩
    refine ⟨_, rfl, a, _, rfl, .inl hS, _, _, rfl, _, _, rfl, _, rfl, ?_, ?_, ?_⟩
    · rw [List.length_map]; (repeat' split) <;> omega
    · rw [List.length_map]; (repeat' split) <;> omega
    refine for_it (walk_range (lo := 0)) (fun i σ H' => ∃ v1 v2 v3 v4 v5 v6 v7 v8 v9 v10 v11, σ = [some (.ref a), v1, v2, v3, v4, v5, v6, v7, v8, v9, v10, v11] ∧ Same H H')
      ⟨none, none, none, none, none, none, none, none, none, none, none, rfl, Same.refl H⟩ (fun _ _ _ _ _ => trivial) ?_ ?_
    · rintro k v σ H' H1 hk ⟨v1, v2, v3, v4, v5, v6, v7, v8, v9, v10, v11, rfl, p1⟩ ⟨rfl, rfl⟩
      refine ⟨_, rfl, _, rfl, a, ns, _, rfl, SqL.same hS p1, hl, fun p H2 x y np hp s2 hx hy hy2 => ?_⟩
      have p0 : H p = none := p1.free np
      have pool2 : PoolAt H2 p := ⟨x, y, hp, hx, hy, hy2⟩
      have s02 : Same H H2 := p1.trans s2
      refine ⟨_, rfl, p, rfl, pool2, fun v d H3 hv pool3 o3 => ⟨_, rfl, p, rfl, pool3, fun u e H4 hu' pool4 o4 => ?_⟩⟩
      refine ⟨_, _, rfl, ?_⟩
      refine ⟨_, rfl, _, rfl, p, v, rfl, pool4, fun lv es H5 n_lv e_lv hE pool5 o5 => ?_⟩
      refine ⟨_, rfl, _, rfl, p, v, rfl, pool5, fun lo os H6 n_lo e_lo hO pool6 o6 => ?_⟩
      refine ⟨_, _, rfl, ?_⟩
      dsimp only [tSeq, tAsg, tLst]
      refine exV2 rfl rfl fun a1 H7 na1 s_H7 x1 => exV2 rfl rfl fun a2 H8 na2 s_H8 x2 => ?_
      refine ⟨(by show 2 ≤ sizeLine; decide), ?_⟩
      refine fun lp n_lp => ?_
      generalize g_lp : L2.upd _ lp _ = H9
      obtain ⟨s_H9, e_lp⟩ := U.upd_facts g_lp n_lp
      clear g_lp
      have prs : PrsAt T H9 p lp v u := ⟨a1, a2, fun z => (pool6.same (by array_mem_dec)).ne n_lp z.symm, fun z => pool6.ne na1 z.symm, fun z => (pool6.same (by array_mem_dec)).ne na2 z.symm, (by array_get_dec), (x1.same (by array_mem_dec)), (x2.same (by array_mem_dec))⟩
      have pool9 : PoolAt H9 p := pool6.same (by array_mem_dec)
      have s69 : Same H6 H9 := (by array_mem_dec)
      refine nx_cut (a := tIfS _ _ _) (M := fun σ' H' => ∃ l, σ' = [some (.ref a), some (.int (0 + (k : Nat))), some (.ref p), some v, some u, some (.ref lv), some (.ref lo), some (.ref l), v8, v9, v10, v11] ∧ PoolAt H' p ∧ Off p H9 H' ∧ PrsAt T H' p l v u) (fun nx kx => ?_) ?_
      · refine draw_R rfl (fun R r => r) pool9 (by decide) (by decide) fun r1 Ha r0 r9 poola o9 => ?_
        refine ⟨rfl, _, rfl, ifD (fun _ => ?_) (fun _ => ?_)⟩
        · dsimp only [tAsg, tLst]
          refine exK2 rfl rfl fun b1 Hb nb1 s_Hb y1 => exK2 rfl rfl fun b2 Hc nb2 s_Hc y2 => ?_
          refine ⟨(by show 2 ≤ sizeLine; decide), ?_⟩
          refine fun lq n_lq => ?_
          generalize g_lq : L2.upd _ lq _ = Hd
          obtain ⟨s_Hd, e_lq⟩ := U.upd_facts g_lq n_lq
          clear g_lq
          refine kx _ _ ⟨lq, rfl, poola.same (by array_mem_dec), o9.tr (Off.ofS' (by array_mem_dec)), b1, b2, fun z => (poola.same (by array_mem_dec)).ne n_lq z.symm, fun z => poola.ne nb1 z.symm, fun z => (poola.same (by array_mem_dec)).ne nb2 z.symm, (by array_get_dec), (y1.same (by array_mem_dec)), (y2.same (by array_mem_dec))⟩
        · exact kx _ _ ⟨lp, rfl, poola, o9, prs.off pool9 o9⟩
      rintro _ Ha ⟨l, rfl, poola, o9, prs⟩
      have nlv : lv ≠ p := fun z => pool4.ne n_lv z.symm
      have nlo : lo ≠ p := fun z => pool5.ne n_lo z.symm
      have hEa := ((hE.off pool5 o6).same s69).off pool9 o9
      have hOa := (hO.same s69).off pool9 o9
      have e_lva : Ha lv = some (.lst es) := o9 _ _ nlv (s69 _ _ (o6 _ _ nlv e_lv))
      have e_loa : Ha lo = some (.lst os) := o9 _ _ nlo (s69 _ _ e_lo)
      have hva : It p Ha v d := ((((hv.off o4).off o5).off o6).same s69).off o9
      have hua : It p Ha u e := (((hu'.off o5).off o6).same s69).off o9
      have xa : Same H Ha := Same.off (Same.trans (Same.off (Same.off (Same.off (Same.off s02 o3 p0) o4 p0) o5 p0) o6 p0) s69) o9 p0
      clear hE hO e_lv e_lo hv hu' s69 n_lv n_lo
      have hlo : os.length = 11 := hOa.len
      dsimp only [tSeq, tAsg, tOp]
      refine lc_fld (T := T) hEa f7_all (by decide) (by show 10 < 12; decide) (fun _ => rfl) (fun R r => ⟨_, rfl, r lv Ha (Same.refl _) e_lva⟩) fun k1 Hb n_k1 e_k1 s_Hb => ?_
      refine lc_fld (T := T) (xs := os.take 4) (fs := f11.take 4) (n := 7) ((hOa.same s_Hb).take) f4_all (by decide) (by show 10 < 12; decide) (fun _ => rfl) (fun R r => sl_take rfl (s_Hb _ _ e_loa) (by rw [cut4 hlo]; exact r)) fun k2 Hc n_k2 e_k2 s_Hc => ?_
      refine ⟨k1, k2, _, _, rfl, rfl, (by array_get_dec), (by array_get_dec), (by rw [List.length_replicate, List.length_replicate]; decide), ?_⟩
      refine fun k3 n_k3 => ?_
      generalize g_k3 : L2.upd _ k3 _ = Hd
      obtain ⟨s_Hd, e_k3⟩ := U.upd_facts g_k3 n_k3
      clear g_k3
      refine lc_fld (T := T) (xs := (os.drop 4).take 2) (fs := (f11.drop 4).take 2) (n := 7 + 4) ((ErrL.drop (hOa.same (by array_mem_dec))).take) f2_all (by decide) (by show 10 < 12; decide) (fun _ => rfl) (fun R r => sl_mid rfl (by array_get_dec) (by rw [cut46 hlo]; exact r)) fun k4 He n_k4 e_k4 s_He => ?_
      refine ⟨k3, k4, _, _, rfl, rfl, (by array_get_dec), (by array_get_dec), (by rw [List.length_append, List.length_replicate, List.length_replicate, List.length_replicate]; decide), ?_⟩
      refine fun k5 n_k5 => ?_
      generalize g_k5 : L2.upd _ k5 _ = Hf
      obtain ⟨s_Hf, e_k5⟩ := U.upd_facts g_k5 n_k5
      clear g_k5
      obtain ⟨b6, C6, g6, eb6, c6, hf6, y6⟩ := hOa.at (k := 6) (by decide)
      cases hf6
      obtain ⟨b7, C7, g7, eb7, c7, hf7, y7⟩ := hOa.at (k := 7) (by decide)
      cases hf7
      obtain ⟨b8, C8, g8, eb8, c8, hf8, y8⟩ := hOa.at (k := 8) (by decide)
      cases hf8
      obtain ⟨b9, C9, g9, eb9, c9, hf9, y9⟩ := hOa.at (k := 9) (by decide)
      cases hf9
      obtain ⟨b10, C10, g10, eb10, c10, hf10, y10⟩ := hOa.at (k := 10) (by decide)
      cases hf10
      dsimp only [gName]
      refine seq_of (asg_of (op_of ⟨_, rfl, lst_of ?_⟩))
      refine cons_of (xf_read c6 rfl (y6.same (by array_mem_dec)) (fun R r => ix_read (k := 6) rfl (by array_get_dec) eb6 r) ?_)
      refine cons_of (xf_read c7 rfl (y7.same (by array_mem_dec)) (fun R r => ix_read (k := 7) rfl (by array_get_dec) eb7 r) ?_)
      refine cons_of (xf_read c8 rfl (y8.same (by array_mem_dec)) (fun R r => ix_read (k := 8) rfl (by array_get_dec) eb8 r) ?_)
      refine cons_of (xf_read c9 rfl (y9.same (by array_mem_dec)) (fun R r => ix_read (k := 9) rfl (by array_get_dec) eb9 r) ?_)
      refine cons_of (xf_read c10 rfl (y10.same (by array_mem_dec)) (fun R r => ix_read (k := 10) rfl (by array_get_dec) eb10 r) ?_)
      refine ⟨(by show 5 ≤ sizeLine; decide), ?_⟩
      refine fun k6 n_k6 => ?_
      generalize g_k6 : L2.upd _ k6 _ = Hg
      obtain ⟨s_Hg, e_k6⟩ := U.upd_facts g_k6 n_k6
      clear g_k6
      refine ⟨k5, k6, _, _, rfl, rfl, (by array_get_dec), (by array_get_dec), (by rw [List.length_append, List.length_append, List.length_replicate, List.length_replicate, List.length_replicate]; show 18 ≤ sizeLine; decide), ?_⟩
      refine fun k7 n_k7 => ?_
      generalize g_k7 : L2.upd _ k7 _ = Hh
      obtain ⟨s_Hh, e_k7⟩ := U.upd_facts g_k7 n_k7
      clear g_k7
      have e_kept : Hh k7 = some (.lst (List.replicate 18 v)) := e_k7
      clear e_k7 y6 y7 y8 y9 y10
      dsimp only [gName]
      have hvh : It p Hh v d := hva.same (by array_mem_dec)
      have rs := rep_small hvh
      refine seq_of (ifS_of (tst_of ⟨_, rfl, k7, _, _, rfl, e_kept, rep_sh hvh 18, rs.1, rs.2, _, rfl, (by show 1 ≤ sizeLine; decide), ?_⟩))
      refine fun q1 n_q1 => ?_
      generalize g_q1 : L2.upd _ q1 _ = Hi
      obtain ⟨s_Hi, e_q1⟩ := U.upd_facts g_q1 n_q1
      clear g_q1
      refine ⟨q1, 18, _, rfl, rfl, (by array_get_dec), by decide, by decide, (by show 18 ≤ sizeLine; decide), ?_⟩
      refine fun q2 n_q2 => ?_
      generalize g_q2 : L2.upd _ q2 _ = Hj
      obtain ⟨s_Hj, e_q2⟩ := U.upd_facts g_q2 n_q2
      clear g_q2
      have e_q : Hj q2 = some (.lst (List.replicate 18 v)) := e_q2
      clear e_q2
      have hvj : It p Hj v d := hva.same (by array_mem_dec)
      refine ⟨q2, _, _, rfl, e_q, rep_sh hvj 18, rs.1, rs.2, rfl, _, rfl, ?_⟩
      rw [show decide (V.str (PyData.list (List.replicate 18 d)).shown = V.str (PyData.list (List.replicate 18 d)).shown) = true from decide_eq_true rfl]
      refine iteF ?_
      dsimp only [tNext]
      have prsj : PrsAt T Hj p l v u := prs.same (by array_mem_dec)
      refine seq_of (ifS_of (tst_of (cb_of (lc_prs prsj (by show 10 < 12; decide) (fun _ => rfl) (fun R r => ⟨_, rfl, r⟩) fun r0 r1 r2 Hk e_r0 e_r1 e_r2 s_Hk => ?_))))
      have hvk : It p Hk v d := hva.same (by array_mem_dec)
      have huk : It p Hk u e := hua.same (by array_mem_dec)
      have ts := two_small hvk huk
      refine ⟨r0, _, _, rfl, e_r0, .cons (.lst e_r1 (.cons hvk.sh (.cons huk.sh .nil))) (.cons (.lst e_r2 (.cons hvk.sh (.cons huk.sh .nil))) .nil), ts.1, ts.2, ?_⟩
      refine ⟨_, rfl, _, rfl, (by show 2 ≤ sizeLine; decide), ?_⟩
      refine fun q3 n_q3 => ?_
      generalize g_q3 : L2.upd _ q3 _ = Hl
      obtain ⟨s_Hl, e_q3⟩ := U.upd_facts g_q3 n_q3
      clear g_q3
      refine ⟨(by show 1 ≤ sizeLine; decide), ?_⟩
      refine fun q4 n_q4 => ?_
      generalize g_q4 : L2.upd _ q4 _ = Hm
      obtain ⟨s_Hm, e_q4⟩ := U.upd_facts g_q4 n_q4
      clear g_q4
      refine ⟨q4, 2, _, rfl, rfl, (by array_get_dec), by decide, by decide, (by show 2 ≤ sizeLine; decide), ?_⟩
      refine fun q5 n_q5 => ?_
      generalize g_q5 : L2.upd _ q5 _ = Hn
      obtain ⟨s_Hn, e_q5⟩ := U.upd_facts g_q5 n_q5
      clear g_q5
      have e_q5' : Hn q5 = some (.lst [.ref q3, .ref q3]) := e_q5
      clear e_q5
      have e_q3n : Hn q3 = some (.lst [v, u]) := (by array_get_dec)
      have hvn : It p Hn v d := hva.same (by array_mem_dec)
      have hun : It p Hn u e := hua.same (by array_mem_dec)
      refine ⟨q5, _, _, rfl, e_q5', .cons (.lst e_q3n (.cons hvn.sh (.cons hun.sh .nil))) (.cons (.lst e_q3n (.cons hvn.sh (.cons hun.sh .nil))) .nil), ts.1, ts.2, rfl, _, rfl, ?_⟩
      rw [show decide (V.str (PyData.list [.list [d, e], .list [d, e]]).shown = V.str (PyData.list [.list [d, e], .list [d, e]]).shown) = true from decide_eq_true rfl]
      refine iteF ?_
      dsimp only [tNext]
      obtain ⟨pa, pb, m1, m2, m3, e_la, xpa, xpb⟩ := prs
      have les := hEa.len
      refine ⟨_, rfl, _, rfl, lv, lo, _, _, rfl, rfl, (by array_get_dec), (by array_get_dec), (by rw [les, hlo]; show 18 ≤ sizeLine; decide), ?_⟩
      refine fun q6 n_q6 => ?_
      generalize g_q6 : L2.upd _ q6 _ = Ho
      obtain ⟨s_Ho, e_q6⟩ := U.upd_facts g_q6 n_q6
      clear g_q6
      refine ⟨_, rfl, q6, l, _, _, rfl, rfl, (by array_get_dec), (by array_get_dec), (by rw [List.length_append, les, hlo]; show 20 ≤ sizeLine; decide), ?_⟩
      refine fun q7 n_q7 => ?_
      generalize g_q7 : L2.upd _ q7 _ = Hq
      obtain ⟨s_Hq, e_q7⟩ := U.upd_facts g_q7 n_q7
      clear g_q7
      have e_q7' : Hq q7 = some (.lst (es ++ os ++ [.ref pa, .ref pb])) := e_q7
      clear e_q7
      have sq : Same Ha Hq := (by array_mem_dec)
      have l18 : (es ++ os).length = 18 := by rw [List.length_append, les, hlo]; rfl
      have all : ∀ (j : Nat) (x : V), (es ++ os ++ [V.ref pa, V.ref pb])[j]? = some x → ∃ c C fs, x = .ref c ∧ (Cls T)[j]? = some C ∧ ExA Hq c C fs := by
        intro j x ex
        by_cases hj : j < 18
        · rw [List.getElem?_append_left (by omega)] at ex
          have hEO := ErrL.append hEa hOa
          obtain ⟨c, C, f, rfl, _, hC, _, hx⟩ := hEO.get ex
          rw [Nat.zero_add] at hC
          exact ⟨c, C, _, rfl, hC, hx.same sq⟩
        · rw [List.getElem?_append_right (by omega), l18] at ex
          obtain ⟨i, rfl⟩ : ∃ i, j = 18 + i := ⟨j - 18, by omega⟩
          rw [show 18 + i - 18 = i by omega] at ex
          match i, ex with
          | 0, ex => cases ex; exact ⟨pa, _, _, rfl, rfl, xpa.same sq⟩
          | 1, ex => cases ex; exact ⟨pb, _, _, rfl, rfl, xpb.same sq⟩
      have s0q : Same H Hq := xa.trans sq
      clear s_Hb s_Hc s_Hd s_He s_Hf s_Hg s_Hh s_Hi s_Hj s_Hk s_Hl s_Hm s_Hn s_Ho s_Hq
      refine ⟨q7, _, rfl, SqL.of e_q7', ?_⟩
      refine for_it (walk_enum (xs := es ++ os ++ [V.ref pa, V.ref pb])) (fun i σ H' => ∃ v9 v10 v11, σ = [some (.ref a), some (.int (0 + (k : Nat))), some (.ref p), some v, some u, some (.ref lv), some (.ref lo), some (.ref l), some (.ref k7), v9, v10, v11] ∧ Same Hq H')
        ⟨_, _, _, rfl, Same.refl Hq⟩ (fun i σ H' _ ⟨_, _, _, _, z⟩ => SqL.of (z _ _ e_q7')) ?_ ?_
      · rintro j z σ Ha0 Hr hj ⟨w9, w10, w11, rfl, sr⟩ ⟨t1, b1, b2, rfl, n_t1, rfl, ej1, ej2⟩
        cases ej1
        obtain ⟨c, C, gs, rfl, hC, hx⟩ := all j b2 ej2
        generalize g_t1 : L2.upd _ t1 _ = Hs
        obtain ⟨s_Hs, e_t1⟩ := U.upd_facts g_t1 n_t1
        clear g_t1
        have sqs : Same Hq Hs := sr.trans s_Hs
        refine ⟨t1, [.int j, .ref c], rfl, SqT.of e_t1, rfl, .int j, [.ref c], rfl, .ref c, [], rfl, rfl, ?_⟩
        clear s_Hs sr
        have hj20 : j < 20 := by rw [List.length_append, l18] at hj; exact hj
        refine ifS_of (or_of (tst_of ⟨_, rfl, c, C, j, gs, rfl, hC, hx.same sqs, fun l1 Ht n_l1 s_Ht e_l1 => ⟨_, rfl, j, rfl, hj20, fun l2 Hu n_l2 s_Hu e_l2 => ?_⟩⟩))
        refine ne_bls (bs := baseRow j) (by array_get_dec) (by array_get_dec) (iteF ?_)
        refine tst_of ⟨_, rfl, c, C, j, gs, rfl, hC, hx.same (sqs.trans (by array_mem_dec)), fun l3 Hv n_l3 s_Hv e_l3 => ?_⟩
        refine lc_eqs (n := j) (by show 11 < 12; decide) rfl (by decide) (fun _ => rfl) fun l4 Hw n_l4 e_l4 s_Hw => ?_
        have f1 : Hw l3 = some (.lst ((List.range 20).map fun m => V.bl (j == m))) := (by array_get_dec)
        have f2 : Hw l4 = some (.lst ((List.range 20).map fun m => V.bl (j == m))) := (by array_get_dec)
        have sw : Same Hs Hw := (by array_mem_dec)
        refine ne_bls (bs := (List.range 20).map fun m => j == m) (by rw [List.map_map]; exact f1) (by rw [List.map_map]; exact f2) (iteF ?_)
        exact ⟨_, _, _, rfl, sqs.trans sw⟩
      · rintro σ Hr ⟨w9, w10, w11, rfl, sr⟩
        exact ⟨_, _, _, _, _, _, _, _, _, _, _, rfl, s0q.trans sr⟩
    · rintro σ H' ⟨v1, v2, v3, v4, v5, v6, v7, v8, v9, v10, v11, rfl, p1⟩
      exact q H'
end
end My
namespace My
open PySem L2
theorem walk {l : PySem.W.OpenLaw} {q : Program} {loose : List Str} {XP : (Str → Option Value) → Heap → Prop} {YP : World → Heap → Prop} {d : DefRec} {K : Params → PySem.W.Frag} (hn : l.most = some 63) (hdf : d.params.defaults = []) (hnm : d.name = "law")
    (hY : ∀ (w : World) (h : Heap), YP w h → (K w.params).In h)
    (ok : ∀ (P : Program) (w : World) (K : PySem.W.Frag) (mg : Str → Option Value) (base : Heap) (T : Txt K mg), U.FnG P w K mg base CX0 40 T.f_law (spLaw K))
    (F : ∀ (w : World) (mg : Str → Option Value) (h : Heap), (K w.params).In h → h.Ns mainGlobals mg → Nonempty (Txt (K w.params) mg)) :
    PySem.W.WalkO q loose XP YP l.row.toRowW d [] (fun f vs => PySem.call f vs) := by
  refine U.walkG (n := 63) (k := 40) (sp := spLaw) hn (by decide) hdf ⟨rfl, by decide, by decide⟩ hY ?_ (fun K H a ns hl hS => ⟨a, ns, rfl, hS, hl, fun _ => rfl⟩)
  intro w mg fa h KX G hmg base
  obtain ⟨T⟩ := F w mg h KX G
  rw [hnm, T.g_law] at hmg
  cases hmg
  exact ok _ _ _ _ _ T
end My
local macro_rules | `(tactic| first | refine $t:term | fail $s:str) => do { let t2 ← t.raw.replaceM fun n => (do { if n.getKind == `Lean.Parser.Term.syntheticHole then { let nm := n[1].getId.eraseMacroScopes; if nm == `hl then { return some (Lean.mkIdent `My.hl) } else { return none } } else { return none } }); `(tactic| refine $(⟨t2⟩)) }
open PySem PySem.W PyProof.Rows
set_option maxRecDepth 100000 in
set_option maxHeartbeats 0 in
theorem PySem.Challenge.cw_chainmaps_k05_error_classes_holds : PySem.Challenge.rw_chainmaps_k05_error_classes.Holds := by
  w_on; o_law; k_headL; (case hw => w_witness2)
  k_fill
  refine My.walk (l := PySem.Challenge.rw_chainmaps_k05_error_classes) rfl rfl rfl (fun w h Y => PySem.W.kIn_of Y) (fun _ _ _ _ _ T => My.ok_law T) ?F
  case F =>
    intro w mg h KX G
    refine' My.mk_txt KX G ?a_l_hand ?l_l_hand ?c_l_hand ?k_l_hand ?a_l_draw ?l_l_draw ?c_l_draw ?k_l_draw ?a_l_item ?l_l_item ?c_l_item ?k_l_item ?a_l_of_values ?l_l_of_values ?c_l_of_values ?k_l_of_values ?a_l_others ?l_l_others ?c_l_others ?k_l_others ?a_l_marks ?l_l_marks ?c_l_marks ?k_l_marks ?a_l_above ?l_l_above ?c_l_above ?k_l_above ?a_l_bases ?l_l_bases ?c_l_bases ?k_l_bases ?a_law ?l_law ?c_law ?k_law ?a_InvalidSize ?xl_InvalidSize ?sa_InvalidSize ?ex_InvalidSize ?ty_InvalidSize ?kc_InvalidSize ?hd_InvalidSize ?ga_InvalidSize ?gg_InvalidSize ?ss_InvalidSize ?ca_InvalidSize ?cn_InvalidSize ?ct_InvalidSize ?cm_InvalidSize ?na_value_InvalidSize ?m_InvalidSize__init ?ti_InvalidSize__init ?l_InvalidSize__init ?c_InvalidSize__init ?k_InvalidSize__init ?a_InvalidElement ?xl_InvalidElement ?sa_InvalidElement ?ex_InvalidElement ?ty_InvalidElement ?kc_InvalidElement ?hd_InvalidElement ?ga_InvalidElement ?gg_InvalidElement ?ss_InvalidElement ?ca_InvalidElement ?cn_InvalidElement ?ct_InvalidElement ?cm_InvalidElement ?na_value_InvalidElement ?m_InvalidElement__init ?ti_InvalidElement__init ?l_InvalidElement__init ?c_InvalidElement__init ?k_InvalidElement__init ?a_InvalidNumber ?xl_InvalidNumber ?sa_InvalidNumber ?ex_InvalidNumber ?ty_InvalidNumber ?kc_InvalidNumber ?hd_InvalidNumber ?ga_InvalidNumber ?gg_InvalidNumber ?ss_InvalidNumber ?ca_InvalidNumber ?cn_InvalidNumber ?ct_InvalidNumber ?cm_InvalidNumber ?na_value_InvalidNumber ?m_InvalidNumber__init ?ti_InvalidNumber__init ?l_InvalidNumber__init ?c_InvalidNumber__init ?k_InvalidNumber__init ?a_InvalidFamily ?xl_InvalidFamily ?sa_InvalidFamily ?ex_InvalidFamily ?ty_InvalidFamily ?kc_InvalidFamily ?hd_InvalidFamily ?ga_InvalidFamily ?gg_InvalidFamily ?ss_InvalidFamily ?ca_InvalidFamily ?cn_InvalidFamily ?ct_InvalidFamily ?cm_InvalidFamily ?na_value_InvalidFamily ?m_InvalidFamily__init ?ti_InvalidFamily__init ?l_InvalidFamily__init ?c_InvalidFamily__init ?k_InvalidFamily__init ?a_InvalidUser ?xl_InvalidUser ?sa_InvalidUser ?ex_InvalidUser ?ty_InvalidUser ?kc_InvalidUser ?hd_InvalidUser ?ga_InvalidUser ?gg_InvalidUser ?ss_InvalidUser ?ca_InvalidUser ?cn_InvalidUser ?ct_InvalidUser ?cm_InvalidUser ?na_value_InvalidUser ?m_InvalidUser__init ?ti_InvalidUser__init ?l_InvalidUser__init ?c_InvalidUser__init ?k_InvalidUser__init ?a_InvalidCommand ?xl_InvalidCommand ?sa_InvalidCommand ?ex_InvalidCommand ?ty_InvalidCommand ?kc_InvalidCommand ?hd_InvalidCommand ?ga_InvalidCommand ?gg_InvalidCommand ?ss_InvalidCommand ?ca_InvalidCommand ?cn_InvalidCommand ?ct_InvalidCommand ?cm_InvalidCommand ?na_value_InvalidCommand ?m_InvalidCommand__init ?ti_InvalidCommand__init ?l_InvalidCommand__init ?c_InvalidCommand__init ?k_InvalidCommand__init ?a_Undefined ?xl_Undefined ?sa_Undefined ?ex_Undefined ?ty_Undefined ?kc_Undefined ?hd_Undefined ?ga_Undefined ?gg_Undefined ?ss_Undefined ?ca_Undefined ?cn_Undefined ?ct_Undefined ?cm_Undefined ?na_value_Undefined ?m_Undefined__init ?ti_Undefined__init ?l_Undefined__init ?c_Undefined__init ?k_Undefined__init ?a_InvalidMap ?xl_InvalidMap ?sa_InvalidMap ?ex_InvalidMap ?ty_InvalidMap ?kc_InvalidMap ?hd_InvalidMap ?ga_InvalidMap ?gg_InvalidMap ?ss_InvalidMap ?ca_InvalidMap ?cn_InvalidMap ?ct_InvalidMap ?cm_InvalidMap ?na_part_InvalidMap ?m_InvalidMap__init ?ti_InvalidMap__init ?l_InvalidMap__init ?c_InvalidMap__init ?k_InvalidMap__init ?a_InvalidShape ?xl_InvalidShape ?sa_InvalidShape ?ex_InvalidShape ?ty_InvalidShape ?kc_InvalidShape ?hd_InvalidShape ?ga_InvalidShape ?gg_InvalidShape ?ss_InvalidShape ?ca_InvalidShape ?cn_InvalidShape ?ct_InvalidShape ?cm_InvalidShape ?na_part_InvalidShape ?m_InvalidShape__init ?ti_InvalidShape__init ?l_InvalidShape__init ?c_InvalidShape__init ?k_InvalidShape__init ?a_InvalidPartial ?xl_InvalidPartial ?sa_InvalidPartial ?ex_InvalidPartial ?ty_InvalidPartial ?kc_InvalidPartial ?hd_InvalidPartial ?ga_InvalidPartial ?gg_InvalidPartial ?ss_InvalidPartial ?ca_InvalidPartial ?cn_InvalidPartial ?ct_InvalidPartial ?cm_InvalidPartial ?na_part_InvalidPartial ?m_InvalidPartial__init ?ti_InvalidPartial__init ?l_InvalidPartial__init ?c_InvalidPartial__init ?k_InvalidPartial__init ?a_ParseError ?xl_ParseError ?sa_ParseError ?ex_ParseError ?ty_ParseError ?kc_ParseError ?hd_ParseError ?ga_ParseError ?gg_ParseError ?ss_ParseError ?ca_ParseError ?cn_ParseError ?ct_ParseError ?cm_ParseError ?na_part_ParseError ?m_ParseError__init ?ti_ParseError__init ?l_ParseError__init ?c_ParseError__init ?k_ParseError__init ?a_InvalidSteps ?xl_InvalidSteps ?sa_InvalidSteps ?ex_InvalidSteps ?ty_InvalidSteps ?kc_InvalidSteps ?hd_InvalidSteps ?ga_InvalidSteps ?gg_InvalidSteps ?ss_InvalidSteps ?ca_InvalidSteps ?cn_InvalidSteps ?ct_InvalidSteps ?cm_InvalidSteps ?na_position_InvalidSteps ?m_InvalidSteps__init ?ti_InvalidSteps__init ?l_InvalidSteps__init ?c_InvalidSteps__init ?k_InvalidSteps__init ?a_InvalidWord ?xl_InvalidWord ?sa_InvalidWord ?ex_InvalidWord ?ty_InvalidWord ?kc_InvalidWord ?hd_InvalidWord ?ga_InvalidWord ?gg_InvalidWord ?ss_InvalidWord ?ca_InvalidWord ?cn_InvalidWord ?ct_InvalidWord ?cm_InvalidWord ?na_position_InvalidWord ?m_InvalidWord__init ?ti_InvalidWord__init ?l_InvalidWord__init ?c_InvalidWord__init ?k_InvalidWord__init ?a_LimitExceeded ?xl_LimitExceeded ?sa_LimitExceeded ?ex_LimitExceeded ?ty_LimitExceeded ?kc_LimitExceeded ?hd_LimitExceeded ?ga_LimitExceeded ?gg_LimitExceeded ?ss_LimitExceeded ?ca_LimitExceeded ?cn_LimitExceeded ?ct_LimitExceeded ?cm_LimitExceeded ?na_limit_LimitExceeded ?m_LimitExceeded__init ?ti_LimitExceeded__init ?l_LimitExceeded__init ?c_LimitExceeded__init ?k_LimitExceeded__init ?a_NotLast ?xl_NotLast ?sa_NotLast ?ex_NotLast ?ty_NotLast ?kc_NotLast ?hd_NotLast ?ga_NotLast ?gg_NotLast ?ss_NotLast ?ca_NotLast ?cn_NotLast ?ct_NotLast ?cm_NotLast ?na_user_NotLast ?m_NotLast__init ?ti_NotLast__init ?l_NotLast__init ?c_NotLast__init ?k_NotLast__init ?a_NothingToUndo ?xl_NothingToUndo ?sa_NothingToUndo ?ex_NothingToUndo ?ty_NothingToUndo ?kc_NothingToUndo ?hd_NothingToUndo ?ga_NothingToUndo ?gg_NothingToUndo ?ss_NothingToUndo ?ca_NothingToUndo ?cn_NothingToUndo ?ct_NothingToUndo ?cm_NothingToUndo ?na_user_NothingToUndo ?m_NothingToUndo__init ?ti_NothingToUndo__init ?l_NothingToUndo__init ?c_NothingToUndo__init ?k_NothingToUndo__init ?a_TooFew ?xl_TooFew ?sa_TooFew ?ex_TooFew ?ty_TooFew ?kc_TooFew ?hd_TooFew ?ga_TooFew ?gg_TooFew ?ss_TooFew ?ca_TooFew ?cn_TooFew ?ct_TooFew ?cm_TooFew ?na_number_TooFew ?m_TooFew__init ?ti_TooFew__init ?l_TooFew__init ?c_TooFew__init ?k_TooFew__init ?a_UnknownName ?xl_UnknownName ?sa_UnknownName ?ex_UnknownName ?ty_UnknownName ?kc_UnknownName ?hd_UnknownName ?ga_UnknownName ?gg_UnknownName ?ss_UnknownName ?ca_UnknownName ?cn_UnknownName ?ct_UnknownName ?cm_UnknownName ?na_name_UnknownName ?m_UnknownName__init ?ti_UnknownName__init ?l_UnknownName__init ?c_UnknownName__init ?k_UnknownName__init ?a_SizeMismatch ?xl_SizeMismatch ?sa_SizeMismatch ?ex_SizeMismatch ?ty_SizeMismatch ?kc_SizeMismatch ?hd_SizeMismatch ?ga_SizeMismatch ?gg_SizeMismatch ?ss_SizeMismatch ?ca_SizeMismatch ?cn_SizeMismatch ?ct_SizeMismatch ?cm_SizeMismatch ?na_first_SizeMismatch ?na_second_SizeMismatch ?m_SizeMismatch__init ?ti_SizeMismatch__init ?l_SizeMismatch__init ?c_SizeMismatch__init ?k_SizeMismatch__init ?a_Clash ?xl_Clash ?sa_Clash ?ex_Clash ?ty_Clash ?kc_Clash ?hd_Clash ?ga_Clash ?gg_Clash ?ss_Clash ?ca_Clash ?cn_Clash ?ct_Clash ?cm_Clash ?na_first_Clash ?na_second_Clash ?m_Clash__init ?ti_Clash__init ?l_Clash__init ?c_Clash__init ?k_Clash__init ?kit_tabA ?kit_tabB ?z_isinstance ?z_int ?z_len ?z_range ?z_max ?z_min ?z_repr ?z_enumerate ?z_ValueError ?z_RuntimeError ?z_OverflowError ?z_LookupError ?z_KeyError ?z_ArithmeticError
    (case a_l_hand => as_aux_lemma => k_is)
    (case l_l_hand => as_aux_lemma => k_is)
    (case c_l_hand => as_aux_lemma => k_is)
    (case k_l_hand => as_aux_lemma => k_is)
    (case a_l_draw => as_aux_lemma => k_is)
    (case l_l_draw => as_aux_lemma => k_is)
    (case c_l_draw => as_aux_lemma => k_is)
    (case k_l_draw => as_aux_lemma => k_is)
    (case a_l_item => as_aux_lemma => k_is)
    (case l_l_item => as_aux_lemma => k_is)
    (case c_l_item => as_aux_lemma => k_is)
    (case k_l_item => as_aux_lemma => k_is)
    (case a_l_of_values => as_aux_lemma => k_is)
    (case l_l_of_values => as_aux_lemma => k_is)
    (case c_l_of_values => as_aux_lemma => k_is)
    (case k_l_of_values => as_aux_lemma => k_is)
    (case a_l_others => as_aux_lemma => k_is)
    (case l_l_others => as_aux_lemma => k_is)
    (case c_l_others => as_aux_lemma => k_is)
    (case k_l_others => as_aux_lemma => k_is)
    (case a_l_marks => as_aux_lemma => k_is)
    (case l_l_marks => as_aux_lemma => k_is)
    (case c_l_marks => as_aux_lemma => k_is)
    (case k_l_marks => as_aux_lemma => k_is)
    (case a_l_above => as_aux_lemma => k_is)
    (case l_l_above => as_aux_lemma => k_is)
    (case c_l_above => as_aux_lemma => k_is)
    (case k_l_above => as_aux_lemma => k_is)
    (case a_l_bases => as_aux_lemma => k_is)
    (case l_l_bases => as_aux_lemma => k_is)
    (case c_l_bases => as_aux_lemma => k_is)
    (case k_l_bases => as_aux_lemma => k_is)
    (case a_law => as_aux_lemma => k_is)
    (case l_law => as_aux_lemma => k_is)
    (case c_law => as_aux_lemma => k_is)
    (case k_law => as_aux_lemma => k_is)
    (case a_InvalidSize => as_aux_lemma => k_is)
    (case xl_InvalidSize => as_aux_lemma => k_is)
    (case sa_InvalidSize => as_aux_lemma => k_is)
    (case ex_InvalidSize => as_aux_lemma => k_is)
    (case ty_InvalidSize => as_aux_lemma => k_is)
    (case kc_InvalidSize => as_aux_lemma => k_is)
    (case hd_InvalidSize => as_aux_lemma => k_is)
    (case ga_InvalidSize => as_aux_lemma => k_is)
    (case gg_InvalidSize => as_aux_lemma => k_is)
    (case ss_InvalidSize => as_aux_lemma => k_is)
    (case ca_InvalidSize => as_aux_lemma => k_is)
    (case cn_InvalidSize => as_aux_lemma => k_is)
    (case ct_InvalidSize => as_aux_lemma => k_is)
    (case cm_InvalidSize => as_aux_lemma => k_is)
    (case na_value_InvalidSize => as_aux_lemma => k_is)
    (case m_InvalidSize__init => as_aux_lemma => k_is)
    (case ti_InvalidSize__init => as_aux_lemma => k_is)
    (case l_InvalidSize__init => as_aux_lemma => k_is)
    (case c_InvalidSize__init => as_aux_lemma => k_is)
    (case k_InvalidSize__init => as_aux_lemma => k_is)
    (case a_InvalidElement => as_aux_lemma => k_is)
    (case xl_InvalidElement => as_aux_lemma => k_is)
    (case sa_InvalidElement => as_aux_lemma => k_is)
    (case ex_InvalidElement => as_aux_lemma => k_is)
    (case ty_InvalidElement => as_aux_lemma => k_is)
    (case kc_InvalidElement => as_aux_lemma => k_is)
    (case hd_InvalidElement => as_aux_lemma => k_is)
    (case ga_InvalidElement => as_aux_lemma => k_is)
    (case gg_InvalidElement => as_aux_lemma => k_is)
    (case ss_InvalidElement => as_aux_lemma => k_is)
    (case ca_InvalidElement => as_aux_lemma => k_is)
    (case cn_InvalidElement => as_aux_lemma => k_is)
    (case ct_InvalidElement => as_aux_lemma => k_is)
    (case cm_InvalidElement => as_aux_lemma => k_is)
    (case na_value_InvalidElement => as_aux_lemma => k_is)
    (case m_InvalidElement__init => as_aux_lemma => k_is)
    (case ti_InvalidElement__init => as_aux_lemma => k_is)
    (case l_InvalidElement__init => as_aux_lemma => k_is)
    (case c_InvalidElement__init => as_aux_lemma => k_is)
    (case k_InvalidElement__init => as_aux_lemma => k_is)
    (case a_InvalidNumber => as_aux_lemma => k_is)
    (case xl_InvalidNumber => as_aux_lemma => k_is)
    (case sa_InvalidNumber => as_aux_lemma => k_is)
    (case ex_InvalidNumber => as_aux_lemma => k_is)
    (case ty_InvalidNumber => as_aux_lemma => k_is)
    (case kc_InvalidNumber => as_aux_lemma => k_is)
    (case hd_InvalidNumber => as_aux_lemma => k_is)
    (case ga_InvalidNumber => as_aux_lemma => k_is)
    (case gg_InvalidNumber => as_aux_lemma => k_is)
    (case ss_InvalidNumber => as_aux_lemma => k_is)
    (case ca_InvalidNumber => as_aux_lemma => k_is)
    (case cn_InvalidNumber => as_aux_lemma => k_is)
    (case ct_InvalidNumber => as_aux_lemma => k_is)
    (case cm_InvalidNumber => as_aux_lemma => k_is)
    (case na_value_InvalidNumber => as_aux_lemma => k_is)
    (case m_InvalidNumber__init => as_aux_lemma => k_is)
    (case ti_InvalidNumber__init => as_aux_lemma => k_is)
    (case l_InvalidNumber__init => as_aux_lemma => k_is)
    (case c_InvalidNumber__init => as_aux_lemma => k_is)
    (case k_InvalidNumber__init => as_aux_lemma => k_is)
    (case a_InvalidFamily => as_aux_lemma => k_is)
    (case xl_InvalidFamily => as_aux_lemma => k_is)
    (case sa_InvalidFamily => as_aux_lemma => k_is)
    (case ex_InvalidFamily => as_aux_lemma => k_is)
    (case ty_InvalidFamily => as_aux_lemma => k_is)
    (case kc_InvalidFamily => as_aux_lemma => k_is)
    (case hd_InvalidFamily => as_aux_lemma => k_is)
    (case ga_InvalidFamily => as_aux_lemma => k_is)
    (case gg_InvalidFamily => as_aux_lemma => k_is)
    (case ss_InvalidFamily => as_aux_lemma => k_is)
    (case ca_InvalidFamily => as_aux_lemma => k_is)
    (case cn_InvalidFamily => as_aux_lemma => k_is)
    (case ct_InvalidFamily => as_aux_lemma => k_is)
    (case cm_InvalidFamily => as_aux_lemma => k_is)
    (case na_value_InvalidFamily => as_aux_lemma => k_is)
    (case m_InvalidFamily__init => as_aux_lemma => k_is)
    (case ti_InvalidFamily__init => as_aux_lemma => k_is)
    (case l_InvalidFamily__init => as_aux_lemma => k_is)
    (case c_InvalidFamily__init => as_aux_lemma => k_is)
    (case k_InvalidFamily__init => as_aux_lemma => k_is)
    (case a_InvalidUser => as_aux_lemma => k_is)
    (case xl_InvalidUser => as_aux_lemma => k_is)
    (case sa_InvalidUser => as_aux_lemma => k_is)
    (case ex_InvalidUser => as_aux_lemma => k_is)
    (case ty_InvalidUser => as_aux_lemma => k_is)
    (case kc_InvalidUser => as_aux_lemma => k_is)
    (case hd_InvalidUser => as_aux_lemma => k_is)
    (case ga_InvalidUser => as_aux_lemma => k_is)
    (case gg_InvalidUser => as_aux_lemma => k_is)
    (case ss_InvalidUser => as_aux_lemma => k_is)
    (case ca_InvalidUser => as_aux_lemma => k_is)
    (case cn_InvalidUser => as_aux_lemma => k_is)
    (case ct_InvalidUser => as_aux_lemma => k_is)
    (case cm_InvalidUser => as_aux_lemma => k_is)
    (case na_value_InvalidUser => as_aux_lemma => k_is)
    (case m_InvalidUser__init => as_aux_lemma => k_is)
    (case ti_InvalidUser__init => as_aux_lemma => k_is)
    (case l_InvalidUser__init => as_aux_lemma => k_is)
    (case c_InvalidUser__init => as_aux_lemma => k_is)
    (case k_InvalidUser__init => as_aux_lemma => k_is)
    (case a_InvalidCommand => as_aux_lemma => k_is)
    (case xl_InvalidCommand => as_aux_lemma => k_is)
    (case sa_InvalidCommand => as_aux_lemma => k_is)
    (case ex_InvalidCommand => as_aux_lemma => k_is)
    (case ty_InvalidCommand => as_aux_lemma => k_is)
    (case kc_InvalidCommand => as_aux_lemma => k_is)
    (case hd_InvalidCommand => as_aux_lemma => k_is)
    (case ga_InvalidCommand => as_aux_lemma => k_is)
    (case gg_InvalidCommand => as_aux_lemma => k_is)
    (case ss_InvalidCommand => as_aux_lemma => k_is)
    (case ca_InvalidCommand => as_aux_lemma => k_is)
    (case cn_InvalidCommand => as_aux_lemma => k_is)
    (case ct_InvalidCommand => as_aux_lemma => k_is)
    (case cm_InvalidCommand => as_aux_lemma => k_is)
    (case na_value_InvalidCommand => as_aux_lemma => k_is)
    (case m_InvalidCommand__init => as_aux_lemma => k_is)
    (case ti_InvalidCommand__init => as_aux_lemma => k_is)
    (case l_InvalidCommand__init => as_aux_lemma => k_is)
    (case c_InvalidCommand__init => as_aux_lemma => k_is)
    (case k_InvalidCommand__init => as_aux_lemma => k_is)
    (case a_Undefined => as_aux_lemma => k_is)
    (case xl_Undefined => as_aux_lemma => k_is)
    (case sa_Undefined => as_aux_lemma => k_is)
    (case ex_Undefined => as_aux_lemma => k_is)
    (case ty_Undefined => as_aux_lemma => k_is)
    (case kc_Undefined => as_aux_lemma => k_is)
    (case hd_Undefined => as_aux_lemma => k_is)
    (case ga_Undefined => as_aux_lemma => k_is)
    (case gg_Undefined => as_aux_lemma => k_is)
    (case ss_Undefined => as_aux_lemma => k_is)
    (case ca_Undefined => as_aux_lemma => k_is)
    (case cn_Undefined => as_aux_lemma => k_is)
    (case ct_Undefined => as_aux_lemma => k_is)
    (case cm_Undefined => as_aux_lemma => k_is)
    (case na_value_Undefined => as_aux_lemma => k_is)
    (case m_Undefined__init => as_aux_lemma => k_is)
    (case ti_Undefined__init => as_aux_lemma => k_is)
    (case l_Undefined__init => as_aux_lemma => k_is)
    (case c_Undefined__init => as_aux_lemma => k_is)
    (case k_Undefined__init => as_aux_lemma => k_is)
    (case a_InvalidMap => as_aux_lemma => k_is)
    (case xl_InvalidMap => as_aux_lemma => k_is)
    (case sa_InvalidMap => as_aux_lemma => k_is)
    (case ex_InvalidMap => as_aux_lemma => k_is)
    (case ty_InvalidMap => as_aux_lemma => k_is)
    (case kc_InvalidMap => as_aux_lemma => k_is)
    (case hd_InvalidMap => as_aux_lemma => k_is)
    (case ga_InvalidMap => as_aux_lemma => k_is)
    (case gg_InvalidMap => as_aux_lemma => k_is)
    (case ss_InvalidMap => as_aux_lemma => k_is)
    (case ca_InvalidMap => as_aux_lemma => k_is)
    (case cn_InvalidMap => as_aux_lemma => k_is)
    (case ct_InvalidMap => as_aux_lemma => k_is)
    (case cm_InvalidMap => as_aux_lemma => k_is)
    (case na_part_InvalidMap => as_aux_lemma => k_is)
    (case m_InvalidMap__init => as_aux_lemma => k_is)
    (case ti_InvalidMap__init => as_aux_lemma => k_is)
    (case l_InvalidMap__init => as_aux_lemma => k_is)
    (case c_InvalidMap__init => as_aux_lemma => k_is)
    (case k_InvalidMap__init => as_aux_lemma => k_is)
    (case a_InvalidShape => as_aux_lemma => k_is)
    (case xl_InvalidShape => as_aux_lemma => k_is)
    (case sa_InvalidShape => as_aux_lemma => k_is)
    (case ex_InvalidShape => as_aux_lemma => k_is)
    (case ty_InvalidShape => as_aux_lemma => k_is)
    (case kc_InvalidShape => as_aux_lemma => k_is)
    (case hd_InvalidShape => as_aux_lemma => k_is)
    (case ga_InvalidShape => as_aux_lemma => k_is)
    (case gg_InvalidShape => as_aux_lemma => k_is)
    (case ss_InvalidShape => as_aux_lemma => k_is)
    (case ca_InvalidShape => as_aux_lemma => k_is)
    (case cn_InvalidShape => as_aux_lemma => k_is)
    (case ct_InvalidShape => as_aux_lemma => k_is)
    (case cm_InvalidShape => as_aux_lemma => k_is)
    (case na_part_InvalidShape => as_aux_lemma => k_is)
    (case m_InvalidShape__init => as_aux_lemma => k_is)
    (case ti_InvalidShape__init => as_aux_lemma => k_is)
    (case l_InvalidShape__init => as_aux_lemma => k_is)
    (case c_InvalidShape__init => as_aux_lemma => k_is)
    (case k_InvalidShape__init => as_aux_lemma => k_is)
    (case a_InvalidPartial => as_aux_lemma => k_is)
    (case xl_InvalidPartial => as_aux_lemma => k_is)
    (case sa_InvalidPartial => as_aux_lemma => k_is)
    (case ex_InvalidPartial => as_aux_lemma => k_is)
    (case ty_InvalidPartial => as_aux_lemma => k_is)
    (case kc_InvalidPartial => as_aux_lemma => k_is)
    (case hd_InvalidPartial => as_aux_lemma => k_is)
    (case ga_InvalidPartial => as_aux_lemma => k_is)
    (case gg_InvalidPartial => as_aux_lemma => k_is)
    (case ss_InvalidPartial => as_aux_lemma => k_is)
    (case ca_InvalidPartial => as_aux_lemma => k_is)
    (case cn_InvalidPartial => as_aux_lemma => k_is)
    (case ct_InvalidPartial => as_aux_lemma => k_is)
    (case cm_InvalidPartial => as_aux_lemma => k_is)
    (case na_part_InvalidPartial => as_aux_lemma => k_is)
    (case m_InvalidPartial__init => as_aux_lemma => k_is)
    (case ti_InvalidPartial__init => as_aux_lemma => k_is)
    (case l_InvalidPartial__init => as_aux_lemma => k_is)
    (case c_InvalidPartial__init => as_aux_lemma => k_is)
    (case k_InvalidPartial__init => as_aux_lemma => k_is)
    (case a_ParseError => as_aux_lemma => k_is)
    (case xl_ParseError => as_aux_lemma => k_is)
    (case sa_ParseError => as_aux_lemma => k_is)
    (case ex_ParseError => as_aux_lemma => k_is)
    (case ty_ParseError => as_aux_lemma => k_is)
    (case kc_ParseError => as_aux_lemma => k_is)
    (case hd_ParseError => as_aux_lemma => k_is)
    (case ga_ParseError => as_aux_lemma => k_is)
    (case gg_ParseError => as_aux_lemma => k_is)
    (case ss_ParseError => as_aux_lemma => k_is)
    (case ca_ParseError => as_aux_lemma => k_is)
    (case cn_ParseError => as_aux_lemma => k_is)
    (case ct_ParseError => as_aux_lemma => k_is)
    (case cm_ParseError => as_aux_lemma => k_is)
    (case na_part_ParseError => as_aux_lemma => k_is)
    (case m_ParseError__init => as_aux_lemma => k_is)
    (case ti_ParseError__init => as_aux_lemma => k_is)
    (case l_ParseError__init => as_aux_lemma => k_is)
    (case c_ParseError__init => as_aux_lemma => k_is)
    (case k_ParseError__init => as_aux_lemma => k_is)
    (case a_InvalidSteps => as_aux_lemma => k_is)
    (case xl_InvalidSteps => as_aux_lemma => k_is)
    (case sa_InvalidSteps => as_aux_lemma => k_is)
    (case ex_InvalidSteps => as_aux_lemma => k_is)
    (case ty_InvalidSteps => as_aux_lemma => k_is)
    (case kc_InvalidSteps => as_aux_lemma => k_is)
    (case hd_InvalidSteps => as_aux_lemma => k_is)
    (case ga_InvalidSteps => as_aux_lemma => k_is)
    (case gg_InvalidSteps => as_aux_lemma => k_is)
    (case ss_InvalidSteps => as_aux_lemma => k_is)
    (case ca_InvalidSteps => as_aux_lemma => k_is)
    (case cn_InvalidSteps => as_aux_lemma => k_is)
    (case ct_InvalidSteps => as_aux_lemma => k_is)
    (case cm_InvalidSteps => as_aux_lemma => k_is)
    (case na_position_InvalidSteps => as_aux_lemma => k_is)
    (case m_InvalidSteps__init => as_aux_lemma => k_is)
    (case ti_InvalidSteps__init => as_aux_lemma => k_is)
    (case l_InvalidSteps__init => as_aux_lemma => k_is)
    (case c_InvalidSteps__init => as_aux_lemma => k_is)
    (case k_InvalidSteps__init => as_aux_lemma => k_is)
    (case a_InvalidWord => as_aux_lemma => k_is)
    (case xl_InvalidWord => as_aux_lemma => k_is)
    (case sa_InvalidWord => as_aux_lemma => k_is)
    (case ex_InvalidWord => as_aux_lemma => k_is)
    (case ty_InvalidWord => as_aux_lemma => k_is)
    (case kc_InvalidWord => as_aux_lemma => k_is)
    (case hd_InvalidWord => as_aux_lemma => k_is)
    (case ga_InvalidWord => as_aux_lemma => k_is)
    (case gg_InvalidWord => as_aux_lemma => k_is)
    (case ss_InvalidWord => as_aux_lemma => k_is)
    (case ca_InvalidWord => as_aux_lemma => k_is)
    (case cn_InvalidWord => as_aux_lemma => k_is)
    (case ct_InvalidWord => as_aux_lemma => k_is)
    (case cm_InvalidWord => as_aux_lemma => k_is)
    (case na_position_InvalidWord => as_aux_lemma => k_is)
    (case m_InvalidWord__init => as_aux_lemma => k_is)
    (case ti_InvalidWord__init => as_aux_lemma => k_is)
    (case l_InvalidWord__init => as_aux_lemma => k_is)
    (case c_InvalidWord__init => as_aux_lemma => k_is)
    (case k_InvalidWord__init => as_aux_lemma => k_is)
    (case a_LimitExceeded => as_aux_lemma => k_is)
    (case xl_LimitExceeded => as_aux_lemma => k_is)
    (case sa_LimitExceeded => as_aux_lemma => k_is)
    (case ex_LimitExceeded => as_aux_lemma => k_is)
    (case ty_LimitExceeded => as_aux_lemma => k_is)
    (case kc_LimitExceeded => as_aux_lemma => k_is)
    (case hd_LimitExceeded => as_aux_lemma => k_is)
    (case ga_LimitExceeded => as_aux_lemma => k_is)
    (case gg_LimitExceeded => as_aux_lemma => k_is)
    (case ss_LimitExceeded => as_aux_lemma => k_is)
    (case ca_LimitExceeded => as_aux_lemma => k_is)
    (case cn_LimitExceeded => as_aux_lemma => k_is)
    (case ct_LimitExceeded => as_aux_lemma => k_is)
    (case cm_LimitExceeded => as_aux_lemma => k_is)
    (case na_limit_LimitExceeded => as_aux_lemma => k_is)
    (case m_LimitExceeded__init => as_aux_lemma => k_is)
    (case ti_LimitExceeded__init => as_aux_lemma => k_is)
    (case l_LimitExceeded__init => as_aux_lemma => k_is)
    (case c_LimitExceeded__init => as_aux_lemma => k_is)
    (case k_LimitExceeded__init => as_aux_lemma => k_is)
    (case a_NotLast => as_aux_lemma => k_is)
    (case xl_NotLast => as_aux_lemma => k_is)
    (case sa_NotLast => as_aux_lemma => k_is)
    (case ex_NotLast => as_aux_lemma => k_is)
    (case ty_NotLast => as_aux_lemma => k_is)
    (case kc_NotLast => as_aux_lemma => k_is)
    (case hd_NotLast => as_aux_lemma => k_is)
    (case ga_NotLast => as_aux_lemma => k_is)
    (case gg_NotLast => as_aux_lemma => k_is)
    (case ss_NotLast => as_aux_lemma => k_is)
    (case ca_NotLast => as_aux_lemma => k_is)
    (case cn_NotLast => as_aux_lemma => k_is)
    (case ct_NotLast => as_aux_lemma => k_is)
    (case cm_NotLast => as_aux_lemma => k_is)
    (case na_user_NotLast => as_aux_lemma => k_is)
    (case m_NotLast__init => as_aux_lemma => k_is)
    (case ti_NotLast__init => as_aux_lemma => k_is)
    (case l_NotLast__init => as_aux_lemma => k_is)
    (case c_NotLast__init => as_aux_lemma => k_is)
    (case k_NotLast__init => as_aux_lemma => k_is)
    (case a_NothingToUndo => as_aux_lemma => k_is)
    (case xl_NothingToUndo => as_aux_lemma => k_is)
    (case sa_NothingToUndo => as_aux_lemma => k_is)
    (case ex_NothingToUndo => as_aux_lemma => k_is)
    (case ty_NothingToUndo => as_aux_lemma => k_is)
    (case kc_NothingToUndo => as_aux_lemma => k_is)
    (case hd_NothingToUndo => as_aux_lemma => k_is)
    (case ga_NothingToUndo => as_aux_lemma => k_is)
    (case gg_NothingToUndo => as_aux_lemma => k_is)
    (case ss_NothingToUndo => as_aux_lemma => k_is)
    (case ca_NothingToUndo => as_aux_lemma => k_is)
    (case cn_NothingToUndo => as_aux_lemma => k_is)
    (case ct_NothingToUndo => as_aux_lemma => k_is)
    (case cm_NothingToUndo => as_aux_lemma => k_is)
    (case na_user_NothingToUndo => as_aux_lemma => k_is)
    (case m_NothingToUndo__init => as_aux_lemma => k_is)
    (case ti_NothingToUndo__init => as_aux_lemma => k_is)
    (case l_NothingToUndo__init => as_aux_lemma => k_is)
    (case c_NothingToUndo__init => as_aux_lemma => k_is)
    (case k_NothingToUndo__init => as_aux_lemma => k_is)
    (case a_TooFew => as_aux_lemma => k_is)
    (case xl_TooFew => as_aux_lemma => k_is)
    (case sa_TooFew => as_aux_lemma => k_is)
    (case ex_TooFew => as_aux_lemma => k_is)
    (case ty_TooFew => as_aux_lemma => k_is)
    (case kc_TooFew => as_aux_lemma => k_is)
    (case hd_TooFew => as_aux_lemma => k_is)
    (case ga_TooFew => as_aux_lemma => k_is)
    (case gg_TooFew => as_aux_lemma => k_is)
    (case ss_TooFew => as_aux_lemma => k_is)
    (case ca_TooFew => as_aux_lemma => k_is)
    (case cn_TooFew => as_aux_lemma => k_is)
    (case ct_TooFew => as_aux_lemma => k_is)
    (case cm_TooFew => as_aux_lemma => k_is)
    (case na_number_TooFew => as_aux_lemma => k_is)
    (case m_TooFew__init => as_aux_lemma => k_is)
    (case ti_TooFew__init => as_aux_lemma => k_is)
    (case l_TooFew__init => as_aux_lemma => k_is)
    (case c_TooFew__init => as_aux_lemma => k_is)
    (case k_TooFew__init => as_aux_lemma => k_is)
    (case a_UnknownName => as_aux_lemma => k_is)
    (case xl_UnknownName => as_aux_lemma => k_is)
    (case sa_UnknownName => as_aux_lemma => k_is)
    (case ex_UnknownName => as_aux_lemma => k_is)
    (case ty_UnknownName => as_aux_lemma => k_is)
    (case kc_UnknownName => as_aux_lemma => k_is)
    (case hd_UnknownName => as_aux_lemma => k_is)
    (case ga_UnknownName => as_aux_lemma => k_is)
    (case gg_UnknownName => as_aux_lemma => k_is)
    (case ss_UnknownName => as_aux_lemma => k_is)
    (case ca_UnknownName => as_aux_lemma => k_is)
    (case cn_UnknownName => as_aux_lemma => k_is)
    (case ct_UnknownName => as_aux_lemma => k_is)
    (case cm_UnknownName => as_aux_lemma => k_is)
    (case na_name_UnknownName => as_aux_lemma => k_is)
    (case m_UnknownName__init => as_aux_lemma => k_is)
    (case ti_UnknownName__init => as_aux_lemma => k_is)
    (case l_UnknownName__init => as_aux_lemma => k_is)
    (case c_UnknownName__init => as_aux_lemma => k_is)
    (case k_UnknownName__init => as_aux_lemma => k_is)
    (case a_SizeMismatch => as_aux_lemma => k_is)
    (case xl_SizeMismatch => as_aux_lemma => k_is)
    (case sa_SizeMismatch => as_aux_lemma => k_is)
    (case ex_SizeMismatch => as_aux_lemma => k_is)
    (case ty_SizeMismatch => as_aux_lemma => k_is)
    (case kc_SizeMismatch => as_aux_lemma => k_is)
    (case hd_SizeMismatch => as_aux_lemma => k_is)
    (case ga_SizeMismatch => as_aux_lemma => k_is)
    (case gg_SizeMismatch => as_aux_lemma => k_is)
    (case ss_SizeMismatch => as_aux_lemma => k_is)
    (case ca_SizeMismatch => as_aux_lemma => k_is)
    (case cn_SizeMismatch => as_aux_lemma => k_is)
    (case ct_SizeMismatch => as_aux_lemma => k_is)
    (case cm_SizeMismatch => as_aux_lemma => k_is)
    (case na_first_SizeMismatch => as_aux_lemma => k_is)
    (case na_second_SizeMismatch => as_aux_lemma => k_is)
    (case m_SizeMismatch__init => as_aux_lemma => k_is)
    (case ti_SizeMismatch__init => as_aux_lemma => k_is)
    (case l_SizeMismatch__init => as_aux_lemma => k_is)
    (case c_SizeMismatch__init => as_aux_lemma => k_is)
    (case k_SizeMismatch__init => as_aux_lemma => k_is)
    (case a_Clash => as_aux_lemma => k_is)
    (case xl_Clash => as_aux_lemma => k_is)
    (case sa_Clash => as_aux_lemma => k_is)
    (case ex_Clash => as_aux_lemma => k_is)
    (case ty_Clash => as_aux_lemma => k_is)
    (case kc_Clash => as_aux_lemma => k_is)
    (case hd_Clash => as_aux_lemma => k_is)
    (case ga_Clash => as_aux_lemma => k_is)
    (case gg_Clash => as_aux_lemma => k_is)
    (case ss_Clash => as_aux_lemma => k_is)
    (case ca_Clash => as_aux_lemma => k_is)
    (case cn_Clash => as_aux_lemma => k_is)
    (case ct_Clash => as_aux_lemma => k_is)
    (case cm_Clash => as_aux_lemma => k_is)
    (case na_first_Clash => as_aux_lemma => k_is)
    (case na_second_Clash => as_aux_lemma => k_is)
    (case m_Clash__init => as_aux_lemma => k_is)
    (case ti_Clash__init => as_aux_lemma => k_is)
    (case l_Clash__init => as_aux_lemma => k_is)
    (case c_Clash__init => as_aux_lemma => k_is)
    (case k_Clash__init => as_aux_lemma => k_is)
    (case kit_tabA => as_aux_lemma => kernel_rfl)
    (case kit_tabB => as_aux_lemma => kernel_rfl)
    (case z_isinstance => as_aux_lemma => k_is)
    (case z_int => as_aux_lemma => k_is)
    (case z_len => as_aux_lemma => k_is)
    (case z_range => as_aux_lemma => k_is)
    (case z_max => as_aux_lemma => k_is)
    (case z_min => as_aux_lemma => k_is)
    (case z_repr => as_aux_lemma => k_is)
    (case z_enumerate => as_aux_lemma => k_is)
    (case z_ValueError => as_aux_lemma => k_is)
    (case z_RuntimeError => as_aux_lemma => k_is)
    (case z_OverflowError => as_aux_lemma => k_is)
    (case z_LookupError => as_aux_lemma => k_is)
    (case z_KeyError => as_aux_lemma => k_is)
    (case z_ArithmeticError => as_aux_lemma => k_is)
