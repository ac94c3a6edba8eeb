import PyProof.Rows.All
import Wide.All
import OpenK.AllK
import Wide.FinOn
import HandS.ForMost
import HandS.ForExc
import HandS.Evl
import HandS.Walk
import HandS.Property
import HandS.IsInst
import HandS.Style
import HandS.More
import HandS.SetFor
import HandS.Zip
import HandS.TupAny
import HandS.Wide
import HandS.Deep
import KE.KOpsOwn
import KE.KDictZip
import KE.GoesEnum
import KE.Datum
import KE.IntTextLaws
import PyProof.StrBlock2
import PySem.Challenge.RW_hourneeds_k15_whole_served_and_serving
set_option Elab.async false
set_option linter.all false
set_option maxRecDepth 100000
set_option maxHeartbeats 2000000
/-! Rules of our own over the hand layer: items of lists by +=, operators, comparisons and subscripts of own classes. -/
namespace Hn
open PySem PySem.Spec PyProof.Rows L2

/-- xs[i] by getItem (for xs[i] += e) -/
theorem get_list {X : Cx} : PGet X (rIxL X.K) := by
  intro pins s σ H x y v u Q I rx ry h
  obtain ⟨p, xs, i, z, rfl, rfl, hq, he, q⟩ := h
  cases rx
  obtain ⟨t, rfl⟩ := ry
  obtain ⟨its, r, pl, hz⟩ := I.list hq
  obtain ⟨j, h1, h2, h3, h4, h5⟩ := atI_get he
  obtain ⟨w, ew, rw'⟩ := r.get h2
  have hl := r.length
  have hn := line63
  have fin : EP X pins σ Q w s := ⟨z, H, I, rw', q⟩
  by_cases h0 : 0 ≤ i
  · have hj : i.toNat = j := by
      rw [seqIndex_of h0 h5] at h1
      exact Option.some.inj h1
    exact wpAny_getItem_list pl.isList h0 (by omega) (by rw [hj]; simpa using ew) fin
  · have hj : (i + (its.toArray.size : Int)).toNat = j := by
      rw [seqIndex_neg (by omega) h4] at h1
      rw [List.size_toArray, ← hl]
      exact Option.some.inj h1
    exact wpAny_getItem_list_neg pl.isList (by omega) (by rw [List.size_toArray] <;> omega) (by omega) (by rw [hj]; simpa using ew) fin

section
variable {X : Cx} {CX : CXT} {k : Nat} {f C : Addr} {fd : FuncData} {ps : List Str} {sp : Sp} {E : XK}

/-- a promise whose answers are never NotImplemented: nothing to ask, values V have none -/
theorem back_ne {pins : List (Addr × Obj)} {σ : L2.St} {Q : VK} {v : Value} {s' : Shared} (h : EP X pins σ Q v s') : PySem.W.CmpBack (EP X pins σ Q) v s' := by
  obtain ⟨z, H', I', r, q⟩ := id h
  cases z with
  | non => cases r; exact h
  | bl b => cases r; exact h
  | int i => obtain ⟨t, rfl⟩ := r; exact h
  | str i => obtain ⟨t, rfl⟩ := r; exact h
  | byt i => obtain ⟨t, rfl⟩ := r; exact h
  | flt i => obtain ⟨t, rfl⟩ := r; exact h
  | ref a => cases r; exact h
  | ty n => cases r; exact h

/-- x op y by the class's own method, both of one class -/
def rOwn (C : Addr) (sp : Sp) (E : XK) : R2 := fun x y H Q => ∃ a b dx dy fs gs, x = .ref a ∧ y = .ref b ∧ H a = some (.ins C dx fs) ∧ H b = some (.ins C dy gs) ∧ sp [x, y] H Q E
theorem op_own {op : Operator} (F : FnOk X.prog X.w X.K X.mg X.base CX k f fd ps sp) (hr : Room k X.A) (hb : Binds X.K fd ps []) (hx : Passes CX X E)
    (hc : PySem.W.selfFirst X.K C = true) (hs : PySem.W.findIn X.K (.ref C) (PySem.dunder op.info.2) = some (some (.ref f))) (hf : PySem.W.isFn X.K (.ref f) = true) :
    OpR X (binaryOp op) (rOwn C sp E) := by
  intro pins s σ H x y v u Q I rx ry h
  obtain ⟨a, b, dx, dy, fs, gs, rfl, rfl, ha, hbb, q⟩ := h
  cases rx
  cases ry
  obtain ⟨mA, J, _⟩ := ins_get I.hok ha
  obtain ⟨mB, J', _⟩ := ins_get I.hok hbb
  obtain ⟨od, J, _⟩ := J.look
  obtain ⟨od', J', _⟩ := J'.look
  obtain ⟨m, hF⟩ := I.fr
  refine PySem.W.binop_K hF I.ok.mod.kin J J'.type hc hs hf ?_
  exact wpAny_mono (run_fn (us := [.ref a, .ref b]) (vs := [.ref a, .ref b]) F hr hb .nil hx I (.cons rfl (.cons rfl .nil)) q) (fun v s' hv => back_ne hv) fun _ _ e => e

/-- x op n, n an int -/
def rOwnI (C : Addr) (sp : Sp) (E : XK) : R2 := fun x y H Q => ∃ a i dx fs, x = .ref a ∧ y = .int i ∧ H a = some (.ins C dx fs) ∧ sp [x, y] H Q E
theorem op_ownI {op : Operator} {rc fo ro : Option Value} (F : FnOk X.prog X.w X.K X.mg X.base CX k f fd ps sp) (hr : Room k X.A) (hb : Binds X.K fd ps []) (hx : Passes CX X E)
    (hc : PySem.W.selfFirst X.K C = true) (hs : PySem.W.findIn X.K (.ref C) (PySem.dunder op.info.2) = some (some (.ref f))) (hf : PySem.W.isFn X.K (.ref f) = true)
    (hrc : PySem.W.findIn X.K (.ref C) (dunderR op.info.2) = some rc) (hp : rc = none ∨ ∃ g : Addr, rc = some (.ref g))
    (h1 : PySem.W.findIn X.K (.type "int") (PySem.dunder op.info.2) = some fo) (h2 : PySem.W.findIn X.K (.type "int") (dunderR op.info.2) = some ro) (hsub : PySem.W.subIn X.K (.type "int") (.ref C) = some false) :
    OpR X (binaryOp op) (rOwnI C sp E) := by
  intro pins s σ H x y v u Q I rx ry h
  obtain ⟨a, i, dx, fs, rfl, rfl, ha, q⟩ := h
  cases rx
  obtain ⟨t, rfl⟩ := ry
  obtain ⟨mA, J, _⟩ := ins_get I.hok ha
  obtain ⟨od, J, _⟩ := J.look
  obtain ⟨m, hF⟩ := I.fr
  refine PySem.W.ksp_binT (b := .int i t) (T := "int") hF I.ok.mod.kin J rfl hc hs hf hrc hp h1 h2 hsub ?_
  exact wpAny_mono (run_fn (us := [.ref a, .int i t]) (vs := [.ref a, .int i]) F hr hb .nil hx I (.cons rfl (.cons ⟨t, rfl⟩ .nil)) q) (fun v s' hv => back_ne hv) fun _ _ e => e

/-- x == y by the class's own method -/
theorem op_eqOwn (F : FnOk X.prog X.w X.K X.mg X.base CX k f fd ps sp) (hr : Room k X.A) (hb : Binds X.K fd ps []) (hx : Passes CX X E)
    (hs : PySem.W.findIn X.K (.ref C) "__eq__" = some (some (.ref f))) (hf : PySem.W.isFn X.K (.ref f) = true) :
    OpR X (compareOp .Eq) (rOwn C sp E) := by
  intro pins s σ H x y v u Q I rx ry h
  obtain ⟨a, b, dx, dy, fs, gs, rfl, rfl, ha, hbb, q⟩ := h
  cases rx
  cases ry
  obtain ⟨mA, J, _⟩ := ins_get I.hok ha
  obtain ⟨mB, J', _⟩ := ins_get I.hok hbb
  obtain ⟨od, J, _⟩ := J.look
  obtain ⟨od', J', _⟩ := J'.look
  obtain ⟨m, hF⟩ := I.fr
  refine PySem.W.cmp_K (op := .Eq) (tb := .ref C) hr.units0 hF I.ok.mod.kin J J'.type (by simp [PySem.W.notFirst]) hs hf ?_
  exact wpAny_mono (run_fn (us := [.ref a, .ref b]) (vs := [.ref a, .ref b]) F hr hb .nil hx I (.cons rfl (.cons rfl .nil)) q) (fun v s' hv => back_ne hv) fun _ _ e => e

/-- the callee runs, called by a built-in -/
theorem run_fn1 {pins : List (Addr × Obj)} {σ : L2.St} {H : Hp} {s : Shared} {Q : VK} {us : List Value} {vs : List V} (F : FnOk X.prog X.w X.K X.mg X.base CX k f fd ps sp) (hr : Room (k + 1) X.A) (hb : Binds X.K fd ps []) (hx : Passes CX X E)
    (I : Inv X pins σ H s) (r : Vals vs us) (h : sp vs H Q E) : wpAny (model X.prog X.w) X.A.in1 (call (.ref f) us) (EP X pins σ Q) X.xe s := by
  have hl : (us ++ []).length = ps.length := by
    rw [List.append_nil, ← r.length]
    exact F.len _ _ _ _ h
  have hb' := hb s us I.kIn hl
  rw [List.append_nil] at hb'
  refine wpAny_call (codeAny_mono (F.run X.A.in1 X.stack s H ⟨us, []⟩ us vs Q E hr.in1 I.env0.in1 hb' r h) fun r s' hq => ?_)
  cases r with
  | error e => exact hx pins σ H s e s' I hq
  | ok fl =>
    cases fl with
    | ret u => exact I.after hq
    | next => exact False.elim hq
    | brk => exact False.elim hq
    | cont => exact False.elim hq

section
open PySem.W
variable {prog : Program} {w : World} {A : Around} {E' : Value → Shared → Prop} {s : Shared} {K : Frag} {x L : Addr} {h0 : Heap} {m : Str → Option Value} {ox : Obj} {od : Option Obj} {b : Value}
theorem ne_slot : Slot "object" "__ne__" "object.__ne__" :=
  .of (owner := "object") (n := "__ne__") (by rw [typeLookup_type, builtinLookup_eq_fast]; kernel_rfl) (by decide +kernel) (by decide +kernel) (by decide +kernel)
    (by first | exact .inl (by decide +kernel) | exact .inr (by decide +kernel)) (by rw [isSubtype_type]; kernel_rfl)
/-- object.__ne__ asks the own __eq__ -/
theorem objNe_K {Q : Fin → Shared → Prop} (hu : A.units < cLine) (X : K.In s.heap) (I : InstAt s.heap x ox C od) (hs : findIn K (.ref C) "__eq__" = some (some (.ref f))) (hf : isFn K (.ref f) = true)
    (h : wpAny (model prog w) A (call (.ref f) [.ref x, b]) (fun v s' => ∃ r, v = .bool r ∧ Q (.done (.ret (.bool (!r)))) s') E' s) :
    wpAny (model prog w) A (Builtin.«object.__ne__» ⟨[.ref x, b], []⟩) Q E' s := by
  have one : wpAny (model prog w) A (callSpecialIfBound? (.ref x) (Str.ofString "__eq__") [b]) (fun v s' => ∃ r, v = some (.bool r) ∧ Q (.done (.ret (.bool (!r)))) s') E' s :=
    ifBound_K X I hs hf (wpAny_mono h (fun v s' hv => by obtain ⟨r, rfl, q⟩ := hv; exact ⟨r, rfl, q⟩) fun _ _ e => e)
  unfold Builtin.«object.__ne__»
  obtain ⟨hh, g, d, t, os⟩ := s
  repeat (first
    | with_reducible refine wpAny_cRoomFor hu ?_
    | (refine wpAny_bind (m := callSpecialIfBound? (.ref x) (Str.ofString "__eq__") [b]) (wpAny_mono one (fun v s' hv => ?_) fun _ _ e => e); obtain ⟨r, rfl, hq⟩ := hv)
    | exact hq
    | exact wpAny_pure hq
    | (refine wpAny_bind (m := truthy (.bool _)) (wpAny_truthy_bool ?_))
    | wp_step)
/-- x's type is below object -/
theorem isObj_K {M : Model} (X : K.In s.heap) (I : InstAt s.heap x ox C od) (hm : mroIn K C (.type "object") = some true) : Looks M s.heap (isInstance (.ref x) (.type "object")) true :=
  I.type.andThen (looks_mroIn X hm)
theorem tryNe_K {Q : Option Value → Shared → Prop} (hu : A.units + 1 < cLine) (X : K.In s.heap) (I : InstAt s.heap x ox C od) (hn : findIn K (.ref C) "__ne__" = some (some (.builtin "object.__ne__"))) (hm : mroIn K C (.type "object") = some true)
    (hs : findIn K (.ref C) "__eq__" = some (some (.ref f))) (hf : isFn K (.ref f) = true)
    (h : wpAny (model prog w) A.in1 (call (.ref f) [.ref x, b]) (fun v s' => ∃ r, v = .bool r ∧ Q (some (.bool (!r))) s') E' s) :
    wpAny (model prog w) A (tryCompare (.ref x) "__ne__" b) Q E' s := by
  unfold tryCompare
  simp only [callSpecialIfBound?, bindSpecialIfBound?]
  refine wpAny_bind (wpAny_holding (wpAny_bind (wpAny_bind (wpAny_bind (I.type.here ((looks_findIn X hn).here ?_))))))
  simp only [ne_slot.bind]
  refine wpAny_bind (wpAny_askSetting (wpAny_ite ?_))
  have fin : wpAny (model prog w) A (call (.builtin "object.__ne__") ([.ref x] ++ [b])) (fun v s' => ∃ r, v = .bool r ∧ Q (some v) s') E' s := by
    refine wpAny_call (codeAny_call_builtin ne_slot.plain F.cmpEntry_ne (check_slot F.cmpKind_ne F.cmpSplit_ne (isObj_K X I hm) (F.cmpArgs_ne _ _) ?_))
    refine objNe_K (A := A.in1) hu X I hs hf (wpAny_mono h (fun v s' hv => ?_) fun _ _ e => e)
    obtain ⟨r, rfl, q⟩ := hv
    exact ⟨r, rfl, ⟨!r, rfl, q⟩⟩
  have fin2 : wpAny (model prog w) A (call (.builtin "object.__ne__") ([.ref x] ++ [b]) >>= fun v => pure (some v)) (fun v s' => ∃ r, v = some (.bool r) ∧ Q v s') E' s :=
    wpAny_bind (wpAny_mono fin (fun v s' hv => wpAny_pure (by obtain ⟨r, rfl, q⟩ := hv; exact ⟨r, rfl, q⟩)) fun _ _ e => e)
  have fin3 : wpAny (model prog w) A (call (.builtin "object.__ne__") ([.ref x] ++ [b]) >>= fun v => pure (some v)) (fun v s' => wpAny (model prog w) A (match v with
    | some .notImplemented => pure none | none => pure none | some v => pure (some v)) Q E' s') E' s :=
    wpAny_mono fin2 (fun v s' hv => by obtain ⟨r, rfl, q⟩ := hv; exact wpAny_pure q) fun _ _ e => e
  split
  · exact wpAny_bind (wpAny_pure (wpAny_pure fin3))
  · exact wpAny_tryCatch (wpAny_bind (wpAny_pure (wpAny_pure fin3)))
theorem ne_K {Q : Value → Shared → Prop} (hu : A.units + 1 < cLine) (X : K.In s.heap) (I : InstAt s.heap x ox C od) (hb : Looks (model prog w) s.heap (typeOf b) (.ref C)) (hn : findIn K (.ref C) "__ne__" = some (some (.builtin "object.__ne__")))
    (hm : mroIn K C (.type "object") = some true) (hs : findIn K (.ref C) "__eq__" = some (some (.ref f))) (hf : isFn K (.ref f) = true) (hone : ∀ v, b = .ref v ∨ True)
    (ho : oneThing? .NotEq (.ref x) b = none)
    (h : wpAny (model prog w) A.in1 (call (.ref f) [.ref x, b]) (fun v s' => ∃ r, v = .bool r ∧ Q (.bool (!r)) s') E' s) : wpAny (model prog w) A (richCompare .NotEq (.ref x) b) Q E' s := by
  unfold richCompare
  simp only [ho]
  refine wpAny_holding (wpAny_bind (wpAny_cRoomFor (Nat.lt_of_succ_lt hu) ?_))
  rw [cmpInfo_NotEq]
  dsimp only
  refine wpAny_bind (I.type.here (wpAny_bind (hb.here ?_)))
  rw [show (Value.ref C != Value.ref C) = false from by simp]
  simp only [Bool.false_eq_true, if_false]
  refine wpAny_bind (wpAny_pure ?_)
  simp only [Bool.false_eq_true, if_false]
  refine wpAny_bind (tryNe_K hu X I hn hm hs hf (wpAny_mono h (fun v s' hv => ?_) fun _ _ e => e))
  obtain ⟨r, rfl, q⟩ := hv
  exact ⟨r, rfl, wpAny_pure q⟩
end
/-- x != y by the class's own __eq__ -/
def rOwnNe (C : Addr) (sp : Sp) (E : XK) : R2 := fun x y H Q => ∃ a b dx dy fs gs, x = .ref a ∧ y = .ref b ∧ H a = some (.ins C dx fs) ∧ H b = some (.ins C dy gs) ∧ sp [x, y] H (fun z H' => ∃ r, z = .bl r ∧ Q (.bl (!r)) H') E
theorem op_neOwn (F : FnOk X.prog X.w X.K X.mg X.base CX k f fd ps sp) (hr : Room (k + 1) X.A) (hb : Binds X.K fd ps []) (hx : Passes CX X E)
    (hs : PySem.W.findIn X.K (.ref C) "__eq__" = some (some (.ref f))) (hf : PySem.W.isFn X.K (.ref f) = true)
    (hn : PySem.W.findIn X.K (.ref C) "__ne__" = some (some (.builtin "object.__ne__"))) (hm : PySem.W.mroIn X.K C (.type "object") = some true) :
    OpR X (compareOp .NotEq) (rOwnNe C sp E) := by
  intro pins s σ H x y v u Q I rx ry h
  obtain ⟨a, b, dx, dy, fs, gs, rfl, rfl, ha, hbb, q⟩ := h
  cases rx
  cases ry
  obtain ⟨mA, J, _⟩ := ins_get I.hok ha
  obtain ⟨mB, J', _⟩ := ins_get I.hok hbb
  obtain ⟨od, J, _⟩ := J.look
  obtain ⟨od', J', _⟩ := J'.look
  have hu := hr.units
  refine ne_K (by omega) I.kIn J J'.type hn hm hs hf (fun _ => .inr trivial) (by simp only [oneThing_ref]) ?_
  refine wpAny_mono (run_fn1 (us := [.ref a, .ref b]) (vs := [.ref a, .ref b]) F hr hb hx I (.cons rfl (.cons rfl .nil)) q) (fun v s' hv => ?_) fun _ _ e => e
  obtain ⟨z, H', I', rz, r, rfl, q⟩ := hv
  cases rz
  exact ⟨r, rfl, .bl (!r), H', I', rfl, q⟩
end
end Hn

/-! Defs by their promise alone; comprehensions by what each item is; the bag of drawn numbers. -/
namespace Hn
open PySem PySem.Spec PyProof.Rows L2 Evl

/-! ### defs -/
/-- the def at f keeps the promise sp, by at most level k -/
def Okf (P : Program) (w : World) (K : PySem.W.Frag) (mg : Str → Option Value) (base : Heap) (k : Nat) (f : Addr) (ps : List Str) (sp : Sp) : Prop :=
  ∃ fd, FnOk P w K mg base (L2.CX P w) k f fd ps sp ∧ Binds K fd ps []
section
variable {P : Program} {w : World} {K : PySem.W.Frag} {mg : Str → Option Value} {base : Heap}
theorem Okf.mono {j k : Nat} {f : Addr} {ps : List Str} {sp : Sp} (F : Okf P w K mg base j f ps sp) (h : j ≤ k) : Okf P w K mg base k f ps sp :=
  let ⟨fd, a, b⟩ := F
  ⟨fd, a.mono h, b⟩
theorem Okf.imp {k : Nat} {f : Addr} {ps : List Str} {sp sp' : Sp} (F : Okf P w K mg base k f ps sp) (h : ∀ vs H Q E, sp' vs H Q E → sp vs H Q E) : Okf P w K mg base k f ps sp' :=
  let ⟨fd, a, b⟩ := F
  ⟨fd, a.imp h, b⟩
/-- a def of the text that stands at f, and how it binds -/
def Df (K : PySem.W.Frag) (x qual : Str) (st : Stmt) (f : Addr) (ps : List Str) : Prop := ∃ fd, Fun K x qual st f fd ∧ Binds K fd ps []
theorem Df.kp {x qual : Str} {st : Stmt} {f : Addr} {ps : List Str} (F : Df K x qual st f ps) : PySem.W.keepIn K (.ref f) = true := let ⟨_, a, _⟩ := F; a.kp
/-- a def that lets nothing out keeps its promise wherever something may be let out -/
theorem fn_lift {CX : CXT} {k : Nat} {f : Addr} {fd : FuncData} {ps : List Str} {sp : Sp} (F : FnOk P w K mg base CX0 k f fd ps sp) : FnOk P w K mg base CX k f fd ps sp :=
  ⟨F.len, fun A outer s H args us vs Q E hr e0 hb r q => codeAny_mono (F.run A outer s H args us vs Q E hr e0 hb r q) fun rr s' hc => by
    cases rr with
    | error e => exact False.elim hc
    | ok fl => cases fl <;> exact hc⟩
theorem okf_of {x qual : Str} {st : Stmt} {f : Addr} {N ps : List Str} {k : Nat} {sp : Sp} (F : Df K x qual st f ps) (S : FnScope N ps (defScope st)) (len : ∀ vs H Q E, sp vs H Q E → vs.length = ps.length)
    (hbody : ∀ (cdv : Value) (A : Around) (outer : List Env) (s : Shared) (H : Hp) (vs : List V) (Q : VK) (E : XK), Room k (A.deeper (envOfC qual (defScope st) s.heap.objs.size f cdv)) → sp vs H Q E →
      ∃ t, PSs (cxOf CX0 P w K mg base N qual (defScope st) f cdv A outer s H E).nox (defBody st) t ∧ t { nx := fun _ H' => Q .non H', rt := Q } (start N vs) H) : Okf P w K mg base (k + 1) f ps sp :=
  let ⟨fd, a, b⟩ := F
  ⟨fd, fn_lift (a.ok S len hbody), b⟩
end
section
variable {X : Cx} {k : Nat} {f C : Addr} {ps : List Str} {sp : Sp} {x m : Str} {p pos apos : Pos} {e o : Expr} {es : List Expr} {ta : TE} {t : TA}
theorem pf_call (G : Okf X.prog X.w X.K X.mg X.base k f ps sp) (hr : Room k X.A) (hg : Gl X x) (hm : X.mg x = some (.ref f)) (hk : PySem.W.keepIn X.K (.ref f) = true)
    (ha : PA X (e :: es) t) (hdb : (x == ("__debug__" : Str)) = false := by decide) (he : starEach (e :: es) X.env = (false, eval e X.env) :: starEach es X.env := by rfl) (hpl : (backTo pos (starEach es X.env)).any (·.1) = false := by rfl) :
    PE X (.Call (.Name x p) (e :: es) [] pos) (tCall sp [] E0 t) :=
  let ⟨_, a, b⟩ := G
  pe_call a hr hg hm hk b .nil passL ha hdb he hpl
theorem pf_meth {pl : Sem Bool} (G : Okf X.prog X.w X.K X.mg X.base k f ps sp) (hr : Room k X.A) (c : Cls X.K C) (hm : Meth X.K C m f) (he : PE X o ta) (ha : PA X (e :: es) t)
    (hst : starEach (e :: es) X.env = (false, eval e X.env) :: starEach es X.env := by rfl) (hpl : (backTo pos (starEach es X.env)).any (·.1) = false := by rfl)
    (ht : eval (.Call (.Attribute o m apos) (e :: es) [] pos) X.env = (do
      let ov ← eval o X.env
      standAt apos.atName
      let (f, first) ← holding [ov] (getMethod ov m pl)
      callWith pos f first (backTo pos (starEach (e :: es) X.env)) (backToKw pos (keywordEach [] X.env))) := by rfl) :
    PE X (.Call (.Attribute o m apos) (e :: es) [] pos) (tMeth C m sp [] E0 ta t) :=
  let ⟨_, a, b⟩ := G
  pe_meth he c hm a hr b .nil passL ha hst hpl ht
theorem pf_meth0 {pl : Sem Bool} (G : Okf X.prog X.w X.K X.mg X.base k f ps sp) (hr : Room k X.A) (c : Cls X.K C) (hm : Meth X.K C m f) (he : PE X o ta)
    (ht : eval (.Call (.Attribute o m apos) [] [] pos) X.env = (do
      let ov ← eval o X.env
      standAt apos.atName
      let (f, first) ← holding [ov] (getMethod ov m pl)
      callWith pos f first (backTo pos (starEach [] X.env)) (backToKw pos (keywordEach [] X.env))) := by rfl) :
    PE X (.Call (.Attribute o m apos) [] [] pos) (tMeth C m sp [] E0 ta tNil) :=
  let ⟨_, a, b⟩ := G
  pe_meth0 he c hm a hr b .nil passL ht
theorem pf_make (G : Okf X.prog X.w X.K X.mg X.base k f ps sp) (hr : Room (k + 1) X.A) (M : Mk X.K C f) (hg : Gl X x) (hm : X.mg x = some (.ref C))
    (ha : PA X (e :: es) t) (hdb : (x == ("__debug__" : Str)) = false := by decide) (he : starEach (e :: es) X.env = (false, eval e X.env) :: starEach es X.env := by rfl) (hpl : (backTo pos (starEach es X.env)).any (·.1) = false := by rfl) :
    PE X (.Call (.Name x p) (e :: es) [] pos) (tMake C sp [] E0 t) :=
  let ⟨_, a, b⟩ := G
  pe_make M a hr hg hm b .nil passL ha hdb he hpl
theorem passN {X : Cx} : Passes (L2.CX X.prog X.w) X.nox E0 := fun _ _ _ _ _ _ _ h => by
  obtain ⟨_, _, _, _, _, _, _, _, _, _, _, _, z⟩ := h
  exact z.elim
theorem pf_prop {q : Addr} (G : Okf X.prog X.w X.K X.mg X.base k f ps sp) (hr : Room (k + 1) X.A) (c : Cls X.K C) (hp : PropOf X.K C m q f) (he : PE X e ta)
    (hab : attributeBase e m X.env (eval e X.env) = eval e X.env := by rfl) : PE X (.Attribute e m pos) (tProp C sp [] E0 ta) :=
  let ⟨_, a, b⟩ := G
  pe_prop he c hp a hr b .nil passN hab
end

/-! ### sequences -/
/-- a list or a tuple -/
def Sq (K : PySem.W.Frag) (H : Hp) (a : Addr) (xs : List V) : Prop := SqL K H a xs ∨ SqT K H a xs
theorem Sq.mono {K : PySem.W.Frag} {H H' : Hp} {a : Addr} {xs : List V} (e : Ex H H') (h : Sq K H a xs) : Sq K H' a xs := h.elim (fun h => .inl (ex_l e h)) (fun h => .inr (ex_t e h))
theorem Ex.upd2 {H H1 : Hp} {p : Addr} {o : HO} (e : Ex H H1) (h : H1 p = none) : Ex H (upd H1 p o) := e.trans (Ex.new h)

/-! ### items of rows of ints -/
theorem at_int {ns : List Int} {i : Int} (h0 : 0 ≤ i) (h1 : i < (ns.length : Int)) : atI (ns.map V.int) i = some (.int (ns.getD i.toNat 0)) := by
  obtain ⟨j, rfl⟩ : ∃ j : Nat, i = (j : Int) := ⟨i.toNat, by omega⟩
  have hj : j < ns.length := by omega
  refine atI_nat ?_
  rw [List.getElem?_map, List.getElem?_eq_getElem hj, Int.toNat_natCast, List.getD_eq_getElem?_getD, List.getElem?_eq_getElem hj]
  rfl
theorem int_at {ns : List Int} {i : Nat} {x : V} (h : (ns.map V.int)[i]? = some x) : x = .int (ns.getD i 0) := by
  rw [List.getElem?_map] at h
  rw [List.getD_eq_getElem?_getD]
  cases e : ns[i]? with
  | none => rw [e] at h; cases h
  | some u => rw [e] at h; exact (Option.some.inj h).symm
theorem gD_mem {ns : List Int} {j : Nat} (h : j < ns.length) : ns.getD j 0 ∈ ns := by
  rw [List.getD_eq_getElem?_getD, List.getElem?_eq_getElem h]
  exact List.getElem_mem h

/-! ### all but lists stays -/
def isLst : HO → Bool
  | .lst _ => true
  | _ => false
/-- what is no list stands as it stood -/
def Xl (H H' : Hp) : Prop := ∀ a o, H a = some o → isLst o = false → H' a = some o
theorem Xl.refl (H : Hp) : Xl H H := fun _ _ h _ => h
theorem Xl.trans {H H1 H2 : Hp} (a : Xl H H1) (b : Xl H1 H2) : Xl H H2 := fun x o h n => b x o (a x o h n) n
theorem Xl.of {H H' : Hp} (e : Ex H H') : Xl H H' := fun a o h _ => e a o h
theorem Xl.set {H : Hp} {l : Addr} {xs ys : List V} (h : H l = some (.lst xs)) : Xl H (upd H l (.lst ys)) := fun a o e n => by
  rw [upd_ne (ne_of e h (by intro z; rw [z] at n; cases n))]
  exact e

/-! ### comprehensions: each item is told by R, which stays -/
section
variable {J : It} {n : Nat} {G : Hp → Prop} {Y : Nat → Hp → V → Hp → Prop}
/-- what a comprehension's reading asks behind the walked thing -/
def LcTail (J : It) (H1 : Hp) (g : TG) (tt : TT) (te : TE) (vs : List Nat) (σ : L2.St) (Q : VK) : Prop :=
  ∀ D, H1 D = none → ∃ W : Nat → Nat → Hp → Prop, (∃ m, W 0 m (upd H1 D (.lst []))) ∧ ∀ i m H, W i m H →
      (J.stop i H ∧ Q (.ref D) H) ∨ (J.go i H ∧ ∃ Nx : Hp → Prop, (∀ H', Nx H' → ∃ m', m' < m ∧ W (i + 1) m' H') ∧ ∀ x H', J.yld i H x H' → g x (wipe σ vs) H' fun σ2 H2 => wipe σ2 vs = wipe σ vs ∧ tt σ2 H2 fun b H3 =>
        if b = true then te σ2 H3 fun y H4 => ∃ acc, H4 D = some (.lst acc) ∧ acc.length < sizeLine ∧ Nx (upd H4 D (.lst (acc ++ [y]))) else Nx H3)
/-- items f i of the turns i that pass the test p -/
theorem lc_fil (w : Walk J n G Y) {g : TG} {tt : TT} {te : TE} {vs : List Nat} {σ : L2.St} {H1 : Hp} {Q : VK} (p : Nat → Bool) (R : Addr → Nat → V → Hp → Prop) (hG : ∀ D H H', Ex H1 H' → Ex H H' → H1 D = none → (∃ xs, H D = some (.lst xs)) → G H')
    (hR1 : ∀ D i v H H', Ex H H' → R D i v H → R D i v H') (hR2 : ∀ D i v H xs ys, H D = some (.lst xs) → R D i v H → R D i v (upd H D (.lst ys))) (hn : n ≤ 100000)
    (turn : ∀ D i x H H', i < n → Ex H1 H → H1 D = none → (∃ xs, H D = some (.lst xs)) → Y i H x H' → ∀ k : Bool → Hp → Prop, ∀ kk : VK, (∀ y H4, p i = true → Ex H H4 → R D i y H4 → kk y H4) → (∀ H3, p i = false → Ex H H3 → k false H3) →
      g x (wipe σ vs) H' fun σ2 H2 => wipe σ2 vs = wipe σ vs ∧ tt σ2 H2 fun b H3 => if b = true then te σ2 H3 kk else k false H3)
    (fin : ∀ D H ys, H1 D = none → Ex H1 H → H D = some (.lst ys) → ys.length = ((List.range n).filter p).length → (∀ (j : Nat) (y : V) (i : Nat), ys[j]? = some y → ((List.range n).filter p)[j]? = some i → R D i y H) → Q (.ref D) H) :
    LcTail J H1 g tt te vs σ Q := by
  intro D hD
  refine lc_it w (fun i H => Ex H1 H ∧ ∃ ys, H D = some (.lst ys) ∧ ys.length = ((List.range i).filter p).length ∧ ∀ (j : Nat) (y : V) (i' : Nat), ys[j]? = some y → ((List.range i).filter p)[j]? = some i' → R D i' y H) ⟨Ex.new hD, [], upd_same, rfl, fun j y i h => by simp at h⟩ (fun i H _ q => hG D H H q.1 (Ex.refl H) hD (let ⟨ys, h, _⟩ := q.2; ⟨ys, h⟩)) (fun i x H H' hi q y => ?_) fun H q => ?_
  · obtain ⟨e, ys, hy, hl, hr⟩ := q
    have hlen : ys.length ≤ i := by
      rw [hl]
      have := List.length_filter_le p (List.range i)
      rw [List.length_range] at this
      exact this
    have T := turn D i x H H' hi e hD ⟨ys, hy⟩ y (fun _ H3 => Ex H1 H3 ∧ ∃ ys, H3 D = some (.lst ys) ∧ ys.length = ((List.range (i + 1)).filter p).length ∧ ∀ (j : Nat) (y : V) (i' : Nat), ys[j]? = some y → ((List.range (i + 1)).filter p)[j]? = some i' → R D i' y H3)
      (fun y H4 => ∃ acc, H4 D = some (.lst acc) ∧ acc.length < sizeLine ∧ Ex H1 (upd H4 D (.lst (acc ++ [y]))) ∧ ∃ ys, (upd H4 D (.lst (acc ++ [y]))) D = some (.lst ys) ∧ ys.length = ((List.range (i + 1)).filter p).length ∧ ∀ (j : Nat) (y' : V) (i' : Nat), ys[j]? = some y' → ((List.range (i + 1)).filter p)[j]? = some i' → R D i' y' (upd H4 D (.lst (acc ++ [y]))))
      ?_ ?_
    · exact T
    · intro z H4 pi e4 rz
      have hfil : (List.range (i + 1)).filter p = (List.range i).filter p ++ [i] := by
        rw [List.range_succ, List.filter_append, List.filter_cons, if_pos pi] <;> rfl
      have hD4 := e4 D _ hy
      refine ⟨ys, hD4, sz_lt (by omega), Ex.mut (e.trans e4) hD, ys ++ [z], upd_same, ?_, fun j u i' hj hi' => ?_⟩
      · rw [hfil, List.length_append, List.length_append, hl]
        rfl
      · rw [hfil] at hi'
        refine hR2 D i' u H4 ys _ hD4 ?_
        rcases Nat.lt_or_ge j ys.length with h | h
        · rw [List.getElem?_append_left h] at hj
          rw [List.getElem?_append_left (by omega)] at hi'
          exact hR1 D i' u H H4 e4 (hr j u i' hj hi')
        · have h0 : j = ys.length := by
            have := (List.getElem?_eq_some_iff.mp hj).1
            rw [List.length_append, List.length_singleton] at this
            omega
          subst h0
          rw [List.getElem?_append_right (Nat.le_refl _), Nat.sub_self] at hj
          rw [hl, List.getElem?_append_right (Nat.le_refl _), Nat.sub_self] at hi'
          have ej : z = u := by simpa using hj
          have ei : i = i' := by simpa using hi'
          rw [← ej, ← ei]
          exact rz
    · intro H3 pi e3
      have hfil : (List.range (i + 1)).filter p = (List.range i).filter p := by
        rw [List.range_succ, List.filter_append, List.filter_cons, if_neg (by rw [pi]; decide)]
        exact List.append_nil _
      rw [hfil]
      exact ⟨e.trans e3, ys, e3 D _ hy, hl, fun j u i' hj hi' => hR1 D i' u H H3 e3 (hr j u i' hj hi')⟩
  · obtain ⟨e, ys, hy, hl, hr⟩ := q
    exact fin D H ys hD e hy hl fun j y i h1 h2 => hr j y i h1 h2
/-- range(n) -/
theorem walk_r0 {n : Nat} : Walk (Itr 0 n) n (fun _ => True) (fun i H x H' => H' = H ∧ x = .int (i : Int)) :=
  ⟨fun _ _ hi _ => hi, fun _ _ => Nat.le_refl _, fun i _ x _ _ _ y => ⟨y.1, by rw [y.2, Int.zero_add]⟩⟩
theorem filter_all (n : Nat) : (List.range n).filter (fun _ => true) = List.range n := List.filter_eq_self.mpr fun _ _ => rfl
/-- every turn gives an item -/
theorem lc_map (w : Walk J n G Y) {g : TG} {te : TE} {vs : List Nat} {σ : L2.St} {H1 : Hp} {Q : VK} (R : Addr → Nat → V → Hp → Prop) (hG : ∀ D H H', Ex H1 H' → Ex H H' → H1 D = none → (∃ xs, H D = some (.lst xs)) → G H')
    (hR1 : ∀ D i v H H', Ex H H' → R D i v H → R D i v H') (hR2 : ∀ D i v H xs ys, H D = some (.lst xs) → R D i v H → R D i v (upd H D (.lst ys))) (hn : n ≤ 100000)
    (turn : ∀ D i x H H', i < n → Ex H1 H → H1 D = none → (∃ xs, H D = some (.lst xs)) → Y i H x H' → ∀ k : VK, (∀ y H4, Ex H H4 → R D i y H4 → k y H4) → g x (wipe σ vs) H' fun σ2 H2 => wipe σ2 vs = wipe σ vs ∧ te σ2 H2 k)
    (fin : ∀ D H ys, H1 D = none → Ex H1 H → H D = some (.lst ys) → ys.length = n → (∀ (i : Nat) (y : V), ys[i]? = some y → R D i y H) → Q (.ref D) H) :
    LcTail J H1 g tYes te vs σ Q := by
  refine lc_fil w (fun _ => true) R hG hR1 hR2 hn (fun D i x H H' hi e hD hx y k kk h1 _ => turn D i x H H' hi e hD hx y kk fun z H4 e4 r => h1 z H4 rfl e4 r) fun D H ys hD e hy hl hr => ?_
  rw [filter_all, List.length_range] at hl
  refine fin D H ys hD e hy hl fun i y h => hr i y i h ?_
  have hi := (List.getElem?_eq_some_iff.mp h).1
  rw [filter_all, List.getElem?_range (by omega)]
/-- .. each item a value that says nothing of the heap -/
theorem lc_val (w : Walk J n G Y) {g : TG} {te : TE} {vs : List Nat} {σ : L2.St} {H1 : Hp} {Q : VK} (R : Nat → V → Prop) (hG : ∀ H, Ex H1 H → G H) (hn : n ≤ 100000)
    (turn : ∀ i x H H', i < n → Ex H1 H → Y i H x H' → ∀ k : VK, (∀ y H4, Ex H H4 → R i y → k y H4) → g x (wipe σ vs) H' fun σ2 H2 => wipe σ2 vs = wipe σ vs ∧ te σ2 H2 k)
    (fin : ∀ D H ys, H1 D = none → Ex H1 H → H D = some (.lst ys) → ys.length = n → (∀ (i : Nat) (y : V), ys[i]? = some y → R i y) → Q (.ref D) H) : LcTail J H1 g tYes te vs σ Q :=
  lc_map w (fun _ i v _ => R i v) (fun _ _ H' e _ _ _ => hG H' e) (fun _ _ _ _ _ _ r => r) (fun _ _ _ _ _ _ _ r => r) hn (fun _ i x H H' hi e _ _ y k h => turn i x H H' hi e y k h) fun D H ys hD e hy hl hr => fin D H ys hD e hy hl hr
/-- .. each item just f i -/
theorem lc_fun (w : Walk J n G Y) {g : TG} {te : TE} {vs : List Nat} {σ : L2.St} {H1 : Hp} {Q : VK} (f : Nat → V) (hG : ∀ H, Ex H1 H → G H) (hn : n ≤ 100000)
    (turn : ∀ i x H H', i < n → Ex H1 H → Y i H x H' → ∀ k : VK, (∀ H4, Ex H H4 → k (f i) H4) → g x (wipe σ vs) H' fun σ2 H2 => wipe σ2 vs = wipe σ vs ∧ te σ2 H2 k)
    (fin : ∀ D H, H1 D = none → Ex H1 H → H D = some (.lst ((List.range n).map f)) → Q (.ref D) H) : LcTail J H1 g tYes te vs σ Q :=
  lc_val w (fun i y => y = f i) hG hn (fun i x H H' hi e y k h => turn i x H H' hi e y k fun H4 e4 => h _ H4 e4 rfl) fun D H ys hD e hy hl hr => by
    refine fin D H hD e ?_
    rw [hy]
    congr 2
    refine List.ext_getElem? fun i => ?_
    rcases Nat.lt_or_ge i n with h | h
    · have h2 : i < ys.length := by omega
      rw [List.getElem?_eq_getElem h2, List.getElem?_map, List.getElem?_range h, hr i ys[i] (List.getElem?_eq_getElem h2)]
      rfl
    · rw [List.getElem?_eq_none (by omega), List.getElem?_eq_none (by rw [List.length_map, List.length_range]; omega)]
/-- .. each item that passes just f i -/
theorem lc_filf (w : Walk J n G Y) {g : TG} {tt : TT} {te : TE} {vs : List Nat} {σ : L2.St} {H1 : Hp} {Q : VK} (p : Nat → Bool) (f : Nat → V) (hG : ∀ H, Ex H1 H → G H) (hn : n ≤ 100000)
    (turn : ∀ i x H H', i < n → Ex H1 H → Y i H x H' → ∀ k : Bool → Hp → Prop, ∀ kk : VK, (∀ H4, p i = true → Ex H H4 → kk (f i) H4) → (∀ H3, p i = false → Ex H H3 → k false H3) →
      g x (wipe σ vs) H' fun σ2 H2 => wipe σ2 vs = wipe σ vs ∧ tt σ2 H2 fun b H3 => if b = true then te σ2 H3 kk else k false H3)
    (fin : ∀ D H, H1 D = none → Ex H1 H → H D = some (.lst (((List.range n).filter p).map f)) → Q (.ref D) H) : LcTail J H1 g tt te vs σ Q :=
  lc_fil w p (fun _ i v _ => v = f i) (fun _ _ H' e _ _ _ => hG H' e) (fun _ _ _ _ _ _ r => r) (fun _ _ _ _ _ _ _ r => r) hn (fun _ i x H H' hi e _ _ y k kk h1 h2 => turn i x H H' hi e y k kk (fun H4 pi e4 => h1 _ H4 pi e4 rfl) h2) fun D H ys hD e hy hl hr => by
    refine fin D H hD e ?_
    rw [hy]
    congr 2
    refine List.ext_getElem? fun j => ?_
    rcases Nat.lt_or_ge j ys.length with h | h
    · have h2 : j < ((List.range n).filter p).length := by omega
      rw [List.getElem?_eq_getElem h, List.getElem?_map, List.getElem?_eq_getElem h2, hr j ys[j] _ (List.getElem?_eq_getElem h) (List.getElem?_eq_getElem h2)]
      rfl
    · rw [List.getElem?_eq_none (by omega), List.getElem?_eq_none (by rw [List.length_map]; omega)]
end
end Hn

/-! The bag of drawn numbers: its state is not told, so a draw changes nothing that is known. -/
namespace Hn
open PySem PySem.Spec PyProof.Rows L2 Evl

/-- what a bag's list holds -/
def BagV (l : Addr) (xs : List V) : Prop := ∃ c0 c1 c2 : Int, xs = [.int c0, .int c1, .int c2, .ref l] ∧ 0 ≤ c0 ∧ 0 ≤ c1 ∧ c1 < 2147483647 ∧ 0 ≤ c2
/-- the bag's own object: a list of such four -/
def BagO (b l : Addr) (h : Heap) : Prop := ∃ xs, BagV l xs ∧ ∃ (its : List Value) (n : Nat), Vals xs its ∧ h.get? b = some { cls := .type "list", data := .seq its.toArray n }
/-- a bag stands at b -/
def Bag (H : Hp) (b : Addr) : Prop := ∃ (l : Addr) (o : Obj) (cs : List Int), H b = some (.ext (BagO b l)) ∧ H l = some (.frz o (.lst (cs.map V.int))) ∧ (∀ c ∈ cs, 0 ≤ c) ∧ cs.length ≤ 63
theorem Bag.mono {H H' : Hp} {b : Addr} (e : Xl H H') (h : Bag H b) : Bag H' b :=
  let ⟨l, o, cs, h1, h2, h3, h4⟩ := h
  ⟨l, o, cs, e _ _ h1 rfl, e _ _ h2 rfl, h3, h4⟩

/-! ### another view of the heap at a def's end -/
section
variable {P : Program} {w : World} {K : PySem.W.Frag} {mg : Str → Option Value} {base : Heap} {CX : CXT}
/-- what is tracked may be told otherwise when a def ends -/
theorem fn_alt {k : Nat} {f : Addr} {fd : FuncData} {ps : List Str} {sp sp' : Sp} (F : FnOk P w K mg base CX k f fd ps sp)
    (h : ∀ vs H Q E, sp' vs H Q E → sp vs H (fun v H1 => ∀ h' : Heap, HOk P w H1 h' → ∃ H2 : Hp, HOk P w H2 h' ∧ (∀ a, H1 a = none → H2 a = none) ∧ (∀ b xs, H b = some (.tup xs) → H2 b = some (.tup xs)) ∧
      (∀ b o u, H b = some (.frz o u) → H2 b = some (.frz o u)) ∧ (∀ b qs, H b = some (.tbl qs) → ∃ more, H2 b = some (.tbl (qs ++ more))) ∧ Q v H2) E) : FnOk P w K mg base CX k f fd ps sp' := by
  refine ⟨fun vs H Q E q => F.len _ _ _ _ (h vs H Q E q), fun A outer s H args us vs Q E hr e0 hb r q => ?_⟩
  refine codeAny_mono (F.run A outer s H args us vs _ E hr e0 hb r (h vs H Q E q)) fun rr s' hc => ?_
  cases rr with
  | error e => exact hc
  | ok fl =>
    cases fl with
    | ret u =>
      obtain ⟨v, H1, h1, h2, un, hok, rv, q⟩ := hc
      obtain ⟨H2, k1, k2, k3, k4, k5, k6⟩ := q s'.heap hok
      exact ⟨v, H2, h1, h2, ⟨un.keep, un.slot, fun b o e n x => k2 b (un.free b o e n x), un.there, k3, k4, k5⟩, k1, rv, k6⟩
    | next => exact False.elim hc
    | brk => exact False.elim hc
    | cont => exact False.elim hc
theorem okf_alt {k : Nat} {f : Addr} {ps : List Str} {sp sp' : Sp} (F : Okf P w K mg base k f ps sp)
    (h : ∀ vs H Q E, sp' vs H Q E → sp vs H (fun v H1 => ∀ h' : Heap, HOk P w H1 h' → ∃ H2 : Hp, HOk P w H2 h' ∧ (∀ a, H1 a = none → H2 a = none) ∧ (∀ b xs, H b = some (.tup xs) → H2 b = some (.tup xs)) ∧
      (∀ b o u, H b = some (.frz o u) → H2 b = some (.frz o u)) ∧ (∀ b qs, H b = some (.tbl qs) → ∃ more, H2 b = some (.tbl (qs ++ more))) ∧ Q v H2) E) : Okf P w K mg base k f ps sp' :=
  let ⟨fd, a, b⟩ := F
  ⟨fd, fn_alt a h, b⟩
/-- what stands at a may be told otherwise, if it is so and nothing leans on it -/
theorem hok_put {H : Hp} {h : Heap} {a : Addr} {o u : HO} (x : HOk P w H h) (ha : H a = some o) (hm : Mut (some o)) (hu : ObjOk P w (upd H a u) h a u) : HOk P w (upd H a u) h := fun b q e => by
  by_cases hb : b = a
  · subst hb
    rw [upd_same] at e
    cases e
    exact hu
  · rw [upd_ne hb] at e
    refine (x b q e).stay (fun _ _ _ z => z) (fun c z => ?_) fun c xs z => ?_
    · rw [upd_ne (ne_of z ha (by intro q; rw [← q] at hm; exact hm))]
      exact z
    · rw [upd_ne (ne_of z ha (by intro q; rw [← q] at hm; exact hm))]
      exact z
theorem ext_ok {H : Hp} {h : Heap} {b l : Addr} {xs : List V} (hx : BagV l xs) (ok : ObjOk P w H h b (.lst xs)) (H' : Hp) : ObjOk P w H' h b (.ext (BagO b l)) := by
  obtain ⟨_, its, n, r, e⟩ := ok
  refine ⟨⟨xs, hx, its, n, r, e⟩, ⟨_, e⟩, fun h1 h2 q k => ?_⟩
  obtain ⟨xs', hx', its', n', r', e'⟩ := q
  exact ⟨xs', hx', its', n', r', k _ e'⟩

/-- what _law_take promises of the list itself -/
def spTakeL : Sp := fun vs H Q _ => ∃ (b l : Addr) (u : Int) (o : Obj) (cs : List Int) (xs : List V), vs = [.ref b, .int u] ∧ H b = some (.lst xs) ∧ BagV l xs ∧ H l = some (.frz o (.lst (cs.map V.int))) ∧ (∀ c ∈ cs, 0 ≤ c) ∧ cs.length ≤ 63 ∧ 0 < u ∧ u < 1073741824 ∧
  ∀ (n : Int) (ys : List V), 0 ≤ n → n < u → BagV l ys → Q (.int n) (upd H b (.lst ys))
/-- .. of the bag: some number below the bound, nothing else is otherwise -/
def spTake : Sp := fun vs H Q _ => ∃ (b : Addr) (u : Int), vs = [.ref b, .int u] ∧ Bag H b ∧ 0 < u ∧ u < 1073741824 ∧ ∀ n : Int, 0 ≤ n → n < u → Q (.int n) H

theorem take_ok {k : Nat} {f : Addr} {ps : List Str} (F : Okf P w K mg base k f ps spTakeL) (hl : ps.length = 2) : Okf P w K mg base k f ps spTake := by
  obtain ⟨fd, F, hb⟩ := F
  refine ⟨fd, ⟨fun vs H Q E q => ?_, fun A outer s H args us vs Q E hr e0 hbd r q => ?_⟩, hb⟩
  · obtain ⟨b, u, rfl, _⟩ := q
    exact hl.symm
  · obtain ⟨b, u, rfl, ⟨l, o, cs, hB, hL, hc, hcl⟩, hu0, hu1, k⟩ := q
    obtain ⟨⟨xs, hx, its, n, rv, hobj⟩, _, _⟩ := e0.hok b _ hB
    have hz : xs.length ≤ sizeLine := by
      obtain ⟨c0, c1, c2, rfl, _⟩ := hx
      show 4 ≤ sizeLine
      decide
    have ok1 : HOk P w (upd H b (.lst xs)) s.heap := hok_put e0.hok hB trivial ⟨hz, its, n, rv, hobj⟩
    have nb : ∀ c, H c = none → c ≠ b := fun c z y => by rw [y, hB] at z; cases z
    have e1 : Env0 P w K mg base A outer s (upd H b (.lst xs)) :=
      ⟨e0.frames, e0.mod, fun c q e => ⟨(e0.bs c q e).1, by rw [upd_ne (nb c (e0.bs c q e).2)]; exact (e0.bs c q e).2⟩, e0.bsz, e0.funs, fun c hc' => by rw [upd_ne (nb c (e0.frf c hc'))]; exact e0.frf c hc', ok1, e0.bare⟩
    have nl : l ≠ b := ne_of hL hB (by intro z; cases z)
    refine codeAny_mono (F.run A outer s (upd H b (.lst xs)) args us [.ref b, .int u] (fun v H' => ∃ m ys, v = .int m ∧ 0 ≤ m ∧ m < u ∧ BagV l ys ∧ H' = upd H b (.lst ys)) E0 hr e1 hbd r
      ⟨b, l, u, o, cs, xs, rfl, upd_same, hx, by rw [upd_ne nl]; exact hL, hc, hcl, hu0, hu1, fun m ys h0 h1 hy => ⟨m, ys, rfl, h0, h1, hy, upd_upd⟩⟩) fun rr s' hc' => ?_
    cases rr with
    | error e =>
      obtain ⟨_, _, _, _, _, _, _, _, _, _, _, _, z⟩ := hc'
      exact z.elim
    | ok fl =>
      cases fl with
      | ret uu =>
        obtain ⟨v, H1, h1, h2, un, hok, rv', m, ys, rfl, m0, m1, hy, rfl⟩ := hc'
        refine ⟨.int m, H, h1, h2, ⟨fun c q e n hf hx' => ?_, fun c q e n hf hx' => ?_, fun c q e n hx' => n, un.there, fun _ _ z => z, fun _ _ _ z => z, fun c qs z => ⟨#[], by rw [z]; simp⟩⟩, ?_, rv', k m m0 m1⟩
        · exact un.keep c q e (by rw [upd_ne (nb c n)]; exact n) hf hx'
        · exact un.slot c q e (by rw [upd_ne (nb c n)]; exact n) hf hx'
        · have ok2 := hok_put hok (upd_same (H := H)) trivial (u := .ext (BagO b l)) (ext_ok hy (hok b _ upd_same) _)
          rw [upd_upd] at ok2
          have eH : upd H b (.ext (BagO b l)) = H := by
            funext c
            by_cases hcb : c = b
            · subst hcb
              rw [upd_same, hB]
            · rw [upd_ne hcb]
          rw [eH] at ok2
          exact ok2
      | next => exact False.elim hc'
      | brk => exact False.elim hc'
      | cont => exact False.elim hc'

/-- what _law_bag promises of the lists themselves, and of the bag -/
def spBagL (K : PySem.W.Frag) : Sp := fun vs H Q _ => ∃ (a : Addr) (ns : List Int), vs = [.ref a] ∧ SqL K H a (ns.map V.int) ∧ ns.length ≤ 63 ∧
  ∀ (b l : Addr) (cs : List Int) (H' : Hp), Ex H H' → H b = none → H l = none → H' b = some (.lst [.int 0, .int 1234567891, .int 0, .ref l]) → H' l = some (.lst (cs.map V.int)) → (∀ c ∈ cs, 0 ≤ c) → cs.length ≤ 63 → Q (.ref b) H'
def spBag (K : PySem.W.Frag) : Sp := fun vs H Q _ => ∃ (a : Addr) (ns : List Int), vs = [.ref a] ∧ SqL K H a (ns.map V.int) ∧ ns.length ≤ 63 ∧ ∀ (b : Addr) (H' : Hp), Ex H H' → Bag H' b → Q (.ref b) H'
theorem bag_ok {k : Nat} {f : Addr} {ps : List Str} (F : Okf P w K mg base k f ps (spBagL K)) : Okf P w K mg base k f ps (spBag K) := by
  refine okf_alt F fun vs H Q E q => ?_
  obtain ⟨a, ns, rfl, hS, hl, k⟩ := q
  refine ⟨a, ns, rfl, hS, hl, fun b l cs H' e nb nl hb hL h0 hcl h' hok => ?_⟩
  have nlb : l ≠ b := ne_of hL hb (by
    intro z
    have z' : cs.map V.int = [.int 0, .int 1234567891, .int 0, .ref l] := by injection z
    have := congrArg (fun z => z[3]?) z'
    rw [List.getElem?_map] at this
    cases hh : cs[3]? with
    | none => rw [hh] at this; simp at this
    | some q => rw [hh] at this; simp at this)
  obtain ⟨hz, its, n, r, hobj⟩ := hok l _ hL
  have ok1 : HOk P w (upd H' l (.frz { cls := .type "list", data := .seq its.toArray n } (.lst (cs.map V.int)))) h' := hok_put hok hL trivial ⟨hobj, hz, its, n, r, hobj⟩
  have hb1 : upd H' l (.frz { cls := .type "list", data := .seq its.toArray n } (.lst (cs.map V.int))) b = some (.lst [.int 0, .int 1234567891, .int 0, .ref l]) := by rw [upd_ne nlb.symm]; exact hb
  have hv : BagV l [.int 0, .int 1234567891, .int 0, .ref l] := ⟨0, 1234567891, 0, rfl, by decide, by decide, by decide, by decide⟩
  have ok2 := hok_put ok1 hb1 trivial (u := .ext (BagO b l)) (ext_ok hv (ok1 b _ hb1) _)
  have e2 : Ex H (upd (upd H' l (.frz { cls := .type "list", data := .seq its.toArray n } (.lst (cs.map V.int)))) b (.ext (BagO b l))) := Ex.mut (Ex.mut e nl) nb
  refine ⟨_, ok2, fun c hc => ?_, fun c xs z => e2 _ _ z, fun c o u z => e2 _ _ z, fun c qs z => ⟨#[], by rw [e2 _ _ z]; simp⟩, k b _ e2 ⟨l, _, cs, upd_same, by rw [upd_ne nlb]; exact upd_same, h0, hcl⟩⟩
  have c1 : c ≠ b := fun z => by rw [z, hb] at hc; cases hc
  have c2 : c ≠ l := fun z => by rw [z, hL] at hc; cases hc
  rw [upd_ne c1, upd_ne c2]
  exact hc
end
end Hn

/-! More rules: the operators by promises, constants, subscripts of own classes. -/
namespace Hn
open PySem PySem.Spec PyProof.Rows L2 Evl
section
variable {X : Cx} {k : Nat} {f C : Addr} {ps : List Str} {sp : Sp}
theorem pe_gint {x : Str} {i : Int} {pos : Pos} (hg : Gl X x) (hm : ∃ t : Tok, X.mg x = some (.int i t)) (hd : (x == ("__debug__" : Str)) = false := by decide) : PE X (.Name x pos) (tC (.int i)) :=
  let ⟨t, h⟩ := hm
  pe_glob hg h ⟨t, rfl⟩ hd
theorem op_ownB {op : Operator} (G : Okf X.prog X.w X.K X.mg X.base k f ps sp) (hr : Room k X.A)
    (hc : PySem.W.selfFirst X.K C = true) (hs : PySem.W.findIn X.K (.ref C) (PySem.dunder op.info.2) = some (some (.ref f))) (hf : PySem.W.isFn X.K (.ref f) = true) : OpR X (binaryOp op) (rOwn C sp E0) :=
  let ⟨_, a, b⟩ := G
  op_own a hr b passL hc hs hf
theorem op_eqB (G : Okf X.prog X.w X.K X.mg X.base k f ps sp) (hr : Room k X.A)
    (hs : PySem.W.findIn X.K (.ref C) "__eq__" = some (some (.ref f))) (hf : PySem.W.isFn X.K (.ref f) = true) : OpR X (compareOp .Eq) (rOwn C sp E0) :=
  let ⟨_, a, b⟩ := G
  op_eqOwn a hr b passL hs hf
theorem op_neB (G : Okf X.prog X.w X.K X.mg X.base k f ps sp) (hr : Room (k + 1) X.A)
    (hs : PySem.W.findIn X.K (.ref C) "__eq__" = some (some (.ref f))) (hf : PySem.W.isFn X.K (.ref f) = true)
    (hn : PySem.W.findIn X.K (.ref C) "__ne__" = some (some (.builtin "object.__ne__"))) (hm : PySem.W.mroIn X.K C (.type "object") = some true) : OpR X (compareOp .NotEq) (rOwnNe C sp E0) :=
  let ⟨_, a, b⟩ := G
  op_neOwn a hr b passL hs hf hn hm
end
end Hn

/-! Readings opened one by one, by their heads. -/
namespace Hn
open PySem PySem.Spec PyProof.Rows L2 Evl
section
variable {K : PySem.W.Frag} {σ : L2.St} {H : Hp} {Q : VK} {QB : Bool → Hp → Prop} {D : Ends} {ta tb tc te : TE} {t u : TS} {tt tu : TT} {ar : TA} {QA : List V → Hp → Prop} {r r' : R2} {x y v : V} {i j : Int} {n : Nat} {wi : TI} {g : TG} {R : It → Hp → Prop} {vs : List Nat}
theorem r_seq (h : t { D with nx := u D } σ H) : tSeq t u D σ H := h
theorem r_next (h : D.nx σ H) : tNext D σ H := h
theorem r_asg (h : te σ H fun x H1 => g x σ H1 D.nx) : tAsg te g D σ H := h
theorem r_name {q : L2.St → Hp → Prop} (h : q (σ.set n (some v)) H) : gName n v σ H q := h
theorem r_ret (h : te σ H D.rt) : tRet te D σ H := h
theorem r_retN (h : D.rt .non H) : tRetN D σ H := h
theorem r_drop (h : te σ H fun _ H1 => D.nx σ H1) : tDrop te D σ H := h
theorem r_ifS (h : tt σ H fun b H1 => if b = true then t D σ H1 else u D σ H1) : tIfS tt t u D σ H := h
theorem r_test (h : te σ H fun x H' => ∃ k, x = .bl k ∧ QB k H') : tTest te σ H QB := h
theorem r_B (h : te σ H fun x H' => ∃ k, x = .bl k ∧ QB k H') : tB te σ H QB := h
theorem r_and (h : tt σ H fun c H1 => if c = true then tu σ H1 QB else QB false H1) : tAnd tt tu σ H QB := h
theorem r_or (h : tt σ H fun c H1 => if c = true then QB true H1 else tu σ H1 QB) : tOr tt tu σ H QB := h
theorem r_not (h : tt σ H fun c H1 => QB (!c) H1) : tNot tt σ H QB := h
theorem r_andV (h : ta σ H fun x H1 => ∃ c, x = .bl c ∧ if c = true then tb σ H1 Q else Q (.bl false) H1) : tAndV ta tb σ H Q := h
theorem r_orV (h : ta σ H fun x H1 => ∃ c, x = .bl c ∧ if c = true then Q (.bl true) H1 else tb σ H1 Q) : tOrV ta tb σ H Q := h
theorem r_notV (h : ta σ H fun x H1 => ∃ c, x = .bl c ∧ Q (.bl (!c)) H1) : tNotV ta σ H Q := h
theorem r_if (h : tt σ H fun c H1 => if c = true then ta σ H1 Q else tb σ H1 Q) : tIf tt ta tb σ H Q := h
theorem r_var (h : σ[n]? = some (some v)) (q : Q v H) : tVar n σ H Q := ⟨v, h, q⟩
theorem r_c (q : Q v H) : tC v σ H Q := q
theorem r_op (h : ta σ H fun x H1 => tb σ H1 fun y H2 => r x y H2 Q) : tOp r ta tb σ H Q := h
theorem r_un {ru : V → Hp → VK → Prop} (h : ta σ H fun x H1 => ru x H1 Q) : tUn ru ta σ H Q := h
theorem r_chain (h : ta σ H fun x H1 => tb σ H1 fun y H2 => r x y H2 fun z H3 => ∃ k, z = .bl k ∧ (if k = true then tc σ H3 fun w' H4 => r' y w' H4 Q else Q (.bl false) H3)) : tChain r r' ta tb tc σ H Q := h
theorem r_lst (h : ar σ H fun xs H1 => xs.length ≤ sizeLine ∧ ∀ p, H1 p = none → Q (.ref p) (upd H1 p (.lst xs))) : tLst ar σ H Q := h
theorem r_tup (h : ar σ H fun xs H1 => xs.length ≤ sizeLine ∧ ∀ p, H1 p = none → Q (.ref p) (upd H1 p (.tup xs))) : tTup ar σ H Q := h
theorem r_nil (h : QA [] H) : tNil σ H QA := h
theorem r_cons (h : ta σ H fun x H1 => ar σ H1 fun xs H2 => QA (x :: xs) H2) : tCons ta ar σ H QA := h
theorem r_call {sp : Sp} {dvs : List V} {E : XK} (h : ar σ H fun vs H1 => sp (vs ++ dvs) H1 Q E) : tCall sp dvs E ar σ H Q := h
theorem r_call1 {sp : Sp} {E : XK} {ws : List V} (h : sp ws H Q E) : sp (ws ++ []) H Q E := by rw [List.append_nil]; exact h
theorem r_meth {sp : Sp} {C : Addr} {m : Str} {E : XK} (h : ta σ H fun x H1 => ∃ a dx fs, x = .ref a ∧ H1 a = some (.ins C dx fs) ∧ fs.lookup m = none ∧ ar σ H1 fun vs H2 => sp (x :: (vs ++ [])) H2 Q E) : tMeth C m sp [] E ta ar σ H Q := h
theorem r_make {sp : Sp} {C : Addr} {E : XK} (h : ar σ H fun vs H1 => ∀ x dx, H1 x = none → H1 dx = none → dx ≠ x → sp (.ref x :: (vs ++ [])) (upd (upd H1 dx (.own x)) x (.ins C dx [])) (fun v H2 => v = .non ∧ Q (.ref x) H2) E) : tMake C sp [] E ar σ H Q := h
theorem r_prop {sp : Sp} {C : Addr} {E : XK} (h : ta σ H fun x H1 => ∃ a dx fs, x = .ref a ∧ H1 a = some (.ins C dx fs) ∧ sp [.ref a] H1 Q E) : tProp C sp [] E ta σ H Q := h
theorem r_cb {rc : List V → Hp → VK → Prop} (h : ar σ H fun vs H1 => rc vs H1 Q) : tCB rc ar σ H Q := h
theorem r_bm {T : String} {rm : V → List V → Hp → VK → Prop} (h : te σ H fun x H1 => tyV K T x H1 ∧ ar σ H1 fun xs H2 => rm x xs H2 Q) : tBM K T rm te ar σ H Q := h
theorem r_bm0 {T : String} {rm : V → List V → Hp → VK → Prop} (h : te σ H fun x H1 => tyV K T x H1 ∧ rm x [] H1 Q) : tBM0 K T rm te σ H Q := h
theorem r_sl {rs : V → Option Int → Option Int → Hp → VK → Prop} {tl th : TO} (h : te σ H fun x H1 => tl σ H1 fun l H2 => th σ H2 fun u H3 => rs x l u H3 Q) : L2.tSl rs te tl th σ H Q := h
theorem r_noPart {q : Option Int → Hp → Prop} (h : q none H) : tNoPart σ H q := h
theorem r_part {q : Option Int → Hp → Prop} (h : te σ H fun x H1 => ∃ i, x = .int i ∧ q (some i) H1) : tPart te σ H q := h
theorem r_int1 {p : Int → Prop} (h : p i) : ∃ k, V.int i = .int k ∧ p k := ⟨i, rfl, h⟩
theorem r_bl1 {b : Bool} {p : Bool → Prop} (h : p b) : ∃ k, V.bl b = .bl k ∧ p k := ⟨b, rfl, h⟩
theorem r_revL (h : te σ H fun x H1 => ∃ a xs, x = .ref a ∧ SqL K H1 a xs ∧ ∀ p, H1 p = none → Q (.ref p) (upd H1 p (.lst xs.reverse))) : tRevL K te σ H Q := h
theorem r_lc (h : wi σ H fun J H1 => LcTail J H1 g tt te vs σ Q) : tLc wi g tt te vs σ H Q := h
theorem r_par {n m : Nat} (h : ar σ H fun vs H1 => ∃ v w, vs = [v, w] ∧ D.nx ((σ.set n (some v)).set m (some w)) H1) : tPar n m ar D σ H := h
theorem r_par3 {n m l : Nat} (h : ar σ H fun vs H1 => ∃ u v w, vs = [u, v, w] ∧ D.nx (((σ.set n (some u)).set m (some v)).set l (some w)) H1) : tPar3 n m l ar D σ H := h
theorem r_two {p : V → V → Prop} {a b : V} (h : p a b) : ∃ v w, [a, b] = [v, w] ∧ p v w := ⟨a, b, rfl, h⟩
theorem r_three {p : V → V → V → Prop} {a b c : V} (h : p a b c) : ∃ u v w, [a, b, c] = [u, v, w] ∧ p u v w := ⟨a, b, c, rfl, h⟩
theorem r_aug {ti : TIp} {x : V} (h : σ[n]? = some (some x)) (q : te σ H fun y H1 => ti x y H1 fun z H2 => D.nx (σ.set n (some z)) H2) : tAug n te ti D σ H := ⟨x, h, q⟩
theorem r_augS {ti te' : TE} {tget : V → V → Hp → VK → Prop} {tip : TIp} {tset : TSet} (h : ta σ H fun o H1 => ti σ H1 fun i H2 => tget o i H2 fun x H3 => te' σ H3 fun y H4 => tip x y H4 fun z H5 => tset o i z H5 fun H6 => D.nx σ H6) : tAugS ta ti te' tget tip tset D σ H := h
theorem r_sub {tset : TSet} {q : L2.St → Hp → Prop} (h : ta σ H fun o H1 => tb σ H1 fun i H2 => tset o i v H2 fun H3 => q σ H3) : gSub ta tb tset v σ H q := h
theorem r_fld {f : Str} (h : ta σ H fun x H1 => ∃ a C dx fs v, x = .ref a ∧ H1 a = some (.ins C dx fs) ∧ Cls K C ∧ NoAttr K C f ∧ fs.lookup f = some v ∧ Q v H1) : tFld K ta f σ H Q := h
theorem r_sfld {f : Str} (h : tb σ H fun y H1 => ta σ H1 fun x H2 => ∃ a C dx fs, x = .ref a ∧ H2 a = some (.ins C dx fs) ∧ Cls K C ∧ NoAttr K C f ∧ fs.length < 1000 ∧ D.nx σ (upd H2 a (.ins C dx (putF f y fs)))) : sFld K ta tb f D σ H := h
theorem r_iList (h : te σ H fun x H1 => ∃ a, x = .ref a ∧ (∃ xs, SqL K H1 a xs) ∧ R (Itl K a) H1) : iList K te σ H R := h
theorem r_iTup (h : te σ H fun x H1 => ∃ a, x = .ref a ∧ (∃ xs, SqT K H1 a xs) ∧ R (Itt K a) H1) : iTup K te σ H R := h
theorem r_iRng1 (h : ar σ H fun vs H1 => ∃ j : Int, vs = [.int j] ∧ -(2 ^ 62) ≤ j ∧ j < 2 ^ 62 ∧ R (Itr 0 j.toNat) H1) : iRng1 ar σ H R := h
theorem r_iRng2 (h : ar σ H fun vs H1 => ∃ i j : Int, vs = [.int i, .int j] ∧ (-(2 ^ 62) ≤ i ∧ i < 2 ^ 62 ∧ -(2 ^ 62) ≤ j ∧ j < 2 ^ 62) ∧ R (Itr i (j - i).toNat) H1) : iRng2 ar σ H R := h
theorem r_iEnum (h : ar σ H fun vs H1 => ∃ a xs, vs = [.ref a] ∧ SqL K H1 a xs ∧ R (Ite K a) H1) : iEnum K ar σ H R := h
theorem r_iZip (h : ar σ H fun vs H1 => ∃ a b xs ys, vs = [.ref a, .ref b] ∧ SqL K H1 a xs ∧ SqL K H1 b ys ∧ R (Itz K a b) H1) : iZip K ar σ H R := h
theorem r_range1 {p : Int → Prop} (h0 : -(2 ^ 62) ≤ i) (h1 : i < 2 ^ 62) (h : p i) : ∃ j : Int, [V.int i] = [.int j] ∧ -(2 ^ 62) ≤ j ∧ j < 2 ^ 62 ∧ p j := ⟨i, rfl, h0, h1, h⟩
theorem r_yes (h : QB true H) : tYes σ H QB := h
theorem r_wipe {σ2 : L2.St} {p : Prop} (e : wipe σ2 vs = wipe σ vs) (h : p) : wipe σ2 vs = wipe σ vs ∧ p := ⟨e, h⟩
theorem r_pair {T : Addr} {n m : Nat} {q : L2.St → Hp → Prop} (h : q ((σ.set n (some x)).set m (some y)) (upd H T (.tup [x, y]))) : gTup K 2 (gCons (gName n) (gCons (gName m) gNil)) (.ref T) σ (upd H T (.tup [x, y])) q :=
  ⟨T, [x, y], rfl, .inl (.inl upd_same), rfl, x, [y], rfl, y, [], rfl, rfl, h⟩
/-! values -/
theorem r_I0 {f : Int → Int → V} (q : Q (f i j) H) : rI0 f (.int i) (.int j) H Q := ⟨i, j, rfl, rfl, q⟩
theorem r_I {C : Int → Int → Prop} {f : Int → Int → V} (c : C i j) (q : Q (f i j) H) : rI C f (.int i) (.int j) H Q := ⟨i, j, rfl, rfl, c, q⟩
theorem r_U {f : Int → V} (q : Q (f i) H) : rU f (.int i) H Q := ⟨i, rfl, q⟩
theorem r_eqI (q : Q (.bl (decide (i = j))) H) : rEq (.int i) (.int j) H Q := by
  refine ⟨rfl, ?_⟩
  have e : decide (V.int i = V.int j) = decide (i = j) := by rw [Bool.eq_iff_iff]; simp
  rw [e]
  exact q
theorem r_neI (q : Q (.bl (!decide (i = j))) H) : rNe (.int i) (.int j) H Q := by
  refine ⟨rfl, ?_⟩
  have e : decide (V.int i = V.int j) = decide (i = j) := by rw [Bool.eq_iff_iff]; simp
  rw [e]
  exact q
theorem r_eqB {a b : Bool} (q : Q (.bl (decide (a = b))) H) : rEq (.bl a) (.bl b) H Q := by
  refine ⟨rfl, ?_⟩
  have e : decide (V.bl a = V.bl b) = decide (a = b) := by rw [Bool.eq_iff_iff]; simp
  rw [e]
  exact q
theorem r_neB {a b : Bool} (q : Q (.bl (!decide (a = b))) H) : rNe (.bl a) (.bl b) H Q := by
  refine ⟨rfl, ?_⟩
  have e : decide (V.bl a = V.bl b) = decide (a = b) := by rw [Bool.eq_iff_iff]; simp
  rw [e]
  exact q
theorem r_ipI {f : Int → Int → Int} (q : Q (.int (f i j)) H) : ipI f (.int i) (.int j) H Q := ⟨i, j, rfl, rfl, q⟩
theorem r_ixL {p : Addr} {xs : List V} (h : SqL K H p xs) (ha : atI xs i = some v) (q : Q v H) : rIxL K (.ref p) (.int i) H Q := ⟨p, xs, i, v, rfl, rfl, h, ha, q⟩
theorem r_ixT {p : Addr} {xs : List V} (h : SqT K H p xs) (ha : atI xs i = some v) (q : Q v H) : rIxT K (.ref p) (.int i) H Q := ⟨p, xs, i, v, rfl, rfl, h, ha, q⟩
theorem r_ixS {p : Addr} {xs : List V} (h : Sq K H p xs) (ha : atI xs i = some v) (q : Q v H) : rIx K (.ref p) (.int i) H Q :=
  h.elim (fun h => .inl ⟨p, xs, i, v, rfl, rfl, h, ha, q⟩) fun h => .inr (.inl ⟨p, xs, i, v, rfl, rfl, h, ha, q⟩)
theorem r_setL {p : Addr} {xs : List V} {k : Int} {m : Nat} {q : Hp → Prop} (h : H p = some (.lst xs)) (hk : ixN xs.length k = some m) (hq : q (upd H p (.lst (xs.set m v)))) : rSetL (.ref p) (.int k) v H q := ⟨p, xs, k, m, rfl, rfl, h, hk, hq⟩
/-! tests -/
theorem r_ite {p A B : Prop} [Decidable p] (h1 : p → A) (h2 : ¬ p → B) : if decide p = true then A else B := ite2 (fun h => h1 (of_decide_eq_true h)) fun h => h2 fun z => h (decide_eq_true z)
theorem r_itn {p A B : Prop} [Decidable p] (h1 : ¬ p → A) (h2 : p → B) : if (!decide p) = true then A else B := by
  by_cases h : p
  · rw [decide_eq_true h]
    exact iteF (h2 h)
  · rw [decide_eq_false h]
    exact iteT (h1 h)
theorem r_itb {b : Bool} {A B : Prop} (h1 : b = true → A) (h2 : b = false → B) : if b = true then A else B := by
  cases b
  · exact iteF (h2 rfl)
  · exact iteT (h1 rfl)
theorem r_itnb {b : Bool} {A B : Prop} (h1 : b = false → A) (h2 : b = true → B) : if (!b) = true then A else B := by
  cases b
  · exact iteT (h1 rfl)
  · exact iteF (h2 rfl)
/-! loops -/
/-- what a for's reading asks behind the walked thing -/
def ForTail (J : It) (H1 : Hp) (g : TG) (tb : TS) (D : Ends) (σ : L2.St) : Prop := ∃ W : Nat → Nat → L2.St → Hp → Prop, (∃ m, W 0 m σ H1) ∧ ∀ i m σ H, W i m σ H →
  (J.stop i H ∧ D.nx σ H) ∨ (J.go i H ∧ ∃ N : L2.St → Hp → Prop, (∀ σ' H', N σ' H' → ∃ m', m' < m ∧ W (i + 1) m' σ' H') ∧ ∀ x H', J.yld i H x H' → g x σ H' fun σ2 H2 => tb { D with nx := N, ct := N, bk := D.nx } σ2 H2)
theorem r_for (h : wi σ H fun J H1 => ForTail J H1 g t D σ) : tFor wi g t D σ H := h
theorem for_w {J : It} {G : Hp → Prop} {Y : Nat → Hp → V → Hp → Prop} (w : Walk J n G Y) (Pv : Nat → L2.St → Hp → Prop) (h0 : Pv 0 σ H) (hG : ∀ i σ H, i ≤ n → Pv i σ H → G H)
    (hs : ∀ i x σ H H', i < n → Pv i σ H → Y i H x H' → g x σ H' fun σ2 H2 => t { D with nx := Pv (i + 1), ct := Pv (i + 1), bk := D.nx } σ2 H2) (hd : ∀ σ H, Pv n σ H → D.nx σ H) : ForTail J H g t D σ :=
  for_it w Pv h0 hG hs hd
end
end Hn

/-! Lists and tuples walked alike; enumerate of a tuple; t[::-1]; c[i] by an own __getitem__. -/
namespace Hn
open PySem PySem.Spec PyProof.Rows L2 Evl

/-! ### enumerate(v), v a tuple -/
theorem meets_enum1 {v : Value} {o : Obj} {P : Heap → Prop} (B : Begins v o P) :
    Meets (Builtin.«enumerate.__new__» ⟨[.type "enumerate", v], []⟩) (fun _ R s => P s.heap ∧
      R (.ok (.ret (.ref (s.heap.push o).objs.size))) { s with heap := (s.heap.push o).push { cls := .type "enumerate", data := .fields #[.none, .bool false, .ref s.heap.objs.size, rawInt 0, .none, .none] } }) :=
  .of_wp fun prog w A R s h => by
    obtain ⟨hp, g, d, tk, os⟩ := s
    obtain ⟨h1, h⟩ := h
    have hsub := sub_enumerate
    have q1 : ∀ {A' : Around} {E : Value → Shared → Prop} {Q : Value → Shared → Prop}, Q (.ref hp.objs.size) ⟨hp.push o, g, d, tk, os⟩ → wpAny (model prog w) A' (pyIter v) Q E ⟨hp, g, d, tk, os⟩ := fun q => B.iter prog w _ _ ⟨hp, g, d, tk, os⟩ _ h1 q
    wp_walk using q1
    refine wpAny_stack_any fun st => wpAny_pure ?_
    split
    · rename_i c _ _ _ _ _
      cases (c == Value.type "enumerate") <;> (wp_walk using q1; exact ⟨_, rfl, h⟩)
    · wp_walk using q1
      exact ⟨_, rfl, h⟩
theorem call_enum1 {prog : Program} {w : World} {A : Around} {E : Value → Shared → Prop} {s : Shared} {v : Value} {o : Obj} {P : Heap → Prop} {Q : Value → Shared → Prop} (B : Begins v o P) (h1 : P s.heap)
    (h : ∀ h' : Heap, IsEnum h' (s.heap.objs.size + 1) s.heap.objs.size 0 .none → h'.get? s.heap.objs.size = some o → (∀ b o, s.heap.get? b = some o → h'.get? b = some o) → Q (.ref (s.heap.objs.size + 1)) { s with heap := h' }) :
    wpAny (model prog w) A (call (.type "enumerate") [v]) Q E s := by
  refine callType_new F.called_enumerate (by decide) (F.typeCall_enumerate_1 _) (F.newCall_enumerate_1 _) (fun obj => F.args_object_init_2 obj _) F.entry_enumerate_new (meets_enum1 B) ⟨h1, ?_⟩
  have hz : (s.heap.push o).objs.size = s.heap.objs.size + 1 := Heap.size_push ..
  have hg := Heap.get?_push_size (s.heap.push o) (o := { cls := .type "enumerate", data := .fields #[.none, .bool false, .ref s.heap.objs.size, rawInt 0, .none, .none] }) rfl
  rw [hz] at hg
  show _ ∧ _
  rw [hz]
  exact ⟨⟨_, hg, rfl⟩, h _ hg (Heap.get?_push_of_some _ (Heap.get?_push_size _ B.free)) fun b o x => Heap.get?_push_of_some _ (Heap.get?_push_of_some _ x)⟩
/-- the tuple at a, each item in a new pair behind its place -/
def Itet (K : PySem.W.Frag) (a : Addr) : It :=
  ⟨fun i H => ∃ (xs : List V) (x : V), SqT K H a xs ∧ xs[i]? = some x, fun i H v H' => ∃ T x, v = .ref T ∧ H T = none ∧ H' = upd H T (.tup [.int (i : Nat), x]) ∧ ∀ xs, SqT K H a xs → xs[i]? = some x, fun i H => ∃ xs : List V, SqT K H a xs ∧ xs.length = i⟩
theorem walk_enumT {K : PySem.W.Frag} {a : Addr} {xs : List V} : Walk (Itet K a) xs.length (fun H => SqT K H a xs) (YPair (fun i => some (.int (i : Nat))) (fun i => xs[i]?)) := by
  refine ⟨fun i _ hi q => ⟨xs, xs[i], q, by simp [hi]⟩, fun _ q => ⟨xs, q, rfl⟩, fun i H v H' _ q y => ?_⟩
  obtain ⟨T, x, h1, h2, h3, h4⟩ := y
  exact ⟨T, _, x, h1, h2, h3, rfl, h4 xs q⟩
theorem turn_enumT {P : Program} {w : World} {K : PySem.W.Frag} {elts : List Expr} {kk : Nat} {tpos : Pos} (a e it : Addr) (hne : e ≠ it) (ha : a ≠ it) (hae : e ≠ a) :
    Turn P w K (.Tuple elts kk tpos) (Itet K a) [e, it] e (fun i h => (∃ old, IsEnum h e it ((i : Nat) : Int) old) ∧ h.IsTupleIter it a i) where
  mem := by simp
  obj := fun i h st b hb => by
    obtain ⟨⟨old, he⟩, ⟨o, ho, hc, hd⟩⟩ := st
    rcases (show b = e ∨ b = it by simpa using hb) with z | z
    · rw [z]
      exact ⟨_, he, fun v q => nomatch q⟩
    · rw [z]
      exact ⟨o, ho, fun v q => by rw [hd] at q; cases q⟩
  keep := fun i h h' st k => by
    obtain ⟨⟨old, he⟩, hi⟩ := st
    exact ⟨⟨old, k e (by simp) _ he⟩, hi.at fun o q => k it (by simp) o q⟩
  item := by
    intro X hP hw hK hc i pins s σ H E I hf st hg
    subst hP hw hK
    obtain ⟨⟨old, he⟩, hit⟩ := st
    obtain ⟨xs, x, hq, hx⟩ := hg
    obtain ⟨its, rv, p, hz⟩ := I.tuple hq
    obtain ⟨u, hu, ru⟩ := rv.get hx
    have hel : e < s.heap.objs.size := Heap.lt_size he
    have hil : it < s.heap.objs.size := by obtain ⟨_, q, _⟩ := hit; exact Heap.lt_size q
    have hn : i < its.toArray.size := by
      rw [List.size_toArray]
      exact (List.getElem?_eq_some_iff.mp hu).1
    have D := Draws.tuple (prog := X.prog) (w := X.w) (A := X.A.in1) (I.ok.hd hc) it a ha its.toArray
    refine wpAny_pyNext_enum_itemC D he ⟨hit, p⟩ hn hne (by simp [hne, hae]) fun x' h' tk hx' ho hst' hT hsz hk => ?_
    have ex : x' = u := by
      have z : its.toArray[i]? = some u := by simpa using hu
      rw [z] at hx'
      exact (Option.some.inj hx').symm
    subst ex
    refine ⟨_, rfl, wpAny_letOwnedTupleGo_enum (s := { s with heap := h', toks := tk + 1 }) ho fun h'' he' sb => ?_⟩
    have hT2 : h''.get? s.heap.objs.size = some { cls := .type "tuple", data := .seq #[.int i tk, x'] } := (sb.2 _ (Nat.ne_of_gt hel)).trans hT
    have new : ObjOk X.prog X.w (upd H s.heap.objs.size (.tup [.int (i : Nat), x])) h'' s.heap.objs.size (.tup [.int (i : Nat), x]) :=
      ⟨by show 2 ≤ sizeLine; decide, [.int i tk, x'], .cons ⟨_, rfl⟩ (.cons ru .nil), ⟨_, hT2, rfl, _, rfl⟩⟩
    have I1 : Inv X pins σ (upd H s.heap.objs.size (.tup [.int (i : Nat), x])) { s with heap := h'', toks := tk + 1 } :=
      I.turnedNew (ch := [e, it]) (fun b ob hb q => (sb.2 b (fun z => hb (by simp [z]))).trans (hk b ob (fun z => hb (by simp [z])) (fun z => hb (by simp [z])) q)) hf (Nat.le_refl _) new
    refine ⟨.ref s.heap.objs.size, _, I1, rfl, ⟨_, x, rfl, I.hok.fresh (Nat.le_refl _), rfl, fun ys hy => ?_⟩, ⟨⟨x', ?_⟩, hst'.1.at fun o q => (sb.2 it (Ne.symm hne)).trans q⟩, fun b hb => ?_⟩
    · rw [I.tuple_inj hy hq]
      exact hx
    · have e1 : ((i + 1 : Nat) : Int) = (i : Int) + 1 := by omega
      rw [e1]
      exact he'
    · have hb' : b < s.heap.objs.size := by
        rcases (show b = e ∨ b = it by simpa using hb) with z | z
        · rw [z]; exact hel
        · rw [z]; exact hil
      rw [upd_ne (Nat.ne_of_lt hb')]
      exact (hf b hb).1
  done := by
    intro X hP hw hK hc i pins s σ H E I hf st hg
    subst hP hw hK
    obtain ⟨⟨old, he⟩, hit⟩ := st
    obtain ⟨xs, hq, hx⟩ := hg
    obtain ⟨its, rv, p, hz⟩ := I.tuple hq
    obtain ⟨f0, f1, f2, f3, f4, f5⟩ := hf it (by simp)
    have hl : its.toArray.size = i := by
      rw [List.size_toArray, ← rv.length]
      exact hx
    have D := Draws.tuple (prog := X.prog) (w := X.w) (A := X.A.in1) (I.ok.hd hc) it a ha its.toArray
    refine wpAny_pyNext_enum_endD D he ⟨by rw [hl]; exact hit, p⟩ fun h' eb => ?_
    exact ⟨rfl, I.turned (t' := s.toks) (fun b o hb q => eb b o hb q) f0 f1 f3 f4 f5⟩
  self := fun A i s Q E st h => by
    obtain ⟨⟨_, he⟩, _⟩ := st
    exact wpAny_pyIter_enum he h
/-! ### a list or a tuple walked -/
section
variable {X : Cx} {tg : Expr}
/-- a walk that gives xs as long as what stands in H1 stands -/
def Goes1 (H1 : Hp) (n : Nat) (Y : Nat → Hp → V → Hp → Prop) (J : It) : Prop := ∃ G : Hp → Prop, Walk J n G Y ∧ ∀ H, Ex H1 H → G H
def iSeq (K : PySem.W.Frag) (tl : TE) : TI := fun σ H R => tl σ H fun x H1 => ∃ a xs H0, x = .ref a ∧ Sq K H0 a xs ∧ Ex H0 H1 ∧ ∀ J, Goes1 H0 xs.length (YAt xs) J → R J H1
theorem new1 {pins : List (Addr × Obj)} {σ : L2.St} {H : Hp} {s : Shared} (I : Inv X pins σ H s) : (∀ b ∈ [s.heap.objs.size], FpOk X pins H b) ∧ ∀ o, Inv X pins σ H { s with heap := s.heap.push o } :=
  ⟨fun b hb => by
    obtain rfl : b = s.heap.objs.size := by simpa using hb
    exact I.fpOk (Nat.le_refl _) (I.hok.fresh (Nat.le_refl _)), fun o => I.kept (t' := s.toks) fun b o e => Heap.get?_push_of_some _ e⟩
theorem pi_seq {l : Expr} {tl : TE} (hl : PE X l tl) : PI X tg l (iSeq X.K tl) := by
  refine ⟨fun pins s σ H R I h => ?_⟩
  refine thn (hl.run pins s σ H _ I h) fun v s1 ⟨x, H1, I1, r1, a, xs, H0, ex, hq0, e0, q⟩ => ?_
  subst ex
  cases r1
  obtain ⟨fp, kp⟩ := new1 I1
  rcases hq0 with hq | hq
  · obtain ⟨its, rv, p, hz⟩ := I1.list (ex_l e0 hq)
    refine wpAny_pyIter_list p.isList ?_
    exact ⟨s1.heap.objs.size, [s1.heap.objs.size], _, _, H1, rfl, kp _, turn_list a _, ⟨_, Heap.get?_push_size _ rfl, rfl, rfl⟩, fp, q _ ⟨_, walk_list, fun H' e => ex_l e hq⟩⟩
  · obtain ⟨its, rv, p, hz⟩ := I1.tuple (ex_t e0 hq)
    refine wpAny_pyIter_tuple (show s1.heap.IsTuple a its.toArray from p) ?_
    exact ⟨s1.heap.objs.size, [s1.heap.objs.size], _, _, H1, rfl, kp _, turn_tuple a _, ⟨_, Heap.get?_push_size _ rfl, rfl, rfl⟩, fp, q _ ⟨_, walk_tup, fun H' e => ex_t e hq⟩⟩
/-- enumerate of a list or a tuple -/
def YEnum (xs : List V) : Nat → Hp → V → Hp → Prop := YPair (fun i => some (.int (i : Nat))) (fun i => xs[i]?)
def iEnumS (K : PySem.W.Frag) (ta : TA) : TI := fun σ H R => ta σ H fun vs H1 => ∃ a xs H0, vs = [.ref a] ∧ Sq K H0 a xs ∧ Ex H0 H1 ∧ ∀ J, Goes1 H0 xs.length (YEnum xs) J → R J H1
theorem pi_enumS {e : Expr} {ta : TA} {p pos tpos : Pos} {elts : List Expr} {kk : Nat} (hg : Gl X "enumerate") (hm : X.mg "enumerate" = none) (ha : PA X [e] ta) (hs : starEach [e] X.env = [(false, eval e X.env)] := by rfl) :
    PI X (.Tuple elts kk tpos) (.Call (.Name "enumerate" p) [e] [] pos) (iEnumS X.K ta) := by
  refine ⟨fun pins s σ H R I h => ?_⟩
  refine Call_ (ld_blt I hg hm boot_enumerate (PyProof.Rows.callWith_type1 (thn (ha.run pos pins s σ H _ I h) fun us s1 ⟨vs, H1, I1, r1, a, xs, H0, ex, hq0, e0, q⟩ => ?_) hs rfl))
  subst ex
  obtain rfl := Vals.ref1 r1
  have fp : ∀ b ∈ [s1.heap.objs.size + 1, s1.heap.objs.size], FpOk X pins H1 b := fun b hb => by
    have hle : s1.heap.objs.size ≤ b := by
      rcases (show b = s1.heap.objs.size + 1 ∨ b = s1.heap.objs.size by simpa using hb) with z | z <;> omega
    exact I1.fpOk hle (I1.hok.fresh hle)
  rcases hq0 with hq | hq
  · obtain ⟨its, rv, p', hz⟩ := I1.list (ex_l e0 hq)
    refine call_enumerate_list p'.isList fun h' he hit hsz hk => wpAny_pyIter_enum he ?_
    exact ⟨s1.heap.objs.size + 1, [s1.heap.objs.size + 1, s1.heap.objs.size], _, _, H1, rfl, I1.kept (t' := s1.toks) hk, turn_enum a (s1.heap.objs.size + 1) s1.heap.objs.size, ⟨⟨.none, he⟩, hit, Nat.succ_ne_self _⟩, fp, q _ ⟨_, walk_enum, fun H' e => ex_l e hq⟩⟩
  · obtain ⟨its, rv, p', hz⟩ := I1.tuple (ex_t e0 hq)
    have hlt : a < s1.heap.objs.size := by obtain ⟨o, ho, _⟩ := id p'; exact Heap.lt_size ho
    refine call_enum1 (begins_tuple a its.toArray) p' fun h' he hit hk => wpAny_pyIter_enum he ?_
    exact ⟨s1.heap.objs.size + 1, [s1.heap.objs.size + 1, s1.heap.objs.size], _, _, H1, rfl, I1.kept (t' := s1.toks) hk, turn_enumT a (s1.heap.objs.size + 1) s1.heap.objs.size (Nat.succ_ne_self _) (Nat.ne_of_lt hlt) (Nat.ne_of_gt (Nat.lt_succ_of_lt hlt)), ⟨⟨.none, he⟩, ⟨_, hit, rfl, rfl⟩⟩, fp, q _ ⟨_, walk_enumT, fun H' e => ex_t e hq⟩⟩
end
section
variable {K : PySem.W.Frag} {σ : L2.St} {H : Hp} {te : TE} {ar : TA} {R : It → Hp → Prop}
theorem r_iSeq (h : te σ H fun x H1 => ∃ a xs H0, x = .ref a ∧ Sq K H0 a xs ∧ Ex H0 H1 ∧ ∀ J, Goes1 H0 xs.length (YAt xs) J → R J H1) : iSeq K te σ H R := h
theorem r_iEnumS (h : ar σ H fun vs H1 => ∃ a xs H0, vs = [.ref a] ∧ Sq K H0 a xs ∧ Ex H0 H1 ∧ ∀ J, Goes1 H0 xs.length (YEnum xs) J → R J H1) : iEnumS K ar σ H R := h
end
/-! ### t[::-1] -/
theorem adjust_rev (n : Nat) : Builtin.Slice.sliceAdjust none none (-1) (n : Int) = ((n : Int) - 1, -1) := by
  unfold Builtin.Slice.sliceAdjust
  simp
theorem places_rev (n : Nat) : Builtin.Slice.slicePlaces ((n : Int) - 1) (-1) (-1) = n := by
  unfold Builtin.Slice.slicePlaces
  rw [if_neg (by decide)]
  split <;> simp <;> omega
section
open HT
variable {prog : Program} {w : World} {A : Around} {E : Value → Shared → Prop} {s : Shared}
theorem sliceApplied_rev {sl : Addr} {vs : Value} {n : Nat} {Q : Int × Int × Nat → Shared → Prop} (hs : s.heap.IsSliceOf sl .none .none vs) (ps : IsPart vs (some (-1)))
    (h : Q ((n : Int) - 1, -1, n) s) : wpAny (model prog w) A (Builtin.Slice.sliceApplied (.ref sl) (pure (n : Int))) Q E s := by
  obtain ⟨os, hos, hcs, hds⟩ := id hs
  unfold Builtin.Slice.sliceApplied Builtin.Slice.sliceFields
  refine wpAny_bind (wpAny_bind (wpAny_field hos hds (x := .none) rfl (wpAny_bind (wpAny_field hos hds (x := .none) rfl (wpAny_bind (wpAny_field hos hds (x := vs) rfl (wpAny_pure ?_)))))))
  refine wpAny_bind (slicePart_ ps ?_)
  show wpAny _ _ (if ((-1 : Int) == 0) = true then _ else _) _ _ s
  rw [if_neg (by decide)]
  refine wpAny_bind (slicePart_none (wpAny_bind (slicePart_none (wpAny_bind (wpAny_pure ?_)))))
  show wpAny _ _ (match Builtin.Slice.sliceAdjust none none (-1) (n : Int) with | (lo, hi) => pure (lo, (-1 : Int), Builtin.Slice.slicePlaces lo hi (-1))) _ _ s
  rw [adjust_rev n]
  show wpAny _ _ (pure ((n : Int) - 1, (-1 : Int), Builtin.Slice.slicePlaces ((n : Int) - 1) (-1) (-1))) _ _ s
  rw [places_rev]
  exact wpAny_pure h
theorem pick_rev (xs : Array Value) : ((List.range xs.size).filterMap fun (k : Nat) => xs[((xs.size : Int) - 1 + (k : Int) * -1).toNat]?).toArray = xs.toList.reverse.toArray := by
  congr 1
  have e : ((List.range xs.size).filterMap fun (k : Nat) => xs[((xs.size : Int) - 1 + (k : Int) * -1).toNat]?) = ((List.range xs.size).map (fun k => xs.size - 1 - k)).filterMap (xs[·]?) := by
    rw [List.filterMap_map]
    congr 1
    funext k
    have : ((xs.size : Int) - 1 + (k : Int) * -1).toNat = xs.size - 1 - k := by omega
    show xs[((xs.size : Int) - 1 + (k : Int) * -1).toNat]? = xs[xs.size - 1 - k]?
    rw [this]
  rw [e, PySem.W.krv_range, List.filterMap_reverse, PySem.W.krv_all]
theorem getItem_tuple_rev {t sl : Addr} {items : Array Value} {vs : Value} {Q : Value → Shared → Prop} (ht : IsTup s.heap t items) (hs : s.heap.IsSliceOf sl .none .none vs) (ps : IsPart vs (some (-1))) (hsz : items.size ≤ sizeLine)
    (h : Q (.ref s.heap.objs.size) { s with heap := s.heap.push { cls := .type "tuple", data := .seq items.toList.reverse.toArray } }) : wpAny (model prog w) A (getItem (.ref t) (.ref sl)) Q E s := by
  have htake : sizeOk (.seq items.toList.reverse.toArray) := by
    show items.toList.reverse.toArray.size ≤ sizeLine
    rw [List.size_toArray, List.length_reverse, Array.length_toList]
    exact hsz
  obtain ⟨os, hos, hcs, hds⟩ := id hs
  have hTs : s.TypeIs (.ref sl) "slice" := ⟨os, hos, hcs⟩
  unfold getItem
  try with_reducible refine wpAny_holding ?_
  first | refine wpAny_bind (wpAny_pure ?_) | skip
  refine wpAny_bind (wpAny_sequenceKey ht.typeIs (by decide) (wpAny_bind (wpAny_callSpecial?_slot (name := Str.ofString "__getitem__") ht.typeIs PyProof.Rows.slot_tuple_getitem (wpAny_call_entry PyProof.Rows.slot_tuple_getitem ht.typeIs entry_tuple_getitem ?_ (args_tuple_getitem _ _)))))
  show wpAny _ _ (Builtin.Tuple.tupleItemsOf (.ref t) >>= _) _ _ s
  refine wpAny_bind (tupleItemsOf_ ht (wpAny_bind (wpAny_typeOf hTs ?_)))
  rw [if_pos (by decide)]
  refine wpAny_bind (sliceApplied_rev hs ps ?_)
  show wpAny _ _ (if (((items.size : Int) - 1 == 0) && ((-1 : Int) == 1) && items.size == items.size) = true then _ else _) _ _ s
  rw [if_neg (by rw [show ((-1 : Int) == 1) = false from rfl, Bool.and_false, Bool.false_and]; decide), pick_rev]
  first
    | exact wpAny_bind (m := Builtin.Tuple.tupleExact _) (wpAny_newObj_type (wpAny_pure ⟨_, rfl, wpAny_pure h⟩) htake)
    | exact wpAny_bind (wpAny_bind (m := Builtin.Tuple.tupleExact _) (wpAny_newObj_type (wpAny_pure (wpAny_pure ⟨_, rfl, wpAny_pure h⟩)) htake))
    | exact wpAny_bind (wpAny_bind (m := Builtin.Tuple.tupleExact _) (wpAny_newObj_type (wpAny_pure ⟨_, rfl, wpAny_pure h⟩) htake))
end
section
variable {X : Cx}
def tRevT (K : PySem.W.Frag) (te : TE) : TE := fun σ H Q => te σ H fun x H1 => ∃ a xs, x = .ref a ∧ SqT K H1 a xs ∧ ∀ p, H1 p = none → Q (.ref p) (upd H1 p (.tup xs.reverse))
theorem r_revT {K : PySem.W.Frag} {σ : L2.St} {H : Hp} {te : TE} {Q : VK} (h : te σ H fun x H1 => ∃ a xs, x = .ref a ∧ SqT K H1 a xs ∧ ∀ p, H1 p = none → Q (.ref p) (upd H1 p (.tup xs.reverse))) : tRevT K te σ H Q := h
theorem pe_revT {e : Expr} {te : TE} {k : Nat} {p1 p2 p3 pos : Pos} (he : PE X e te) : PE X (.Subscript e (.Slice none none (some (.UnaryOp .USub (.Constant (.int 1) k p1) p2)) p3) pos) (tRevT X.K te) := by
  refine ⟨fun pins s σ H Q I h => ?_⟩
  refine Subscript_ (thn (he.run pins s σ H _ I h) fun v s1 ⟨x, H1, I1, r1, a, xs, ex, hx, q⟩ => ?_)
  subst ex
  cases r1
  have hst : PO X (some (.UnaryOp .USub (.Constant (.int 1) k p1) p2)) (tPart (tUn (rU fun i => .int (-i)) (tC (.int 1)))) := po_some (pe_un un_neg pe_int)
  refine wpAny_Slice (thn (po_none.run pins s1 σ H1 (fun o H2 => o = none ∧ H2 = H1) I1 ⟨rfl, rfl⟩) fun vl s2 ⟨l, H2, I2, pl, el, e2⟩ => ?_)
  subst el e2
  refine thn (po_none.run pins s2 σ H2 (fun o H3 => o = none ∧ H3 = H2) I2 ⟨rfl, rfl⟩) fun vu s3 ⟨u, H3, I3, pu, eu, e3⟩ => ?_
  subst eu e3
  refine thn (hst.run pins s3 σ H3 (fun o H4 => o = some (-1) ∧ H4 = H3) I3 ⟨1, rfl, -1, rfl, rfl, rfl⟩) fun vs s4 ⟨o, H4, I4, ps, eo, e4⟩ => ?_
  subst eo e4
  cases pl
  cases pu
  have I5 : Inv X pins σ H4 { s4 with heap := s4.heap.push { cls := .type "slice", data := .fields #[.none, .none, vs] } } := I4.kept (t' := s4.toks) fun b ob q => Heap.get?_push_of_some _ q
  obtain ⟨its, r, ht, hz⟩ := I5.tuple hx
  have hlen := r.length
  show wpAny (model X.prog X.w) X.A (subscriptTail e (.Slice none none (some (.UnaryOp .USub (.Constant (.int 1) k p1) p2)) p3) (.ref a) (.ref s4.heap.objs.size)) (EP X pins σ Q) X.xe { s4 with heap := s4.heap.push { cls := .type "slice", data := .fields #[.none, .none, vs] } }
  refine tail_any (ops := [.ref a, .ref s4.heap.objs.size]) ht.typeIs (PyProof.Rows.slot_tuple_getitem.lookup) ?_ (by with_unfolding_all rfl)
  refine getItem_tuple_rev ht (Heap.IsSliceOf.new _ .none .none vs) ps (by rw [List.size_toArray]; omega) ?_
  refine ⟨.ref _, _, I5.laid (t' := s4.toks) (o := .tup xs.reverse) (fun b ob q => Heap.get?_push_of_some _ q) (Nat.le_refl _) ?_, rfl, q _ (I5.hok.fresh (Nat.le_refl _))⟩
  exact ⟨by rw [List.length_reverse]; exact hz, its.reverse, r.reverse, ⟨_, Heap.get?_push_size _ rfl, rfl, _, rfl⟩⟩

/-! ### c[i] by the class's own __getitem__ -/
variable {k : Nat} {f C : Addr} {ps : List Str} {sp : Sp}
def tIxO (C : Addr) (sp : Sp) (ta tb : TE) : TE := fun σ H Q => ta σ H fun x H1 => tb σ H1 fun y H2 => ∃ a dx fs, x = .ref a ∧ H2 a = some (.ins C dx fs) ∧ sp [x, y] H2 Q E0
theorem r_ixO {C : Addr} {sp : Sp} {σ : L2.St} {H : Hp} {ta tb : TE} {Q : VK} (h : ta σ H fun x H1 => tb σ H1 fun y H2 => ∃ a dx fs, x = .ref a ∧ H2 a = some (.ins C dx fs) ∧ sp [x, y] H2 Q E0) : tIxO C sp ta tb σ H Q := h
theorem pe_ixB {a b : Expr} {ta tb : TE} {pos : Pos} (G : Okf X.prog X.w X.K X.mg X.base k f ps sp) (hr : Room (k + 1) X.A)
    (hs : PySem.W.findIn X.K (.ref C) "__getitem__" = some (some (.ref f))) (hf : PySem.W.fnIn X.K f = true) (hfn : PySem.W.isFn X.K (.ref f) = true) (ha : PE X a ta) (hb : PE X b tb)
    (hsl : ∀ x i, subscripted b true (.ref x) i = runValue (.builtin "lifetime.subscript" ⟨[.ref x, i], []⟩) := by intro _ _; with_unfolding_all rfl) : PE X (.Subscript a b pos) (tIxO C sp ta tb) := by
  obtain ⟨fd, F, hbd⟩ := G
  refine ⟨fun pins s σ H Q I h => ?_⟩
  refine Subscript_ (binT ha hb I h fun v u s2 x y H2 I2 rx ry q => ?_)
  obtain ⟨p, dx, fs, rfl, hp, q⟩ := q
  cases rx
  obtain ⟨mA, J, _⟩ := ins_get I2.hok hp
  obtain ⟨od, J, _⟩ := J.look
  obtain ⟨m, hF⟩ := I2.fr
  refine PySem.W.sub_K hF I2.ok.mod.kin J hs hf hfn ?_ (hsl p u)
  exact run_fn1 (us := [.ref p, u]) (vs := [.ref p, y]) F hr hbd passL I2 (.cons rfl (.cons ry .nil)) q
end
end Hn

/-! Clocks, plainly: stays round about, widths. -/
namespace Hn

/-- the item at any place, round about -/
def cyc (s : List Int) (i : Int) : Int := s.getD (i % (s.length : Int)).toNat 0
/-- how many begins back serve the hour h -/
def wd (s : List Int) (h : Int) : Int := (((List.range s.length).filter fun (b : Nat) => decide ((b : Int) < cyc s (h - (b : Int)))).length : Int)
def wds (s : List Int) : List Int := (List.range s.length).map fun (h : Nat) => wd s h
def okStays (s : List Int) : Bool := decide (1 ≤ s.length) && decide (s.length ≤ 48) && s.all fun x => decide (1 ≤ x) && decide (x ≤ (s.length : Int))
structure Good (s : List Int) : Prop where
  ne : 1 ≤ s.length
  le : s.length ≤ 48
  lo : ∀ i : Int, 1 ≤ cyc s i
  hi : ∀ i : Int, cyc s i ≤ (s.length : Int)
  od : ∀ i : Int, cyc s i ≤ 1 + cyc s (i + 1)

theorem mod_bd {n : Nat} (h : 1 ≤ n) (i : Int) : 0 ≤ i % (n : Int) ∧ i % (n : Int) < (n : Int) := ⟨Int.emod_nonneg _ (by omega), Int.emod_lt_of_pos _ (by omega)⟩
theorem cyc_mem {s : List Int} (h : 1 ≤ s.length) (i : Int) : cyc s i ∈ s := by
  have := mod_bd h i
  unfold cyc
  rw [List.getD_eq_getElem?_getD, List.getElem?_eq_getElem (by omega)]
  exact List.getElem_mem _
theorem cyc_at {s : List Int} {j : Nat} (h : j < s.length) : cyc s (j : Int) = s.getD j 0 := by
  unfold cyc
  rw [Int.emod_eq_of_lt (by omega) (by omega), Int.toNat_natCast]
theorem cyc_mod (s : List Int) (i : Int) : cyc s (i % (s.length : Int)) = cyc s i := by
  unfold cyc
  rw [Int.emod_emod_of_dvd _ (Int.dvd_refl _)]
theorem cyc_congr {s : List Int} {i j : Int} (h : i % (s.length : Int) = j % (s.length : Int)) : cyc s i = cyc s j := by
  unfold cyc
  rw [h]
theorem okStays_iff {s : List Int} : okStays s = true ↔ (1 ≤ s.length ∧ s.length ≤ 48 ∧ ∀ x ∈ s, 1 ≤ x ∧ x ≤ (s.length : Int)) := by
  unfold okStays
  simp only [Bool.and_eq_true, decide_eq_true_eq, List.all_eq_true]
  constructor
  · rintro ⟨⟨a, b⟩, c⟩
    exact ⟨a, b, c⟩
  · rintro ⟨a, b, c⟩
    exact ⟨⟨a, b⟩, c⟩
theorem Good.ok {s : List Int} (g : Good s) : okStays s = true := by
  refine okStays_iff.mpr ⟨g.ne, g.le, fun x hx => ?_⟩
  obtain ⟨j, hj, rfl⟩ := List.mem_iff_getElem.mp hx
  have e : cyc s (j : Int) = s[j] := by
    rw [cyc_at hj, List.getD_eq_getElem?_getD, List.getElem?_eq_getElem hj]
    rfl
  rw [← e]
  exact ⟨g.lo _, g.hi _⟩
theorem Good.of {s : List Int} (h : okStays s = true) (o : ∀ j : Nat, j < s.length → s.getD j 0 ≤ 1 + cyc s ((j : Int) + 1)) : Good s := by
  obtain ⟨h1, h2, h3⟩ := okStays_iff.mp h
  refine ⟨h1, h2, fun i => (h3 _ (cyc_mem h1 i)).1, fun i => (h3 _ (cyc_mem h1 i)).2, fun i => ?_⟩
  have hb := mod_bd h1 i
  have e1 := o (i % (s.length : Int)).toNat (by omega)
  have e2 : (((i % (s.length : Int)).toNat : Nat) : Int) = i % (s.length : Int) := by omega
  rw [e2] at e1
  have e3 : cyc s (i % (s.length : Int) + 1) = cyc s (i + 1) := cyc_congr (by rw [Int.emod_add_emod])
  rw [e3] at e1
  exact e1

/-! ### windows have no gap -/
theorem down {s : List Int} (g : Good s) (h : Int) : ∀ (b : Nat), (b : Int) + 1 < cyc s (h - ((b : Int) + 1)) → (b : Int) < cyc s (h - b) := fun b q => by
  have := g.od (h - ((b : Int) + 1))
  rw [show h - ((b : Int) + 1) + 1 = h - b by omega] at this
  omega
theorem down' {s : List Int} (g : Good s) (h : Int) : ∀ (k b : Nat), (((b + k : Nat) : Int)) < cyc s (h - ((b + k : Nat) : Int)) → (b : Int) < cyc s (h - b)
  | 0, b, q => q
  | k + 1, b, q => down' g h k b (by
      have := down g h (b + k)
      rw [show ((b + (k + 1) : Nat) : Int) = ((b + k : Nat) : Int) + 1 by omega] at q
      exact this q)
/-- a downward closed test on the first numbers: how many pass is where it ends -/
theorem count_down (p : Nat → Bool) : ∀ n : Nat, (∀ b, p (b + 1) = true → p b = true) → ∀ b, b < n → (b < ((List.range n).filter p).length ↔ p b = true) := by
  intro n hp
  have hp' : ∀ k b, p (b + k) = true → p b = true := fun k => by
    induction k with
    | zero => exact fun b h => h
    | succ k ih => exact fun b h => ih b (hp (b + k) h)
  induction n with
  | zero => intro b hb; omega
  | succ n ih =>
    intro b hb
    rw [List.range_succ, List.filter_append, List.length_append, List.filter_cons]
    have hle : ((List.range n).filter p).length ≤ n := by
      have := List.length_filter_le p (List.range n)
      rw [List.length_range] at this
      exact this
    by_cases hn : p n = true
    · have all : ((List.range n).filter p).length = n := by
        have e : (List.range n).filter p = List.range n := List.filter_eq_self.mpr fun a ha => hp' (n - a) a (by
          have := List.mem_range.mp ha
          rw [show a + (n - a) = n by omega]
          exact hn)
        rw [e, List.length_range]
      rw [if_pos hn, all]
      simp only [List.filter_nil, List.length_cons, List.length_nil]
      refine ⟨fun _ => hp' (n - b) b (by rw [show b + (n - b) = n by omega]; exact hn), fun _ => by omega⟩
    · rw [if_neg hn]
      simp only [List.filter_nil, List.length_nil, Nat.add_zero]
      rcases Nat.lt_or_ge b n with h | h
      · exact ih b h
      · have e : b = n := by omega
        subst e
        exact ⟨fun h => absurd h (by omega), fun h => absurd h hn⟩
/-- the hour h is served by the begin b hours back just if b is less than its width -/
theorem wd_iff {s : List Int} (g : Good s) (h : Int) {b : Nat} (hb : b < s.length) : (b : Int) < wd s h ↔ (b : Int) < cyc s (h - b) := by
  have := count_down (fun (b : Nat) => decide ((b : Int) < cyc s (h - (b : Int)))) s.length (fun b q => by
    have q' := of_decide_eq_true q
    exact decide_eq_true (down g h b (by
      rw [show ((b + 1 : Nat) : Int) = (b : Int) + 1 by omega] at q'
      exact q'))) b hb
  unfold wd
  rw [decide_eq_true_eq] at this
  rw [← this]
  omega
theorem wd_le {s : List Int} (h : Int) : wd s h ≤ (s.length : Int) := by
  unfold wd
  have := List.length_filter_le (fun (b : Nat) => decide ((b : Int) < cyc s (h - (b : Int)))) (List.range s.length)
  rw [List.length_range] at this
  omega
theorem wd_nn {s : List Int} (h : Int) : 0 ≤ wd s h := by
  unfold wd
  omega
theorem wd_pos {s : List Int} (g : Good s) (h : Int) : 1 ≤ wd s h := by
  have := (wd_iff g h (b := 0) g.ne).mpr (by have := g.lo (h - ((0 : Nat) : Int)); omega)
  omega
theorem wd_mod (s : List Int) (h : Int) : wd s (h % (s.length : Int)) = wd s h := by
  unfold wd
  congr 2
  refine List.filter_congr fun b _ => ?_
  rw [cyc_congr (i := h % (s.length : Int) - b) (j := h - b) (by rw [Int.emod_sub_emod])]
theorem wds_length (s : List Int) : (wds s).length = s.length := by
  unfold wds
  rw [List.length_map, List.length_range]
theorem cyc_wds {s : List Int} (h1 : 1 ≤ s.length) (h : Int) : cyc (wds s) h = wd s h := by
  have hb := mod_bd h1 h
  unfold cyc
  rw [wds_length, List.getD_eq_getElem?_getD]
  unfold wds
  rw [List.getElem?_map, List.getElem?_range (by omega)]
  show wd s (((h % (s.length : Int)).toNat : Nat) : Int) = wd s h
  rw [show (((h % (s.length : Int)).toNat : Nat) : Int) = h % (s.length : Int) by omega, wd_mod]
theorem wd_step {s : List Int} (g : Good s) (h : Int) : wd s (h + 1) ≤ 1 + wd s h := by
  rcases Int.lt_or_le (1 + wd s h) (wd s (h + 1)) with q | q
  · exfalso
    have h0 := wd_nn (s := s) h
    have h1 := wd_le (s := s) (h + 1)
    obtain ⟨b, hb⟩ : ∃ b : Nat, wd s h = (b : Int) := ⟨(wd s h).toNat, by omega⟩
    have e1 := (wd_iff g (h + 1) (b := b + 1) (by omega)).mp (by omega)
    have e2 : (b : Int) < cyc s (h - b) := by
      rw [show h + 1 - ((b + 1 : Nat) : Int) = h - b by omega] at e1
      omega
    have e3 := (wd_iff g h (b := b) (by omega)).mpr e2
    omega
  · omega
end Hn

/-! Kinds of values; calls by name, read. -/
namespace Hn
open PySem PySem.Spec PyProof.Rows L2 Evl
section
variable {K : PySem.W.Frag} {σ : L2.St} {H : Hp} {Q : VK} {a : Addr} {xs : List V} {i : Int}
theorem sq_ty (h : Sq K H a xs) : TyX K H (.ref a) (.type "list") ∨ TyX K H (.ref a) (.type "tuple") := by
  rcases h with h | h
  · rcases h with (h | ⟨o, h⟩) | ⟨o, its, n, h1, h2, _⟩
    · exact .inl (.base (.lst h))
    · exact .inl (.base (.frz h))
    · exact .inl (.kList h1 h2)
  · rcases h with (h | ⟨o, h⟩) | ⟨o, its, n, h1, h2, _⟩
    · exact .inr (.base (.tup h))
    · exact .inr (.fTuple h)
    · exact .inr (.kTuple h1 h2)
theorem r_isiSeq {tp : Addr} (h : Sq K H a xs) (ht : H tp = some (.tup [.ty "list", .ty "tuple"])) (q : Q (.bl true) H) : rIsiT K [.ref a, .ref tp] H Q := by
  have pc : Paired ClsV [V.ty "list", V.ty "tuple"] [.type "list", .type "tuple"] := .cons (.ty _) (.cons (.ty _) .nil)
  rcases sq_ty h with t | t
  · exact ⟨.ref a, tp, _, _, _, true, rfl, ht, pc, t, kitAny_cons (b := true) (kit_ty (by decide +kernel)) (fun z => nomatch z) (fun _ => rfl), q⟩
  · exact ⟨.ref a, tp, _, _, _, true, rfl, ht, pc, t, kitAny_cons (b := false) (kit_ty (by decide +kernel)) (fun _ => kitAny_cons (b := true) (kit_ty (by decide +kernel)) (fun z => nomatch z) (fun _ => rfl)) (fun z => nomatch z), q⟩
theorem r_isiInt (q : Q (.bl true) H) : rIsi K [.int i, .ty "int"] H Q := ⟨.int i, .ty "int", _, _, true, rfl, .ty _, .base (.int i), kit_ty (by decide +kernel), q⟩
theorem r_isiIntB (q : Q (.bl false) H) : rIsi K [.int i, .ty "bool"] H Q := ⟨.int i, .ty "bool", _, _, false, rfl, .ty _, .base (.int i), kit_ty (by decide +kernel), q⟩
theorem r_all {bs : List Bool} (h : SqL K H a (bs.map V.bl)) (q : Q (.bl (bs.all id)) H) : rAll K [.ref a] H Q := ⟨a, bs, rfl, h, q⟩
theorem r_sum {ns : List Int} (h : SqL K H a (ns.map V.int)) (q : Q (.int ns.sum) H) : rSum K [.ref a] H Q := ⟨a, ns, rfl, h, q⟩
theorem ty_lst (h : H a = some (.lst xs)) : tyV K "list" (.ref a) H := .inl ⟨rfl, xs, .inl (.inl h)⟩
theorem szc (h : Nat.ble xs.length 1000 = true) : xs.length ≤ sizeLine := by
  have : (1000 : Nat) ≤ sizeLine := by decide
  have := Nat.le_of_ble_eq_true h
  omega
/-- a new list that nobody else holds -/
def RetN (xs : List V) (H : Hp) (Q : VK) : Prop := ∀ p H', H p = none → Ex H H' → H' p = some (.lst xs) → Q (.ref p) H'
theorem tup_mono {H' : Hp} (e : Xl H H') (h : SqT K H a xs) : SqT K H' a xs := by
  rcases h with (h | ⟨o, h⟩) | h
  · exact .inl (.inl (e _ _ h rfl))
  · exact .inl (.inr ⟨o, e _ _ h rfl⟩)
  · exact .inr h
/-- a tuple stands though an instance is written -/
theorem tup_ins {C dx : Addr} {fs : List (Str × V)} {p : Addr} {o : HO} (hp : H p = some (.ins C dx fs)) (h : SqT K H a xs) : SqT K (upd H p o) a xs := by
  rcases h with (h | ⟨o', h⟩) | h
  · exact .inl (.inl (by rw [upd_ne (ne_of h hp (by intro z; cases z))]; exact h))
  · exact .inl (.inr ⟨o', by rw [upd_ne (ne_of h hp (by intro z; cases z))]; exact h⟩)
  · exact .inr h
theorem map_range_int (ns : List Int) (f : Int → V) : (List.range ns.length).map (fun i => f (ns.getD i 0)) = ns.map f := by
  refine List.ext_getElem? fun i => ?_
  rw [List.getElem?_map, List.getElem?_map]
  rcases Nat.lt_or_ge i ns.length with h | h
  · rw [List.getElem?_range h, List.getElem?_eq_getElem h, Option.map_some, Option.map_some, List.getD_eq_getElem?_getD, List.getElem?_eq_getElem h]
    rfl
  · rw [List.getElem?_eq_none (by rw [List.length_range]; omega), List.getElem?_eq_none h]
    rfl
end
end Hn

/-! The rules with the written part by its own name, so that they fit within a comprehension's block. -/
namespace Hn
open PySem PySem.Spec PyProof.Rows L2 Evl
section
variable {X : Cx} {K : PySem.W.Frag} {tg l e : Expr} {tl te : TE} {ar : TA}
theorem k_ixL (h : X.K = K) : IxR X (rIxL K) := h ▸ ix_list
theorem k_ixT (h : X.K = K) : IxR X (rIxT K) := h ▸ ix_tup
theorem k_ixS (h : X.K = K) : IxR X (rIx K) := h ▸ ix_seq
theorem k_getL (h : X.K = K) : PGet X (rIxL K) := h ▸ get_list
def rLen (K : PySem.W.Frag) : List V → Hp → VK → Prop := fun xs H Q => ∃ p ys, xs = [.ref p] ∧ (SqL K H p ys ∨ SqT K H p ys) ∧ Q (.int ys.length) H
def rListOf (K : PySem.W.Frag) : List V → Hp → VK → Prop := fun xs H Q => ∃ p ys, xs = [.ref p] ∧ (SqL K H p ys ∨ SqT K H p ys) ∧ ∀ l, H l = none → Q (.ref l) (upd H l (.lst ys))
def rTupOf (K : PySem.W.Frag) : List V → Hp → VK → Prop := fun xs H Q => ∃ p ys, xs = [.ref p] ∧ ((SqL K H p ys ∧ ∀ l, H l = none → Q (.ref l) (upd H l (.tup ys))) ∨ (SqT K H p ys ∧ Q (.ref p) H))
def rAbs : List V → Hp → VK → Prop := fun xs H Q => ∃ i, xs = [.int i] ∧ Q (.int (if i < 0 then -i else i)) H
def rInt1 : List V → Hp → VK → Prop := fun xs H Q => (∃ i, xs = [.int i] ∧ Q (.int i) H) ∨ ∃ k, xs = [.bl k] ∧ Q (.int (if k then 1 else 0)) H
def rIsNon : R2 := fun x y H Q => y = .non ∧ Q (.bl (decide (x = .non))) H
def rNotNon : R2 := fun x y H Q => y = .non ∧ Q (.bl (!decide (x = .non))) H
def rInsert : V → List V → Hp → VK → Prop := fun x vs H Q => ∃ (l : Addr) (xs : List V) (i : Int) (y : V), x = .ref l ∧ vs = [.int i, y] ∧ H l = some (.lst xs) ∧ xs.length < sizeLine ∧ 0 ≤ i ∧ i < 2 ^ 63 ∧
    Q .non (upd H l (.lst (xs.take i.toNat ++ [y] ++ xs.drop i.toNat)))
def rMin2 : List V → Hp → VK → Prop := fun xs H Q => ∃ i j, xs = [.int i, .int j] ∧ Q (.int (if j < i then j else i)) H
def rMx2 : List V → Hp → VK → Prop := fun xs H Q => ∃ i j, xs = [.int i, .int j] ∧ Q (.int (if j > i then j else i)) H
theorem k_len (h : X.K = K) : CallR X (.builtin "len") (rLen K) := h ▸ call_len_seq
theorem k_listOf (h : X.K = K) : CallR X (.type "list") (rListOf K) := h ▸ call_list_of
theorem k_tupOf (h : X.K = K) : CallR X (.type "tuple") (rTupOf K) := h ▸ call_tuple_of
theorem k_abs : CallR X (.builtin "abs") rAbs := call_abs
theorem k_int1 : CallR X (.type "int") rInt1 := call_int1
theorem k_isN : OpR X (compareOp .Is) rIsNon := op_isN
theorem k_notN : OpR X (compareOp .IsNot) rNotNon := op_notN
theorem k_insert : MtR X "list.insert" rInsert := mt_insert
theorem k_min2 (hc : X.calm = true) : CallR X (.builtin "min") rMin2 := call_min2 hc
theorem k_max2 (hc : X.calm = true) : CallR X (.builtin "max") rMx2 := call_max2 hc
section
variable {H : Hp} {Q : VK} {i j : Int} {x : V} {a : Addr} {xs : List V}
theorem r_len (h : Sq K H a xs) (q : Q (.int (xs.length : Int)) H) : rLen K [.ref a] H Q := ⟨a, xs, rfl, h, q⟩
theorem r_listOf (h : Sq K H a xs) (q : ∀ l, H l = none → Q (.ref l) (upd H l (.lst xs))) : rListOf K [.ref a] H Q := ⟨a, xs, rfl, h, q⟩
/-- tuple(x): some tuple of the items, x itself or a new one -/
theorem r_tupOf (h : Sq K H a xs) (q : ∀ l H', Ex H H' → SqT K H' l xs → Q (.ref l) H') : rTupOf K [.ref a] H Q :=
  h.elim (fun h => ⟨a, xs, rfl, .inl ⟨h, fun l nl => q l _ (Ex.new nl) (.inl (.inl upd_same))⟩⟩) fun h => ⟨a, xs, rfl, .inr ⟨h, q a H (Ex.refl H) h⟩⟩
theorem r_abs (q : Q (.int (if i < 0 then -i else i)) H) : rAbs [.int i] H Q := ⟨i, rfl, q⟩
theorem r_intP (q : Q (.int i) H) : rInt1 [.int i] H Q := .inl ⟨i, rfl, q⟩
theorem r_intB {b : Bool} (q : Q (.int (if b then 1 else 0)) H) : rInt1 [.bl b] H Q := .inr ⟨b, rfl, q⟩
theorem r_min2 (q : Q (.int (if j < i then j else i)) H) : rMin2 [.int i, .int j] H Q := ⟨i, j, rfl, q⟩
theorem r_max2 (q : Q (.int (if j > i then j else i)) H) : rMx2 [.int i, .int j] H Q := ⟨i, j, rfl, q⟩
theorem r_isN (q : Q (.bl (decide (x = .non))) H) : rIsNon x .non H Q := ⟨rfl, q⟩
theorem r_notN (q : Q (.bl (!decide (x = .non))) H) : rNotNon x .non H Q := ⟨rfl, q⟩
theorem r_isNi (q : Q (.bl false) H) : rIsNon (.int i) .non H Q := ⟨rfl, q⟩
theorem r_isNr (q : Q (.bl false) H) : rIsNon (.ref a) .non H Q := ⟨rfl, q⟩
theorem r_isNn (q : Q (.bl true) H) : rIsNon .non .non H Q := ⟨rfl, q⟩
theorem r_notNi (q : Q (.bl true) H) : rNotNon (.int i) .non H Q := ⟨rfl, q⟩
theorem r_notNr (q : Q (.bl true) H) : rNotNon (.ref a) .non H Q := ⟨rfl, q⟩
theorem r_notNn (q : Q (.bl false) H) : rNotNon .non .non H Q := ⟨rfl, q⟩
end
theorem k_all (h : X.K = K) (hc : X.calm = true) : CallR X (.builtin "all") (rAll K) := h ▸ cr_all hc
theorem k_any (h : X.K = K) (hc : X.calm = true) : CallR X (.builtin "any") (rAny K) := h ▸ cr_any hc
theorem k_sum (h : X.K = K) (hc : X.calm = true) : CallR X (.builtin "sum") (rSum K) := h ▸ cr_sum hc
theorem k_min (h : X.K = K) (hc : X.calm = true) : CallR X (.builtin "min") (rMin K) := h ▸ cr_min hc
theorem k_max (h : X.K = K) (hc : X.calm = true) : CallR X (.builtin "max") (rMax K) := h ▸ cr_max hc
theorem k_in (h : X.K = K) : OpR X (compareOp .In) (rIn K false) := h ▸ op_in_seq
theorem k_notIn (h : X.K = K) : OpR X (compareOp .NotIn) (rIn K true) := h ▸ op_notIn_seq
theorem k_eqD (h : X.K = K) (hu : X.A.units + 64 < cLine) : OpR X (compareOp .Eq) (rEqD K) := h ▸ op_eqD hu
theorem k_neD (h : X.K = K) (hu : X.A.units + 64 < cLine) : OpR X (compareOp .NotEq) (rNeD K) := h ▸ op_neD hu
theorem k_isi (h : X.K = K) : CallR X (.builtin "isinstance") (rIsi K) := h ▸ call_isi
theorem k_isiT (h : X.K = K) : CallR X (.builtin "isinstance") (rIsiT K) := h ▸ call_isiT
theorem k_slL (h : X.K = K) : SlR X (rSlL K) := h ▸ sl_list
theorem k_piL (h : X.K = K) (hl : PE X l tl) : PI X tg l (iList K tl) := h ▸ pi_list hl
theorem k_piT (h : X.K = K) (hl : PE X l tl) : PI X tg l (iTup K tl) := h ▸ pi_tup hl
theorem k_piS (h : X.K = K) (hl : PE X l tl) : PI X tg l (iSeq K tl) := h ▸ pi_seq hl
theorem k_piE {p pos tpos : Pos} {elts : List Expr} {kk : Nat} (h : X.K = K) (hg : Gl X "enumerate") (hm : X.mg "enumerate" = none) (ha : PA X [e] ar) (hs : starEach [e] X.env = [(false, eval e X.env)] := by rfl) :
    PI X (.Tuple elts kk tpos) (.Call (.Name "enumerate" p) [e] [] pos) (iEnumS K ar) := h ▸ pi_enumS hg hm ha hs
theorem k_piZ {e2 : Expr} {p pos tpos : Pos} {elts : List Expr} {kk : Nat} (h : X.K = K) (hg : Gl X "zip") (hm : X.mg "zip" = none) (ha : PA X [e, e2] ar)
    (hs : starEach [e, e2] X.env = (false, eval e X.env) :: starEach [e2] X.env := by rfl) (hpl : (backTo pos (starEach [e2] X.env)).any (·.1) = false := by rfl) :
    PI X (.Tuple elts kk tpos) (.Call (.Name "zip" p) [e, e2] [] pos) (iZip K ar) := h ▸ pi_zip hg hm ha hs hpl
theorem k_fld {f : Str} {pos : Pos} (h : X.K = K) (he : PE X e te) (hb : attributeBase e f X.env (eval e X.env) = eval e X.env := by rfl) : PE X (.Attribute e f pos) (tFld K te f) := h ▸ pe_fld he hb
theorem k_sfld {o : Expr} {ta : TE} {f : Str} {pos pos' : Pos} (h : X.K = K) (ha : PE X o ta) (hv : PE X e te) (hs : swapsWith e (some (.Attribute o f pos')) pos.line X.env = pure false := by rfl) : PS X (.Assign [.Attribute o f pos'] e pos) (sFld K ta te f) := h ▸ ps_fld ha hv hs
theorem k_revL {k : Nat} {p1 p2 p3 pos : Pos} (h : X.K = K) (he : PE X e te) : PE X (.Subscript e (.Slice none none (some (.UnaryOp .USub (.Constant (.int 1) k p1) p2)) p3) pos) (tRevL K te) := h ▸ pe_revL he
theorem k_revT {k : Nat} {p1 p2 p3 pos : Pos} (h : X.K = K) (he : PE X e te) : PE X (.Subscript e (.Slice none none (some (.UnaryOp .USub (.Constant (.int 1) k p1) p2)) p3) pos) (tRevT K te) := h ▸ pe_revT he
theorem k_gtup {es : List Expr} {k : Nat} {t : TGs} {n : Nat} {pos : Pos} (h : X.K = K) (hc : X.calm = true) (hh : PGs X es t)
    (hn : (assignEach es X.env).length = n := by rfl) (hst : (assignEach es X.env).findIdx? (·.1) = none := by rfl) : PG X (.Tuple es k pos) (gTup K n t) := h ▸ pg_tup hc hh hn hst
theorem pe_bty {x : Str} {n : String} {pos : Pos} (hg : Gl X x) (hm : X.mg x = none) (hv : bootBuiltins x = some (.type n)) (hn : x ≠ "__name__" := by decide) (hd : (x == ("__debug__" : Str)) = false := by decide) : PE X (.Name x pos) (tC (.ty n)) := pe_bltn hg hm hv rfl hn hd
end
end Hn

/-! Clocks as objects. -/
namespace Hn
open PySem PySem.Spec PyProof.Rows L2 Evl
theorem at_cyc {ns : List Int} (h : 1 ≤ ns.length) (j : Int) : atI (ns.map V.int) (j % (ns.length : Int)) = some (.int (cyc ns j)) := by
  have hb := mod_bd h j
  rw [at_int hb.1 hb.2]
  rfl
/-- the fields of a clock -/
def clkF (a b : Addr) : List (Str × V) := putF "kept_widths" (.ref b) (putF "kept_stays" (.ref a) [])
theorem clkF_stays (a b : Addr) : (clkF a b).lookup ("kept_stays" : Str) = some (.ref a) := by
  unfold clkF
  rw [lookup_putF, if_neg (by decide +kernel), lookup_putF, if_pos rfl]
theorem clkF_widths (a b : Addr) : (clkF a b).lookup ("kept_widths" : Str) = some (.ref b) := by
  unfold clkF
  rw [lookup_putF, if_pos rfl]
theorem clkF_no (a b : Addr) {m : Str} (h1 : ¬ m = "kept_widths") (h2 : ¬ m = "kept_stays") : (clkF a b).lookup m = none := by
  unfold clkF
  rw [lookup_putF, if_neg h1, lookup_putF, if_neg h2]
  rfl
/-- a Clock of the stays s -/
def Clk (K : PySem.W.Frag) (C : Addr) (H : Hp) (v : V) (s : List Int) : Prop :=
  ∃ p dx a b, v = .ref p ∧ H p = some (.ins C dx (clkF a b)) ∧ SqT K H a (s.map V.int) ∧ SqT K H b ((wds s).map V.int) ∧ Good s
theorem Clk.mono {K : PySem.W.Frag} {C : Addr} {H H' : Hp} {v : V} {s : List Int} (e : Xl H H') (h : Clk K C H v s) : Clk K C H' v s :=
  let ⟨p, dx, a, b, h1, h2, h3, h4, h5⟩ := h
  ⟨p, dx, a, b, h1, e _ _ h2 rfl, tup_mono e h3, tup_mono e h4, h5⟩
theorem Clk.ex {K : PySem.W.Frag} {C : Addr} {H H' : Hp} {v : V} {s : List Int} (e : Ex H H') (h : Clk K C H v s) : Clk K C H' v s := h.mono (.of e)
theorem Clk.good {K : PySem.W.Frag} {C : Addr} {H : Hp} {v : V} {s : List Int} (h : Clk K C H v s) : Good s := let ⟨_, _, _, _, _, _, _, _, h5⟩ := h; h5
/-- what the making of a Clock asks: items that are good stays, and gives: the Clock -/
def MkClk (K : PySem.W.Frag) (C : Addr) (H : Hp) (v : V) (Q : Addr → Hp → Prop) : Prop := ∃ a s, v = .ref a ∧ Sq K H a (s.map V.int) ∧ Good s ∧ ∀ u H', Ex H H' → Clk K C H' (.ref u) s → Q u H'
/-- its __init__'s promise -/
def spClkInit (K : PySem.W.Frag) (C : Addr) : Sp := fun vs H Q _ => ∃ (H0 : Hp) (x dx a : Addr) (s : List Int), vs = [.ref x, .ref a] ∧ H = upd (upd H0 dx (.own x)) x (.ins C dx []) ∧ H0 x = none ∧ H0 dx = none ∧ dx ≠ x ∧ Sq K H0 a (s.map V.int) ∧ Good s ∧
  ∀ H', Ex H0 H' → Clk K C H' (.ref x) s → Q .non H'
theorem mkClk {K : PySem.W.Frag} {C : Addr} {H : Hp} {v : V} {Q : Addr → Hp → Prop} {E : XK} (h : MkClk K C H v Q) : ∀ x dx, H x = none → H dx = none → dx ≠ x → spClkInit K C (.ref x :: ([v] ++ [])) (upd (upd H dx (.own x)) x (.ins C dx [])) (fun v H2 => v = .non ∧ Q x H2) E := by
  intro x dx nx ndx ne
  obtain ⟨a, s, rfl, hS, g, k⟩ := h
  exact ⟨H, x, dx, a, s, rfl, rfl, nx, ndx, ne, hS, g, fun H' e c => ⟨rfl, k _ _ e c⟩⟩
/-- a method of a Clock is asked -/
theorem r_clkM {K : PySem.W.Frag} {C : Addr} {H : Hp} {v : V} {s : List Int} {m : Str} {p : Prop} (h : Clk K C H v s) (q : p) (h1 : ¬ m = "kept_widths" := by decide +kernel) (h2 : ¬ m = "kept_stays" := by decide +kernel) : ∃ a dx fs, v = .ref a ∧ H a = some (.ins C dx fs) ∧ fs.lookup m = none ∧ p :=
  let ⟨x, dx, a, b, e, hp, _⟩ := h
  ⟨x, dx, _, e, hp, clkF_no a b h1 h2, q⟩
theorem r_clkP {K : PySem.W.Frag} {C : Addr} {H : Hp} {v : V} {s : List Int} {p : Addr → Prop} (h : Clk K C H v s) (q : ∀ a, v = .ref a → p a) : ∃ a dx fs, v = .ref a ∧ H a = some (.ins C dx fs) ∧ p a :=
  let ⟨x, dx, _, _, e, hp, _⟩ := h
  ⟨x, dx, _, e, hp, q x e⟩
theorem r_clkG {K : PySem.W.Frag} {C : Addr} {H : Hp} {v : V} {s : List Int} {p : Prop} (h : Clk K C H v s) (q : p) : ∃ a dx fs, v = .ref a ∧ H a = some (.ins C dx fs) ∧ p :=
  let ⟨x, dx, _, _, e, hp, _⟩ := h
  ⟨x, dx, _, e, hp, q⟩
end Hn

/-! Clocks turned, mirrored; sums round about. -/
namespace Hn
/-- n items by their place -/
def rowOf (n : Nat) (f : Int → Int) : List Int := (List.range n).map fun (i : Nat) => f (i : Int)
theorem rowOf_length (n : Nat) (f : Int → Int) : (rowOf n f).length = n := by
  unfold rowOf
  rw [List.length_map, List.length_range]
theorem rowOf_getD {n : Nat} (f : Int → Int) {j : Nat} (h : j < n) : (rowOf n f).getD j 0 = f (j : Int) := by
  unfold rowOf
  rw [List.getD_eq_getElem?_getD, List.getElem?_map, List.getElem?_range h]
  rfl
theorem cyc_rowOf {n : Nat} (f : Int → Int) (h : 1 ≤ n) (i : Int) : cyc (rowOf n f) i = f (i % (n : Int)) := by
  have hb := mod_bd h i
  unfold cyc
  rw [rowOf_length, rowOf_getD f (by omega), show ((i % (n : Int)).toNat : Int) = i % (n : Int) by omega]
theorem rowOf_congr {n : Nat} {f g : Int → Int} (h : ∀ i : Int, 0 ≤ i → i < (n : Int) → f i = g i) : rowOf n f = rowOf n g := by
  unfold rowOf
  refine List.map_congr_left fun i hi => h _ (by omega) ?_
  have := List.mem_range.mp hi
  omega
theorem row_ext {s : List Int} {n : Nat} (f : Int → Int) (hl : s.length = n) (h : ∀ j : Nat, j < n → s.getD j 0 = f (j : Int)) : s = rowOf n f := by
  refine List.ext_getElem? fun i => ?_
  rcases Nat.lt_or_ge i n with q | q
  · have := h i q
    rw [List.getD_eq_getElem?_getD, List.getElem?_eq_getElem (by omega)] at this
    rw [List.getElem?_eq_getElem (by omega)]
    unfold rowOf
    rw [List.getElem?_map, List.getElem?_range q]
    exact congrArg some this
  · rw [List.getElem?_eq_none (by omega), List.getElem?_eq_none (by rw [rowOf_length]; omega)]
/-- a row is told by its items round about -/
theorem row_cyc (s : List Int) : s = rowOf s.length (cyc s) := row_ext _ rfl fun _ hj => (cyc_at hj).symm
theorem eq_of_cyc {s t : List Int} (hl : s.length = t.length) (h : ∀ i : Int, 0 ≤ i → i < (s.length : Int) → cyc s i = cyc t i) : s = t := by
  rw [row_cyc s, row_cyc t, ← hl]
  exact rowOf_congr h
theorem wds_row (s : List Int) : wds s = rowOf s.length (wd s) := rfl
/-! ### turned -/
def turnS (s : List Int) (b : Int) : List Int := rowOf s.length fun i => cyc s (i + b)
theorem turnS_length (s : List Int) (b : Int) : (turnS s b).length = s.length := rowOf_length _ _
theorem cyc_turn {s : List Int} (h : 1 ≤ s.length) (b i : Int) : cyc (turnS s b) i = cyc s (i + b) := by
  unfold turnS
  rw [cyc_rowOf _ h]
  exact cyc_congr (by rw [Int.emod_add_emod])
theorem Good.turn {s : List Int} (g : Good s) (b : Int) : Good (turnS s b) := by
  have hl := turnS_length s b
  refine ⟨by rw [hl]; exact g.ne, by rw [hl]; exact g.le, fun i => ?_, fun i => ?_, fun i => ?_⟩
  · rw [cyc_turn g.ne]
    exact g.lo _
  · rw [cyc_turn g.ne, hl]
    exact g.hi _
  · rw [cyc_turn g.ne, cyc_turn g.ne, show i + 1 + b = (i + b) + 1 by omega]
    exact g.od _
theorem wd_turn {s : List Int} (h : 1 ≤ s.length) (b i : Int) : wd (turnS s b) i = wd s (i + b) := by
  unfold wd
  rw [turnS_length]
  congr 2
  refine List.filter_congr fun c _ => ?_
  rw [cyc_turn h, show i - (c : Int) + b = i + b - c by omega]
/-! ### mirrored -/
theorem cyc_rev {s : List Int} (h : 1 ≤ s.length) (i : Int) : cyc s.reverse i = cyc s (-1 - i) := by
  have h1 := mod_bd h i
  have h2 := mod_bd h (-1 - i)
  have e : (-1 - i) % (s.length : Int) = (s.length : Int) - 1 - i % (s.length : Int) := by
    have e1 : (-1 - i) % (s.length : Int) = ((s.length : Int) - 1 - i % (s.length : Int)) % (s.length : Int) := by
      rw [show (s.length : Int) - 1 - i % (s.length : Int) = (-1 - i % (s.length : Int)) + (s.length : Int) by omega, Int.add_emod_right, Int.sub_emod_emod]
    rw [e1, Int.emod_eq_of_lt (by omega) (by omega)]
  unfold cyc
  rw [List.length_reverse, e, List.getD_eq_getElem?_getD, List.getD_eq_getElem?_getD, List.getElem?_reverse (by omega)]
  congr 2
  omega
def mirS (s : List Int) : List Int := (wds s).reverse
theorem mirS_length (s : List Int) : (mirS s).length = s.length := by
  unfold mirS
  rw [List.length_reverse, wds_length]
theorem cyc_mir {s : List Int} (h : 1 ≤ s.length) (i : Int) : cyc (mirS s) i = wd s (-1 - i) := by
  unfold mirS
  rw [cyc_rev (by rw [wds_length]; exact h), cyc_wds h]
theorem Good.mir {s : List Int} (g : Good s) : Good (mirS s) := by
  have hl := mirS_length s
  refine ⟨by rw [hl]; exact g.ne, by rw [hl]; exact g.le, fun i => ?_, fun i => ?_, fun i => ?_⟩
  · rw [cyc_mir g.ne]
    exact wd_pos g _
  · rw [cyc_mir g.ne, hl]
    exact wd_le _
  · rw [cyc_mir g.ne, cyc_mir g.ne, show (-1 - i : Int) = (-1 - (i + 1)) + 1 by omega]
    exact wd_step g _
theorem wd_mir {s : List Int} (g : Good s) (h : Int) : wd (mirS s) h = cyc s (-1 - h) := by
  have gm := g.mir
  have hl := mirS_length s
  have key : ∀ b : Nat, b < s.length → ((b : Int) < wd (mirS s) h ↔ (b : Int) < cyc s (-1 - h)) := fun b hb => by
    rw [wd_iff gm h (by rw [hl]; exact hb), cyc_mir g.ne, show (-1 - (h - (b : Int))) = (-1 - h) + b by omega, wd_iff g _ hb, show (-1 - h) + (b : Int) - b = -1 - h by omega]
  have a1 := wd_nn (s := mirS s) h
  have a2 := wd_le (s := mirS s) h
  have a3 := g.lo (-1 - h)
  have a4 := g.hi (-1 - h)
  rw [hl] at a2
  rcases Int.lt_trichotomy (wd (mirS s) h) (cyc s (-1 - h)) with q | q | q
  · have := (key (wd (mirS s) h).toNat (by omega)).mpr (by omega)
    omega
  · exact q
  · have := (key (cyc s (-1 - h)).toNat (by omega)).mp (by omega)
    omega
theorem mir_mir {s : List Int} (g : Good s) : mirS (mirS s) = s := by
  refine eq_of_cyc (by rw [mirS_length, mirS_length]) fun i _ _ => ?_
  rw [cyc_mir (by rw [mirS_length]; exact g.ne), wd_mir g, show (-1 - (-1 - i)) = i by omega]
/-! ### sums -/
def Sg : Nat → (Int → Int) → Int
  | 0, _ => 0
  | n + 1, f => Sg n f + f (n : Int)
theorem Sg_congr {n : Nat} {f g : Int → Int} (h : ∀ i : Int, 0 ≤ i → i < (n : Int) → f i = g i) : Sg n f = Sg n g := by
  induction n with
  | zero => rfl
  | succ n ih =>
    show Sg n f + f n = Sg n g + g n
    rw [ih fun i h0 h1 => h i h0 (by omega), h n (by omega) (by omega)]
theorem Sg_add {n : Nat} {f g : Int → Int} : Sg n (fun i => f i + g i) = Sg n f + Sg n g := by
  induction n with
  | zero => rfl
  | succ n ih =>
    show Sg n _ + (f n + g n) = (Sg n f + f n) + (Sg n g + g n)
    rw [ih]
    omega
theorem Sg_zero {n : Nat} : Sg n (fun _ => 0) = 0 := by
  induction n with
  | zero => rfl
  | succ n ih => show Sg n _ + 0 = 0; rw [ih]; rfl
theorem Sg_mul {n : Nat} (c : Int) (f : Int → Int) : Sg n (fun i => c * f i) = c * Sg n f := by
  induction n with
  | zero => exact (Int.mul_zero c).symm
  | succ n ih =>
    show Sg n _ + c * f n = c * (Sg n f + f n)
    rw [ih, Int.mul_add]
theorem Sg_swap {n m : Nat} (f : Int → Int → Int) : Sg n (fun i => Sg m (fun j => f i j)) = Sg m (fun j => Sg n (fun i => f i j)) := by
  induction n with
  | zero => exact Sg_zero.symm
  | succ n ih =>
    show Sg n _ + Sg m (fun j => f n j) = Sg m (fun j => Sg n (fun i => f i j) + f n j)
    rw [ih, Sg_add]
theorem Sg_first {n : Nat} (f : Int → Int) : Sg (n + 1) f = f 0 + Sg n (fun i => f (i + 1)) := by
  induction n with
  | zero => show 0 + f ((0 : Nat) : Int) = f 0 + 0; rw [Int.zero_add, Int.add_zero]; rfl
  | succ n ih =>
    show Sg (n + 1) f + f ((n + 1 : Nat) : Int) = f 0 + (Sg n _ + f ((n : Int) + 1))
    rw [ih, show ((n + 1 : Nat) : Int) = (n : Int) + 1 by omega]
    omega
/-- round about a sum may begin anywhere -/
theorem Sg_turn1 {n : Nat} {f : Int → Int} (p : ∀ i, f (i + (n : Int)) = f i) : Sg n (fun i => f (i + 1)) = Sg n f := by
  cases n with
  | zero => rfl
  | succ n =>
    rw [Sg_first (n := n) f]
    show Sg n (fun i => f (i + 1)) + f ((n : Int) + 1) = _
    have := p 0
    rw [show (0 : Int) + ((n + 1 : Nat) : Int) = (n : Int) + 1 by omega] at this
    rw [this]
    omega
theorem Sg_turnN {n : Nat} {f : Int → Int} (p : ∀ i, f (i + (n : Int)) = f i) : ∀ k : Nat, Sg n (fun i => f (i + (k : Int))) = Sg n f
  | 0 => Sg_congr fun i _ _ => by rw [show i + ((0 : Nat) : Int) = i by omega]
  | k + 1 => by
    rw [← Sg_turnN p k, ← Sg_turn1 (f := fun i => f (i + (k : Int))) (fun i => by rw [show i + (n : Int) + k = (i + k) + n by omega]; exact p _)]
    exact Sg_congr fun i _ _ => by rw [show i + ((k + 1 : Nat) : Int) = i + 1 + k by omega]
theorem Sg_turn {n : Nat} {f : Int → Int} (p : ∀ i, f (i + (n : Int)) = f i) (b : Int) : Sg n (fun i => f (i + b)) = Sg n f := by
  rcases Int.lt_or_le b 0 with h | h
  · have e := Sg_turnN (f := fun i => f (i + b)) (fun i => by rw [show i + (n : Int) + b = (i + b) + n by omega]; exact p _) (-b).toNat
    rw [← e]
    exact Sg_congr fun i _ _ => by rw [show i + ((-b).toNat : Int) + b = i by omega]
  · have e := Sg_turnN p b.toNat
    rw [← e]
    exact Sg_congr fun i _ _ => by rw [show i + (b.toNat : Int) = i + b by omega]
/-- .. and go the other way -/
theorem Sg_rev {n : Nat} (f : Int → Int) : Sg n (fun i => f ((n : Int) - 1 - i)) = Sg n f := by
  induction n with
  | zero => rfl
  | succ n ih =>
    rw [Sg_first]
    show f (((n + 1 : Nat) : Int) - 1 - 0) + _ = Sg n f + f n
    rw [← ih, show ((n + 1 : Nat) : Int) - 1 - 0 = n by omega, Int.add_comm]
    congr 1
    exact Sg_congr fun i _ _ => by rw [show ((n + 1 : Nat) : Int) - 1 - (i + 1) = (n : Int) - 1 - i by omega]
theorem sum_row (n : Nat) (f : Int → Int) : (rowOf n f).sum = Sg n f := by
  induction n with
  | zero => rfl
  | succ n ih =>
    show _ = Sg n f + f n
    rw [← ih]
    unfold rowOf
    rw [List.range_succ, List.map_append, List.sum_append]
    show _ + (f n + 0) = _
    rw [Int.add_zero]
theorem sum_cyc (s : List Int) : s.sum = Sg s.length (cyc s) := by
  have := sum_row s.length (cyc s)
  rw [← row_cyc s] at this
  exact this
theorem cyc_per (s : List Int) (i : Int) : cyc s (i + (s.length : Int)) = cyc s i := cyc_congr (by rw [Int.add_emod_right])
theorem wd_per (s : List Int) (i : Int) : wd s (i + (s.length : Int)) = wd s i := by
  rw [← wd_mod, Int.add_emod_right, wd_mod]
/-- how many pass, as a sum -/
theorem count_sum (p : Nat → Bool) (n : Nat) : (((List.range n).filter p).length : Int) = Sg n (fun i => if p i.toNat = true then 1 else 0) := by
  induction n with
  | zero => rfl
  | succ n ih =>
    show _ = Sg n _ + (if p ((n : Int)).toNat = true then 1 else 0)
    rw [← ih, List.range_succ, List.filter_append, List.length_append, Int.toNat_natCast, List.filter_cons]
    by_cases h : p n = true
    · rw [if_pos h, if_pos h]
      show ((_ + 1 : Nat) : Int) = _
      omega
    · rw [if_neg h, if_neg h]
      show ((_ + 0 : Nat) : Int) = _
      omega
theorem wd_sum (s : List Int) (h : Int) : wd s h = Sg s.length (fun b => if b < cyc s (h - b) then 1 else 0) := by
  unfold wd
  rw [count_sum]
  refine Sg_congr fun i h0 _ => ?_
  rw [show ((i.toNat : Nat) : Int) = i by omega]
  by_cases q : i < cyc s (h - i)
  · rw [if_pos (decide_eq_true q), if_pos q]
  · rw [if_neg (by rw [decide_eq_false q]; decide), if_neg q]
theorem cnt_below {n : Nat} {c : Int} : ∀ (_ : 0 ≤ c) (_ : c ≤ (n : Int)), Sg n (fun b => if b < c then 1 else 0) = c := by
  induction n generalizing c with
  | zero => intro h0 h1; show (0 : Int) = c; omega
  | succ n ih =>
    intro h0 h1
    show Sg n _ + (if (n : Int) < c then 1 else 0) = c
    by_cases q : (n : Int) < c
    · rw [if_pos q]
      have e : Sg n (fun b => if b < c then 1 else 0) = Sg n (fun b => if b < (n : Int) then 1 else 0) := Sg_congr fun i _ h => by rw [if_pos (by omega), if_pos h]
      rw [e, ih (c := (n : Int)) (by omega) (by omega)]
      omega
    · rw [if_neg q, ih h0 (by omega)]
      omega
/-- stays and widths have one sum -/
theorem wds_sum {s : List Int} (g : Good s) : (wds s).sum = s.sum := by
  rw [wds_row, sum_row, sum_cyc]
  have e1 : Sg s.length (wd s) = Sg s.length (fun h => Sg s.length (fun b => if b < cyc s (h - b) then 1 else 0)) := Sg_congr fun i _ _ => wd_sum s i
  rw [e1, Sg_swap]
  have e2 : Sg s.length (fun j => Sg s.length (fun i => if j < cyc s (i - j) then 1 else 0)) = Sg s.length (fun j => Sg s.length (fun i => if j < cyc s i then 1 else 0)) := Sg_congr fun j _ _ => by
    rw [← Sg_turn (f := fun i => if j < cyc s i then 1 else 0) (fun i => by rw [cyc_per]) (-j)]
    exact Sg_congr fun i _ _ => by rw [show i - j = i + -j by omega]
  rw [e2, Sg_swap]
  exact Sg_congr fun i _ _ => cnt_below (by have := g.lo i; omega) (g.hi i)
/-! ### rows of least sums are stays in order -/
/-- the least of the drawn ones ahead, each with the way to it -/
theorem Good.least {m : List Int} {n : Nat} {dr : List Int} {top : Int} (hn : 1 ≤ n) (hn2 : n ≤ 48) (hl : m.length = n) (hd : dr.length = n) (ht : top ≤ (n : Int)) (h1 : ∀ i, 1 ≤ cyc dr i ∧ cyc dr i ≤ top)
    (hm : ∀ j : Nat, j < n → (∃ a : Nat, a < n ∧ m.getD j 0 = cyc dr ((j : Int) + a) + a) ∧ ∀ a : Nat, a < n → m.getD j 0 ≤ cyc dr ((j : Int) + a) + a) : Good m := by
  have hc : ∀ i : Int, (∃ a : Nat, a < n ∧ cyc m i = cyc dr (i + a) + a) ∧ ∀ a : Nat, a < n → cyc m i ≤ cyc dr (i + a) + a := fun i => by
    have hb := mod_bd hn i
    have e : cyc m i = m.getD (i % (n : Int)).toNat 0 := by
      unfold cyc
      rw [hl]
    have er : ∀ a : Nat, cyc dr (((i % (n : Int)).toNat : Int) + a) = cyc dr (i + a) := fun a => cyc_congr (by
      rw [show ((i % (n : Int)).toNat : Int) = i % (n : Int) by omega, hd, Int.emod_add_emod])
    obtain ⟨⟨a, ha, e1⟩, e2⟩ := hm (i % (n : Int)).toNat (by omega)
    refine ⟨⟨a, ha, by rw [e, e1, er]⟩, fun a ha => ?_⟩
    have := e2 a ha
    rw [er] at this
    rw [e]
    exact this
  refine ⟨by omega, by omega, fun i => ?_, fun i => ?_, fun i => ?_⟩
  · obtain ⟨⟨a, ha, e⟩, _⟩ := hc i
    have := (h1 (i + a)).1
    omega
  · have e := (hc i).2 0 (by omega)
    have := (h1 (i + ((0 : Nat) : Int))).2
    omega
  · obtain ⟨⟨a, ha, e⟩, _⟩ := hc (i + 1)
    rcases Nat.lt_or_ge (a + 1) n with q | q
    · have := (hc i).2 (a + 1) q
      rw [show i + ((a + 1 : Nat) : Int) = i + 1 + a by omega] at this
      omega
    · have e0 := (hc i).2 0 (by omega)
      have e2 : cyc dr (i + 1 + (a : Int)) = cyc dr (i + ((0 : Nat) : Int)) := by
        rw [show i + 1 + (a : Int) = (i + ((0 : Nat) : Int)) + (dr.length : Int) by omega]
        exact cyc_per dr _
      omega
theorem Good.const {n : Nat} {c : Int} (hn : 1 ≤ n) (hn2 : n ≤ 48) (h0 : 1 ≤ c) (h1 : c ≤ (n : Int)) : Good (List.replicate n c) := by
  have e : ∀ i, cyc (List.replicate n c) i = c := fun i => by
    have hb := mod_bd hn i
    unfold cyc
    rw [List.length_replicate, List.getD_eq_getElem?_getD, List.getElem?_replicate, if_pos (by omega)]
    rfl
  refine ⟨by rw [List.length_replicate]; exact hn, by rw [List.length_replicate]; exact hn2, fun i => by rw [e]; exact h0, fun i => by rw [e, List.length_replicate]; exact h1, fun i => by rw [e, e]; omega⟩
/-! ### served and serving -/
/-- the hours that one serves who begins at h -/
def servedOf (s : List Int) (h : Int) : List Int := (List.range (cyc s h).toNat).map fun (k : Nat) => (h + (k : Int)) % (s.length : Int)
/-- the hours of the window of h -/
def servingOf (s : List Int) (h : Int) : List Int := (List.range (wd s h).toNat).map fun (k : Nat) => (h - wd s h + 1 + (k : Int)) % (s.length : Int)
theorem serv_rev (s : List Int) (h : Int) : servingOf s h = ((List.range (wd s h).toNat).map fun (k : Nat) => (h - (k : Int)) % (s.length : Int)).reverse := by
  unfold servingOf
  have h0 := wd_nn (s := s) h
  refine List.ext_getElem? fun i => ?_
  rcases Nat.lt_or_ge i (wd s h).toNat with q | q
  · rw [List.getElem?_reverse (by rw [List.length_map, List.length_range]; exact q), List.getElem?_map, List.getElem?_map, List.length_map, List.length_range, List.getElem?_range q, List.getElem?_range (by omega)]
    show some ((h - wd s h + 1 + (i : Int)) % (s.length : Int)) = some ((h - (((wd s h).toNat - 1 - i : Nat) : Int)) % (s.length : Int))
    rw [show h - wd s h + 1 + (i : Int) = h - (((wd s h).toNat - 1 - i : Nat) : Int) by omega]
  · rw [List.getElem?_eq_none (by rw [List.length_map, List.length_range]; exact q), List.getElem?_eq_none (by rw [List.length_reverse, List.length_map, List.length_range]; exact q)]
theorem mem_served {s : List Int} (g : Good s) {h b : Int} (h0 : 0 ≤ h) (h1 : h < (s.length : Int)) : h ∈ servedOf s b ↔ (h - b) % (s.length : Int) < cyc s b := by
  unfold servedOf
  rw [List.mem_map]
  have hm := mod_bd g.ne (h - b)
  have hl := g.lo b
  have hh := g.hi b
  constructor
  · rintro ⟨k, hk, e⟩
    rw [List.mem_range] at hk
    rw [← e, Int.emod_sub_emod, show b + (k : Int) - b = k by omega, Int.emod_eq_of_lt (by omega) (by omega)]
    omega
  · intro q
    refine ⟨((h - b) % (s.length : Int)).toNat, List.mem_range.mpr (by omega), ?_⟩
    rw [show ((((h - b) % (s.length : Int)).toNat : Nat) : Int) = (h - b) % (s.length : Int) by omega, Int.add_emod_emod, show b + (h - b) = h by omega, Int.emod_eq_of_lt h0 h1]
theorem mem_serving {s : List Int} (g : Good s) {h b : Int} (h0 : 0 ≤ b) (h1 : b < (s.length : Int)) : b ∈ servingOf s h ↔ (h - b) % (s.length : Int) < wd s h := by
  rw [serv_rev, List.mem_reverse, List.mem_map]
  have hm := mod_bd g.ne (h - b)
  have hl := wd_nn (s := s) h
  have hh := wd_le (s := s) h
  constructor
  · rintro ⟨k, hk, e⟩
    rw [List.mem_range] at hk
    rw [← e, Int.sub_emod_emod, show h - (h - (k : Int)) = k by omega, Int.emod_eq_of_lt (by omega) (by omega)]
    omega
  · intro q
    refine ⟨((h - b) % (s.length : Int)).toNat, List.mem_range.mpr (by omega), ?_⟩
    rw [show ((((h - b) % (s.length : Int)).toNat : Nat) : Int) = (h - b) % (s.length : Int) by omega, Int.sub_emod_emod, show h - (h - b) = b by omega, Int.emod_eq_of_lt h0 h1]
/-- an hour is served by a begin just if the begin is in its window -/
theorem served_iff {s : List Int} (g : Good s) {h b : Int} (h0 : 0 ≤ h) (h1 : h < (s.length : Int)) (b0 : 0 ≤ b) (b1 : b < (s.length : Int)) : h ∈ servedOf s b ↔ b ∈ servingOf s h := by
  rw [mem_served g h0 h1, mem_serving g b0 b1]
  have hm := mod_bd g.ne (h - b)
  have := wd_iff g h (b := ((h - b) % (s.length : Int)).toNat) (by omega)
  rw [show ((((h - b) % (s.length : Int)).toNat : Nat) : Int) = (h - b) % (s.length : Int) by omega] at this
  rw [this, cyc_congr (i := h - (h - b) % (s.length : Int)) (j := b) (by rw [Int.sub_emod_emod, show h - (h - b) = b by omega])]
theorem mod_flip {n : Nat} (h : 1 ≤ n) (x : Int) : (n : Int) - 1 - x % (n : Int) = ((n : Int) - 1 - x) % (n : Int) := by
  have hb := mod_bd h x
  have e : ((n : Int) - 1 - x) % (n : Int) = ((n : Int) - 1 - x % (n : Int)) % (n : Int) := (Int.sub_emod_emod ..).symm
  exact (e.trans (Int.emod_eq_of_lt (by omega) (by omega))).symm
theorem mir_served {s : List Int} (g : Good s) (h : Int) : servedOf (mirS s) ((s.length : Int) - 1 - h) = ((servingOf s h).map fun x => (s.length : Int) - 1 - x).reverse := by
  have e : cyc (mirS s) ((s.length : Int) - 1 - h) = wd s h := by
    rw [cyc_mir g.ne, show (-1 - ((s.length : Int) - 1 - h)) = h - (s.length : Int) by omega]
    have := wd_per s (h - (s.length : Int))
    rw [show h - (s.length : Int) + (s.length : Int) = h by omega] at this
    exact this.symm
  rw [serv_rev, List.map_reverse, List.reverse_reverse, List.map_map]
  unfold servedOf
  rw [e, mirS_length]
  refine List.map_congr_left fun k _ => ?_
  show _ = (s.length : Int) - 1 - (h - (k : Int)) % (s.length : Int)
  rw [mod_flip g.ne, show (s.length : Int) - 1 - (h - (k : Int)) = (s.length : Int) - 1 - h + k by omega]
theorem mir_serving {s : List Int} (g : Good s) (h : Int) : servingOf (mirS s) ((s.length : Int) - 1 - h) = ((servedOf s h).map fun x => (s.length : Int) - 1 - x).reverse := by
  have e : wd (mirS s) ((s.length : Int) - 1 - h) = cyc s h := by
    rw [wd_mir g, show (-1 - ((s.length : Int) - 1 - h)) = h - (s.length : Int) by omega]
    have := cyc_per s (h - (s.length : Int))
    rw [show h - (s.length : Int) + (s.length : Int) = h by omega] at this
    exact this.symm
  rw [serv_rev, e, mirS_length]
  unfold servedOf
  rw [List.map_map]
  congr 1
  refine List.map_congr_left fun k _ => ?_
  show _ = (s.length : Int) - 1 - (h + (k : Int)) % (s.length : Int)
  rw [mod_flip g.ne, show (s.length : Int) - 1 - (h + (k : Int)) = (s.length : Int) - 1 - h - k by omega]
end Hn

/-! Data told by a Lean value; a text a number of times. -/
namespace Hn
open PySem PySem.Spec PyProof.Rows L2 Evl
section
variable {α β : Type} [DecidableEq α] [PySem.W.Datum α] [DecidableEq β] [PySem.W.Datum β] {K : PySem.W.Frag} {H H' : Hp} {Q : VK} {x y : V} {a b : Addr} {vs : List V} {ns : List Int}
/-- the heap holds u at the value x -/
def Hd (K : PySem.W.Frag) (H : Hp) (x : V) (u : α) : Prop := Dp K H x (PySem.W.Datum.toD u)
def HdAll (K : PySem.W.Frag) (H : Hp) (vs : List V) (us : List α) : Prop := DpAll K H vs (us.map PySem.W.Datum.toD)
/-- data of this kind can be laid -/
def LayT (α : Type) [DecidableEq α] [PySem.W.Datum α] : Prop := ∀ u : α, PyData.canLay0 (PySem.W.Datum.toD u) = true
theorem lay_int : LayT Int := fun _ => rfl
theorem lay_bool : LayT Bool := fun _ => rfl
theorem lay_unit : LayT Unit := fun _ => rfl
theorem lay_all (h : LayT α) : ∀ us : List α, PyData.canLayAll0 (us.map PySem.W.Datum.toD) = true
  | [] => rfl
  | u :: us => by
    rw [List.map_cons, PyData.canLayAll0, h u, lay_all h us]
    rfl
theorem lay_list (h : LayT α) : LayT (List α) := fun us => by
  show PyData.canLay0 (.list _) = true
  rw [PyData.canLay0]
  exact lay_all h us
theorem lay_tup (h : LayT α) : LayT (PySem.W.Tup α) := fun us => by
  show PyData.canLay0 (.tuple _) = true
  rw [PyData.canLay0]
  exact lay_all h us.items
theorem lay_pair (h : LayT α) (h2 : LayT β) : LayT (α × β) := fun u => by
  show PyData.canLay0 (.tuple _) = true
  rw [PyData.canLay0, PyData.canLayAll0, PyData.canLayAll0, PyData.canLayAll0, h u.1, h2 u.2]
  rfl
theorem lay_sh (h : LayT α) (hd : PySem.W.Datum.depth α ≤ 64) (u : α) : SeqAt.shaped (PySem.W.Datum.toD u) = true := by
  unfold SeqAt.shaped
  rw [h u]
  exact decide_eq_true (Nat.le_trans (PySem.W.Datum.depth_le u) hd)
theorem r_eqH (l : LayT α) {u v : α} (hx : Hd K H x u) (hy : Hd K H y v) (q : Q (.bl (decide (u = v))) H) (hd : PySem.W.Datum.depth α ≤ 64 := by decide) : rEqD K x y H Q :=
  ⟨_, _, hx, hy, lay_sh l hd u, lay_sh l hd v, by rw [PySem.W.Datum.eqv]; exact q⟩
theorem r_neH (l : LayT α) {u v : α} (hx : Hd K H x u) (hy : Hd K H y v) (q : Q (.bl (!decide (u = v))) H) (hd : PySem.W.Datum.depth α ≤ 64 := by decide) : rNeD K x y H Q :=
  ⟨_, _, hx, hy, lay_sh l hd u, lay_sh l hd v, by rw [PySem.W.Datum.eqv]; exact q⟩
theorem hd_list {us : List α} (h : SqL K H a vs) (hv : HdAll K H vs us) : Hd K H (.ref a) us := .lst h hv
theorem hd_tup {us : List α} (h : SqT K H a vs) (hv : HdAll K H vs us) : Hd K H (.ref a) (PySem.W.Tup.mk us) := .tup h hv
theorem hda_ints : ∀ ns : List Int, HdAll K H (ns.map V.int) ns
  | [] => .nil
  | n :: ns => .cons (.int n) (hda_ints ns)
theorem hda_bools : ∀ bs : List Bool, HdAll K H (bs.map V.bl) bs
  | [] => .nil
  | n :: ns => .cons (.bl n) (hda_bools ns)
theorem hd_ints (h : SqL K H a (ns.map V.int)) : Hd K H (.ref a) ns := hd_list h (hda_ints ns)
theorem hd_intsT (h : SqT K H a (ns.map V.int)) : Hd K H (.ref a) (PySem.W.Tup.mk ns) := hd_tup h (hda_ints ns)
theorem hd_bools {bs : List Bool} (h : SqL K H a (bs.map V.bl)) : Hd K H (.ref a) bs := hd_list h (hda_bools bs)
theorem hda_ix : ∀ {vs : List V} {us : List α}, vs.length = us.length → (∀ (i : Nat) v u, vs[i]? = some v → us[i]? = some u → Hd K H v u) → HdAll K H vs us
  | [], [], _, _ => .nil
  | _ :: _, [], h, _ => by cases h
  | [], _ :: _, h, _ => by cases h
  | v :: vs, u :: us, h, f => .cons (f 0 v u rfl rfl) (hda_ix (by simpa using h) fun i v u h1 h2 => f (i + 1) v u (by simpa using h1) (by simpa using h2))
/-- lists of ints, one int after another alike -/
theorem r_eqL {ms : List Int} (h1 : SqL K H a (ns.map V.int)) (h2 : SqL K H b (ms.map V.int)) (q : Q (.bl (decide (ns = ms))) H) : rEqD K (.ref a) (.ref b) H Q := r_eqH (lay_list lay_int) (hd_ints h1) (hd_ints h2) q
theorem r_neL {ms : List Int} (h1 : SqL K H a (ns.map V.int)) (h2 : SqL K H b (ms.map V.int)) (q : Q (.bl (!decide (ns = ms))) H) : rNeD K (.ref a) (.ref b) H Q := r_neH (lay_list lay_int) (hd_ints h1) (hd_ints h2) q
theorem r_eqT {ms : List Int} (h1 : SqT K H a (ns.map V.int)) (h2 : SqT K H b (ms.map V.int)) (q : Q (.bl (decide (ns = ms))) H) : rEqD K (.ref a) (.ref b) H Q := r_eqH (lay_tup lay_int) (hd_intsT h1) (hd_intsT h2) (by
  rw [show decide (PySem.W.Tup.mk ns = PySem.W.Tup.mk ms) = decide (ns = ms) from decide_eq_decide.mpr ⟨fun e => by cases e; rfl, fun e => by rw [e]⟩]
  exact q)
theorem r_neT {ms : List Int} (h1 : SqT K H a (ns.map V.int)) (h2 : SqT K H b (ms.map V.int)) (q : Q (.bl (!decide (ns = ms))) H) : rNeD K (.ref a) (.ref b) H Q := r_neH (lay_tup lay_int) (hd_intsT h1) (hd_intsT h2) (by
  rw [show decide (PySem.W.Tup.mk ns = PySem.W.Tup.mk ms) = decide (ns = ms) from decide_eq_decide.mpr ⟨fun e => by cases e; rfl, fun e => by rw [e]⟩]
  exact q)
theorem inV_int (i : Int) : ∀ ns : List Int, inV (.int i) (ns.map V.int) = decide (i ∈ ns)
  | [] => rfl
  | n :: ns => by
    have ih := inV_int i ns
    unfold inV at ih ⊢
    rw [List.map_cons, List.any_cons, ih]
    have e : eqV (.int n) (.int i) = decide (n = i) := by
      show decide _ = _
      rfl
    rw [e, Bool.eq_iff_iff]
    simp only [Bool.or_eq_true, decide_eq_true_eq, List.mem_cons]
    exact ⟨fun h => h.elim (fun h => .inl h.symm) .inr, fun h => h.elim (fun h => .inl h.symm) .inr⟩
theorem flat_ints (ns : List Int) : (ns.map V.int).all flatV = true := by
  rw [List.all_map]
  exact List.all_eq_true.mpr fun _ _ => rfl
theorem r_inI {i : Int} (h : Sq K H a (ns.map V.int)) (q : Q (.bl (decide (i ∈ ns))) H) : rIn K false (.int i) (.ref a) H Q := ⟨a, _, rfl, h, rfl, flat_ints ns, by rw [inV_int]; exact q⟩
theorem r_notInI {i : Int} (h : Sq K H a (ns.map V.int)) (q : Q (.bl (!decide (i ∈ ns))) H) : rIn K true (.int i) (.ref a) H Q := ⟨a, _, rfl, h, rfl, flat_ints ns, by rw [inV_int]; exact q⟩
end
section
variable {X : Cx}
/-- a text, n times: n small -/
def rStrMul : R2 := fun x y H Q => ∃ (a : Str) (n : Int), x = .str a ∧ y = .int n ∧ 0 ≤ n ∧ n < 1000 ∧ a.length ≤ 10 ∧ Q (.str (Txt.mul a n)) H
theorem op_strmul : OpR X (binaryOp .Mult) rStrMul := by
  intro pins s σ H x y v u Q I rx ry h
  obtain ⟨a, n, rfl, rfl, h0, h1, h2, q⟩ := h
  obtain ⟨t, rfl⟩ := rx
  obtain ⟨t', rfl⟩ := ry
  refine SB.mul ⟨?_, fun h3 _ => ?_, fun h3 _ => ?_⟩ fun t'' k => ⟨.str _, H, I.tok _, ⟨_, rfl⟩, q⟩
  · rw [Bool.or_eq_false_iff]
    exact ⟨decide_eq_false (by omega), decide_eq_false (by omega)⟩
  · have e : (10 : Int) ≤ (2 ^ 63 - 1) / n := (Int.le_ediv_iff_mul_le (by omega)).mpr (by omega)
    have e2 : (a.length : Int) ≤ 10 := by omega
    omega
  · unfold Builtin.Str.tooLong
    refine decide_eq_false ?_
    have : a.length * n.toNat ≤ 10 * 1000 := Nat.mul_le_mul h2 (by omega)
    have e : (10 * 1000 : Nat) ≤ sizeLine := by decide
    omega
def rAddS : R2 := fun x y H Q => ∃ i j, x = .str i ∧ y = .str j ∧ i.length + j.length ≤ sizeLine ∧ Q (.str (i ++ j)) H
theorem k_addS : OpR X (binaryOp .Add) rAddS := op_add_str
def rIntS : List V → Hp → VK → Prop := fun xs H Q => ∃ a n, xs = [.str a] ∧ PySem.intText? a = some n ∧ a.length ≤ 640 ∧ Q (.int n) H
theorem k_intS : CallR X (.type "int") rIntS := call_int_str
/-- a one and k noughts: the number -/
theorem ten_text : ∀ k : Fin 40, ((PySem.intText? (Str.ofString "1" ++ Txt.mul (Str.ofString "0") (k.1 : Int))).isSome && decide ((Str.ofString "1" ++ Txt.mul (Str.ofString "0") (k.1 : Int)).length ≤ 640)) = true := by decide +kernel
end
/-- values that are ints, as a row -/
theorem ints_of {P : Int → Prop} : ∀ {vs : List V}, (∀ v ∈ vs, ∃ z : Int, P z ∧ v = .int z) → ∃ ns : List Int, (∀ z ∈ ns, P z) ∧ vs = ns.map V.int
  | [], _ => ⟨[], fun _ h => (nomatch h), rfl⟩
  | v :: vs, h => by
    obtain ⟨z, hz, rfl⟩ := h v (List.mem_cons_self ..)
    obtain ⟨ns, hns, rfl⟩ := ints_of (vs := vs) fun w hw => h w (List.mem_cons_of_mem _ hw)
    refine ⟨z :: ns, fun y hy => ?_, rfl⟩
    rcases List.mem_cons.mp hy with rfl | hy
    · exact hz
    · exact hns y hy
theorem flat_rep {α : Type} (x : α) : ∀ n : Nat, (List.replicate n [x]).flatten = List.replicate n x
  | 0 => rfl
  | n + 1 => by rw [List.replicate_succ, List.flatten_cons, flat_rep x n, List.replicate_succ]; rfl
/-- a list of new lists -/
def Rows (H : Hp) (D : Addr) (n : Nat) (f : Nat → List V) : Prop := ∃ ys, H D = some (.lst ys) ∧ ys.length = n ∧ ∀ (i : Nat) y, ys[i]? = some y → ∃ p, y = .ref p ∧ H p = some (.lst (f i))
theorem Rows.ex {H H' : Hp} {D : Addr} {n : Nat} {f : Nat → List V} (e : Ex H H') (h : Rows H D n f) : Rows H' D n f :=
  let ⟨ys, h1, h2, h3⟩ := h
  ⟨ys, e _ _ h1, h2, fun i y hy => let ⟨p, hp, q⟩ := h3 i y hy; ⟨p, hp, e _ _ q⟩⟩
theorem Rows.sq {K : PySem.W.Frag} {H : Hp} {D : Addr} {n : Nat} {f : Nat → List V} (h : Rows H D n f) {Q : VK} {i : Nat} (hi : i < n) (q : ∀ p, H p = some (.lst (f i)) → Q (.ref p) H) : rIxL K (.ref D) (.int (i : Int)) H Q := by
  obtain ⟨ys, h1, h2, h3⟩ := h
  have hy : ys[i]? = some ys[i] := List.getElem?_eq_getElem (by omega)
  obtain ⟨p, hp, hq⟩ := h3 i _ hy
  refine ⟨D, ys, i, .ref p, rfl, rfl, .inl (.inl h1), atI_nat ?_, q p hq⟩
  rw [hy, hp]
theorem Rows.hd {α : Type} [DecidableEq α] [PySem.W.Datum α] {K : PySem.W.Frag} {H : Hp} {D : Addr} {n : Nat} {f : Nat → List V} (h : Rows H D n f) (us : Nat → List α) (hu : ∀ i, i < n → HdAll K H (f i) (us i)) : Hd K H (.ref D) ((List.range n).map us) := by
  obtain ⟨ys, h1, h2, h3⟩ := h
  refine hd_list (.inl (.inl h1)) (hda_ix (by rw [List.length_map, List.length_range]; exact h2) fun i v u hv hu' => ?_)
  obtain ⟨p, rfl, hp⟩ := h3 i v hv
  have hi : i < n := by
    have := (List.getElem?_eq_some_iff.mp hv).1
    omega
  rw [List.getElem?_map, List.getElem?_range hi] at hu'
  cases hu'
  exact hd_list (.inl (.inl hp)) (hu i hi)
section
variable {J : It} {n : Nat} {G : Hp → Prop} {Y : Nat → Hp → V → Hp → Prop}
/-- each item a new list -/
theorem lc_rows (w : Walk J n G Y) {g : TG} {te : TE} {vs : List Nat} {σ : L2.St} {H1 : Hp} {Q : VK} (f : Nat → List V) (hG : ∀ H, Ex H1 H → G H) (hn : n ≤ 100000)
    (turn : ∀ i x H H', i < n → Ex H1 H → Y i H x H' → ∀ k : VK, RetN (f i) H k → g x (wipe σ vs) H' fun σ2 H2 => wipe σ2 vs = wipe σ vs ∧ te σ2 H2 k)
    (fin : ∀ D H, H1 D = none → Ex H1 H → Rows H D n f → Q (.ref D) H) : LcTail J H1 g tYes te vs σ Q :=
  lc_map w (fun D i v H => ∃ p, v = .ref p ∧ H p = some (.lst (f i)) ∧ p ≠ D) (fun _ _ H' e _ _ _ => hG H' e) (fun D i v H H' e ⟨p, h1, h2, h3⟩ => ⟨p, h1, e _ _ h2, h3⟩) (fun D i v H xs ys _ ⟨p, h1, h2, h3⟩ => ⟨p, h1, by rw [upd_ne h3]; exact h2, h3⟩) hn
    (fun D i x H H' hi e hD ⟨xs, hx⟩ y k h => turn i x H H' hi e y k fun p H4 np e4 hp => h _ _ e4 ⟨p, rfl, hp, fun z => by rw [z, hx] at np; cases np⟩)
    fun D H ys hD e hy hl hr => fin D H hD e ⟨ys, hy, hl, fun i y h => let ⟨p, h1, h2, _⟩ := hr i y h; ⟨p, h1, h2⟩⟩
end
/-- what a law asks and gives -/
def spLaw (K : PySem.W.Frag) : Sp := fun vs H Q _ => ∃ (a : Addr) (ns : List Int), vs = [.ref a] ∧ SqL K H a (ns.map V.int) ∧ ns.length ≤ 63 ∧ ∀ H', Q (.bl true) H'
end Hn

namespace Pf
open PySem PySem.Spec PyProof.Rows L2 Evl Hn
local macro_rules | `(tactic| walk_at "rd") => `(tactic| repeat (first
  | with_reducible refine r_seq ?_
  | with_reducible refine r_next ?_
  | with_reducible refine r_asg ?_
  | with_reducible refine r_name ?_
  | with_reducible refine r_ret ?_
  | with_reducible refine r_retN ?_
  | with_reducible refine r_drop ?_
  | with_reducible refine r_ifS ?_
  | with_reducible refine r_test ?_
  | with_reducible refine r_B ?_
  | with_reducible refine r_and ?_
  | with_reducible refine r_or ?_
  | with_reducible refine r_not ?_
  | with_reducible refine r_andV ?_
  | with_reducible refine r_orV ?_
  | with_reducible refine r_notV ?_
  | with_reducible refine r_if ?_
  | with_reducible refine r_c ?_
  | with_reducible refine r_op ?_
  | with_reducible refine r_un ?_
  | with_reducible refine r_chain ?_
  | with_reducible refine r_lst ?_
  | with_reducible refine r_tup ?_
  | with_reducible refine r_nil ?_
  | with_reducible refine r_cons ?_
  | with_reducible refine r_call ?_
  | with_reducible refine r_meth ?_
  | with_reducible refine r_make ?_
  | with_reducible refine r_prop ?_
  | with_reducible refine r_cb ?_
  | with_reducible refine r_bm ?_
  | with_reducible refine r_bm0 ?_
  | with_reducible refine r_sl ?_
  | with_reducible refine r_noPart ?_
  | with_reducible refine r_part ?_
  | with_reducible refine r_int1 ?_
  | with_reducible refine r_bl1 ?_
  | with_reducible refine r_revL ?_
  | with_reducible refine r_lc ?_
  | with_reducible refine r_par ?_
  | with_reducible refine r_par3 ?_
  | with_reducible refine r_two ?_
  | with_reducible refine r_three ?_
  | with_reducible refine r_augS ?_
  | with_reducible refine r_sub ?_
  | with_reducible refine r_fld ?_
  | with_reducible refine r_sfld ?_
  | with_reducible refine r_iList ?_
  | with_reducible refine r_iTup ?_
  | with_reducible refine r_iRng1 ?_
  | with_reducible refine r_iRng2 ?_
  | with_reducible refine r_iEnum ?_
  | with_reducible refine r_iZip ?_
  | with_reducible refine r_iSeq ?_
  | with_reducible refine r_iEnumS ?_
  | with_reducible refine r_revT ?_
  | with_reducible refine r_ixO ?_
  | with_reducible refine r_yes ?_
  | with_reducible refine r_for ?_
  | with_reducible refine r_I0 ?_
  | with_reducible refine r_U ?_
  | with_reducible refine r_eqI ?_
  | with_reducible refine r_neI ?_
  | with_reducible refine r_eqB ?_
  | with_reducible refine r_neB ?_
  | with_reducible refine r_ipI ?_
  | with_reducible refine r_abs ?_
  | with_reducible refine r_intP ?_
  | with_reducible refine r_intB ?_
  | with_reducible refine r_min2 ?_
  | with_reducible refine r_max2 ?_
  | with_reducible refine r_isNi ?_
  | with_reducible refine r_isNr ?_
  | with_reducible refine r_isNn ?_
  | with_reducible refine r_notNi ?_
  | with_reducible refine r_notNr ?_
  | with_reducible refine r_notNn ?_
  | with_reducible refine r_call1 ?_
  | (with_reducible refine' r_var ?hv ?_); (case hv => exact rfl)
  | (with_reducible refine' r_aug ?hv ?_); (case hv => exact rfl)
  | (with_reducible refine r_wipe ?hv ?_); (case hv => exact rfl)
  | (with_reducible refine r_I ?hv ?_); (case hv => (first | (show (0 : Int) < _; omega) | exact Or.inl ⟨by omega, by omega⟩ | exact Or.inr ⟨by omega, by omega⟩ | exact ⟨by omega, by omega⟩ | exact ⟨by omega, by omega, by decide⟩))
  | (with_reducible refine r_range1 ?hv ?hw ?_); (case hv => omega); (case hw => omega)))

def top (i : Nat) : Stmt := PySem.Challenge.pw_hourneeds_k15_whole_served_and_serving.main.body.getD i (.Pass ⟨0, 0, 0, 0⟩)
abbrev s__law_bag : Stmt := top 16
abbrev s__law_take : Stmt := top 17
abbrev s__law_stays : Stmt := top 19
abbrev s_is_integer : Stmt := top 7
abbrev s_are_stays : Stmt := top 11
abbrev s_need_order : Stmt := top 12
abbrev s_width_of : Stmt := top 13
abbrev s_Clock___init__ : Stmt := inClass (top 14) 0
abbrev s__law_clock : Stmt := top 20
abbrev s__law_mixed : Stmt := top 18
abbrev s_Clock_mirrored : Stmt := inClass (top 14) 10
abbrev s_Clock_hours : Stmt := inClass (top 14) 1
abbrev s_Clock_turned : Stmt := inClass (top 14) 9
abbrev s__law_far : Stmt := top 21
abbrev s_is_hour : Stmt := top 8
abbrev s_Clock_serving : Stmt := inClass (top 14) 7
abbrev s_Clock___getitem__ : Stmt := inClass (top 14) 13
abbrev s_Clock_served : Stmt := inClass (top 14) 6
abbrev s_Clock_widths : Stmt := inClass (top 14) 4
abbrev s_Clock_stays : Stmt := inClass (top 14) 3
abbrev s__law_rows_right : Stmt := top 22
abbrev s_law : Stmt := top 23
/-- where the defs and classes stand -/
structure Ads where
  c_Clock : Addr
  f__law_bag : Addr
  f__law_take : Addr
  f__law_stays : Addr
  f_is_integer : Addr
  f_are_stays : Addr
  f_need_order : Addr
  f_width_of : Addr
  f_Clock___init__ : Addr
  f__law_clock : Addr
  f__law_mixed : Addr
  f_Clock_mirrored : Addr
  f_Clock_hours : Addr
  q_Clock_hours : Addr
  f_Clock_turned : Addr
  f__law_far : Addr
  f_is_hour : Addr
  f_Clock_serving : Addr
  f_Clock___getitem__ : Addr
  f_Clock_served : Addr
  f_Clock_widths : Addr
  f_Clock_stays : Addr
  f__law_rows_right : Addr
  f_law : Addr
/-- what the top has left -/
structure Tx (K : PySem.W.Frag) (mg : Str → Option Value) (d : Ads) : Prop where
  g_Clock : mg "Clock" = some (.ref d.c_Clock)
  cl_Clock : Cls K d.c_Clock
  sf_Clock : PySem.W.selfFirst K d.c_Clock = true
  n_Clock_kept_stays : NoAttr K d.c_Clock "kept_stays"
  n_Clock_kept_widths : NoAttr K d.c_Clock "kept_widths"
  g__law_bag : mg "_law_bag" = some (.ref d.f__law_bag)
  d__law_bag : Df K "_law_bag" "_law_bag" s__law_bag d.f__law_bag ["_law_script"]
  g__law_take : mg "_law_take" = some (.ref d.f__law_take)
  d__law_take : Df K "_law_take" "_law_take" s__law_take d.f__law_take ["_law_bag_here", "_law_upto"]
  g__law_stays : mg "_law_stays" = some (.ref d.f__law_stays)
  d__law_stays : Df K "_law_stays" "_law_stays" s__law_stays d.f__law_stays ["_law_bag_here", "_law_many"]
  g_is_integer : mg "is_integer" = some (.ref d.f_is_integer)
  d_is_integer : Df K "is_integer" "is_integer" s_is_integer d.f_is_integer ["thing"]
  g_are_stays : mg "are_stays" = some (.ref d.f_are_stays)
  d_are_stays : Df K "are_stays" "are_stays" s_are_stays d.f_are_stays ["thing"]
  g_need_order : mg "need_order" = some (.ref d.f_need_order)
  d_need_order : Df K "need_order" "need_order" s_need_order d.f_need_order ["stays"]
  g_width_of : mg "width_of" = some (.ref d.f_width_of)
  d_width_of : Df K "width_of" "width_of" s_width_of d.f_width_of ["stays", "hour"]
  mk_Clock : Mk K d.c_Clock d.f_Clock___init__
  d_Clock___init__ : Df K "__init__" "Clock.__init__" s_Clock___init__ d.f_Clock___init__ ["self", "stays"]
  g__law_clock : mg "_law_clock" = some (.ref d.f__law_clock)
  d__law_clock : Df K "_law_clock" "_law_clock" s__law_clock d.f__law_clock ["_law_bag_here", "_law_stays_here"]
  g__law_mixed : mg "_law_mixed" = some (.ref d.f__law_mixed)
  d__law_mixed : Df K "_law_mixed" "_law_mixed" s__law_mixed d.f__law_mixed ["_law_bag_here", "_law_things"]
  m_Clock_mirrored : Meth K d.c_Clock "mirrored" d.f_Clock_mirrored
  d_Clock_mirrored : Df K "mirrored" "Clock.mirrored" s_Clock_mirrored d.f_Clock_mirrored ["self"]
  p_Clock_hours : PropOf K d.c_Clock "hours" d.q_Clock_hours d.f_Clock_hours
  d_Clock_hours : Df K "hours" "Clock.hours" s_Clock_hours d.f_Clock_hours ["self"]
  m_Clock_turned : Meth K d.c_Clock "turned" d.f_Clock_turned
  d_Clock_turned : Df K "turned" "Clock.turned" s_Clock_turned d.f_Clock_turned ["self", "by"]
  g__law_far : mg "_law_far" = some (.ref d.f__law_far)
  d__law_far : Df K "_law_far" "_law_far" s__law_far d.f__law_far ["_law_bag_here"]
  g_is_hour : mg "is_hour" = some (.ref d.f_is_hour)
  d_is_hour : Df K "is_hour" "is_hour" s_is_hour d.f_is_hour ["hours", "thing"]
  m_Clock_serving : Meth K d.c_Clock "serving" d.f_Clock_serving
  d_Clock_serving : Df K "serving" "Clock.serving" s_Clock_serving d.f_Clock_serving ["self", "hour"]
  m_Clock___getitem__ : Meth K d.c_Clock "__getitem__" d.f_Clock___getitem__
  fi_Clock___getitem__ : PySem.W.fnIn K d.f_Clock___getitem__ = true
  d_Clock___getitem__ : Df K "__getitem__" "Clock.__getitem__" s_Clock___getitem__ d.f_Clock___getitem__ ["self", "hour"]
  m_Clock_served : Meth K d.c_Clock "served" d.f_Clock_served
  d_Clock_served : Df K "served" "Clock.served" s_Clock_served d.f_Clock_served ["self", "hour"]
  m_Clock_widths : Meth K d.c_Clock "widths" d.f_Clock_widths
  d_Clock_widths : Df K "widths" "Clock.widths" s_Clock_widths d.f_Clock_widths ["self"]
  m_Clock_stays : Meth K d.c_Clock "stays" d.f_Clock_stays
  d_Clock_stays : Df K "stays" "Clock.stays" s_Clock_stays d.f_Clock_stays ["self"]
  g__law_rows_right : mg "_law_rows_right" = some (.ref d.f__law_rows_right)
  d__law_rows_right : Df K "_law_rows_right" "_law_rows_right" s__law_rows_right d.f__law_rows_right ["_law_clock_here", "_law_many"]
  z_abs : mg "abs" = none
  z_all : mg "all" = none
  z_bool : mg "bool" = none
  z_enumerate : mg "enumerate" = none
  z_int : mg "int" = none
  z_isinstance : mg "isinstance" = none
  z_len : mg "len" = none
  z_list : mg "list" = none
  z_min : mg "min" = none
  z_range : mg "range" = none
  z_sum : mg "sum" = none
  z_tuple : mg "tuple" = none
  k_MOST_HOURS : ∃ t : Tok, mg "MOST_HOURS" = some (.int 48 t)
section
variable {P : Program} {w : World} {K : PySem.W.Frag} {mg : Str → Option Value} {base : Heap} {d : Ads}

/-! ### _law_bag -/
theorem sc__law_bag : FnScope ["_law_script", "_law_cell"] ["_law_script"] (defScope s__law_bag) := ⟨rfl, rfl, rfl, by decide +kernel, rfl, by decide +kernel, by decide +kernel⟩

theorem absI (i : Int) : 0 ≤ (if i < 0 then -i else i) := by split <;> omega
theorem cut_some (xs : List V) (h : xs.length ≤ 63) : cutV xs none (some 63) = xs := by
  unfold cutV
  rw [HT.sIx_none, show HT.sIx xs.length xs.length (some 63) = min 63 xs.length from HT.sIx_nat xs.length xs.length 63]
  rw [List.drop_zero, Nat.sub_zero, Nat.min_eq_right h, List.take_length]
def sp__law_bag (K : PySem.W.Frag) (d : Ads) : Sp := spBag K
def spBagL0 (K : PySem.W.Frag) (d : Ads) : Sp := spBagL K
set_option maxHeartbeats 4000000 in
theorem ok0__law_bag (T : Tx K mg d) : Okf P w K mg base 1 d.f__law_bag ["_law_script"] (spBagL0 K d) := by
  refine okf_of T.d__law_bag sc__law_bag (fun vs H Q E h => ?_) (fun cdv A outer s H vs Q E hr h => ?_)
  · obtain ⟨a, ns, rfl, hS, hl, k⟩ := h
    rfl
  · obtain ⟨a, ns, rfl, hS, hl, k⟩ := h
    refine ⟨_, (pss_one (ps_ret (pe_lst (pa_cons pe_int (pa_cons pe_int (pa_cons pe_int (pa_cons (pe_lc (own := [("_law_cell", 1)]) rfl sc__law_bag.nd (k_piL (K := K) rfl (pe_slice (k_slL (K := K) rfl) (pv 0) po_none (po_some pe_int))) (blkOk_by (by kernel_rfl)) (fun _ _ _ _ _ => (pg_name (i := 1) sc__law_bag.nd rfl (by first | exact Or.inl rfl | exact Or.inr rfl))) (fun _ _ _ _ _ => pts_nil) (fun _ _ _ _ _ => (pe_callB k_abs (by rfl) T.z_abs (by decide +kernel) (pa_cons (pv 1) pa_nil)))) pa_nil))))))), ?_⟩
    walk_at "rd"
    refine ⟨a, _, rfl, hS, fun c nc => ?_⟩
    rw [cut_some _ (by rw [List.length_map]; exact hl)]
    refine ⟨c, rfl, ⟨_, .inl (.inl upd_same)⟩, lc_fun (walk_list (xs := ns.map V.int)) (fun i => .int (if ns.getD i 0 < 0 then - ns.getD i 0 else ns.getD i 0)) (fun H' e => .inl (.inl (e _ _ upd_same))) (by rw [List.length_map]; omega) ?_ ?_⟩
    · rintro i x H1 H2 hi e ⟨rfl, hx⟩ kk hk
      obtain rfl := int_at hx
      walk_at "rd"
      exact hk _ (Ex.refl _)
    · intro D H' nD e hD
      rw [List.length_map] at hD
      walk_at "rd"
      refine ⟨by show 4 ≤ sizeLine; decide, fun b nb => ?_⟩
      have e1 : Ex H H' := (Ex.new nc).trans e
      have nH : H D = none := fresh_back (Ex.new nc) nD
      refine k b D ((List.range ns.length).map fun i => if ns.getD i 0 < 0 then - ns.getD i 0 else ns.getD i 0) _ (e1.trans (Ex.new nb)) (fresh_back e1 nb) nH upd_same ?_ ?_ ?_
      · rw [upd_ne (ne_of_none hD nb), hD, List.map_map]
        rfl
      · intro c hc
        obtain ⟨i, _, rfl⟩ := List.mem_map.mp hc
        exact absI _
      · rw [List.length_map, List.length_range]
        exact hl

theorem ok__law_bag (T : Tx K mg d) : Okf P w K mg base 1 d.f__law_bag ["_law_script"] (sp__law_bag K d) := bag_ok (ok0__law_bag T)

/-! ### _law_take -/
theorem sc__law_take : FnScope ["_law_bag_here", "_law_upto", "_law_cell", "_law_mixed_here", "_law_drawn", "_law_early", "_law_second"] ["_law_bag_here", "_law_upto"] (defScope s__law_take) := ⟨rfl, rfl, rfl, by decide +kernel, rfl, by decide +kernel, by decide +kernel⟩

def sp__law_take (K : PySem.W.Frag) (d : Ads) : Sp := spTake
def spTakeL0 (K : PySem.W.Frag) (d : Ads) : Sp := spTakeL
set_option maxHeartbeats 4000000 in
theorem ok0__law_take (T : Tx K mg d) : Okf P w K mg base 1 d.f__law_take ["_law_bag_here", "_law_upto"] (spTakeL0 K d) := by
  refine okf_of T.d__law_take sc__law_take (fun vs H Q E h => ?_) (fun cdv A outer s H vs Q E hr h => ?_)
  · obtain ⟨b, l, u, o, cs, xs, rfl, hb, ⟨c0, c1, c2, rfl, h0, h1, h1u, h2⟩, hL, hc, hcl, hu0, hu1, k⟩ := h
    rfl
  · obtain ⟨b, l, u, o, cs, xs, rfl, hb, ⟨c0, c1, c2, rfl, h0, h1, h1u, h2⟩, hL, hc, hcl, hu0, hu1, k⟩ := h
    refine ⟨_, (Evl.pss_cut (ps_if (pt_cmpR op_eq (pe_ix (k_ixL (K := K) rfl) (pv 0) pe_int (fun _ _ => rfl)) pe_int (nomark _)) (pss_cons (ps_set (i := 2) sc__law_take.nd rfl (by first | exact Or.inl rfl | exact Or.inr rfl) pe_int)
      (Evl.pss_cut (ps_if (pt_cmpR op_lt (pe_ix (k_ixL (K := K) rfl) (pv 0) pe_int (fun _ _ => rfl)) (pe_callB (k_len (K := K) rfl) (by rfl) T.z_len (by decide +kernel) (pa_cons (pe_ix (k_ixL (K := K) rfl) (pv 0) pe_int (fun _ _ => rfl)) pa_nil)) (nomark _)) (pss_one (ps_set (i := 2) sc__law_take.nd rfl (by first | exact Or.inl rfl | exact Or.inr rfl) (pe_ix (k_ixL (K := K) rfl) (pe_ix (k_ixL (K := K) rfl) (pv 0) pe_int (fun _ _ => rfl)) (pe_ix (k_ixL (K := K) rfl) (pv 0) pe_int (fun _ _ => rfl)) (fun _ _ => rfl)))) pss_nil)
      (pss_cons (ps_augS (pv 0) pe_int (k_getL (K := K) rfl) pe_int ip_add set_list)
      (Evl.pss_cut (ps_if (pt_cmpR op_ge (pv 2) pe_int (nomark _)) (pss_one (ps_asg (pv 2) (pg_sub (pv 0) pe_int set_list))) pss_nil)
      (pss_cons (ps_set (i := 3) sc__law_take.nd rfl (by first | exact Or.inl rfl | exact Or.inr rfl) (pe_op op_add (pe_op op_add (pe_op op_mul (pe_ix (k_ixL (K := K) rfl) (pv 0) pe_int (fun _ _ => rfl)) pe_int) (pe_op op_mod (pe_callTy k_int1 (by rfl) T.z_int (by decide +kernel) (pa_cons (pv 2) pa_nil)) pe_int)) (pe_op op_mul pe_int (pe_ix (k_ixL (K := K) rfl) (pv 0) pe_int (fun _ _ => rfl)))))
      (pss_one (ps_asg (pe_op op_mod (pe_callTy k_int1 (by rfl) T.z_int (by decide +kernel) (pa_cons (pv 3) pa_nil)) pe_int) (pg_sub (pv 0) pe_int set_list)))))))) pss_nil)
      (pss_cons (ps_if (pt_cmpR op_gt (pe_ix (k_ixL (K := K) rfl) (pv 0) pe_int (fun _ _ => rfl)) pe_int (nomark _)) (pss_cons (ps_set (i := 4) sc__law_take.nd rfl (by first | exact Or.inl rfl | exact Or.inr rfl) (pe_op op_mod (pe_callTy k_int1 (by rfl) T.z_int (by decide +kernel) (pa_cons (pe_ix (k_ixL (K := K) rfl) (pv 0) pe_int (fun _ _ => rfl)) pa_nil)) (pv 1)))
      (pss_cons (ps_asg (pe_op op_fdiv (pe_callTy k_int1 (by rfl) T.z_int (by decide +kernel) (pa_cons (pe_ix (k_ixL (K := K) rfl) (pv 0) pe_int (fun _ _ => rfl)) pa_nil)) (pv 1)) (pg_sub (pv 0) pe_int set_list))
      (pss_one (ps_ret (pv 4))))) pss_nil)
      (pss_cons (ps_set (i := 5) sc__law_take.nd rfl (by first | exact Or.inl rfl | exact Or.inr rfl) (pe_op op_mod (pe_callTy k_int1 (by rfl) T.z_int (by decide +kernel) (pa_cons (pe_op op_mul (pe_op op_add (pe_ix (k_ixL (K := K) rfl) (pv 0) pe_int (fun _ _ => rfl)) pe_int) pe_int) pa_nil)) pe_int))
      (pss_cons (ps_set (i := 6) sc__law_take.nd rfl (by first | exact Or.inl rfl | exact Or.inr rfl) (pe_op op_mod (pe_callTy k_int1 (by rfl) T.z_int (by decide +kernel) (pa_cons (pe_op op_mul (pe_op op_mod (pe_callTy k_int1 (by rfl) T.z_int (by decide +kernel) (pa_cons (pe_op op_mul (pv 5) (pv 5)) pa_nil)) pe_int) pe_int) pa_nil)) pe_int))
      (pss_one (ps_ret (pe_op op_mod (pe_callTy k_int1 (by rfl) T.z_int (by decide +kernel) (pa_cons (pe_op op_fdiv (pv 6) pe_int) pa_nil)) (pv 1)))))))), ?_⟩
    have lb : l ≠ b := ne_of hL hb (by intro z; cases z)
    refine ⟨fun σ H' => ∃ (d0 d1 d2 : Int) (y2 y3 : Option V), σ = [some (.ref b), some (.int u), y2, y3, none, none, none] ∧ H' = upd H b (.lst [.int d0, .int d1, .int d2, .ref l]) ∧ 0 ≤ d0 ∧ 0 ≤ d1 ∧ d1 < 2147483647 ∧ 0 ≤ d2, ?_, ?_⟩
    · refine ⟨_, rfl, b, _, 0, _, rfl, rfl, SqL.of hb, rfl, rfl, _, rfl, ite2 (fun _ => ?_) (fun _ => ?_)⟩
      · -- _law_cell = 0; then the cell
        refine ⟨fun σ H' => ∃ cell : Int, 0 ≤ cell ∧ σ = [some (.ref b), some (.int u), some (.int cell), none, none, none, none] ∧ H' = H, ?_, ?_⟩
        · refine ⟨_, rfl, b, _, 2, _, rfl, rfl, SqL.of hb, rfl, _, rfl, b, _, 3, _, rfl, rfl, SqL.of hb, rfl, l, _, rfl, .inl (.inl (.inr ⟨o, hL⟩)), _, _, rfl, rfl, _, rfl, ite2 (fun hlt => ?_) (fun _ => ?_)⟩
          · have hlt' : c2 < ((cs.map V.int).length : Int) := of_decide_eq_true hlt
            rw [List.length_map] at hlt'
            have hx := at_int (ns := cs) h2 hlt'
            refine ⟨_, rfl, b, _, 3, _, rfl, rfl, SqL.of hb, rfl, _, rfl, b, _, 2, _, rfl, rfl, SqL.of hb, rfl, l, _, c2, _, rfl, rfl, .inl (.inr ⟨o, hL⟩), hx, _, hc _ (gD_mem (by omega)), rfl, rfl⟩
          · exact ⟨0, Int.le_refl 0, rfl, rfl⟩
        · rintro σ' H' ⟨cell, hcell, rfl, hH⟩
          rw [hH]
          -- bag[2] += 1
          refine ⟨_, rfl, b, _, 2, _, rfl, rfl, SqL.of hb, rfl, _, _, rfl, rfl, b, _, 2, 2, rfl, rfl, hb, rfl, ?_⟩
          -- if cell >= 10 ** 18: bag[0] = cell
          refine ⟨fun σ H' => ∃ d0 : Int, 0 ≤ d0 ∧ σ = [some (.ref b), some (.int u), some (.int cell), none, none, none, none] ∧ H' = upd H b (.lst [.int d0, .int c1, .int (c2 + 1), .ref l]), ?_, ?_⟩
          · refine ⟨_, rfl, _, _, rfl, rfl, _, rfl, ite2 (fun _ => ?_) (fun _ => ?_)⟩
            · refine ⟨_, rfl, _, rfl, b, _, 0, 0, rfl, rfl, upd_same, rfl, cell, hcell, rfl, ?_⟩
              rw [upd_upd]
              rfl
            · exact ⟨c0, h0, rfl, rfl⟩
          · rintro σ' H' ⟨d0, hd0, rfl, rfl⟩
            -- _law_mixed; bag[1] = int(_law_mixed) % 2147483647
            refine ⟨_, rfl, b, _, 1, _, rfl, rfl, SqL.of upd_same, rfl, c1, _, rfl, rfl, .inl ⟨by omega, by omega⟩, _, rfl, .inl ⟨_, rfl, _, _, rfl, rfl, (by show (0 : Int) < 2147483647; decide), _, _, rfl, rfl, _, rfl, b, _, 2, _, rfl, rfl, SqL.of upd_same, rfl, _, _, rfl, rfl, .inl ⟨by decide, by decide⟩, _, _, rfl, rfl, ?_⟩⟩
            refine ⟨_, rfl, .inl ⟨_, rfl, _, _, rfl, rfl, (by show (0 : Int) < 2147483647; decide), _, rfl, b, _, 1, 1, rfl, rfl, upd_same, rfl, ?_⟩⟩
            refine ⟨d0, _, c2 + 1, _, _, rfl, by rw [upd_upd]; rfl, hd0, Int.emod_nonneg _ (by decide), Int.emod_lt_of_pos _ (by decide), by omega⟩
      · refine ⟨c0, c1, c2, none, none, rfl, ?_, h0, h1, h1u, h2⟩
        funext a
        by_cases ha : a = b
        · subst ha
          rw [upd_same, hb]
        · rw [upd_ne ha]
    · rintro σ' H' ⟨d0, d1, d2, y2, y3, rfl, rfl, g0, g1, g1u, g2⟩
      have kk : ∀ (n : Int) (ys : List V), 0 ≤ n → n < u → BagV l ys → Q (.int n) (upd (upd H b (.lst [.int d0, .int d1, .int d2, .ref l])) b (.lst ys)) := fun n ys a1 a2 a3 => by
        rw [upd_upd]
        exact k n ys a1 a2 a3
      refine ⟨_, rfl, b, _, 0, _, rfl, rfl, SqL.of upd_same, rfl, _, _, rfl, rfl, _, rfl, ite2 (fun hp => ?_) (fun _ => ?_)⟩
      · have hp' : 0 < d0 := of_decide_eq_true hp
        refine ⟨_, rfl, b, _, 0, _, rfl, rfl, SqL.of upd_same, rfl, .inl ⟨_, rfl, _, rfl, _, _, rfl, rfl, hu0, ?_⟩⟩
        refine ⟨_, rfl, b, _, 0, _, rfl, rfl, SqL.of upd_same, rfl, .inl ⟨_, rfl, _, rfl, _, _, rfl, rfl, ⟨hu0, hu1⟩, _, rfl, b, _, 0, 0, rfl, rfl, upd_same, rfl, _, rfl, ?_⟩⟩
        exact kk _ _ (Int.emod_nonneg _ (by omega)) (Int.emod_lt_of_pos _ hu0) ⟨_, d1, d2, rfl, Int.ediv_nonneg (by omega) (by omega), g1, g1u, g2⟩
      · refine ⟨_, rfl, b, _, 1, _, rfl, rfl, SqL.of upd_same, rfl, _, _, rfl, rfl, _, _, rfl, rfl, .inr ⟨by decide, by decide⟩, .inl ⟨_, rfl, _, _, rfl, rfl, (by show (0 : Int) < 1000000007; decide), ?_⟩⟩
        have e0 : 0 ≤ (d1 + 1) * 39373 % 1000000007 := Int.emod_nonneg _ (by decide)
        have e1 : (d1 + 1) * 39373 % 1000000007 < 1000000007 := Int.emod_lt_of_pos _ (by decide)
        refine ⟨_, rfl, _, rfl, _, _, rfl, rfl, .inl ⟨by omega, by omega⟩, .inl ⟨_, rfl, _, _, rfl, rfl, (by show (0 : Int) < 998244353; decide), _, _, rfl, rfl, .inr ⟨by decide, by decide⟩, .inl ⟨_, rfl, _, _, rfl, rfl, (by show (0 : Int) < 998244353; decide), ?_⟩⟩⟩
        refine ⟨_, rfl, _, _, rfl, rfl, ⟨by decide, by decide⟩, .inl ⟨_, rfl, _, rfl, _, _, rfl, rfl, hu0, ?_⟩⟩
        exact k _ _ (Int.emod_nonneg _ (by omega)) (Int.emod_lt_of_pos _ hu0) ⟨d0, d1, d2, rfl, g0, g1, g1u, g2⟩

theorem ok__law_take (T : Tx K mg d) : Okf P w K mg base 1 d.f__law_take ["_law_bag_here", "_law_upto"] (sp__law_take K d) := take_ok (ok0__law_take T) rfl

/-! ### _law_stays -/
theorem sc__law_stays : FnScope ["_law_bag_here", "_law_many", "_law_most", "_law_drawn", "_law_hour", "_law_ahead"] ["_law_bag_here", "_law_many"] (defScope s__law_stays) := ⟨rfl, rfl, rfl, by decide +kernel, rfl, by decide +kernel, by decide +kernel⟩

def sp__law_stays (K : PySem.W.Frag) (d : Ads) : Sp := fun vs H Q _ => ∃ (b : Addr) (n : Nat), vs = [.ref b, .int (n : Int)] ∧ Bag H b ∧ 1 ≤ n ∧ n ≤ 48 ∧ ∀ s : List Int, s.length = n → Good s → RetN (s.map V.int) H Q
set_option maxHeartbeats 4000000 in
theorem ok__law_stays (T : Tx K mg d) : Okf P w K mg base 2 d.f__law_stays ["_law_bag_here", "_law_many"] (sp__law_stays K d) := by
  refine okf_of T.d__law_stays sc__law_stays (fun vs H Q E h => ?_) (fun cdv A outer s H vs Q E hr h => ?_)
  · obtain ⟨b, n, rfl, hB, hn, hn2, k⟩ := h
    rfl
  · obtain ⟨b, n, rfl, hB, hn, hn2, k⟩ := h
    refine ⟨_, (pss_cons (ps_if (pt_cmpR op_eq (pf_call (ok__law_take T) (hr.mono (by decide)) (by rfl) T.g__law_take T.d__law_take.kp (pa_cons (pv 0) (pa_cons pe_int pa_nil))) pe_int (nomark _)) (pss_one (ps_ret (pe_op op_rep (pe_lst (pa_cons (pe_op op_add pe_int (pf_call (ok__law_take T) (hr.mono (by decide)) (by rfl) T.g__law_take T.d__law_take.kp (pa_cons (pv 0) (pa_cons (pv 1) pa_nil)))) pa_nil)) (pv 1)))) pss_nil)
      (pss_cons (ps_set (i := 2) sc__law_stays.nd rfl (by first | exact Or.inl rfl | exact Or.inr rfl) (pe_op op_add pe_int (pf_call (ok__law_take T) (hr.mono (by decide)) (by rfl) T.g__law_take T.d__law_take.kp (pa_cons (pv 0) (pa_cons (pv 1) pa_nil)))))
      (pss_cons (ps_set (i := 3) sc__law_stays.nd rfl (by first | exact Or.inl rfl | exact Or.inr rfl) (pe_lc (own := [("_law_hour", 4)]) rfl sc__law_stays.nd (pi_range1 (by rfl) T.z_range (pa_cons (pv 1) pa_nil)) (blkOk_by (by kernel_rfl)) (fun _ _ _ _ _ => (pg_name (i := 4) sc__law_stays.nd rfl (by first | exact Or.inl rfl | exact Or.inr rfl))) (fun _ _ _ _ _ => pts_nil) (fun _ _ _ _ _ => (pe_op op_add pe_int (pf_call (ok__law_take T) (hr.mono (by decide)) (by rfl) T.g__law_take T.d__law_take.kp (pa_cons (pv 0) (pa_cons (pv 2) pa_nil)))))))
      (pss_one (ps_ret (pe_lc (own := [("_law_hour", 4)]) rfl sc__law_stays.nd (pi_range1 (by rfl) T.z_range (pa_cons (pv 1) pa_nil)) (blkOk_by (by kernel_rfl)) (fun _ _ _ _ _ => (pg_name (i := 4) sc__law_stays.nd rfl (by first | exact Or.inl rfl | exact Or.inr rfl))) (fun _ _ _ _ _ => pts_nil) (fun _ _ _ _ _ => (pe_callB (k_min (K := K) rfl rfl) (by rfl) T.z_min (by decide +kernel) (pa_cons (pe_lc (own := [("_law_ahead", 5)]) rfl sc__law_stays.nd (pi_range1 (by rfl) T.z_range (pa_cons (pv 1) pa_nil)) (blkOk_by (by kernel_rfl)) (fun _ _ _ _ _ => (pg_name (i := 5) sc__law_stays.nd rfl (by first | exact Or.inl rfl | exact Or.inr rfl))) (fun _ _ _ _ _ => pts_nil) (fun _ _ _ _ _ => (pe_op op_add (pe_ix (k_ixL (K := K) rfl) (pv 3) (pe_op op_mod (pe_callTy k_int1 (by rfl) T.z_int (by decide +kernel) (pa_cons (pe_op op_add (pv 4) (pv 5)) pa_nil)) (pv 1)) (fun _ _ => rfl)) (pv 5)))) pa_nil))))))))), ?_⟩
    walk_at "rd"
    refine ⟨b, _, rfl, hB, by omega, by omega, fun c0 _ _ => ?_⟩
    walk_at "rd"
    refine r_ite (fun _ => ?_) (fun _ => ?_)
    · walk_at "rd"
      refine ⟨b, _, rfl, hB, by omega, by omega, fun c c1 c2 => ?_⟩
      walk_at "rd"
      refine ⟨szc rfl, fun p np => ?_⟩
      walk_at "rd"
      refine ⟨p, _, _, rfl, rfl, upd_same, by omega, by omega, ?_, fun q nq => ?_⟩
      · rw [Int.toNat_natCast]
        show 1 * n ≤ sizeLine
        have : (48 : Nat) ≤ sizeLine := by decide
        omega
      · refine k (List.replicate n (1 + c)) List.length_replicate (Good.const hn hn2 (by omega) (by omega)) q _ ?_ ((Ex.new np).trans (Ex.new nq)) ?_
        · exact fresh_back (Ex.new np) nq
        · rw [upd_same, Int.toNat_natCast, flat_rep, List.map_replicate]
    · walk_at "rd"
      refine ⟨b, _, rfl, hB, by omega, by omega, fun c c1 c2 => ?_⟩
      walk_at "rd"
      refine lc_val walk_r0 (fun _ v => ∃ z : Int, 0 ≤ z ∧ z < 1 + c ∧ v = .int (1 + z)) (fun _ _ => trivial) (by omega) ?_ ?_
      · rintro i x H1 H2 hi e ⟨rfl, rfl⟩ kk hk
        walk_at "rd"
        refine ⟨b, _, rfl, hB.mono (.of e), by omega, by omega, fun z z1 z2 => ?_⟩
        walk_at "rd"
        exact hk _ _ (Ex.refl _) ⟨z, z1, z2, rfl⟩
      · intro D H1 ys nD e1 hD yl yv
        rw [Int.toNat_natCast] at yl
        obtain ⟨dr, hdr, rfl⟩ : ∃ dr : List Int, (∀ z ∈ dr, 1 ≤ z ∧ z ≤ 1 + c) ∧ ys = dr.map V.int := ints_of fun v hv => by
          obtain ⟨i, hi, rfl⟩ := List.mem_iff_getElem.mp hv
          obtain ⟨z, z0, z1, ez⟩ := yv i _ (List.getElem?_eq_getElem hi)
          exact ⟨1 + z, by omega, ez⟩
        rw [List.length_map] at yl
        have hcy : ∀ i, 1 ≤ cyc dr i ∧ cyc dr i ≤ 1 + c := fun i => hdr _ (cyc_mem (by omega) i)
        walk_at "rd"
        refine lc_val walk_r0 (fun i v => ∃ m : Int, v = .int m ∧ (∃ a : Nat, a < n ∧ m = cyc dr ((i : Int) + a) + a) ∧ ∀ a : Nat, a < n → m ≤ cyc dr ((i : Int) + a) + a) (fun _ _ => trivial) (by omega) ?_ ?_
        · rintro i x H2 H3 hi e ⟨rfl, rfl⟩ kk hk
          walk_at "rd"
          refine lc_fun walk_r0 (fun a => .int (cyc dr ((i : Int) + a) + a)) (fun _ _ => trivial) (by omega) ?_ ?_
          · rintro a x H4 H5 ha e' ⟨rfl, rfl⟩ kk' hk'
            walk_at "rd"
            have ea := at_cyc (ns := dr) (by omega) ((i : Int) + a)
            rw [yl] at ea
            refine r_ixL (.inl (.inl (e' _ _ (e _ _ hD)))) ea ?_
            walk_at "rd"
            exact hk' _ (Ex.refl _)
          · intro D2 H4 nD2 e4 hD2
            walk_at "rd"
            refine ⟨D2, (List.range n).map (fun a : Nat => cyc dr ((i : Int) + a) + a), rfl, .inl (.inl ?_), ?_, fun m hm hle => ?_⟩
            · rw [hD2, List.map_map, Int.toNat_natCast]
              rfl
            · rw [List.length_map, List.length_range]
              omega
            · refine hk _ _ e4 ⟨m, rfl, ?_, fun a ha => hle _ (List.mem_map.mpr ⟨a, List.mem_range.mpr ha, rfl⟩)⟩
              obtain ⟨a, ha, ea⟩ := List.mem_map.mp hm
              exact ⟨a, List.mem_range.mp ha, ea.symm⟩
        · intro D2 H2 zs nD2 e2 hD2 zl zv
          rw [Int.toNat_natCast] at zl
          obtain ⟨m, _, rfl⟩ : ∃ m : List Int, (∀ z ∈ m, True) ∧ zs = m.map V.int := ints_of fun v hv => by
            obtain ⟨i, hi, rfl⟩ := List.mem_iff_getElem.mp hv
            obtain ⟨z, ez, _⟩ := zv i _ (List.getElem?_eq_getElem hi)
            exact ⟨z, trivial, ez⟩
          rw [List.length_map] at zl
          refine k m zl (Good.least (dr := dr) (top := 1 + c) hn hn2 zl yl (by omega) hcy fun j hj => ?_) D2 H2 (fresh_back e1 nD2) (e1.trans e2) hD2
          obtain ⟨z, ez, h1, h2⟩ := zv j _ (by rw [List.getElem?_map, List.getElem?_eq_getElem (by omega)]; rfl)
          have ez' : m.getD j 0 = z := by
            rw [List.getD_eq_getElem?_getD, List.getElem?_eq_getElem (by omega)]
            exact V.int.inj ez
          rw [ez']
          exact ⟨h1, h2⟩

/-! ### is_integer -/
theorem sc_is_integer : FnScope ["thing"] ["thing"] (defScope s_is_integer) := ⟨rfl, rfl, rfl, by decide +kernel, rfl, by decide +kernel, by decide +kernel⟩

def sp_is_integer (K : PySem.W.Frag) (d : Ads) : Sp := fun vs H Q _ => ∃ i : Int, vs = [.int i] ∧ Q (.bl true) H
set_option maxHeartbeats 4000000 in
theorem ok_is_integer (T : Tx K mg d) : Okf P w K mg base 1 d.f_is_integer ["thing"] (sp_is_integer K d) := by
  refine okf_of T.d_is_integer sc_is_integer (fun vs H Q E h => ?_) (fun cdv A outer s H vs Q E hr h => ?_)
  · obtain ⟨i, rfl, k⟩ := h
    rfl
  · obtain ⟨i, rfl, k⟩ := h
    refine ⟨_, (pss_one (ps_ret (pe_and (pe_callB (k_isi (K := K) rfl) (by rfl) T.z_isinstance (by decide +kernel) (pa_cons (pv 0) (pa_cons (pe_bty (n := "int") (by rfl) T.z_int (by decide +kernel)) pa_nil))) (pe_one (pe_not (pe_callB (k_isi (K := K) rfl) (by rfl) T.z_isinstance (by decide +kernel) (pa_cons (pv 0) (pa_cons (pe_bty (n := "bool") (by rfl) T.z_bool (by decide +kernel)) pa_nil)))))))), ?_⟩
    walk_at "rd"
    refine r_isiInt ?_
    walk_at "rd"
    refine iteT ?_
    walk_at "rd"
    refine r_isiIntB ?_
    walk_at "rd"
    exact k

/-! ### are_stays -/
theorem sc_are_stays : FnScope ["thing", "stay"] ["thing"] (defScope s_are_stays) := ⟨rfl, rfl, rfl, by decide +kernel, rfl, by decide +kernel, by decide +kernel⟩

def sp_are_stays (K : PySem.W.Frag) (d : Ads) : Sp := fun vs H Q _ => ∃ (a : Addr) (ns : List Int), vs = [.ref a] ∧ Sq K H a (ns.map V.int) ∧ ns.length ≤ 1000 ∧ ∀ H', Ex H H' → Q (.bl (okStays ns)) H'
set_option maxHeartbeats 4000000 in
theorem ok_are_stays (T : Tx K mg d) : Okf P w K mg base 2 d.f_are_stays ["thing"] (sp_are_stays K d) := by
  refine okf_of T.d_are_stays sc_are_stays (fun vs H Q E h => ?_) (fun cdv A outer s H vs Q E hr h => ?_)
  · obtain ⟨a, ns, rfl, hS, hl, k⟩ := h
    rfl
  · obtain ⟨a, ns, rfl, hS, hl, k⟩ := h
    refine ⟨_, (pss_cons (ps_if (PW.pt (pw_or (pt_not (pt_val (pe_callB (k_isiT (K := K) rfl) (by rfl) T.z_isinstance (by decide +kernel) (pa_cons (pv 0) (pa_cons (pe_tup (pa_cons (pe_bty (n := "list") (by rfl) T.z_list (by decide +kernel)) (pa_cons (pe_bty (n := "tuple") (by rfl) T.z_tuple (by decide +kernel)) pa_nil))) pa_nil))))) (pw_or1 (pt_not (pt_chain op_le op_le pe_int (pe_callB (k_len (K := K) rfl) (by rfl) T.z_len (by decide +kernel) (pa_cons (pv 0) pa_nil)) (pe_gint (by rfl) T.k_MOST_HOURS)))))) (pss_one (ps_ret pe_bl)) pss_nil)
      (pss_one (ps_ret (pe_callB (k_all (K := K) rfl rfl) (by rfl) T.z_all (by decide +kernel) (pa_cons (pe_lc (own := [("stay", 1)]) rfl sc_are_stays.nd (k_piS (K := K) rfl (pv 0)) (blkOk_by (by kernel_rfl)) (fun _ _ _ _ _ => (pg_name (i := 1) sc_are_stays.nd rfl (by first | exact Or.inl rfl | exact Or.inr rfl))) (fun _ _ _ _ _ => pts_nil) (fun _ _ _ _ _ => (pe_and (pf_call (ok_is_integer T) (hr.mono (by decide)) (by rfl) T.g_is_integer T.d_is_integer.kp (pa_cons (pv 1) pa_nil)) (pe_one (pe_chain op_le op_le pe_int (pv 1) (pe_callB (k_len (K := K) rfl) (by rfl) T.z_len (by decide +kernel) (pa_cons (pv 0) pa_nil))))))) pa_nil))))), ?_⟩
    walk_at "rd"
    refine ⟨szc rfl, fun tp np => ?_⟩
    have e1 : Ex H (upd H tp (.tup [.ty "list", .ty "tuple"])) := Ex.new np
    walk_at "rd"
    refine r_isiSeq (hS.mono e1) upd_same ?_
    walk_at "rd"
    refine iteF ?_
    walk_at "rd"
    refine r_len (hS.mono e1) ?_
    walk_at "rd"
    rw [List.length_map]
    have fls : ¬ (1 ≤ ns.length ∧ ns.length ≤ 48) → Q (.bl false) (upd H tp (.tup [.ty "list", .ty "tuple"])) := fun h => by
      have z : okStays ns = false := by
        rw [Bool.eq_false_iff]
        intro z
        have := okStays_iff.mp z
        exact h ⟨this.1, this.2.1⟩
      have := k _ e1
      rw [z] at this
      exact this
    refine r_ite (fun h1 => ?_) (fun h1 => ?_)
    · walk_at "rd"
      refine r_itn (fun h2 => ?_) (fun h2 => ?_)
      · walk_at "rd"
        exact fls (by omega)
      · walk_at "rd"
        refine ⟨a, _, _, rfl, hS.mono e1, Ex.refl _, fun J ⟨G, wk, hG⟩ => lc_fun wk (fun i => .bl (decide (1 ≤ ns.getD i 0) && decide (ns.getD i 0 ≤ (ns.length : Int)))) hG (by rw [List.length_map]; omega) ?_ ?_⟩
        · rintro i x H1 H2 hi e ⟨rfl, hx⟩ kk hk
          obtain rfl := int_at hx
          walk_at "rd"
          refine ⟨_, rfl, ?_⟩
          walk_at "rd"
          refine iteT ?_
          walk_at "rd"
          cases h0 : decide (1 ≤ ns.getD i 0) with
          | true =>
            refine iteT ?_
            walk_at "rd"
            refine r_len (hS.mono (e1.trans e)) ?_
            walk_at "rd"
            rw [List.length_map]
            have := hk _ (Ex.refl _)
            rw [h0] at this
            exact this
          | false =>
            refine iteF ?_
            have := hk _ (Ex.refl _)
            rw [h0] at this
            exact this
        · intro D H' nD e hD
          walk_at "rd"
          rw [List.length_map, map_range_int ns (fun x => V.bl (decide (1 ≤ x) && decide (x ≤ (ns.length : Int))))] at hD
          refine r_all (bs := ns.map fun x => decide (1 ≤ x) && decide (x ≤ (ns.length : Int))) (.inl (.inl (by rw [List.map_map]; exact hD))) ?_
          have := k _ (e1.trans e)
          unfold okStays at this
          rw [decide_eq_true (by omega : 1 ≤ ns.length), decide_eq_true (by omega : ns.length ≤ 48)] at this
          rw [List.all_map]
          exact this
    · walk_at "rd"
      refine iteT ?_
      walk_at "rd"
      exact fls (by omega)

/-! ### need_order -/
theorem sc_need_order : FnScope ["stays", "hour", "stay"] ["stays"] (defScope s_need_order) := ⟨rfl, rfl, rfl, by decide +kernel, rfl, by decide +kernel, by decide +kernel⟩

def sp_need_order (K : PySem.W.Frag) (d : Ads) : Sp := fun vs H Q _ => ∃ (a : Addr) (ns : List Int), vs = [.ref a] ∧ Sq K H a (ns.map V.int) ∧ Good ns ∧ ∀ H', Ex H H' → Q .non H'
set_option maxHeartbeats 4000000 in
theorem ok_need_order (T : Tx K mg d) : Okf P w K mg base 1 d.f_need_order ["stays"] (sp_need_order K d) := by
  refine okf_of T.d_need_order sc_need_order (fun vs H Q E h => ?_) (fun cdv A outer s H vs Q E hr h => ?_)
  · obtain ⟨a, ns, rfl, hS, g, k⟩ := h
    rfl
  · obtain ⟨a, ns, rfl, hS, g, k⟩ := h
    refine ⟨_, (pss_one (ps_for PassesOwn.never rfl (k_piE (K := K) rfl (by rfl) T.z_enumerate (pa_cons (pv 0) pa_nil)) (k_gtup (K := K) (n := 2) rfl rfl (pgs_cons (pg_name (i := 1) sc_need_order.nd rfl (by first | exact Or.inl rfl | exact Or.inr rfl)) (pgs_cons (pg_name (i := 2) sc_need_order.nd rfl (by first | exact Or.inl rfl | exact Or.inr rfl)) pgs_nil))) (pss_one (ps_if (pt_cmpR op_gt (pv 2) (pe_op op_add pe_int (pe_ix (k_ixS (K := K) rfl) (pv 0) (pe_op op_mod (pe_op op_add (pv 1) pe_int) (pe_callB (k_len (K := K) rfl) (by rfl) T.z_len (by decide +kernel) (pa_cons (pv 0) pa_nil))) (fun _ _ => rfl))) (nomark _)) (pss_one ps_never) pss_nil)))), ?_⟩
    walk_at "rd"
    refine ⟨a, _, _, rfl, hS, Ex.refl _, fun J ⟨G, wk, hG⟩ => for_w wk (fun i σ H' => ∃ y1 y2, σ = [some (.ref a), y1, y2] ∧ Ex H H') ⟨none, none, rfl, Ex.refl H⟩ (fun i σ H' _ ⟨_, _, _, e⟩ => hG _ e) ?_ ?_⟩
    · rintro i x σ H1 H2 hi ⟨y1, y2, rfl, e⟩ ⟨T', x1, x2, rfl, nT, rfl, hx1, hx2⟩
      cases hx1
      obtain rfl := int_at hx2
      rw [List.length_map] at hi
      refine r_pair ?_
      have e2 := e.trans (Ex.new nT (o := .tup [.int (i : Nat), .int (ns.getD i 0)]))
      walk_at "rd"
      refine r_len (hS.mono e2) ?_
      rw [List.length_map]
      have hn := g.ne
      walk_at "rd"
      refine r_ixS (hS.mono e2) (at_cyc g.ne _) ?_
      walk_at "rd"
      refine r_ite (fun hc => ?_) (fun hc => ?_)
      · have := g.od (i : Int)
        rw [cyc_at hi] at this
        exact absurd this (by omega)
      · walk_at "rd"
        exact ⟨_, _, rfl, e2⟩
    · rintro σ H' ⟨y1, y2, rfl, e⟩
      exact k _ e

/-! ### width_of -/
theorem sc_width_of : FnScope ["stays", "hour", "back"] ["stays", "hour"] (defScope s_width_of) := ⟨rfl, rfl, rfl, by decide +kernel, rfl, by decide +kernel, by decide +kernel⟩

def sp_width_of (K : PySem.W.Frag) (d : Ads) : Sp := fun vs H Q _ => ∃ (a : Addr) (ns : List Int) (h : Int), vs = [.ref a, .int h] ∧ Sq K H a (ns.map V.int) ∧ 1 ≤ ns.length ∧ ns.length ≤ 48 ∧ ∀ H', Ex H H' → Q (.int (wd ns h)) H'
set_option maxHeartbeats 4000000 in
theorem ok_width_of (T : Tx K mg d) : Okf P w K mg base 1 d.f_width_of ["stays", "hour"] (sp_width_of K d) := by
  refine okf_of T.d_width_of sc_width_of (fun vs H Q E h => ?_) (fun cdv A outer s H vs Q E hr h => ?_)
  · obtain ⟨a, ns, h, rfl, hS, h1, h2, k⟩ := h
    rfl
  · obtain ⟨a, ns, h, rfl, hS, h1, h2, k⟩ := h
    refine ⟨_, (pss_one (ps_ret (pe_callB (k_len (K := K) rfl) (by rfl) T.z_len (by decide +kernel) (pa_cons (pe_lc (own := [("back", 2)]) rfl sc_width_of.nd (pi_range1 (by rfl) T.z_range (pa_cons (pe_callB (k_len (K := K) rfl) (by rfl) T.z_len (by decide +kernel) (pa_cons (pv 0) pa_nil)) pa_nil)) (blkOk_by (by kernel_rfl)) (fun _ _ _ _ _ => (pg_name (i := 2) sc_width_of.nd rfl (by first | exact Or.inl rfl | exact Or.inr rfl))) (fun _ _ _ _ _ => (pts_one (pt_cmpR op_gt (pe_ix (k_ixS (K := K) rfl) (pv 0) (pe_op op_mod (pe_op op_sub (pv 1) (pv 2)) (pe_callB (k_len (K := K) rfl) (by rfl) T.z_len (by decide +kernel) (pa_cons (pv 0) pa_nil))) (fun _ _ => rfl)) (pv 2) (nomark _)))) (fun _ _ _ _ _ => (pv 2))) pa_nil)))), ?_⟩
    walk_at "rd"
    refine r_len hS ?_
    rw [List.length_map]
    walk_at "rd"
    refine lc_filf walk_r0 (fun b => decide ((b : Int) < cyc ns (h - (b : Int)))) (fun b => .int (b : Int)) (fun _ _ => trivial) (by omega) ?_ ?_
    · rintro i x H1 H2 hi e ⟨rfl, rfl⟩ kb kk hk1 hk2
      walk_at "rd"
      refine r_len (hS.mono e) ?_
      rw [List.length_map]
      walk_at "rd"
      refine r_ixS (hS.mono e) (at_cyc h1 _) ?_
      walk_at "rd"
      refine r_ite (fun hc => ?_) (fun hc => ?_)
      · walk_at "rd"
        exact hk1 _ (decide_eq_true hc) (Ex.refl _)
      · exact hk2 _ (decide_eq_false hc) (Ex.refl _)
    · intro D H' nD e hD
      walk_at "rd"
      refine r_len (.inl (.inl (.inl hD))) ?_
      rw [List.length_map, Int.toNat_natCast]
      exact k _ e

/-! ### Clock.__init__ -/
theorem sc_Clock___init__ : FnScope ["self", "stays", "hour"] ["self", "stays"] (defScope s_Clock___init__) := ⟨rfl, rfl, rfl, by decide +kernel, rfl, by decide +kernel, by decide +kernel⟩

def sp_Clock___init__ (K : PySem.W.Frag) (d : Ads) : Sp := spClkInit K d.c_Clock
set_option maxHeartbeats 4000000 in
theorem ok_Clock___init__ (T : Tx K mg d) : Okf P w K mg base 3 d.f_Clock___init__ ["self", "stays"] (sp_Clock___init__ K d) := by
  refine okf_of T.d_Clock___init__ sc_Clock___init__ (fun vs H Q E h => ?_) (fun cdv A outer s H vs Q E hr h => ?_)
  · obtain ⟨H0, x, dx, a, s, rfl, rfl, nx, ndx, ne, hS, g, k⟩ := h
    rfl
  · obtain ⟨H0, x, dx, a, s, rfl, rfl, nx, ndx, ne, hS, g, k⟩ := h
    refine ⟨_, (pss_cons (ps_if (pt_not (pt_val (pf_call (ok_are_stays T) (hr.mono (by decide)) (by rfl) T.g_are_stays T.d_are_stays.kp (pa_cons (pv 1) pa_nil)))) (pss_one ps_never) pss_nil)
      (pss_cons (ps_expr (pf_call (ok_need_order T) (hr.mono (by decide)) (by rfl) T.g_need_order T.d_need_order.kp (pa_cons (pv 1) pa_nil)))
      (pss_cons (k_sfld (K := K) rfl (pv 0) (pe_callTy (k_tupOf (K := K) rfl) (by rfl) T.z_tuple (by decide +kernel) (pa_cons (pv 1) pa_nil)))
      (pss_one (k_sfld (K := K) rfl (pv 0) (pe_callTy (k_tupOf (K := K) rfl) (by rfl) T.z_tuple (by decide +kernel) (pa_cons (pe_lc (own := [("hour", 2)]) rfl sc_Clock___init__.nd (pi_range1 (by rfl) T.z_range (pa_cons (pe_callB (k_len (K := K) rfl) (by rfl) T.z_len (by decide +kernel) (pa_cons (pv 1) pa_nil)) pa_nil)) (blkOk_by (by kernel_rfl)) (fun _ _ _ _ _ => (pg_name (i := 2) sc_Clock___init__.nd rfl (by first | exact Or.inl rfl | exact Or.inr rfl))) (fun _ _ _ _ _ => pts_nil) (fun _ _ _ _ _ => (pf_call (ok_width_of T) (hr.mono (by decide)) (by rfl) T.g_width_of T.d_width_of.kp (pa_cons (pv 1) (pa_cons (pv 2) pa_nil))))) pa_nil))))))), ?_⟩
    have e0 : Ex H0 (upd (upd H0 dx (.own x)) x (.ins d.c_Clock dx [])) := Ex.mut (Ex.new ndx) nx
    have hn := g.ne
    have hl := g.le
    walk_at "rd"
    refine ⟨a, s, rfl, hS.mono e0, by omega, fun H1 e1 => ?_⟩
    rw [g.ok]
    walk_at "rd"
    refine iteF ?_
    walk_at "rd"
    refine ⟨a, s, rfl, hS.mono (e0.trans e1), g, fun H2 e2 => ?_⟩
    have x2 : H2 x = some (.ins d.c_Clock dx []) := e2 _ _ (e1 _ _ upd_same)
    have e02 : Ex H0 H2 := (e0.trans e1).trans e2
    walk_at "rd"
    refine r_tupOf (hS.mono e02) fun p H3 e3 hp => ?_
    walk_at "rd"
    refine ⟨x, _, dx, _, rfl, e3 _ _ x2, T.cl_Clock, T.n_Clock_kept_stays, by show 0 < 1000; decide, ?_⟩
    have e04 : Ex H0 (upd H3 x (.ins d.c_Clock dx (putF "kept_stays" (.ref p) []))) := Ex.mut (e02.trans e3) nx
    have hp4 : SqT K (upd H3 x (.ins d.c_Clock dx (putF "kept_stays" (.ref p) []))) p (s.map V.int) := tup_ins (e3 _ _ x2) hp
    walk_at "rd"
    refine r_len (hS.mono e04) ?_
    rw [List.length_map]
    walk_at "rd"
    refine lc_fun walk_r0 (fun i => .int (wd s (i : Int))) (fun _ _ => trivial) (by omega) ?_ ?_
    · rintro i y H5 H6 hi e ⟨rfl, rfl⟩ kk hk
      walk_at "rd"
      refine ⟨a, s, _, rfl, hS.mono (e04.trans e), hn, hl, fun H7 e7 => ?_⟩
      exact hk _ e7
    · intro D H5 nD e5 hD
      have x5 : H5 x = some (.ins d.c_Clock dx (putF "kept_stays" (.ref p) [])) := e5 _ _ upd_same
      walk_at "rd"
      refine r_tupOf (.inl (.inl (.inl hD))) fun q H6 e6 hq => ?_
      walk_at "rd"
      refine ⟨x, _, dx, _, rfl, e6 _ _ x5, T.cl_Clock, T.n_Clock_kept_widths, by show 1 < 1000; decide, ?_⟩
      refine k _ (Ex.mut ((e04.trans e5).trans e6) nx) ⟨x, dx, p, q, rfl, upd_same, tup_ins (e6 _ _ x5) (ex_t (e5.trans e6) hp4), tup_ins (e6 _ _ x5) ?_, g⟩
      unfold wds
      rw [List.map_map]
      rw [Int.toNat_natCast] at hq
      exact hq

/-! ### _law_clock -/
theorem sc__law_clock : FnScope ["_law_bag_here", "_law_stays_here", "_law_row", "_law_clock_here"] ["_law_bag_here", "_law_stays_here"] (defScope s__law_clock) := ⟨rfl, rfl, rfl, by decide +kernel, rfl, by decide +kernel, by decide +kernel⟩

def sp__law_clock (K : PySem.W.Frag) (d : Ads) : Sp := fun vs H Q _ => ∃ (b a : Addr) (s : List Int), vs = [.ref b, .ref a] ∧ Bag H b ∧ Sq K H a (s.map V.int) ∧ Good s ∧ ∀ u H', Ex H H' → Clk K d.c_Clock H' u s → Q u H'
set_option maxHeartbeats 4000000 in
theorem ok__law_clock (T : Tx K mg d) : Okf P w K mg base 5 d.f__law_clock ["_law_bag_here", "_law_stays_here"] (sp__law_clock K d) := by
  refine okf_of T.d__law_clock sc__law_clock (fun vs H Q E h => ?_) (fun cdv A outer s H vs Q E hr h => ?_)
  · obtain ⟨b, a, s, rfl, hB, hS, g, k⟩ := h
    rfl
  · obtain ⟨b, a, s, rfl, hB, hS, g, k⟩ := h
    refine ⟨_, (pss_cons (ps_if (pt_cmpR op_eq (pf_call (ok__law_take T) (hr.mono (by decide)) (by rfl) T.g__law_take T.d__law_take.kp (pa_cons (pv 0) (pa_cons pe_int pa_nil))) pe_int (nomark _)) (pss_one (ps_ret (pf_make (ok_Clock___init__ T) (hr.mono (by decide)) T.mk_Clock (by rfl) T.g_Clock (pa_cons (pe_callTy (k_tupOf (K := K) rfl) (by rfl) T.z_tuple (by decide +kernel) (pa_cons (pv 1) pa_nil)) pa_nil)))) pss_nil)
      (pss_cons (ps_set (i := 2) sc__law_clock.nd rfl (by first | exact Or.inl rfl | exact Or.inr rfl) (pe_callTy (k_listOf (K := K) rfl) (by rfl) T.z_list (by decide +kernel) (pa_cons (pv 1) pa_nil)))
      (pss_cons (ps_set (i := 3) sc__law_clock.nd rfl (by first | exact Or.inl rfl | exact Or.inr rfl) (pf_make (ok_Clock___init__ T) (hr.mono (by decide)) T.mk_Clock (by rfl) T.g_Clock (pa_cons (pv 2) pa_nil)))
      (pss_cons (ps_asg pe_int (pg_sub (pv 2) pe_int set_list))
      (pss_cons (ps_expr (pe_bm PySem.F.plainAttrs_list PySem.F.slot_list_append PySem.F.type_list_append mt_append (pv 2) (pa_cons pe_int pa_nil)))
      (pss_one (ps_ret (pv 3)))))))), ?_⟩
    have hne := g.ne
    have hle := g.le
    walk_at "rd"
    refine ⟨b, _, rfl, hB, by omega, by omega, fun c0 _ _ => ?_⟩
    walk_at "rd"
    refine r_ite (fun _ => ?_) (fun _ => ?_)
    · walk_at "rd"
      refine r_tupOf hS fun p H1 e1 hp => ?_
      walk_at "rd"
      exact mkClk ⟨p, s, rfl, .inr hp, g, fun u H2 e2 c => k _ H2 (e1.trans e2) c⟩
    · walk_at "rd"
      refine r_listOf hS fun l nl => ?_
      walk_at "rd"
      refine mkClk ⟨l, s, rfl, .inl (.inl (.inl upd_same)), g, fun u H2 e2 c => ?_⟩
      have hl := e2 _ _ (upd_same (H := H) (a := l) (o := .lst (s.map V.int)))
      have e02 := (Ex.new nl).trans e2
      walk_at "rd"
      have hix : ixN (s.map V.int).length (0 : Int) = some 0 := by
        rw [List.length_map]
        exact ixN_nat hne
      refine r_setL hl hix ?_
      walk_at "rd"
      refine ⟨ty_lst upd_same, ?_⟩
      walk_at "rd"
      refine ⟨l, _, _, rfl, rfl, upd_same, sz_lt (by rw [List.length_set, List.length_map]; omega), ?_⟩
      walk_at "rd"
      refine k _ _ (Ex.mut (Ex.mut e02 nl) nl) ((c.mono (Xl.set hl)).mono (Xl.set upd_same))

/-! ### _law_mixed -/
theorem sc__law_mixed : FnScope ["_law_bag_here", "_law_things", "_law_found", "_law_thing"] ["_law_bag_here", "_law_things"] (defScope s__law_mixed) := ⟨rfl, rfl, rfl, by decide +kernel, rfl, by decide +kernel, by decide +kernel⟩

def sp__law_mixed (K : PySem.W.Frag) (d : Ads) : Sp := fun vs H Q _ => ∃ (b a : Addr) (xs : List V), vs = [.ref b, .ref a] ∧ Bag H b ∧ Sq K H a xs ∧ xs.length ≤ 1000 ∧ ∀ ys : List V, ys.Perm xs → RetN ys H Q
set_option maxHeartbeats 4000000 in
theorem ok__law_mixed (T : Tx K mg d) : Okf P w K mg base 2 d.f__law_mixed ["_law_bag_here", "_law_things"] (sp__law_mixed K d) := by
  refine okf_of T.d__law_mixed sc__law_mixed (fun vs H Q E h => ?_) (fun cdv A outer s H vs Q E hr h => ?_)
  · obtain ⟨b, a, xs, rfl, hB, hS, hl, k⟩ := h
    rfl
  · obtain ⟨b, a, xs, rfl, hB, hS, hl, k⟩ := h
    refine ⟨_, (pss_cons (ps_set (i := 2) sc__law_mixed.nd rfl (by first | exact Or.inl rfl | exact Or.inr rfl) (pe_lst pa_nil))
      (pss_cons (ps_for PassesOwn.never rfl (k_piS (K := K) rfl (pv 1)) (pg_name (i := 3) sc__law_mixed.nd rfl (by first | exact Or.inl rfl | exact Or.inr rfl)) (pss_one (ps_expr (pe_bm PySem.F.plainAttrs_list PySem.F.slot_list_insert PySem.F.type_list_insert k_insert (pv 2) (pa_cons (pf_call (ok__law_take T) (hr.mono (by decide)) (by rfl) T.g__law_take T.d__law_take.kp (pa_cons (pv 0) (pa_cons (pe_op op_add (pe_callB (k_len (K := K) rfl) (by rfl) T.z_len (by decide +kernel) (pa_cons (pv 2) pa_nil)) pe_int) pa_nil))) (pa_cons (pv 3) pa_nil))))))
      (pss_one (ps_ret (pv 2))))), ?_⟩
    walk_at "rd"
    refine ⟨szc rfl, fun p np => ?_⟩
    walk_at "rd"
    have e0 : Ex H (upd H p (.lst [])) := Ex.new np
    refine ⟨a, _, _, rfl, hS, e0, fun J ⟨G, wk, hG⟩ => for_w wk (fun i σ H' => ∃ y3 ys, σ = [some (.ref b), some (.ref a), some (.ref p), y3] ∧ Ex H H' ∧ H' p = some (.lst ys) ∧ ys.Perm (xs.take i)) ⟨none, [], rfl, e0, upd_same, by rw [List.take_zero]⟩ (fun i σ H' _ ⟨_, _, _, e, _⟩ => hG _ e) ?_ ?_⟩
    · rintro i x σ H1 H2 hi ⟨y3, ys, rfl, e, hp, pm⟩ ⟨rfl, hx⟩
      have yl : ys.length ≤ 1000 := by
        have := pm.length_eq
        rw [List.length_take] at this
        omega
      walk_at "rd"
      refine ⟨ty_lst hp, ?_⟩
      walk_at "rd"
      refine r_len (.inl (.inl (.inl hp))) ?_
      walk_at "rd"
      refine ⟨b, _, rfl, hB.mono (.of e), by omega, by omega, fun n n0 n1 => ?_⟩
      walk_at "rd"
      refine ⟨p, ys, n, x, rfl, rfl, hp, sz_lt (by omega), n0, by omega, ?_⟩
      refine ⟨_, _, rfl, Ex.mut e np, upd_same, ?_⟩
      rw [List.take_succ, hx]
      have e1 : (ys.take n.toNat ++ [x] ++ ys.drop n.toNat).Perm (x :: ys) := by
        rw [List.append_assoc]
        refine List.perm_middle.trans ?_
        show (x :: (ys.take n.toNat ++ ys.drop n.toNat)).Perm (x :: ys)
        rw [List.take_append_drop]
      exact e1.trans ((List.Perm.cons x pm).trans (List.perm_append_singleton x _).symm)
    · rintro σ H' ⟨y3, ys, rfl, e, hp, pm⟩
      walk_at "rd"
      rw [List.take_length] at pm
      exact k ys pm p H' np e hp

/-! ### Clock.mirrored -/
theorem sc_Clock_mirrored : FnScope ["self"] ["self"] (defScope s_Clock_mirrored) := ⟨rfl, rfl, rfl, by decide +kernel, rfl, by decide +kernel, by decide +kernel⟩

def sp_Clock_mirrored (K : PySem.W.Frag) (d : Ads) : Sp := fun vs H Q _ => ∃ (v : V) (s : List Int), vs = [v] ∧ Clk K d.c_Clock H v s ∧ ∀ u H', Ex H H' → Clk K d.c_Clock H' u (mirS s) → Q u H'
set_option maxHeartbeats 4000000 in
theorem ok_Clock_mirrored (T : Tx K mg d) : Okf P w K mg base 5 d.f_Clock_mirrored ["self"] (sp_Clock_mirrored K d) := by
  refine okf_of T.d_Clock_mirrored sc_Clock_mirrored (fun vs H Q E h => ?_) (fun cdv A outer s H vs Q E hr h => ?_)
  · obtain ⟨v, s, rfl, hC, k⟩ := h
    rfl
  · obtain ⟨v, s, rfl, hC, k⟩ := h
    refine ⟨_, (pss_one (ps_ret (pf_make (ok_Clock___init__ T) (hr.mono (by decide)) T.mk_Clock (by rfl) T.g_Clock (pa_cons (k_revT (K := K) rfl (k_fld (K := K) rfl (pv 0))) pa_nil)))), ?_⟩
    have g := hC.good
    obtain ⟨p, dx, a, b', rfl, hp, ha, hb, _⟩ := id hC
    walk_at "rd"
    refine ⟨p, _, dx, _, _, rfl, hp, T.cl_Clock, T.n_Clock_kept_widths, clkF_widths _ _, ?_⟩
    walk_at "rd"
    refine ⟨_, _, rfl, hb, fun t nt => ?_⟩
    walk_at "rd"
    refine mkClk ⟨t, mirS s, rfl, .inr (.inl (.inl ?_)), g.mir, fun u H2 e2 c => k _ H2 ((Ex.new nt).trans e2) c⟩
    rw [upd_same]
    unfold mirS
    rw [List.map_reverse]

/-! ### Clock.hours -/
theorem sc_Clock_hours : FnScope ["self"] ["self"] (defScope s_Clock_hours) := ⟨rfl, rfl, rfl, by decide +kernel, rfl, by decide +kernel, by decide +kernel⟩

def sp_Clock_hours (K : PySem.W.Frag) (d : Ads) : Sp := fun vs H Q _ => ∃ (v : V) (s : List Int), vs = [v] ∧ Clk K d.c_Clock H v s ∧ Q (.int (s.length : Int)) H
set_option maxHeartbeats 4000000 in
theorem ok_Clock_hours (T : Tx K mg d) : Okf P w K mg base 1 d.f_Clock_hours ["self"] (sp_Clock_hours K d) := by
  refine okf_of T.d_Clock_hours sc_Clock_hours (fun vs H Q E h => ?_) (fun cdv A outer s H vs Q E hr h => ?_)
  · obtain ⟨v, s, rfl, ⟨p, dx, a, b, rfl, hp, ha, hb, g⟩, k⟩ := h
    rfl
  · obtain ⟨v, s, rfl, ⟨p, dx, a, b, rfl, hp, ha, hb, g⟩, k⟩ := h
    refine ⟨_, (pss_one (ps_ret (pe_callB (k_len (K := K) rfl) (by rfl) T.z_len (by decide +kernel) (pa_cons (k_fld (K := K) rfl (pv 0)) pa_nil)))), ?_⟩
    walk_at "rd"
    refine ⟨p, _, dx, _, _, rfl, hp, T.cl_Clock, T.n_Clock_kept_stays, clkF_stays _ _, ?_⟩
    walk_at "rd"
    refine r_len (.inr ha) ?_
    rw [List.length_map]
    exact k

/-! ### Clock.turned -/
theorem sc_Clock_turned : FnScope ["self", "by", "hour"] ["self", "by"] (defScope s_Clock_turned) := ⟨rfl, rfl, rfl, by decide +kernel, rfl, by decide +kernel, by decide +kernel⟩

def sp_Clock_turned (K : PySem.W.Frag) (d : Ads) : Sp := fun vs H Q _ => ∃ (v : V) (s : List Int) (b : Int), vs = [v, .int b] ∧ Clk K d.c_Clock H v s ∧ ∀ u H', Ex H H' → Clk K d.c_Clock H' u (turnS s b) → Q u H'
set_option maxHeartbeats 4000000 in
theorem ok_Clock_turned (T : Tx K mg d) : Okf P w K mg base 5 d.f_Clock_turned ["self", "by"] (sp_Clock_turned K d) := by
  refine okf_of T.d_Clock_turned sc_Clock_turned (fun vs H Q E h => ?_) (fun cdv A outer s H vs Q E hr h => ?_)
  · obtain ⟨v, s, b, rfl, hC, k⟩ := h
    rfl
  · obtain ⟨v, s, b, rfl, hC, k⟩ := h
    refine ⟨_, (pss_one (ps_ret (pf_make (ok_Clock___init__ T) (hr.mono (by decide)) T.mk_Clock (by rfl) T.g_Clock (pa_cons (pe_lc (own := [("hour", 2)]) rfl sc_Clock_turned.nd (pi_range1 (by rfl) T.z_range (pa_cons (pf_prop (ok_Clock_hours T) (hr.mono (by decide)) T.cl_Clock T.p_Clock_hours (pv 0)) pa_nil)) (blkOk_by (by kernel_rfl)) (fun _ _ _ _ _ => (pg_name (i := 2) sc_Clock_turned.nd rfl (by first | exact Or.inl rfl | exact Or.inr rfl))) (fun _ _ _ _ _ => pts_nil) (fun _ _ _ _ _ => (pe_ix (k_ixT (K := K) rfl) (k_fld (K := K) rfl (pv 0)) (pe_op op_mod (pe_op op_add (pv 2) (pv 1)) (pf_prop (ok_Clock_hours T) (hr.mono (by decide)) T.cl_Clock T.p_Clock_hours (pv 0))) (fun _ _ => rfl)))) pa_nil)))), ?_⟩
    have g := hC.good
    obtain ⟨p, dx, a, b', rfl, hp, ha, hb, _⟩ := id hC
    have hne := g.ne
    have hle := g.le
    walk_at "rd"
    refine ⟨p, dx, _, rfl, hp, ?_⟩
    refine ⟨_, s, rfl, hC, ?_⟩
    walk_at "rd"
    refine lc_fun walk_r0 (fun i => .int (cyc s ((i : Int) + b))) (fun _ _ => trivial) (by omega) ?_ ?_
    · rintro i x H1 H2 hi e ⟨rfl, rfl⟩ kk hk
      walk_at "rd"
      refine ⟨p, _, dx, _, _, rfl, e _ _ hp, T.cl_Clock, T.n_Clock_kept_stays, clkF_stays _ _, ?_⟩
      walk_at "rd"
      refine ⟨p, dx, _, rfl, e _ _ hp, ?_⟩
      refine ⟨_, s, rfl, hC.ex e, ?_⟩
      walk_at "rd"
      refine r_ixT (tup_mono (.of e) ha) (at_cyc hne _) ?_
      exact hk _ (Ex.refl _)
    · intro D H' nD e hD
      walk_at "rd"
      refine mkClk ⟨D, turnS s b, rfl, .inl (.inl (.inl ?_)), g.turn b, fun u H2 e2 c => k _ H2 (e.trans e2) c⟩
      rw [hD]
      unfold turnS rowOf
      rw [List.map_map, Int.toNat_natCast]
      rfl

/-! ### _law_far -/
theorem sc__law_far : FnScope ["_law_bag_here", "_law_great"] ["_law_bag_here"] (defScope s__law_far) := ⟨rfl, rfl, rfl, by decide +kernel, rfl, by decide +kernel, by decide +kernel⟩

def sp__law_far (K : PySem.W.Frag) (d : Ads) : Sp := fun vs H Q _ => ∃ (b : Addr), vs = [.ref b] ∧ Bag H b ∧ ∀ n H', Ex H H' → Q (.int n) H'
set_option maxHeartbeats 4000000 in
theorem ok__law_far (T : Tx K mg d) : Okf P w K mg base 2 d.f__law_far ["_law_bag_here"] (sp__law_far K d) := by
  refine okf_of T.d__law_far sc__law_far (fun vs H Q E h => ?_) (fun cdv A outer s H vs Q E hr h => ?_)
  · obtain ⟨b, rfl, hB, k⟩ := h
    rfl
  · obtain ⟨b, rfl, hB, k⟩ := h
    refine ⟨_, (pss_cons (ps_set (i := 1) sc__law_far.nd rfl (by first | exact Or.inl rfl | exact Or.inr rfl) (pe_callTy k_intS (by rfl) T.z_int (by decide +kernel) (pa_cons (pe_op k_addS pe_str (pe_op op_strmul pe_str (pf_call (ok__law_take T) (hr.mono (by decide)) (by rfl) T.g__law_take T.d__law_take.kp (pa_cons (pv 0) (pa_cons pe_int pa_nil))))) pa_nil)))
      (pss_one (ps_ret (pe_op op_add (pe_ix (k_ixL (K := K) rfl) (pe_lst (pa_cons (pe_op op_sub (pf_call (ok__law_take T) (hr.mono (by decide)) (by rfl) T.g__law_take T.d__law_take.kp (pa_cons (pv 0) (pa_cons pe_int pa_nil))) pe_int) (pa_cons (pe_op op_add (pv 1) (pf_call (ok__law_take T) (hr.mono (by decide)) (by rfl) T.g__law_take T.d__law_take.kp (pa_cons (pv 0) (pa_cons pe_int pa_nil)))) (pa_cons (pe_op op_sub pe_int (pv 1)) pa_nil)))) (pf_call (ok__law_take T) (hr.mono (by decide)) (by rfl) T.g__law_take T.d__law_take.kp (pa_cons (pv 0) (pa_cons pe_int pa_nil))) (fun _ _ => rfl)) (pf_call (ok__law_take T) (hr.mono (by decide)) (by rfl) T.g__law_take T.d__law_take.kp (pa_cons (pv 0) (pa_cons pe_int pa_nil))))))), ?_⟩
    walk_at "rd"
    refine ⟨b, _, rfl, hB, by omega, by omega, fun c c0 c1 => ?_⟩
    walk_at "rd"
    refine ⟨_, _, rfl, rfl, c0, by omega, by decide, ?_⟩
    have ht := ten_text ⟨c.toNat, by omega⟩
    rw [Bool.and_eq_true] at ht
    have ec : ((c.toNat : Nat) : Int) = c := by omega
    have ht1 := ht.1
    have ht2 := of_decide_eq_true ht.2
    rw [ec] at ht1 ht2
    obtain ⟨t, ht3⟩ := Option.isSome_iff_exists.mp ht1
    refine ⟨_, _, rfl, rfl, ?_, ?_⟩
    · have : (640 : Nat) ≤ sizeLine := by decide
      rw [Str.length_append] at ht2
      omega
    refine ⟨_, t, rfl, ht3, ht2, ?_⟩
    walk_at "rd"
    refine ⟨b, _, rfl, hB, by omega, by omega, fun c2 _ _ => ?_⟩
    walk_at "rd"
    refine ⟨b, _, rfl, hB, by omega, by omega, fun c3 _ _ => ?_⟩
    walk_at "rd"
    refine ⟨szc rfl, fun p np => ?_⟩
    have e1 : Ex H (upd H p (.lst [.int (c2 - 30), .int (t + c3), .int (0 - t)])) := Ex.new np
    walk_at "rd"
    refine ⟨b, _, rfl, hB.mono (.of e1), by omega, by omega, fun c4 c40 c41 => ?_⟩
    refine r_ixL (v := .int ([c2 - 30, t + c3, 0 - t].getD c4.toNat 0)) (SqL.of upd_same) (at_int (ns := [c2 - 30, t + c3, 0 - t]) c40 c41) ?_
    walk_at "rd"
    refine ⟨b, _, rfl, hB.mono (.of e1), by omega, by omega, fun c5 _ _ => ?_⟩
    walk_at "rd"
    exact k _ _ e1

/-! ### is_hour -/
theorem sc_is_hour : FnScope ["hours", "thing"] ["hours", "thing"] (defScope s_is_hour) := ⟨rfl, rfl, rfl, by decide +kernel, rfl, by decide +kernel, by decide +kernel⟩

def sp_is_hour (K : PySem.W.Frag) (d : Ads) : Sp := fun vs H Q _ => ∃ n i : Int, vs = [.int n, .int i] ∧ Q (.bl (decide (0 ≤ i) && decide (i < n))) H
set_option maxHeartbeats 4000000 in
theorem ok_is_hour (T : Tx K mg d) : Okf P w K mg base 2 d.f_is_hour ["hours", "thing"] (sp_is_hour K d) := by
  refine okf_of T.d_is_hour sc_is_hour (fun vs H Q E h => ?_) (fun cdv A outer s H vs Q E hr h => ?_)
  · obtain ⟨n, i, rfl, k⟩ := h
    rfl
  · obtain ⟨n, i, rfl, k⟩ := h
    refine ⟨_, (pss_one (ps_ret (pe_and (pf_call (ok_is_integer T) (hr.mono (by decide)) (by rfl) T.g_is_integer T.d_is_integer.kp (pa_cons (pv 1) pa_nil)) (pe_one (pe_chain op_le op_lt pe_int (pv 1) (pv 0)))))), ?_⟩
    walk_at "rd"
    refine ⟨i, rfl, ?_⟩
    walk_at "rd"
    refine iteT ?_
    walk_at "rd"
    cases h0 : decide (0 ≤ i) with
    | true =>
      refine iteT ?_
      walk_at "rd"
      rw [h0] at k
      exact k
    | false =>
      refine iteF ?_
      rw [h0] at k
      exact k

/-! ### Clock.serving -/
theorem sc_Clock_serving : FnScope ["self", "hour", "width", "later"] ["self", "hour"] (defScope s_Clock_serving) := ⟨rfl, rfl, rfl, by decide +kernel, rfl, by decide +kernel, by decide +kernel⟩

def sp_Clock_serving (K : PySem.W.Frag) (d : Ads) : Sp := fun vs H Q _ => ∃ (v : V) (s : List Int) (h : Int), vs = [v, .int h] ∧ Clk K d.c_Clock H v s ∧ 0 ≤ h ∧ h < (s.length : Int) ∧ RetN ((servingOf s h).map V.int) H Q
set_option maxHeartbeats 4000000 in
theorem ok_Clock_serving (T : Tx K mg d) : Okf P w K mg base 3 d.f_Clock_serving ["self", "hour"] (sp_Clock_serving K d) := by
  refine okf_of T.d_Clock_serving sc_Clock_serving (fun vs H Q E h => ?_) (fun cdv A outer s H vs Q E hr h => ?_)
  · obtain ⟨v, s, h, rfl, hC, h0, h1, k⟩ := h
    rfl
  · obtain ⟨v, s, h, rfl, hC, h0, h1, k⟩ := h
    refine ⟨_, (pss_cons (ps_if (pt_not (pt_val (pf_call (ok_is_hour T) (hr.mono (by decide)) (by rfl) T.g_is_hour T.d_is_hour.kp (pa_cons (pf_prop (ok_Clock_hours T) (hr.mono (by decide)) T.cl_Clock T.p_Clock_hours (pv 0)) (pa_cons (pv 1) pa_nil))))) (pss_one ps_never) pss_nil)
      (pss_cons (ps_set (i := 2) sc_Clock_serving.nd rfl (by first | exact Or.inl rfl | exact Or.inr rfl) (pe_ix (k_ixT (K := K) rfl) (k_fld (K := K) rfl (pv 0)) (pv 1) (fun _ _ => rfl)))
      (pss_one (ps_ret (pe_lc (own := [("later", 3)]) rfl sc_Clock_serving.nd (pi_range1 (by rfl) T.z_range (pa_cons (pv 2) pa_nil)) (blkOk_by (by kernel_rfl)) (fun _ _ _ _ _ => (pg_name (i := 3) sc_Clock_serving.nd rfl (by first | exact Or.inl rfl | exact Or.inr rfl))) (fun _ _ _ _ _ => pts_nil) (fun _ _ _ _ _ => (pe_op op_mod (pe_op op_add (pe_op op_add (pe_op op_sub (pv 1) (pv 2)) pe_int) (pv 3)) (pf_prop (ok_Clock_hours T) (hr.mono (by decide)) T.cl_Clock T.p_Clock_hours (pv 0))))))))), ?_⟩
    obtain ⟨p, dx, a, b, rfl, hp, ha, hb, g⟩ := id hC
    have hle := g.le
    have hne := g.ne
    have hw0 := wd_nn (s := s) h
    have hw1 := wd_le (s := s) h
    walk_at "rd"
    refine ⟨p, dx, _, rfl, hp, ?_⟩
    refine ⟨_, s, rfl, hC, ?_⟩
    walk_at "rd"
    refine ⟨_, _, rfl, ?_⟩
    rw [decide_eq_true h0, decide_eq_true h1]
    walk_at "rd"
    refine iteF ?_
    walk_at "rd"
    refine ⟨p, _, dx, _, _, rfl, hp, T.cl_Clock, T.n_Clock_kept_widths, clkF_widths _ _, ?_⟩
    walk_at "rd"
    refine r_ixT hb (v := .int (wd s h)) ?_ ?_
    · have := at_cyc (ns := wds s) (by rw [wds_length]; exact hne) h
      rw [wds_length, Int.emod_eq_of_lt h0 h1, cyc_wds hne] at this
      exact this
    walk_at "rd"
    refine lc_fun walk_r0 (fun k => .int ((h - wd s h + 1 + (k : Int)) % (s.length : Int))) (fun _ _ => trivial) (by omega) ?_ ?_
    · rintro i x H1 H2 hi e ⟨rfl, rfl⟩ kk hk
      walk_at "rd"
      refine ⟨p, dx, _, rfl, e _ _ hp, ?_⟩
      refine ⟨_, s, rfl, hC.ex e, ?_⟩
      walk_at "rd"
      exact hk _ (Ex.refl _)
    · intro D H' nD e hD
      refine k D H' nD e ?_
      rw [hD]
      unfold servingOf
      rw [List.map_map]
      rfl

/-! ### Clock.__getitem__ -/
theorem sc_Clock___getitem__ : FnScope ["self", "hour"] ["self", "hour"] (defScope s_Clock___getitem__) := ⟨rfl, rfl, rfl, by decide +kernel, rfl, by decide +kernel, by decide +kernel⟩

def sp_Clock___getitem__ (K : PySem.W.Frag) (d : Ads) : Sp := fun vs H Q _ => ∃ (v : V) (s : List Int) (h : Int), vs = [v, .int h] ∧ Clk K d.c_Clock H v s ∧ 0 ≤ h ∧ h < (s.length : Int) ∧ Q (.int (cyc s h)) H
set_option maxHeartbeats 4000000 in
theorem ok_Clock___getitem__ (T : Tx K mg d) : Okf P w K mg base 3 d.f_Clock___getitem__ ["self", "hour"] (sp_Clock___getitem__ K d) := by
  refine okf_of T.d_Clock___getitem__ sc_Clock___getitem__ (fun vs H Q E h => ?_) (fun cdv A outer s H vs Q E hr h => ?_)
  · obtain ⟨v, s, h, rfl, ⟨p, dx, a, b, rfl, hp, ha, hb, g⟩, h0, h1, k⟩ := h
    rfl
  · obtain ⟨v, s, h, rfl, ⟨p, dx, a, b, rfl, hp, ha, hb, g⟩, h0, h1, k⟩ := h
    refine ⟨_, (pss_cons (ps_if (pt_not (pt_val (pf_call (ok_is_hour T) (hr.mono (by decide)) (by rfl) T.g_is_hour T.d_is_hour.kp (pa_cons (pe_callB (k_len (K := K) rfl) (by rfl) T.z_len (by decide +kernel) (pa_cons (k_fld (K := K) rfl (pv 0)) pa_nil)) (pa_cons (pv 1) pa_nil))))) (pss_one ps_never) pss_nil)
      (pss_one (ps_ret (pe_ix (k_ixT (K := K) rfl) (k_fld (K := K) rfl (pv 0)) (pv 1) (fun _ _ => rfl))))), ?_⟩
    walk_at "rd"
    refine ⟨p, _, dx, _, _, rfl, hp, T.cl_Clock, T.n_Clock_kept_stays, clkF_stays _ _, ?_⟩
    walk_at "rd"
    refine r_len (.inr ha) ?_
    rw [List.length_map]
    walk_at "rd"
    refine ⟨_, _, rfl, ?_⟩
    rw [decide_eq_true h0, decide_eq_true h1]
    walk_at "rd"
    refine iteF ?_
    walk_at "rd"
    refine ⟨p, _, dx, _, _, rfl, hp, T.cl_Clock, T.n_Clock_kept_stays, clkF_stays _ _, ?_⟩
    walk_at "rd"
    refine r_ixT ha ?_ k
    have := at_cyc g.ne h
    rw [Int.emod_eq_of_lt h0 h1] at this
    exact this

/-! ### Clock.served -/
theorem sc_Clock_served : FnScope ["self", "hour", "stay", "later"] ["self", "hour"] (defScope s_Clock_served) := ⟨rfl, rfl, rfl, by decide +kernel, rfl, by decide +kernel, by decide +kernel⟩

def sp_Clock_served (K : PySem.W.Frag) (d : Ads) : Sp := fun vs H Q _ => ∃ (v : V) (s : List Int) (h : Int), vs = [v, .int h] ∧ Clk K d.c_Clock H v s ∧ 0 ≤ h ∧ h < (s.length : Int) ∧ RetN ((servedOf s h).map V.int) H Q
set_option maxHeartbeats 4000000 in
theorem ok_Clock_served (T : Tx K mg d) : Okf P w K mg base 5 d.f_Clock_served ["self", "hour"] (sp_Clock_served K d) := by
  refine okf_of T.d_Clock_served sc_Clock_served (fun vs H Q E h => ?_) (fun cdv A outer s H vs Q E hr h => ?_)
  · obtain ⟨v, s, h, rfl, hC, h0, h1, k⟩ := h
    rfl
  · obtain ⟨v, s, h, rfl, hC, h0, h1, k⟩ := h
    refine ⟨_, (pss_cons (ps_set (i := 2) sc_Clock_served.nd rfl (by first | exact Or.inl rfl | exact Or.inr rfl) (pe_ixB (ok_Clock___getitem__ T) (hr.mono (by decide)) T.m_Clock___getitem__.at_ T.fi_Clock___getitem__ T.m_Clock___getitem__.fn (pv 0) (pv 1)))
      (pss_one (ps_ret (pe_lc (own := [("later", 3)]) rfl sc_Clock_served.nd (pi_range1 (by rfl) T.z_range (pa_cons (pv 2) pa_nil)) (blkOk_by (by kernel_rfl)) (fun _ _ _ _ _ => (pg_name (i := 3) sc_Clock_served.nd rfl (by first | exact Or.inl rfl | exact Or.inr rfl))) (fun _ _ _ _ _ => pts_nil) (fun _ _ _ _ _ => (pe_op op_mod (pe_op op_add (pv 1) (pv 3)) (pf_prop (ok_Clock_hours T) (hr.mono (by decide)) T.cl_Clock T.p_Clock_hours (pv 0)))))))), ?_⟩
    obtain ⟨p, dx, a, b, rfl, hp, ha, hb, g⟩ := id hC
    have hlo := g.lo h
    have hhi := g.hi h
    have hle := g.le
    have hne := g.ne
    walk_at "rd"
    refine ⟨p, dx, _, rfl, hp, ?_⟩
    refine ⟨_, s, h, rfl, hC, h0, h1, ?_⟩
    walk_at "rd"
    refine lc_fun walk_r0 (fun k => .int ((h + (k : Int)) % (s.length : Int))) (fun _ _ => trivial) (by omega) ?_ ?_
    · rintro i x H1 H2 hi e ⟨rfl, rfl⟩ kk hk
      walk_at "rd"
      refine ⟨p, dx, _, rfl, e _ _ hp, ?_⟩
      refine ⟨_, s, rfl, hC.ex e, ?_⟩
      walk_at "rd"
      exact hk _ (Ex.refl _)
    · intro D H' nD e hD
      refine k D H' nD e ?_
      rw [hD]
      unfold servedOf
      rw [List.map_map]
      rfl

/-! ### Clock.widths -/
theorem sc_Clock_widths : FnScope ["self"] ["self"] (defScope s_Clock_widths) := ⟨rfl, rfl, rfl, by decide +kernel, rfl, by decide +kernel, by decide +kernel⟩

def sp_Clock_widths (K : PySem.W.Frag) (d : Ads) : Sp := fun vs H Q _ => ∃ (v : V) (s : List Int), vs = [v] ∧ Clk K d.c_Clock H v s ∧ RetN ((wds s).map V.int) H Q
set_option maxHeartbeats 4000000 in
theorem ok_Clock_widths (T : Tx K mg d) : Okf P w K mg base 1 d.f_Clock_widths ["self"] (sp_Clock_widths K d) := by
  refine okf_of T.d_Clock_widths sc_Clock_widths (fun vs H Q E h => ?_) (fun cdv A outer s H vs Q E hr h => ?_)
  · obtain ⟨v, s, rfl, ⟨p, dx, a, b, rfl, hp, ha, hb, g⟩, k⟩ := h
    rfl
  · obtain ⟨v, s, rfl, ⟨p, dx, a, b, rfl, hp, ha, hb, g⟩, k⟩ := h
    refine ⟨_, (pss_one (ps_ret (pe_callTy (k_listOf (K := K) rfl) (by rfl) T.z_list (by decide +kernel) (pa_cons (k_fld (K := K) rfl (pv 0)) pa_nil)))), ?_⟩
    walk_at "rd"
    refine ⟨p, _, dx, _, _, rfl, hp, T.cl_Clock, T.n_Clock_kept_widths, clkF_widths _ _, ?_⟩
    walk_at "rd"
    refine r_listOf (.inr hb) fun l nl => ?_
    exact k l _ nl (Ex.new nl) upd_same

/-! ### Clock.stays -/
theorem sc_Clock_stays : FnScope ["self"] ["self"] (defScope s_Clock_stays) := ⟨rfl, rfl, rfl, by decide +kernel, rfl, by decide +kernel, by decide +kernel⟩

def sp_Clock_stays (K : PySem.W.Frag) (d : Ads) : Sp := fun vs H Q _ => ∃ (v : V) (s : List Int), vs = [v] ∧ Clk K d.c_Clock H v s ∧ RetN (s.map V.int) H Q
set_option maxHeartbeats 4000000 in
theorem ok_Clock_stays (T : Tx K mg d) : Okf P w K mg base 1 d.f_Clock_stays ["self"] (sp_Clock_stays K d) := by
  refine okf_of T.d_Clock_stays sc_Clock_stays (fun vs H Q E h => ?_) (fun cdv A outer s H vs Q E hr h => ?_)
  · obtain ⟨v, s, rfl, ⟨p, dx, a, b, rfl, hp, ha, hb, g⟩, k⟩ := h
    rfl
  · obtain ⟨v, s, rfl, ⟨p, dx, a, b, rfl, hp, ha, hb, g⟩, k⟩ := h
    refine ⟨_, (pss_one (ps_ret (pe_callTy (k_listOf (K := K) rfl) (by rfl) T.z_list (by decide +kernel) (pa_cons (k_fld (K := K) rfl (pv 0)) pa_nil)))), ?_⟩
    walk_at "rd"
    refine ⟨p, _, dx, _, _, rfl, hp, T.cl_Clock, T.n_Clock_kept_stays, clkF_stays _ _, ?_⟩
    walk_at "rd"
    refine r_listOf (.inr ha) fun l nl => ?_
    exact k l _ nl (Ex.new nl) upd_same

/-! ### _law_rows_right -/
theorem sc__law_rows_right : FnScope ["_law_clock_here", "_law_many", "_law_hour", "_law_hours_of", "_law_holders", "_law_k", "_law_later"] ["_law_clock_here", "_law_many"] (defScope s__law_rows_right) := ⟨rfl, rfl, rfl, by decide +kernel, rfl, by decide +kernel, by decide +kernel⟩

def sp__law_rows_right (K : PySem.W.Frag) (d : Ads) : Sp := fun vs H Q _ => ∃ (v : V) (s : List Int), vs = [v, .int (s.length : Int)] ∧ Clk K d.c_Clock H v s ∧ ∀ H', Ex H H' → Q (.bl true) H'
set_option maxHeartbeats 4000000 in
theorem ok__law_rows_right (T : Tx K mg d) : Okf P w K mg base 6 d.f__law_rows_right ["_law_clock_here", "_law_many"] (sp__law_rows_right K d) := by
  refine okf_of T.d__law_rows_right sc__law_rows_right (fun vs H Q E h => ?_) (fun cdv A outer s H vs Q E hr h => ?_)
  · obtain ⟨v, s, rfl, hC, k⟩ := h
    rfl
  · obtain ⟨v, s, rfl, hC, k⟩ := h
    refine ⟨_, (pss_cons (ps_for PassesOwn.never rfl (pi_range1 (by rfl) T.z_range (pa_cons (pv 1) pa_nil)) (pg_name (i := 2) sc__law_rows_right.nd rfl (by first | exact Or.inl rfl | exact Or.inr rfl)) (pss_cons (ps_par (i := 3) (j := 4) (by rfl) sc__law_rows_right.nd rfl rfl (by decide) rfl rfl (pa_cons (pf_meth (ok_Clock_served T) (hr.mono (by decide)) T.cl_Clock T.m_Clock_served (pv 0) (pa_cons (pv 2) pa_nil)) (pa_cons (pf_meth (ok_Clock_serving T) (hr.mono (by decide)) T.cl_Clock T.m_Clock_serving (pv 0) (pa_cons (pv 2) pa_nil)) pa_nil)) (by rfl))
      (pss_cons (ps_if (pt_cmpR (k_neD (K := K) rfl hr.units) (pv 3) (pe_lc (own := [("_law_k", 5)]) rfl sc__law_rows_right.nd (pi_range1 (by rfl) T.z_range (pa_cons (pe_ixB (ok_Clock___getitem__ T) (hr.mono (by decide)) T.m_Clock___getitem__.at_ T.fi_Clock___getitem__ T.m_Clock___getitem__.fn (pv 0) (pv 2)) pa_nil)) (blkOk_by (by kernel_rfl)) (fun _ _ _ _ _ => (pg_name (i := 5) sc__law_rows_right.nd rfl (by first | exact Or.inl rfl | exact Or.inr rfl))) (fun _ _ _ _ _ => pts_nil) (fun _ _ _ _ _ => (pe_op op_mod (pe_callTy k_int1 (by rfl) T.z_int (by decide +kernel) (pa_cons (pe_op op_add (pv 2) (pv 5)) pa_nil)) (pv 1)))) (nomark _)) (pss_one (ps_ret pe_bl)) pss_nil)
      (pss_cons (ps_if (pt_cmpR (k_neD (K := K) rfl hr.units) (pv 4) (k_revL (K := K) rfl (pe_lc (own := [("_law_k", 5)]) rfl sc__law_rows_right.nd (pi_range1 (by rfl) T.z_range (pa_cons (pe_ix (k_ixL (K := K) rfl) (pf_meth0 (ok_Clock_widths T) (hr.mono (by decide)) T.cl_Clock T.m_Clock_widths (pv 0)) (pv 2) (fun _ _ => rfl)) pa_nil)) (blkOk_by (by kernel_rfl)) (fun _ _ _ _ _ => (pg_name (i := 5) sc__law_rows_right.nd rfl (by first | exact Or.inl rfl | exact Or.inr rfl))) (fun _ _ _ _ _ => pts_nil) (fun _ _ _ _ _ => (pe_op op_mod (pe_callTy k_int1 (by rfl) T.z_int (by decide +kernel) (pa_cons (pe_op op_sub (pv 2) (pv 5)) pa_nil)) (pv 1))))) (nomark _)) (pss_one (ps_ret pe_bl)) pss_nil)
      (pss_cons (ps_set (i := 6) sc__law_rows_right.nd rfl (by first | exact Or.inl rfl | exact Or.inr rfl) (pe_op op_mod (pe_callTy k_int1 (by rfl) T.z_int (by decide +kernel) (pa_cons (pe_op op_add (pv 2) pe_int) pa_nil)) (pv 1)))
      (pss_one (ps_if (PW.pt (pw_or (pt_cmpR op_gt (pe_ix (k_ixL (K := K) rfl) (pf_meth0 (ok_Clock_stays T) (hr.mono (by decide)) T.cl_Clock T.m_Clock_stays (pv 0)) (pv 2) (fun _ _ => rfl)) (pe_op op_add pe_int (pe_ix (k_ixL (K := K) rfl) (pf_meth0 (ok_Clock_stays T) (hr.mono (by decide)) T.cl_Clock T.m_Clock_stays (pv 0)) (pv 6) (fun _ _ => rfl))) (nomark _)) (pw_or1 (pt_cmpR op_gt (pe_ix (k_ixL (K := K) rfl) (pf_meth0 (ok_Clock_widths T) (hr.mono (by decide)) T.cl_Clock T.m_Clock_widths (pv 0)) (pv 6) (fun _ _ => rfl)) (pe_op op_add pe_int (pe_ix (k_ixL (K := K) rfl) (pf_meth0 (ok_Clock_widths T) (hr.mono (by decide)) T.cl_Clock T.m_Clock_widths (pv 0)) (pv 2) (fun _ _ => rfl))) (nomark _))))) (pss_one (ps_ret pe_bl)) pss_nil)))))))
      (pss_one (ps_ret pe_bl))), ?_⟩
    have g := hC.good
    have hne := g.ne
    have hle := g.le
    walk_at "rd"
    refine for_w walk_r0 (fun i σ H' => (∃ y2 y3 y4 y5 y6, σ = [some v, some (.int (s.length : Int)), y2, y3, y4, y5, y6]) ∧ Ex H H') ⟨⟨_, _, _, _, _, rfl⟩, Ex.refl H⟩ (fun _ _ _ _ _ => trivial) ?_ ?_
    · rintro i x σ H1 H2 hi ⟨⟨y2, y3, y4, y5, y6, rfl⟩, e⟩ ⟨rfl, rfl⟩
      rw [Int.toNat_natCast] at hi
      walk_at "rd"
      refine r_clkM (hC.ex e) ?_
      walk_at "rd"
      refine ⟨_, s, _, rfl, hC.ex e, by omega, by omega, fun p H3 np e3 hp => ?_⟩
      have e3' := e.trans e3
      walk_at "rd"
      refine r_clkM (hC.ex e3') ?_
      walk_at "rd"
      refine ⟨_, s, _, rfl, hC.ex e3', by omega, by omega, fun q H4 nq e4 hq => ?_⟩
      have e4' := e3'.trans e4
      walk_at "rd"
      refine r_clkG (hC.ex e4') ?_
      refine ⟨_, s, _, rfl, hC.ex e4', by omega, by omega, ?_⟩
      have c0 := g.lo (i : Int)
      have c1 := g.hi (i : Int)
      walk_at "rd"
      refine lc_fun walk_r0 (fun k => .int (((i : Int) + (k : Int)) % (s.length : Int))) (fun _ _ => trivial) (by omega) ?_ ?_
      · rintro j x H5 H6 hj e5 ⟨rfl, rfl⟩ kk hk
        walk_at "rd"
        exact hk _ (Ex.refl _)
      intro D1 H5 nD1 e5 hD1
      have e5' := e4'.trans e5
      refine r_neL (ns := servedOf s i) (ms := servedOf s i) (.inl (.inl (e5 _ _ (e4 _ _ hp)))) (.inl (.inl ?_)) ?_
      · rw [hD1]
        unfold servedOf
        rw [List.map_map]
        rfl
      walk_at "rd"
      rw [decide_eq_true (rfl : servedOf s i = servedOf s i)]
      refine iteF ?_
      walk_at "rd"
      refine r_clkM (hC.ex e5') ?_
      walk_at "rd"
      refine ⟨_, s, rfl, hC.ex e5', fun r H6 nr e6 hr6 => ?_⟩
      have e6' := e5'.trans e6
      walk_at "rd"
      have ew : ∀ h : Int, 0 ≤ h → h < (s.length : Int) → atI ((wds s).map V.int) h = some (.int (wd s h)) := fun h h0 h1 => by
        have := at_cyc (ns := wds s) (by rw [wds_length]; exact hne) h
        rw [wds_length, Int.emod_eq_of_lt h0 h1, cyc_wds hne] at this
        exact this
      refine r_ixL (.inl (.inl hr6)) (ew _ (by omega) (by omega)) ?_
      have w0 := wd_nn (s := s) (i : Int)
      have w1 := wd_le (s := s) (i : Int)
      walk_at "rd"
      refine lc_fun walk_r0 (fun k => .int (((i : Int) - (k : Int)) % (s.length : Int))) (fun _ _ => trivial) (by omega) ?_ ?_
      · rintro j x H7 H8 hj e7 ⟨rfl, rfl⟩ kk hk
        walk_at "rd"
        exact hk _ (Ex.refl _)
      intro D2 H7 nD2 e7 hD2
      have e7' := e6'.trans e7
      walk_at "rd"
      refine ⟨D2, _, rfl, .inl (.inl hD2), fun D3 nD3 => ?_⟩
      have e8 : Ex H7 _ := Ex.new nD3 (o := .lst (((List.range (wd s (i : Int)).toNat).map fun (k : Nat) => V.int (((i : Int) - (k : Int)) % (s.length : Int))).reverse))
      have e8' := e7'.trans e8
      refine r_neL (ns := servingOf s i) (ms := servingOf s i) (.inl (.inl (e8 _ _ (e7 _ _ (e6 _ _ (e5 _ _ hq)))))) (.inl (.inl ?_)) ?_
      · rw [upd_same, serv_rev, List.map_reverse, List.map_map]
        rfl
      walk_at "rd"
      rw [decide_eq_true (rfl : servingOf s i = servingOf s i)]
      refine iteF ?_
      walk_at "rd"
      have m0 := mod_bd hne ((i : Int) + 1)
      refine r_clkM (hC.ex e8') ?_
      walk_at "rd"
      refine ⟨_, s, rfl, hC.ex e8', fun r1 H9 nr1 e9 hr1 => ?_⟩
      have e9' := e8'.trans e9
      walk_at "rd"
      have es : ∀ h : Int, 0 ≤ h → h < (s.length : Int) → atI (s.map V.int) h = some (.int (cyc s h)) := fun h h0 h1 => by
        have := at_cyc (ns := s) hne h
        rw [Int.emod_eq_of_lt h0 h1] at this
        exact this
      refine r_ixL (.inl (.inl hr1)) (es _ (by omega) (by omega)) ?_
      walk_at "rd"
      refine r_clkM (hC.ex e9') ?_
      walk_at "rd"
      refine ⟨_, s, rfl, hC.ex e9', fun r2 H10 nr2 e10 hr2 => ?_⟩
      have e10' := e9'.trans e10
      walk_at "rd"
      refine r_ixL (.inl (.inl hr2)) (es _ m0.1 m0.2) ?_
      walk_at "rd"
      refine r_ite (fun hc => ?_) (fun hc => ?_)
      · have := g.od (i : Int)
        rw [cyc_mod] at hc
        omega
      walk_at "rd"
      refine r_clkM (hC.ex e10') ?_
      walk_at "rd"
      refine ⟨_, s, rfl, hC.ex e10', fun r3 H11 nr3 e11 hr3 => ?_⟩
      have e11' := e10'.trans e11
      walk_at "rd"
      refine r_ixL (.inl (.inl hr3)) (ew _ m0.1 m0.2) ?_
      walk_at "rd"
      refine r_clkM (hC.ex e11') ?_
      walk_at "rd"
      refine ⟨_, s, rfl, hC.ex e11', fun r4 H12 nr4 e12 hr4 => ?_⟩
      have e12' := e11'.trans e12
      walk_at "rd"
      refine r_ixL (.inl (.inl hr4)) (ew _ (by omega) (by omega)) ?_
      walk_at "rd"
      refine r_ite (fun hc => ?_) (fun hc => ?_)
      · have := wd_step g (i : Int)
        rw [wd_mod] at hc
        omega
      walk_at "rd"
      exact ⟨⟨_, _, _, _, _, rfl⟩, e12'⟩
    · rintro σ H' ⟨⟨y2, y3, y4, y5, y6, rfl⟩, e⟩
      walk_at "rd"
      exact k _ e

/-! ### law -/
theorem sc_law : FnScope ["_law_script", "_law_bag_here", "_law_turn", "_law_many", "_law_stays_here", "_law_clock_here", "_law_way", "_law_one", "_law_hours_of", "_law_hour", "_law_holders", "_law_table", "_law_begin", "_law_glass", "_law_turned"] ["_law_script"] (defScope s_law) := ⟨rfl, rfl, rfl, by decide +kernel, rfl, by decide +kernel, by decide +kernel⟩

def sp_law (K : PySem.W.Frag) (d : Ads) : Sp := spLaw K
theorem five : ∀ i : Nat, i < 5 → 1 ≤ ([24, 9, 6, 3, 48] : List Int).getD i 0 ∧ ([24, 9, 6, 3, 48] : List Int).getD i 0 ≤ 48 := by decide
set_option maxHeartbeats 4000000 in
theorem ok_law {fd : FuncData} (F : Fun K "law" "law" s_law d.f_law fd) (T : Tx K mg d) : FnOk P w K mg base (L2.CX P w) 7 d.f_law fd ["_law_script"] (sp_law K d) := by
  refine fn_lift (F.ok sc_law (fun vs H Q E h => ?_) (fun cdv A outer s H vs Q E hr h => ?_))
  · obtain ⟨a, ns, rfl, hS, hl, k⟩ := h
    rfl
  · obtain ⟨a, ns, rfl, hS, hl, k⟩ := h
    refine ⟨_, (pss_cons (ps_set (i := 1) sc_law.nd rfl (by first | exact Or.inl rfl | exact Or.inr rfl) (pf_call (ok__law_bag T) (hr.mono (by decide)) (by rfl) T.g__law_bag T.d__law_bag.kp (pa_cons (pv 0) pa_nil)))
      (pss_cons (ps_for PassesOwn.never rfl (pi_range1 (by rfl) T.z_range (pa_cons pe_int pa_nil)) (pg_name (i := 2) sc_law.nd rfl (by first | exact Or.inl rfl | exact Or.inr rfl)) (pss_cons (ps_set (i := 3) sc_law.nd rfl (by first | exact Or.inl rfl | exact Or.inr rfl) (pe_op op_add pe_int (pf_call (ok__law_take T) (hr.mono (by decide)) (by rfl) T.g__law_take T.d__law_take.kp (pa_cons (pv 1) (pa_cons (pe_ix (k_ixL (K := K) rfl) (pe_lst (pa_cons pe_int (pa_cons pe_int (pa_cons pe_int (pa_cons pe_int (pa_cons pe_int pa_nil)))))) (pv 2) (fun _ _ => rfl)) pa_nil)))))
      (pss_cons (ps_set (i := 4) sc_law.nd rfl (by first | exact Or.inl rfl | exact Or.inr rfl) (pf_call (ok__law_stays T) (hr.mono (by decide)) (by rfl) T.g__law_stays T.d__law_stays.kp (pa_cons (pv 1) (pa_cons (pv 3) pa_nil))))
      (pss_cons (ps_set (i := 5) sc_law.nd rfl (by first | exact Or.inl rfl | exact Or.inr rfl) (pf_call (ok__law_clock T) (hr.mono (by decide)) (by rfl) T.g__law_clock T.d__law_clock.kp (pa_cons (pv 1) (pa_cons (pv 4) pa_nil))))
      (pss_cons (ps_for PassesOwn.never rfl (k_piL (K := K) rfl (pf_call (ok__law_mixed T) (hr.mono (by decide)) (by rfl) T.g__law_mixed T.d__law_mixed.kp (pa_cons (pv 1) (pa_cons (pe_lst (pa_cons pe_int (pa_cons pe_int (pa_cons pe_int (pa_cons pe_int pa_nil))))) pa_nil)))) (pg_name (i := 6) sc_law.nd rfl (by first | exact Or.inl rfl | exact Or.inr rfl)) (pss_cons (ps_set (i := 7) sc_law.nd rfl (by first | exact Or.inl rfl | exact Or.inr rfl) (pe_ifExp (pt_cmpR op_eq (pv 6) pe_int (nomark _)) (pv 5) (pe_ifExp (pt_cmpR op_eq (pv 6) pe_int (nomark _)) (pf_meth0 (ok_Clock_mirrored T) (hr.mono (by decide)) T.cl_Clock T.m_Clock_mirrored (pv 5)) (pf_meth (ok_Clock_turned T) (hr.mono (by decide)) T.cl_Clock T.m_Clock_turned (pv 5) (pa_cons (pf_call (ok__law_far T) (hr.mono (by decide)) (by rfl) T.g__law_far T.d__law_far.kp (pa_cons (pv 1) pa_nil)) pa_nil)))))
      (pss_one (ps_if (PW.pt (pw_or (pt_cmpR op_ne (pe_callB (k_sum (K := K) rfl rfl) (by rfl) T.z_sum (by decide +kernel) (pa_cons (pf_meth0 (ok_Clock_stays T) (hr.mono (by decide)) T.cl_Clock T.m_Clock_stays (pv 7)) pa_nil)) (pe_callB (k_sum (K := K) rfl rfl) (by rfl) T.z_sum (by decide +kernel) (pa_cons (pf_meth0 (ok_Clock_widths T) (hr.mono (by decide)) T.cl_Clock T.m_Clock_widths (pv 7)) pa_nil)) (nomark _)) (pw_or1 (pt_not (pt_val (pf_call (ok__law_rows_right T) (hr.mono (by decide)) (by rfl) T.g__law_rows_right T.d__law_rows_right.kp (pa_cons (pv 7) (pa_cons (pv 3) pa_nil)))))))) (pss_one (ps_ret pe_bl)) pss_nil))))
      (pss_cons (ps_set (i := 8) sc_law.nd rfl (by first | exact Or.inl rfl | exact Or.inr rfl) (pe_lc (own := [("_law_hour", 9)]) rfl sc_law.nd (pi_range1 (by rfl) T.z_range (pa_cons (pv 3) pa_nil)) (blkOk_by (by kernel_rfl)) (fun _ _ _ _ _ => (pg_name (i := 9) sc_law.nd rfl (by first | exact Or.inl rfl | exact Or.inr rfl))) (fun _ _ _ _ _ => pts_nil) (fun _ _ _ _ _ => (pf_meth (ok_Clock_served T) (hr.mono (by decide)) T.cl_Clock T.m_Clock_served (pv 5) (pa_cons (pv 9) pa_nil)))))
      (pss_cons (ps_set (i := 10) sc_law.nd rfl (by first | exact Or.inl rfl | exact Or.inr rfl) (pe_lc (own := [("_law_hour", 9)]) rfl sc_law.nd (pi_range1 (by rfl) T.z_range (pa_cons (pv 3) pa_nil)) (blkOk_by (by kernel_rfl)) (fun _ _ _ _ _ => (pg_name (i := 9) sc_law.nd rfl (by first | exact Or.inl rfl | exact Or.inr rfl))) (fun _ _ _ _ _ => pts_nil) (fun _ _ _ _ _ => (pf_meth (ok_Clock_serving T) (hr.mono (by decide)) T.cl_Clock T.m_Clock_serving (pv 5) (pa_cons (pv 9) pa_nil)))))
      (pss_cons (ps_setLc (i := 11) (own := [("_law_hour", 9)]) rfl sc_law.nd rfl rfl (sw_true rfl rfl rfl (by decide +kernel)) (pi_range1 (by rfl) T.z_range (pa_cons (pv 3) pa_nil)) (blkOk_by (by kernel_rfl)) (fun _ _ _ _ _ => (pg_name (i := 9) sc_law.nd rfl (by first | exact Or.inl rfl | exact Or.inr rfl))) (fun _ _ _ _ _ => pts_nil) (fun _ _ _ _ _ => (pe_lc (own := [("_law_begin", 12)]) rfl sc_law.nd (pi_range1 (by rfl) T.z_range (pa_cons (pv 3) pa_nil)) (blkOk_by (by kernel_rfl)) (fun _ _ _ _ _ => (pg_name (i := 12) sc_law.nd rfl (by first | exact Or.inl rfl | exact Or.inr rfl))) (fun _ _ _ _ _ => pts_nil) (fun _ _ _ _ _ => (pe_cmpR (k_in (K := K) rfl) (pv 9) (pe_ix (k_ixL (K := K) rfl) (pv 8) (pv 12) (fun _ _ => rfl)) (by rfl))))))
      (pss_cons (ps_if (pt_cmpR (k_neD (K := K) rfl hr.units) (pv 11) (pe_lc (own := [("_law_hour", 9)]) rfl sc_law.nd (pi_range1 (by rfl) T.z_range (pa_cons (pv 3) pa_nil)) (blkOk_by (by kernel_rfl)) (fun _ _ _ _ _ => (pg_name (i := 9) sc_law.nd rfl (by first | exact Or.inl rfl | exact Or.inr rfl))) (fun _ _ _ _ _ => pts_nil) (fun _ _ _ _ _ => (pe_lc (own := [("_law_begin", 12)]) rfl sc_law.nd (pi_range1 (by rfl) T.z_range (pa_cons (pv 3) pa_nil)) (blkOk_by (by kernel_rfl)) (fun _ _ _ _ _ => (pg_name (i := 12) sc_law.nd rfl (by first | exact Or.inl rfl | exact Or.inr rfl))) (fun _ _ _ _ _ => pts_nil) (fun _ _ _ _ _ => (pe_cmpR (k_in (K := K) rfl) (pv 12) (pe_ix (k_ixL (K := K) rfl) (pv 10) (pv 9) (fun _ _ => rfl)) (by rfl)))))) (nomark _)) (pss_one (ps_ret pe_bl)) pss_nil)
      (pss_cons (ps_set (i := 13) sc_law.nd rfl (by first | exact Or.inl rfl | exact Or.inr rfl) (pf_meth0 (ok_Clock_mirrored T) (hr.mono (by decide)) T.cl_Clock T.m_Clock_mirrored (pv 5)))
      (pss_one (ps_for PassesOwn.never rfl (pi_range1 (by rfl) T.z_range (pa_cons (pv 3) pa_nil)) (pg_name (i := 9) sc_law.nd rfl (by first | exact Or.inl rfl | exact Or.inr rfl)) (pss_cons (ps_set (i := 14) sc_law.nd rfl (by first | exact Or.inl rfl | exact Or.inr rfl) (k_revL (K := K) rfl (pe_lc (own := [("_law_one", 7)]) rfl sc_law.nd (k_piL (K := K) rfl (pe_ix (k_ixL (K := K) rfl) (pv 10) (pv 9) (fun _ _ => rfl))) (blkOk_by (by kernel_rfl)) (fun _ _ _ _ _ => (pg_name (i := 7) sc_law.nd rfl (by first | exact Or.inl rfl | exact Or.inr rfl))) (fun _ _ _ _ _ => pts_nil) (fun _ _ _ _ _ => (pe_op op_sub (pe_op op_sub (pv 3) pe_int) (pv 7))))))
      (pss_cons (ps_if (pt_cmpR (k_neD (K := K) rfl hr.units) (pf_meth (ok_Clock_served T) (hr.mono (by decide)) T.cl_Clock T.m_Clock_served (pv 13) (pa_cons (pe_op op_sub (pe_op op_sub (pv 3) pe_int) (pv 9)) pa_nil)) (pv 14) (nomark _)) (pss_one (ps_ret pe_bl)) pss_nil)
      (pss_one (ps_if (pt_cmpR (k_neD (K := K) rfl hr.units) (pf_meth (ok_Clock_serving T) (hr.mono (by decide)) T.cl_Clock T.m_Clock_serving (pv 13) (pa_cons (pe_op op_sub (pe_op op_sub (pv 3) pe_int) (pv 9)) pa_nil)) (k_revL (K := K) rfl (pe_lc (own := [("_law_one", 7)]) rfl sc_law.nd (k_piL (K := K) rfl (pe_ix (k_ixL (K := K) rfl) (pv 8) (pv 9) (fun _ _ => rfl))) (blkOk_by (by kernel_rfl)) (fun _ _ _ _ _ => (pg_name (i := 7) sc_law.nd rfl (by first | exact Or.inl rfl | exact Or.inr rfl))) (fun _ _ _ _ _ => pts_nil) (fun _ _ _ _ _ => (pe_op op_sub (pe_op op_sub (pv 3) pe_int) (pv 7))))) (nomark _)) (pss_one (ps_ret pe_bl)) pss_nil))))))))))))))))
      (pss_one (ps_ret pe_bl)))), ?_⟩
    walk_at "rd"
    refine ⟨a, ns, rfl, hS, hl, fun b H1 e1 hB1 => ?_⟩
    walk_at "rd"
    refine for_w walk_r0 (fun i σ H' => (∃ y2 y3 y4 y5 y6 y7 y8 y9 y10 y11 y12 y13 y14, σ = [some (.ref a), some (.ref b), y2, y3, y4, y5, y6, y7, y8, y9, y10, y11, y12, y13, y14]) ∧ Bag H' b) ⟨⟨_, _, _, _, _, _, _, _, _, _, _, _, _, rfl⟩, hB1⟩ (fun _ _ _ _ _ => trivial) ?_ ?_
    · rintro i x σ H2 H3 hi ⟨⟨y2, y3, y4, y5, y6, y7, y8, y9, y10, y11, y12, y13, y14, rfl⟩, hB⟩ ⟨rfl, rfl⟩
      have hi5 : i < 5 := hi
      walk_at "rd"
      refine ⟨szc rfl, fun l nl => ?_⟩
      have el : Ex H3 (upd H3 l (.lst [.int 24, .int 9, .int 6, .int 3, .int 48])) := Ex.new nl
      walk_at "rd"
      refine r_ixL (SqL.of upd_same) (at_int (ns := [24, 9, 6, 3, 48]) (by omega) (by show (i : Int) < 5; omega)) ?_
      walk_at "rd"
      rw [Int.toNat_natCast]
      have hu := five i hi5
      refine ⟨b, _, rfl, hB.mono (.of el), by omega, by omega, fun c c0 c1 => ?_⟩
      obtain ⟨n, hn⟩ : ∃ n : Nat, 1 + c = (n : Int) := ⟨(1 + c).toNat, by omega⟩
      walk_at "rd"
      rw [hn]
      refine ⟨b, n, rfl, hB.mono (.of el), by omega, by omega, fun s sl g ps H4 nps e4 hps => ?_⟩
      have e4' := el.trans e4
      walk_at "rd"
      refine ⟨b, ps, s, rfl, hB.mono (.of e4'), .inl (.inl (.inl hps)), g, fun v H5 e5 hC => ?_⟩
      have e5' := e4'.trans e5
      subst sl
      have hne := g.ne
      have hle := g.le
      walk_at "rd"
      refine ⟨szc rfl, fun l2 nl2 => ?_⟩
      have e6' := e5'.trans (Ex.new nl2 (o := .lst [.int 0, .int 1, .int 2, .int 0]))
      walk_at "rd"
      refine ⟨b, l2, _, rfl, hB.mono (.of e6'), .inl (.inl (.inl upd_same)), by show 4 ≤ 1000; decide, fun ws pm m H7 nm e7 hm => ?_⟩
      have e7' := e6'.trans e7
      have hC7 : Clk K d.c_Clock H7 v s := hC.ex ((Ex.new nl2).trans e7)
      have hw : ∀ x ∈ ws, x = .int 0 ∨ x = .int 1 ∨ x = .int 2 := fun x hx => by
        have := pm.mem_iff.mp hx
        simp only [List.mem_cons, List.not_mem_nil, or_false] at this
        rcases this with h | h | h | h
        · exact .inl h
        · exact .inr (.inl h)
        · exact .inr (.inr h)
        · exact .inl h
      have wl : ws.length = 4 := pm.length_eq
      walk_at "rd"
      refine ⟨m, rfl, ⟨_, .inl (.inl hm)⟩, for_w walk_list (fun i σ H' => (∃ z6 z7, σ = [some (.ref a), some (.ref b), some (.int _), some (.int (s.length : Int)), some (.ref ps), some v, z6, z7, y8, y9, y10, y11, y12, y13, y14]) ∧ Ex H7 H') ⟨⟨_, _, rfl⟩, Ex.refl _⟩ (fun j σ H' _ q => .inl (.inl (q.2 _ _ hm))) ?_ ?_⟩
      · rintro j x σ H8 H9 hj ⟨⟨z6, z7, rfl⟩, e8⟩ ⟨rfl, hx⟩
        have hC8 := hC7.ex e8
        have hB8 := hB.mono (.of (e7'.trans e8))
        have hxm : x ∈ ws := List.mem_of_getElem? hx
        rcases hw x hxm with rfl | rfl | rfl
        · walk_at "rd"
          refine iteT ?_
          walk_at "rd"
          have tl : s.length = s.length := rfl
          have c := hC8
          have e' := Ex.refl H9
          have g' := g
          refine r_clkM c ?_
          walk_at "rd"
          refine ⟨_, _, rfl, c, fun q1 K1 nq1 f1 hq1 => ?_⟩
          walk_at "rd"
          refine r_sum (.inl (.inl hq1)) ?_
          have c1 := c.ex f1
          walk_at "rd"
          refine r_clkM c1 ?_
          walk_at "rd"
          refine ⟨_, _, rfl, c1, fun q2 K2 nq2 f2 hq2 => ?_⟩
          walk_at "rd"
          refine r_sum (.inl (.inl hq2)) ?_
          have c2 := c1.ex f2
          rw [wds_sum g']
          walk_at "rd"
          rw [decide_eq_true rfl]
          refine iteF ?_
          walk_at "rd"
          refine ⟨_, _, by rw [← tl], c2, fun K3 f3 => ?_⟩
          walk_at "rd"
          refine iteF ?_
          walk_at "rd"
          exact ⟨⟨_, _, rfl⟩, (e8.trans e').trans ((f1.trans f2).trans f3)⟩
        · walk_at "rd"
          refine iteF ?_
          walk_at "rd"
          refine iteT ?_
          walk_at "rd"
          refine r_clkM hC8 ?_
          walk_at "rd"
          refine ⟨_, s, rfl, hC8, fun w H10 e' c => ?_⟩
          have tl := mirS_length s
          have g' := g.mir
          walk_at "rd"
          refine r_clkM c ?_
          walk_at "rd"
          refine ⟨_, _, rfl, c, fun q1 K1 nq1 f1 hq1 => ?_⟩
          walk_at "rd"
          refine r_sum (.inl (.inl hq1)) ?_
          have c1 := c.ex f1
          walk_at "rd"
          refine r_clkM c1 ?_
          walk_at "rd"
          refine ⟨_, _, rfl, c1, fun q2 K2 nq2 f2 hq2 => ?_⟩
          walk_at "rd"
          refine r_sum (.inl (.inl hq2)) ?_
          have c2 := c1.ex f2
          rw [wds_sum g']
          walk_at "rd"
          rw [decide_eq_true rfl]
          refine iteF ?_
          walk_at "rd"
          refine ⟨_, _, by rw [← tl], c2, fun K3 f3 => ?_⟩
          walk_at "rd"
          refine iteF ?_
          walk_at "rd"
          exact ⟨⟨_, _, rfl⟩, (e8.trans e').trans ((f1.trans f2).trans f3)⟩
        · walk_at "rd"
          refine iteF ?_
          walk_at "rd"
          refine iteF ?_
          walk_at "rd"
          refine r_clkM hC8 ?_
          walk_at "rd"
          refine ⟨b, rfl, hB8, fun by' H91 e91 => ?_⟩
          walk_at "rd"
          refine ⟨_, s, by', rfl, hC8.ex e91, fun w H10 e10 c => ?_⟩
          have e' := e91.trans e10
          have tl := turnS_length s by'
          have g' := g.turn by'
          walk_at "rd"
          refine r_clkM c ?_
          walk_at "rd"
          refine ⟨_, _, rfl, c, fun q1 K1 nq1 f1 hq1 => ?_⟩
          walk_at "rd"
          refine r_sum (.inl (.inl hq1)) ?_
          have c1 := c.ex f1
          walk_at "rd"
          refine r_clkM c1 ?_
          walk_at "rd"
          refine ⟨_, _, rfl, c1, fun q2 K2 nq2 f2 hq2 => ?_⟩
          walk_at "rd"
          refine r_sum (.inl (.inl hq2)) ?_
          have c2 := c1.ex f2
          rw [wds_sum g']
          walk_at "rd"
          rw [decide_eq_true rfl]
          refine iteF ?_
          walk_at "rd"
          refine ⟨_, _, by rw [← tl], c2, fun K3 f3 => ?_⟩
          walk_at "rd"
          refine iteF ?_
          walk_at "rd"
          exact ⟨⟨_, _, rfl⟩, (e8.trans e').trans ((f1.trans f2).trans f3)⟩
      · rintro σ H' ⟨⟨z6, z7, rfl⟩, e8⟩
        have hC8 := hC7.ex e8
        have hB8 := hB.mono (.of (e7'.trans e8))
        walk_at "rd"
        refine lc_rows walk_r0 (fun i => (servedOf s (i : Int)).map V.int) (fun _ _ => trivial) (by omega) ?_ ?_
        · rintro h x H9 H10 hh e9 ⟨rfl, rfl⟩ kk hk
          walk_at "rd"
          refine r_clkM (hC8.ex e9) ?_
          walk_at "rd"
          exact ⟨_, s, _, rfl, hC8.ex e9, by omega, by omega, hk⟩
        intro D1 H9 nD1 e9 R1
        have hC9 := hC8.ex e9
        walk_at "rd"
        refine lc_rows walk_r0 (fun i => (servingOf s (i : Int)).map V.int) (fun _ _ => trivial) (by omega) ?_ ?_
        · rintro h x H10 H11 hh e10 ⟨rfl, rfl⟩ kk hk
          walk_at "rd"
          refine r_clkM (hC9.ex e10) ?_
          walk_at "rd"
          exact ⟨_, s, _, rfl, hC9.ex e10, by omega, by omega, hk⟩
        intro D2 H10 nD2 e10 R2
        have hC10 := hC9.ex e10
        walk_at "rd"
        refine lc_rows walk_r0 (fun h => (List.range s.length).map fun (j : Nat) => .bl (decide ((h : Int) ∈ servedOf s (j : Int)))) (fun _ _ => trivial) (by omega) ?_ ?_
        · rintro h x H11 H12 hh e11 ⟨rfl, rfl⟩ kk hk
          walk_at "rd"
          refine lc_fun walk_r0 (fun j => .bl (decide ((h : Int) ∈ servedOf s (j : Int)))) (fun _ _ => trivial) (by omega) ?_ ?_
          · rintro j x H13 H14 hj e13 ⟨rfl, rfl⟩ kk' hk'
            walk_at "rd"
            refine ((R1.ex e10).ex (e11.trans e13)).sq hj fun p hp => ?_
            refine r_inI (.inl (.inl (.inl hp))) ?_
            exact hk' _ (Ex.refl _)
          · intro D3 H13 nD3 e13 hD3
            exact hk D3 H13 nD3 e13 (by rw [hD3, Int.toNat_natCast])
        intro D3 H11 nD3 e11 R3
        walk_at "rd"
        refine lc_rows walk_r0 (fun h => (List.range s.length).map fun (j : Nat) => .bl (decide ((j : Int) ∈ servingOf s (h : Int)))) (fun _ _ => trivial) (by omega) ?_ ?_
        · rintro h x H12 H13 hh e12 ⟨rfl, rfl⟩ kk hk
          walk_at "rd"
          refine lc_fun walk_r0 (fun j => .bl (decide ((j : Int) ∈ servingOf s (h : Int)))) (fun _ _ => trivial) (by omega) ?_ ?_
          · rintro j x H14 H15 hj e14 ⟨rfl, rfl⟩ kk' hk'
            walk_at "rd"
            refine (R2.ex ((e11.trans e12).trans e14)).sq hh fun p hp => ?_
            refine r_inI (.inl (.inl (.inl hp))) ?_
            exact hk' _ (Ex.refl _)
          · intro D4 H14 nD4 e14 hD4
            exact hk D4 H14 nD4 e14 (by rw [hD4, Int.toNat_natCast])
        intro D4 H12 nD4 e12 R4
        rw [Int.toNat_natCast] at R1 R2 R3 R4
        refine r_neH (lay_list (lay_list lay_bool)) ((R3.ex e12).hd (fun h => (List.range s.length).map fun (j : Nat) => decide ((h : Int) ∈ servedOf s (j : Int))) fun i _ => ?_) (R4.hd (fun h => (List.range s.length).map fun (j : Nat) => decide ((j : Int) ∈ servingOf s (h : Int))) fun i _ => ?_) ?_
        · have := hda_bools (K := K) (H := H12) ((List.range s.length).map fun (j : Nat) => decide ((i : Int) ∈ servedOf s (j : Int)))
          rw [List.map_map] at this
          exact this
        · have := hda_bools (K := K) (H := H12) ((List.range s.length).map fun (j : Nat) => decide ((j : Int) ∈ servingOf s (i : Int)))
          rw [List.map_map] at this
          exact this
        walk_at "rd"
        have te : ((List.range s.length).map fun (h : Nat) => (List.range s.length).map fun (j : Nat) => decide ((h : Int) ∈ servedOf s (j : Int))) = ((List.range s.length).map fun (h : Nat) => (List.range s.length).map fun (j : Nat) => decide ((j : Int) ∈ servingOf s (h : Int))) := by
          refine List.map_congr_left fun h hh => List.map_congr_left fun j hj => ?_
          have hh' := List.mem_range.mp hh
          have hj' := List.mem_range.mp hj
          exact decide_eq_decide.mpr (served_iff g (by omega) (by omega) (by omega) (by omega))
        rw [decide_eq_true te]
        refine iteF ?_
        have hC12 := hC10.ex (e11.trans e12)
        have hB12 := hB8.mono (.of (((e9.trans e10).trans e11).trans e12))
        have R1' := R1.ex ((e10.trans e11).trans e12)
        have R2' := R2.ex (e11.trans e12)
        walk_at "rd"
        refine r_clkM hC12 ?_
        walk_at "rd"
        refine ⟨_, s, rfl, hC12, fun w H13 e13 c => ?_⟩
        walk_at "rd"
        refine for_w walk_r0 (fun i σ H' => (∃ u9 u7 u14, σ = [some (.ref a), some (.ref b), some (.int _), some (.int (s.length : Int)), some (.ref ps), some v, z6, u7, some (.ref D1), u9, some (.ref D2), some (.ref D3), y12, some w, u14]) ∧ Ex H13 H') ⟨⟨_, _, _, rfl⟩, Ex.refl _⟩ (fun _ _ _ _ _ => trivial) ?_ ?_
        · rintro h x σ H14 H15 hh ⟨⟨u9, u7, u14, rfl⟩, e14⟩ ⟨rfl, rfl⟩
          rw [Int.toNat_natCast] at hh
          have c14 := c.ex e14
          have ml := mirS_length s
          walk_at "rd"
          refine (R2'.ex (e13.trans e14)).sq hh fun p hp => ?_
          refine ⟨p, rfl, ⟨_, .inl (.inl hp)⟩, lc_fun walk_list (fun i => .int ((s.length : Int) - 1 - (servingOf s (h : Int)).getD i 0)) (fun H' e => .inl (.inl (e _ _ hp))) ?_ ?_ ?_⟩
          · unfold servingOf
            rw [List.length_map, List.length_map, List.length_range]
            have := wd_le (s := s) (h : Int)
            omega
          · rintro j x H16 H17 hj e16 ⟨rfl, hx⟩ kk hk
            obtain rfl := int_at hx
            walk_at "rd"
            exact hk _ (Ex.refl _)
          intro D5 H16 nD5 e16 hD5
          rw [List.length_map, map_range_int (servingOf s (h : Int)) fun z => V.int ((s.length : Int) - 1 - z)] at hD5
          walk_at "rd"
          refine ⟨D5, _, rfl, .inl (.inl hD5), fun D6 nD6 => ?_⟩
          walk_at "rd"
          have e17 := e16.trans (Ex.new nD6 (o := .lst ((servingOf s (h : Int)).map fun z => V.int ((s.length : Int) - 1 - z)).reverse))
          refine r_clkM (c14.ex e17) ?_
          walk_at "rd"
          refine ⟨_, mirS s, _, rfl, c14.ex e17, by omega, by omega, fun p7 H17 np7 e18 hp7 => ?_⟩
          walk_at "rd"
          refine r_neL (ns := servedOf (mirS s) ((s.length : Int) - 1 - (h : Int))) (ms := servedOf (mirS s) ((s.length : Int) - 1 - (h : Int))) (.inl (.inl hp7)) (.inl (.inl ?_)) ?_
          · rw [e18 _ _ upd_same, mir_served g, List.map_reverse, List.map_map]
            rfl
          walk_at "rd"
          rw [decide_eq_true (rfl : servedOf (mirS s) ((s.length : Int) - 1 - (h : Int)) = servedOf (mirS s) ((s.length : Int) - 1 - (h : Int)))]
          refine iteF ?_
          have e19 := e17.trans e18
          walk_at "rd"
          refine r_clkM (c14.ex e19) ?_
          walk_at "rd"
          refine ⟨_, mirS s, _, rfl, c14.ex e19, by omega, by omega, fun p8 H18 np8 e20 hp8 => ?_⟩
          have e21 := e19.trans e20
          walk_at "rd"
          refine (R1'.ex ((e13.trans e14).trans e21)).sq hh fun p9 hp9 => ?_
          refine ⟨p9, rfl, ⟨_, .inl (.inl hp9)⟩, lc_fun walk_list (fun i => .int ((s.length : Int) - 1 - (servedOf s (h : Int)).getD i 0)) (fun H' e => .inl (.inl (e _ _ hp9))) ?_ ?_ ?_⟩
          · unfold servedOf
            rw [List.length_map, List.length_map, List.length_range]
            have := g.hi (h : Int)
            omega
          · rintro j x H19 H20 hj e22 ⟨rfl, hx⟩ kk hk
            obtain rfl := int_at hx
            walk_at "rd"
            exact hk _ (Ex.refl _)
          intro D7 H19 nD7 e22 hD7
          rw [List.length_map, map_range_int (servedOf s (h : Int)) fun z => V.int ((s.length : Int) - 1 - z)] at hD7
          walk_at "rd"
          refine ⟨D7, _, rfl, .inl (.inl hD7), fun D8 nD8 => ?_⟩
          have e23 := e22.trans (Ex.new nD8 (o := .lst ((servedOf s (h : Int)).map fun z => V.int ((s.length : Int) - 1 - z)).reverse))
          refine r_neL (ns := servingOf (mirS s) ((s.length : Int) - 1 - (h : Int))) (ms := servingOf (mirS s) ((s.length : Int) - 1 - (h : Int))) (.inl (.inl (e23 _ _ hp8))) (.inl (.inl ?_)) ?_
          · rw [upd_same, mir_serving g, List.map_reverse, List.map_map]
            rfl
          walk_at "rd"
          rw [decide_eq_true (rfl : servingOf (mirS s) ((s.length : Int) - 1 - (h : Int)) = servingOf (mirS s) ((s.length : Int) - 1 - (h : Int)))]
          refine iteF ?_
          walk_at "rd"
          exact ⟨⟨_, _, _, rfl⟩, e14.trans (e21.trans e23)⟩
        · rintro σ H' ⟨⟨u9, u7, u14, rfl⟩, e14⟩
          exact ⟨⟨_, _, _, _, _, _, _, _, _, _, _, _, _, rfl⟩, hB12.mono (.of (e13.trans e14))⟩
    · rintro σ H' ⟨⟨y2, y3, y4, y5, y6, y7, y8, y9, y10, y11, y12, y13, y14, rfl⟩, hB⟩
      walk_at "rd"
      exact k _
end

theorem all_mk {P : Program} {w : World} {K : PySem.W.Frag} {h : Heap} {mg : Str → Option Value} {fa : Addr} (X : K.In h) (G : h.Ns mainGlobals mg) (hfa : mg "law" = some (.ref fa))
    {c_Clock f__law_bag f__law_take f__law_stays f_is_integer f_are_stays f_need_order f_width_of f_Clock___init__ f__law_clock f__law_mixed f_Clock_mirrored f_Clock_hours q_Clock_hours f_Clock_turned f__law_far f_is_hour f_Clock_serving f_Clock___getitem__ f_Clock_served f_Clock_widths f_Clock_stays f__law_rows_right f_law : Addr}
    {od__law_bag an__law_bag : Option Addr} {sl__law_bag : Array (Option Value)} {oc__law_bag kV__law_bag dc__law_bag pm__law_bag cd__law_bag ct__law_bag : Value}
    {od__law_take an__law_take : Option Addr} {sl__law_take : Array (Option Value)} {oc__law_take kV__law_take dc__law_take pm__law_take cd__law_take ct__law_take : Value}
    {od__law_stays an__law_stays : Option Addr} {sl__law_stays : Array (Option Value)} {oc__law_stays kV__law_stays dc__law_stays pm__law_stays cd__law_stays ct__law_stays : Value}
    {od_is_integer an_is_integer : Option Addr} {sl_is_integer : Array (Option Value)} {oc_is_integer kV_is_integer dc_is_integer pm_is_integer cd_is_integer ct_is_integer : Value}
    {od_are_stays an_are_stays : Option Addr} {sl_are_stays : Array (Option Value)} {oc_are_stays kV_are_stays dc_are_stays pm_are_stays cd_are_stays ct_are_stays : Value}
    {od_need_order an_need_order : Option Addr} {sl_need_order : Array (Option Value)} {oc_need_order kV_need_order dc_need_order pm_need_order cd_need_order ct_need_order : Value}
    {od_width_of an_width_of : Option Addr} {sl_width_of : Array (Option Value)} {oc_width_of kV_width_of dc_width_of pm_width_of cd_width_of ct_width_of : Value}
    {od_Clock___init__ an_Clock___init__ : Option Addr} {sl_Clock___init__ : Array (Option Value)} {oc_Clock___init__ kV_Clock___init__ dc_Clock___init__ pm_Clock___init__ cd_Clock___init__ ct_Clock___init__ : Value}
    {od__law_clock an__law_clock : Option Addr} {sl__law_clock : Array (Option Value)} {oc__law_clock kV__law_clock dc__law_clock pm__law_clock cd__law_clock ct__law_clock : Value}
    {od__law_mixed an__law_mixed : Option Addr} {sl__law_mixed : Array (Option Value)} {oc__law_mixed kV__law_mixed dc__law_mixed pm__law_mixed cd__law_mixed ct__law_mixed : Value}
    {od_Clock_mirrored an_Clock_mirrored : Option Addr} {sl_Clock_mirrored : Array (Option Value)} {oc_Clock_mirrored kV_Clock_mirrored dc_Clock_mirrored pm_Clock_mirrored cd_Clock_mirrored ct_Clock_mirrored : Value}
    {od_Clock_hours an_Clock_hours : Option Addr} {sl_Clock_hours : Array (Option Value)} {oc_Clock_hours kV_Clock_hours dc_Clock_hours pm_Clock_hours cd_Clock_hours ct_Clock_hours : Value}
    {rest_Clock_hours : List Value}
    {od_Clock_turned an_Clock_turned : Option Addr} {sl_Clock_turned : Array (Option Value)} {oc_Clock_turned kV_Clock_turned dc_Clock_turned pm_Clock_turned cd_Clock_turned ct_Clock_turned : Value}
    {od__law_far an__law_far : Option Addr} {sl__law_far : Array (Option Value)} {oc__law_far kV__law_far dc__law_far pm__law_far cd__law_far ct__law_far : Value}
    {od_is_hour an_is_hour : Option Addr} {sl_is_hour : Array (Option Value)} {oc_is_hour kV_is_hour dc_is_hour pm_is_hour cd_is_hour ct_is_hour : Value}
    {od_Clock_serving an_Clock_serving : Option Addr} {sl_Clock_serving : Array (Option Value)} {oc_Clock_serving kV_Clock_serving dc_Clock_serving pm_Clock_serving cd_Clock_serving ct_Clock_serving : Value}
    {od_Clock___getitem__ an_Clock___getitem__ : Option Addr} {sl_Clock___getitem__ : Array (Option Value)} {oc_Clock___getitem__ kV_Clock___getitem__ dc_Clock___getitem__ pm_Clock___getitem__ cd_Clock___getitem__ ct_Clock___getitem__ : Value}
    {od_Clock_served an_Clock_served : Option Addr} {sl_Clock_served : Array (Option Value)} {oc_Clock_served kV_Clock_served dc_Clock_served pm_Clock_served cd_Clock_served ct_Clock_served : Value}
    {od_Clock_widths an_Clock_widths : Option Addr} {sl_Clock_widths : Array (Option Value)} {oc_Clock_widths kV_Clock_widths dc_Clock_widths pm_Clock_widths cd_Clock_widths ct_Clock_widths : Value}
    {od_Clock_stays an_Clock_stays : Option Addr} {sl_Clock_stays : Array (Option Value)} {oc_Clock_stays kV_Clock_stays dc_Clock_stays pm_Clock_stays cd_Clock_stays ct_Clock_stays : Value}
    {od__law_rows_right an__law_rows_right : Option Addr} {sl__law_rows_right : Array (Option Value)} {oc__law_rows_right kV__law_rows_right dc__law_rows_right pm__law_rows_right cd__law_rows_right ct__law_rows_right : Value}
    {od_law an_law : Option Addr} {sl_law : Array (Option Value)} {oc_law kV_law dc_law pm_law cd_law ct_law : Value}
    {t_MOST_HOURS : Tok}
    (a_Clock : PySem.W.nsIn K mainGlobals "Clock" = some (some (.ref c_Clock)))
    (pg_Clock : PySem.W.plainGet K c_Clock Str.empty = true)
    (hd_Clock : PySem.W.hasDictIn K c_Clock = true)
    (po_Clock : PySem.W.plainOver K c_Clock = true)
    (sa_Clock : PySem.W.findIn K (.ref c_Clock) "__setattr__" = some (some (.builtin "object.__setattr__")))
    (sf_Clock : PySem.W.selfFirst K c_Clock = true)
    (n_Clock_kept_stays : PySem.W.findIn K (.ref c_Clock) "kept_stays" = some none)
    (n_Clock_kept_widths : PySem.W.findIn K (.ref c_Clock) "kept_widths" = some none)
    (a__law_bag : PySem.W.nsIn K mainGlobals "_law_bag" = some (some (.ref f__law_bag)))
    (l__law_bag : K.lookup f__law_bag = some ⟨oc__law_bag, od__law_bag, .func (PySem.W.fnOf "_law_bag" "_law_bag" (defArgs s__law_bag) (defBody s__law_bag) (defScope s__law_bag) .none kV__law_bag dc__law_bag pm__law_bag an__law_bag cd__law_bag ct__law_bag), sl__law_bag⟩)
    (c__law_bag : PySem.W.codeIn K cd__law_bag "_law_bag" = true)
    (k__law_bag : PySem.W.keepIn K (.ref f__law_bag) = true)
    (a__law_take : PySem.W.nsIn K mainGlobals "_law_take" = some (some (.ref f__law_take)))
    (l__law_take : K.lookup f__law_take = some ⟨oc__law_take, od__law_take, .func (PySem.W.fnOf "_law_take" "_law_take" (defArgs s__law_take) (defBody s__law_take) (defScope s__law_take) .none kV__law_take dc__law_take pm__law_take an__law_take cd__law_take ct__law_take), sl__law_take⟩)
    (c__law_take : PySem.W.codeIn K cd__law_take "_law_take" = true)
    (k__law_take : PySem.W.keepIn K (.ref f__law_take) = true)
    (a__law_stays : PySem.W.nsIn K mainGlobals "_law_stays" = some (some (.ref f__law_stays)))
    (l__law_stays : K.lookup f__law_stays = some ⟨oc__law_stays, od__law_stays, .func (PySem.W.fnOf "_law_stays" "_law_stays" (defArgs s__law_stays) (defBody s__law_stays) (defScope s__law_stays) .none kV__law_stays dc__law_stays pm__law_stays an__law_stays cd__law_stays ct__law_stays), sl__law_stays⟩)
    (c__law_stays : PySem.W.codeIn K cd__law_stays "_law_stays" = true)
    (k__law_stays : PySem.W.keepIn K (.ref f__law_stays) = true)
    (a_is_integer : PySem.W.nsIn K mainGlobals "is_integer" = some (some (.ref f_is_integer)))
    (l_is_integer : K.lookup f_is_integer = some ⟨oc_is_integer, od_is_integer, .func (PySem.W.fnOf "is_integer" "is_integer" (defArgs s_is_integer) (defBody s_is_integer) (defScope s_is_integer) .none kV_is_integer dc_is_integer pm_is_integer an_is_integer cd_is_integer ct_is_integer), sl_is_integer⟩)
    (c_is_integer : PySem.W.codeIn K cd_is_integer "is_integer" = true)
    (k_is_integer : PySem.W.keepIn K (.ref f_is_integer) = true)
    (a_are_stays : PySem.W.nsIn K mainGlobals "are_stays" = some (some (.ref f_are_stays)))
    (l_are_stays : K.lookup f_are_stays = some ⟨oc_are_stays, od_are_stays, .func (PySem.W.fnOf "are_stays" "are_stays" (defArgs s_are_stays) (defBody s_are_stays) (defScope s_are_stays) .none kV_are_stays dc_are_stays pm_are_stays an_are_stays cd_are_stays ct_are_stays), sl_are_stays⟩)
    (c_are_stays : PySem.W.codeIn K cd_are_stays "are_stays" = true)
    (k_are_stays : PySem.W.keepIn K (.ref f_are_stays) = true)
    (a_need_order : PySem.W.nsIn K mainGlobals "need_order" = some (some (.ref f_need_order)))
    (l_need_order : K.lookup f_need_order = some ⟨oc_need_order, od_need_order, .func (PySem.W.fnOf "need_order" "need_order" (defArgs s_need_order) (defBody s_need_order) (defScope s_need_order) .none kV_need_order dc_need_order pm_need_order an_need_order cd_need_order ct_need_order), sl_need_order⟩)
    (c_need_order : PySem.W.codeIn K cd_need_order "need_order" = true)
    (k_need_order : PySem.W.keepIn K (.ref f_need_order) = true)
    (a_width_of : PySem.W.nsIn K mainGlobals "width_of" = some (some (.ref f_width_of)))
    (l_width_of : K.lookup f_width_of = some ⟨oc_width_of, od_width_of, .func (PySem.W.fnOf "width_of" "width_of" (defArgs s_width_of) (defBody s_width_of) (defScope s_width_of) .none kV_width_of dc_width_of pm_width_of an_width_of cd_width_of ct_width_of), sl_width_of⟩)
    (c_width_of : PySem.W.codeIn K cd_width_of "width_of" = true)
    (k_width_of : PySem.W.keepIn K (.ref f_width_of) = true)
    (a_Clock___init__ : PySem.W.findIn K (.ref c_Clock) "__init__" = some (some (.ref f_Clock___init__)))
    (i_Clock___init__ : PySem.W.isFn K (.ref f_Clock___init__) = true)
    (mm_Clock : PySem.W.makesIn K c_Clock = true)
    (mc_Clock : PySem.W.keepIn K (.ref c_Clock) = true)
    (l_Clock___init__ : K.lookup f_Clock___init__ = some ⟨oc_Clock___init__, od_Clock___init__, .func (PySem.W.fnOf "__init__" "Clock.__init__" (defArgs s_Clock___init__) (defBody s_Clock___init__) (defScope s_Clock___init__) .none kV_Clock___init__ dc_Clock___init__ pm_Clock___init__ an_Clock___init__ cd_Clock___init__ ct_Clock___init__), sl_Clock___init__⟩)
    (c_Clock___init__ : PySem.W.codeIn K cd_Clock___init__ "Clock.__init__" = true)
    (k_Clock___init__ : PySem.W.keepIn K (.ref f_Clock___init__) = true)
    (a__law_clock : PySem.W.nsIn K mainGlobals "_law_clock" = some (some (.ref f__law_clock)))
    (l__law_clock : K.lookup f__law_clock = some ⟨oc__law_clock, od__law_clock, .func (PySem.W.fnOf "_law_clock" "_law_clock" (defArgs s__law_clock) (defBody s__law_clock) (defScope s__law_clock) .none kV__law_clock dc__law_clock pm__law_clock an__law_clock cd__law_clock ct__law_clock), sl__law_clock⟩)
    (c__law_clock : PySem.W.codeIn K cd__law_clock "_law_clock" = true)
    (k__law_clock : PySem.W.keepIn K (.ref f__law_clock) = true)
    (a__law_mixed : PySem.W.nsIn K mainGlobals "_law_mixed" = some (some (.ref f__law_mixed)))
    (l__law_mixed : K.lookup f__law_mixed = some ⟨oc__law_mixed, od__law_mixed, .func (PySem.W.fnOf "_law_mixed" "_law_mixed" (defArgs s__law_mixed) (defBody s__law_mixed) (defScope s__law_mixed) .none kV__law_mixed dc__law_mixed pm__law_mixed an__law_mixed cd__law_mixed ct__law_mixed), sl__law_mixed⟩)
    (c__law_mixed : PySem.W.codeIn K cd__law_mixed "_law_mixed" = true)
    (k__law_mixed : PySem.W.keepIn K (.ref f__law_mixed) = true)
    (a_Clock_mirrored : PySem.W.findIn K (.ref c_Clock) "mirrored" = some (some (.ref f_Clock_mirrored)))
    (i_Clock_mirrored : PySem.W.isFn K (.ref f_Clock_mirrored) = true)
    (l_Clock_mirrored : K.lookup f_Clock_mirrored = some ⟨oc_Clock_mirrored, od_Clock_mirrored, .func (PySem.W.fnOf "mirrored" "Clock.mirrored" (defArgs s_Clock_mirrored) (defBody s_Clock_mirrored) (defScope s_Clock_mirrored) .none kV_Clock_mirrored dc_Clock_mirrored pm_Clock_mirrored an_Clock_mirrored cd_Clock_mirrored ct_Clock_mirrored), sl_Clock_mirrored⟩)
    (c_Clock_mirrored : PySem.W.codeIn K cd_Clock_mirrored "Clock.mirrored" = true)
    (k_Clock_mirrored : PySem.W.keepIn K (.ref f_Clock_mirrored) = true)
    (pa_Clock_hours : PySem.W.findIn K (.ref c_Clock) "hours" = some (some (.ref q_Clock_hours)))
    (pb_Clock_hours : PySem.W.specialIn K (.ref q_Clock_hours) "__get__" = some (some (.builtin "property.__get__")))
    (pc_Clock_hours : PySem.W.takesIn K (.ref q_Clock_hours) = some true)
    (pd_Clock_hours : PySem.W.recIn K q_Clock_hours "property" = some (.ref f_Clock_hours :: rest_Clock_hours))
    (l_Clock_hours : K.lookup f_Clock_hours = some ⟨oc_Clock_hours, od_Clock_hours, .func (PySem.W.fnOf "hours" "Clock.hours" (defArgs s_Clock_hours) (defBody s_Clock_hours) (defScope s_Clock_hours) .none kV_Clock_hours dc_Clock_hours pm_Clock_hours an_Clock_hours cd_Clock_hours ct_Clock_hours), sl_Clock_hours⟩)
    (c_Clock_hours : PySem.W.codeIn K cd_Clock_hours "Clock.hours" = true)
    (k_Clock_hours : PySem.W.keepIn K (.ref f_Clock_hours) = true)
    (a_Clock_turned : PySem.W.findIn K (.ref c_Clock) "turned" = some (some (.ref f_Clock_turned)))
    (i_Clock_turned : PySem.W.isFn K (.ref f_Clock_turned) = true)
    (l_Clock_turned : K.lookup f_Clock_turned = some ⟨oc_Clock_turned, od_Clock_turned, .func (PySem.W.fnOf "turned" "Clock.turned" (defArgs s_Clock_turned) (defBody s_Clock_turned) (defScope s_Clock_turned) .none kV_Clock_turned dc_Clock_turned pm_Clock_turned an_Clock_turned cd_Clock_turned ct_Clock_turned), sl_Clock_turned⟩)
    (c_Clock_turned : PySem.W.codeIn K cd_Clock_turned "Clock.turned" = true)
    (k_Clock_turned : PySem.W.keepIn K (.ref f_Clock_turned) = true)
    (a__law_far : PySem.W.nsIn K mainGlobals "_law_far" = some (some (.ref f__law_far)))
    (l__law_far : K.lookup f__law_far = some ⟨oc__law_far, od__law_far, .func (PySem.W.fnOf "_law_far" "_law_far" (defArgs s__law_far) (defBody s__law_far) (defScope s__law_far) .none kV__law_far dc__law_far pm__law_far an__law_far cd__law_far ct__law_far), sl__law_far⟩)
    (c__law_far : PySem.W.codeIn K cd__law_far "_law_far" = true)
    (k__law_far : PySem.W.keepIn K (.ref f__law_far) = true)
    (a_is_hour : PySem.W.nsIn K mainGlobals "is_hour" = some (some (.ref f_is_hour)))
    (l_is_hour : K.lookup f_is_hour = some ⟨oc_is_hour, od_is_hour, .func (PySem.W.fnOf "is_hour" "is_hour" (defArgs s_is_hour) (defBody s_is_hour) (defScope s_is_hour) .none kV_is_hour dc_is_hour pm_is_hour an_is_hour cd_is_hour ct_is_hour), sl_is_hour⟩)
    (c_is_hour : PySem.W.codeIn K cd_is_hour "is_hour" = true)
    (k_is_hour : PySem.W.keepIn K (.ref f_is_hour) = true)
    (a_Clock_serving : PySem.W.findIn K (.ref c_Clock) "serving" = some (some (.ref f_Clock_serving)))
    (i_Clock_serving : PySem.W.isFn K (.ref f_Clock_serving) = true)
    (l_Clock_serving : K.lookup f_Clock_serving = some ⟨oc_Clock_serving, od_Clock_serving, .func (PySem.W.fnOf "serving" "Clock.serving" (defArgs s_Clock_serving) (defBody s_Clock_serving) (defScope s_Clock_serving) .none kV_Clock_serving dc_Clock_serving pm_Clock_serving an_Clock_serving cd_Clock_serving ct_Clock_serving), sl_Clock_serving⟩)
    (c_Clock_serving : PySem.W.codeIn K cd_Clock_serving "Clock.serving" = true)
    (k_Clock_serving : PySem.W.keepIn K (.ref f_Clock_serving) = true)
    (a_Clock___getitem__ : PySem.W.findIn K (.ref c_Clock) "__getitem__" = some (some (.ref f_Clock___getitem__)))
    (i_Clock___getitem__ : PySem.W.isFn K (.ref f_Clock___getitem__) = true)
    (fi_Clock___getitem__ : PySem.W.fnIn K f_Clock___getitem__ = true)
    (l_Clock___getitem__ : K.lookup f_Clock___getitem__ = some ⟨oc_Clock___getitem__, od_Clock___getitem__, .func (PySem.W.fnOf "__getitem__" "Clock.__getitem__" (defArgs s_Clock___getitem__) (defBody s_Clock___getitem__) (defScope s_Clock___getitem__) .none kV_Clock___getitem__ dc_Clock___getitem__ pm_Clock___getitem__ an_Clock___getitem__ cd_Clock___getitem__ ct_Clock___getitem__), sl_Clock___getitem__⟩)
    (c_Clock___getitem__ : PySem.W.codeIn K cd_Clock___getitem__ "Clock.__getitem__" = true)
    (k_Clock___getitem__ : PySem.W.keepIn K (.ref f_Clock___getitem__) = true)
    (a_Clock_served : PySem.W.findIn K (.ref c_Clock) "served" = some (some (.ref f_Clock_served)))
    (i_Clock_served : PySem.W.isFn K (.ref f_Clock_served) = true)
    (l_Clock_served : K.lookup f_Clock_served = some ⟨oc_Clock_served, od_Clock_served, .func (PySem.W.fnOf "served" "Clock.served" (defArgs s_Clock_served) (defBody s_Clock_served) (defScope s_Clock_served) .none kV_Clock_served dc_Clock_served pm_Clock_served an_Clock_served cd_Clock_served ct_Clock_served), sl_Clock_served⟩)
    (c_Clock_served : PySem.W.codeIn K cd_Clock_served "Clock.served" = true)
    (k_Clock_served : PySem.W.keepIn K (.ref f_Clock_served) = true)
    (a_Clock_widths : PySem.W.findIn K (.ref c_Clock) "widths" = some (some (.ref f_Clock_widths)))
    (i_Clock_widths : PySem.W.isFn K (.ref f_Clock_widths) = true)
    (l_Clock_widths : K.lookup f_Clock_widths = some ⟨oc_Clock_widths, od_Clock_widths, .func (PySem.W.fnOf "widths" "Clock.widths" (defArgs s_Clock_widths) (defBody s_Clock_widths) (defScope s_Clock_widths) .none kV_Clock_widths dc_Clock_widths pm_Clock_widths an_Clock_widths cd_Clock_widths ct_Clock_widths), sl_Clock_widths⟩)
    (c_Clock_widths : PySem.W.codeIn K cd_Clock_widths "Clock.widths" = true)
    (k_Clock_widths : PySem.W.keepIn K (.ref f_Clock_widths) = true)
    (a_Clock_stays : PySem.W.findIn K (.ref c_Clock) "stays" = some (some (.ref f_Clock_stays)))
    (i_Clock_stays : PySem.W.isFn K (.ref f_Clock_stays) = true)
    (l_Clock_stays : K.lookup f_Clock_stays = some ⟨oc_Clock_stays, od_Clock_stays, .func (PySem.W.fnOf "stays" "Clock.stays" (defArgs s_Clock_stays) (defBody s_Clock_stays) (defScope s_Clock_stays) .none kV_Clock_stays dc_Clock_stays pm_Clock_stays an_Clock_stays cd_Clock_stays ct_Clock_stays), sl_Clock_stays⟩)
    (c_Clock_stays : PySem.W.codeIn K cd_Clock_stays "Clock.stays" = true)
    (k_Clock_stays : PySem.W.keepIn K (.ref f_Clock_stays) = true)
    (a__law_rows_right : PySem.W.nsIn K mainGlobals "_law_rows_right" = some (some (.ref f__law_rows_right)))
    (l__law_rows_right : K.lookup f__law_rows_right = some ⟨oc__law_rows_right, od__law_rows_right, .func (PySem.W.fnOf "_law_rows_right" "_law_rows_right" (defArgs s__law_rows_right) (defBody s__law_rows_right) (defScope s__law_rows_right) .none kV__law_rows_right dc__law_rows_right pm__law_rows_right an__law_rows_right cd__law_rows_right ct__law_rows_right), sl__law_rows_right⟩)
    (c__law_rows_right : PySem.W.codeIn K cd__law_rows_right "_law_rows_right" = true)
    (k__law_rows_right : PySem.W.keepIn K (.ref f__law_rows_right) = true)
    (a_law : PySem.W.nsIn K mainGlobals "law" = some (some (.ref f_law)))
    (l_law : K.lookup f_law = some ⟨oc_law, od_law, .func (PySem.W.fnOf "law" "law" (defArgs s_law) (defBody s_law) (defScope s_law) .none kV_law dc_law pm_law an_law cd_law ct_law), sl_law⟩)
    (c_law : PySem.W.codeIn K cd_law "law" = true)
    (k_law : PySem.W.keepIn K (.ref f_law) = true)
    (z_abs : PySem.W.nsIn K mainGlobals "abs" = some none)
    (z_all : PySem.W.nsIn K mainGlobals "all" = some none)
    (z_bool : PySem.W.nsIn K mainGlobals "bool" = some none)
    (z_enumerate : PySem.W.nsIn K mainGlobals "enumerate" = some none)
    (z_int : PySem.W.nsIn K mainGlobals "int" = some none)
    (z_isinstance : PySem.W.nsIn K mainGlobals "isinstance" = some none)
    (z_len : PySem.W.nsIn K mainGlobals "len" = some none)
    (z_list : PySem.W.nsIn K mainGlobals "list" = some none)
    (z_min : PySem.W.nsIn K mainGlobals "min" = some none)
    (z_range : PySem.W.nsIn K mainGlobals "range" = some none)
    (z_sum : PySem.W.nsIn K mainGlobals "sum" = some none)
    (z_tuple : PySem.W.nsIn K mainGlobals "tuple" = some none)
    (k_MOST_HOURS : PySem.W.nsIn K mainGlobals "MOST_HOURS" = some (some (.int 48 t_MOST_HOURS))) :
    ∃ fd : FuncData, (∀ (s : Shared) (v : Value), BindsTo s fd ⟨[v], []⟩ [("_law_script", v)]) ∧ ∀ base : Heap, K.In base → base.Ns mainGlobals mg → FnOk P w K mg base (L2.CX P w) 7 fa fd ["_law_script"] (fun vs H Q E => spLaw K vs H Q E) := by
  have e := hfa.symm.trans (PySem.W.mg_of X G a_law)
  cases e
  have T : Tx K mg ⟨c_Clock, f__law_bag, f__law_take, f__law_stays, f_is_integer, f_are_stays, f_need_order, f_width_of, f_Clock___init__, f__law_clock, f__law_mixed, f_Clock_mirrored, f_Clock_hours, q_Clock_hours, f_Clock_turned, f__law_far, f_is_hour, f_Clock_serving, f_Clock___getitem__, f_Clock_served, f_Clock_widths, f_Clock_stays, f__law_rows_right, fa⟩ := {
    g_Clock := PySem.W.mg_of X G a_Clock,
    cl_Clock := ⟨pg_Clock, hd_Clock, po_Clock, sa_Clock⟩,
    sf_Clock := sf_Clock,
    n_Clock_kept_stays := n_Clock_kept_stays,
    n_Clock_kept_widths := n_Clock_kept_widths,
    g__law_bag := PySem.W.mg_of X G a__law_bag,
    d__law_bag := ⟨_, fun_mk l__law_bag c__law_bag k__law_bag, (fun_mk (st := s__law_bag) l__law_bag c__law_bag k__law_bag).binds (ps := ["_law_script"]) fun _ _ _ _ _ _ us hl => match us, hl with | [_], _ => rfl⟩,
    g__law_take := PySem.W.mg_of X G a__law_take,
    d__law_take := ⟨_, fun_mk l__law_take c__law_take k__law_take, (fun_mk (st := s__law_take) l__law_take c__law_take k__law_take).binds (ps := ["_law_bag_here", "_law_upto"]) fun _ _ _ _ _ _ us hl => match us, hl with | [_, _], _ => rfl⟩,
    g__law_stays := PySem.W.mg_of X G a__law_stays,
    d__law_stays := ⟨_, fun_mk l__law_stays c__law_stays k__law_stays, (fun_mk (st := s__law_stays) l__law_stays c__law_stays k__law_stays).binds (ps := ["_law_bag_here", "_law_many"]) fun _ _ _ _ _ _ us hl => match us, hl with | [_, _], _ => rfl⟩,
    g_is_integer := PySem.W.mg_of X G a_is_integer,
    d_is_integer := ⟨_, fun_mk l_is_integer c_is_integer k_is_integer, (fun_mk (st := s_is_integer) l_is_integer c_is_integer k_is_integer).binds (ps := ["thing"]) fun _ _ _ _ _ _ us hl => match us, hl with | [_], _ => rfl⟩,
    g_are_stays := PySem.W.mg_of X G a_are_stays,
    d_are_stays := ⟨_, fun_mk l_are_stays c_are_stays k_are_stays, (fun_mk (st := s_are_stays) l_are_stays c_are_stays k_are_stays).binds (ps := ["thing"]) fun _ _ _ _ _ _ us hl => match us, hl with | [_], _ => rfl⟩,
    g_need_order := PySem.W.mg_of X G a_need_order,
    d_need_order := ⟨_, fun_mk l_need_order c_need_order k_need_order, (fun_mk (st := s_need_order) l_need_order c_need_order k_need_order).binds (ps := ["stays"]) fun _ _ _ _ _ _ us hl => match us, hl with | [_], _ => rfl⟩,
    g_width_of := PySem.W.mg_of X G a_width_of,
    d_width_of := ⟨_, fun_mk l_width_of c_width_of k_width_of, (fun_mk (st := s_width_of) l_width_of c_width_of k_width_of).binds (ps := ["stays", "hour"]) fun _ _ _ _ _ _ us hl => match us, hl with | [_, _], _ => rfl⟩,
    mk_Clock := ⟨mm_Clock, a_Clock___init__, i_Clock___init__, mc_Clock⟩,
    d_Clock___init__ := ⟨_, fun_mk l_Clock___init__ c_Clock___init__ k_Clock___init__, (fun_mk (st := s_Clock___init__) l_Clock___init__ c_Clock___init__ k_Clock___init__).binds (ps := ["self", "stays"]) fun _ _ _ _ _ _ us hl => match us, hl with | [_, _], _ => rfl⟩,
    g__law_clock := PySem.W.mg_of X G a__law_clock,
    d__law_clock := ⟨_, fun_mk l__law_clock c__law_clock k__law_clock, (fun_mk (st := s__law_clock) l__law_clock c__law_clock k__law_clock).binds (ps := ["_law_bag_here", "_law_stays_here"]) fun _ _ _ _ _ _ us hl => match us, hl with | [_, _], _ => rfl⟩,
    g__law_mixed := PySem.W.mg_of X G a__law_mixed,
    d__law_mixed := ⟨_, fun_mk l__law_mixed c__law_mixed k__law_mixed, (fun_mk (st := s__law_mixed) l__law_mixed c__law_mixed k__law_mixed).binds (ps := ["_law_bag_here", "_law_things"]) fun _ _ _ _ _ _ us hl => match us, hl with | [_, _], _ => rfl⟩,
    m_Clock_mirrored := ⟨a_Clock_mirrored, i_Clock_mirrored, k_Clock_mirrored⟩,
    d_Clock_mirrored := ⟨_, fun_mk l_Clock_mirrored c_Clock_mirrored k_Clock_mirrored, (fun_mk (st := s_Clock_mirrored) l_Clock_mirrored c_Clock_mirrored k_Clock_mirrored).binds (ps := ["self"]) fun _ _ _ _ _ _ us hl => match us, hl with | [_], _ => rfl⟩,
    p_Clock_hours := ⟨pa_Clock_hours, pb_Clock_hours, pc_Clock_hours, ⟨_, pd_Clock_hours⟩⟩,
    d_Clock_hours := ⟨_, fun_mk l_Clock_hours c_Clock_hours k_Clock_hours, (fun_mk (st := s_Clock_hours) l_Clock_hours c_Clock_hours k_Clock_hours).binds (ps := ["self"]) fun _ _ _ _ _ _ us hl => match us, hl with | [_], _ => rfl⟩,
    m_Clock_turned := ⟨a_Clock_turned, i_Clock_turned, k_Clock_turned⟩,
    d_Clock_turned := ⟨_, fun_mk l_Clock_turned c_Clock_turned k_Clock_turned, (fun_mk (st := s_Clock_turned) l_Clock_turned c_Clock_turned k_Clock_turned).binds (ps := ["self", "by"]) fun _ _ _ _ _ _ us hl => match us, hl with | [_, _], _ => rfl⟩,
    g__law_far := PySem.W.mg_of X G a__law_far,
    d__law_far := ⟨_, fun_mk l__law_far c__law_far k__law_far, (fun_mk (st := s__law_far) l__law_far c__law_far k__law_far).binds (ps := ["_law_bag_here"]) fun _ _ _ _ _ _ us hl => match us, hl with | [_], _ => rfl⟩,
    g_is_hour := PySem.W.mg_of X G a_is_hour,
    d_is_hour := ⟨_, fun_mk l_is_hour c_is_hour k_is_hour, (fun_mk (st := s_is_hour) l_is_hour c_is_hour k_is_hour).binds (ps := ["hours", "thing"]) fun _ _ _ _ _ _ us hl => match us, hl with | [_, _], _ => rfl⟩,
    m_Clock_serving := ⟨a_Clock_serving, i_Clock_serving, k_Clock_serving⟩,
    d_Clock_serving := ⟨_, fun_mk l_Clock_serving c_Clock_serving k_Clock_serving, (fun_mk (st := s_Clock_serving) l_Clock_serving c_Clock_serving k_Clock_serving).binds (ps := ["self", "hour"]) fun _ _ _ _ _ _ us hl => match us, hl with | [_, _], _ => rfl⟩,
    m_Clock___getitem__ := ⟨a_Clock___getitem__, i_Clock___getitem__, k_Clock___getitem__⟩,
    fi_Clock___getitem__ := fi_Clock___getitem__,
    d_Clock___getitem__ := ⟨_, fun_mk l_Clock___getitem__ c_Clock___getitem__ k_Clock___getitem__, (fun_mk (st := s_Clock___getitem__) l_Clock___getitem__ c_Clock___getitem__ k_Clock___getitem__).binds (ps := ["self", "hour"]) fun _ _ _ _ _ _ us hl => match us, hl with | [_, _], _ => rfl⟩,
    m_Clock_served := ⟨a_Clock_served, i_Clock_served, k_Clock_served⟩,
    d_Clock_served := ⟨_, fun_mk l_Clock_served c_Clock_served k_Clock_served, (fun_mk (st := s_Clock_served) l_Clock_served c_Clock_served k_Clock_served).binds (ps := ["self", "hour"]) fun _ _ _ _ _ _ us hl => match us, hl with | [_, _], _ => rfl⟩,
    m_Clock_widths := ⟨a_Clock_widths, i_Clock_widths, k_Clock_widths⟩,
    d_Clock_widths := ⟨_, fun_mk l_Clock_widths c_Clock_widths k_Clock_widths, (fun_mk (st := s_Clock_widths) l_Clock_widths c_Clock_widths k_Clock_widths).binds (ps := ["self"]) fun _ _ _ _ _ _ us hl => match us, hl with | [_], _ => rfl⟩,
    m_Clock_stays := ⟨a_Clock_stays, i_Clock_stays, k_Clock_stays⟩,
    d_Clock_stays := ⟨_, fun_mk l_Clock_stays c_Clock_stays k_Clock_stays, (fun_mk (st := s_Clock_stays) l_Clock_stays c_Clock_stays k_Clock_stays).binds (ps := ["self"]) fun _ _ _ _ _ _ us hl => match us, hl with | [_], _ => rfl⟩,
    g__law_rows_right := PySem.W.mg_of X G a__law_rows_right,
    d__law_rows_right := ⟨_, fun_mk l__law_rows_right c__law_rows_right k__law_rows_right, (fun_mk (st := s__law_rows_right) l__law_rows_right c__law_rows_right k__law_rows_right).binds (ps := ["_law_clock_here", "_law_many"]) fun _ _ _ _ _ _ us hl => match us, hl with | [_, _], _ => rfl⟩,
    z_abs := PySem.W.mg_none_of X G z_abs,
    z_all := PySem.W.mg_none_of X G z_all,
    z_bool := PySem.W.mg_none_of X G z_bool,
    z_enumerate := PySem.W.mg_none_of X G z_enumerate,
    z_int := PySem.W.mg_none_of X G z_int,
    z_isinstance := PySem.W.mg_none_of X G z_isinstance,
    z_len := PySem.W.mg_none_of X G z_len,
    z_list := PySem.W.mg_none_of X G z_list,
    z_min := PySem.W.mg_none_of X G z_min,
    z_range := PySem.W.mg_none_of X G z_range,
    z_sum := PySem.W.mg_none_of X G z_sum,
    z_tuple := PySem.W.mg_none_of X G z_tuple,
    k_MOST_HOURS := ⟨_, PySem.W.mg_of X G k_MOST_HOURS⟩ }
  refine ⟨PySem.W.fnOf "law" "law" (defArgs s_law) (defBody s_law) (defScope s_law) .none kV_law dc_law pm_law an_law cd_law ct_law, fun s v => .of_eq rfl, fun base _ _ => ?_⟩
  exact ok_law (d := ⟨c_Clock, f__law_bag, f__law_take, f__law_stays, f_is_integer, f_are_stays, f_need_order, f_width_of, f_Clock___init__, f__law_clock, f__law_mixed, f_Clock_mirrored, f_Clock_hours, q_Clock_hours, f_Clock_turned, f__law_far, f_is_hour, f_Clock_serving, f_Clock___getitem__, f_Clock_served, f_Clock_widths, f_Clock_stays, f__law_rows_right, fa⟩) (fun_mk l_law c_law k_law) T
theorem walk {l : PySem.W.OpenLaw} {q : Program} {loose : List Str} {XP : (Str → Option Value) → Heap → Prop} {YP : World → Heap → Prop} {dr : DefRec} {K : Params → PySem.W.Frag} (hn : l.most = some 63) (hdf : dr.params.defaults = [])
    (hY : ∀ (w : World) (h : Heap), YP w h → (K w.params).In h)
    (F : ∀ (w : World) (mg : Str → Option Value) (fa : Addr) (h : Heap), (K w.params).In h → h.Ns mainGlobals mg → mg dr.name = some (.ref fa) →
      ∃ fd : FuncData, (∀ (s : Shared) (u : Value), BindsTo s fd ⟨[u], []⟩ [("_law_script", u)]) ∧ ∀ base : Heap, (K w.params).In base → base.Ns mainGlobals mg → FnOk l.prog w (K w.params) mg base (L2.CX l.prog w) 7 fa fd ["_law_script"] (fun vs H Q E => spLaw (K w.params) vs H Q E)) :
    PySem.W.WalkO q loose XP YP l.row.toRowW dr [] (fun f vs => PySem.call f vs) :=
  L2.walk_of (n := 63) (k := 7) (x := "_law_script") (CX := fun w => L2.CX l.prog w) (sp := fun w => spLaw (K w.params)) hn (by decide) hdf ⟨rfl, by decide, by decide⟩ hY F (fun _ _ a ns hl _ hS => ⟨a, ns, rfl, hS, hl, fun _ => rfl⟩)
    fun _ _ _ _ _ z => by
      obtain ⟨_, _, _, _, _, _, _, _, _, _, _, _, z⟩ := z
      exact z
end Pf
open PySem PySem.W PyProof.Rows in
set_option maxRecDepth 100000 in
set_option maxHeartbeats 0 in
theorem PySem.Challenge.cw_hourneeds_k15_whole_served_and_serving_holds : PySem.Challenge.rw_hourneeds_k15_whole_served_and_serving.Holds := by
  w_on; o_law; k_head; (case hw => w_witness2)
  k_fill
  refine Pf.walk (l := PySem.Challenge.rw_hourneeds_k15_whole_served_and_serving) rfl rfl (fun w h Y => PySem.W.kIn_of Y) ?F
  case F =>
    intro w mg fa h KX G hmg
    refine' Pf.all_mk KX G hmg ?a_Clock ?pg_Clock ?hd_Clock ?po_Clock ?sa_Clock ?sf_Clock ?n_Clock_kept_stays ?n_Clock_kept_widths ?a__law_bag ?l__law_bag ?c__law_bag ?k__law_bag ?a__law_take ?l__law_take ?c__law_take ?k__law_take ?a__law_stays ?l__law_stays ?c__law_stays ?k__law_stays ?a_is_integer ?l_is_integer ?c_is_integer ?k_is_integer ?a_are_stays ?l_are_stays ?c_are_stays ?k_are_stays ?a_need_order ?l_need_order ?c_need_order ?k_need_order ?a_width_of ?l_width_of ?c_width_of ?k_width_of ?a_Clock___init__ ?i_Clock___init__ ?mm_Clock ?mc_Clock ?l_Clock___init__ ?c_Clock___init__ ?k_Clock___init__ ?a__law_clock ?l__law_clock ?c__law_clock ?k__law_clock ?a__law_mixed ?l__law_mixed ?c__law_mixed ?k__law_mixed ?a_Clock_mirrored ?i_Clock_mirrored ?l_Clock_mirrored ?c_Clock_mirrored ?k_Clock_mirrored ?pa_Clock_hours ?pb_Clock_hours ?pc_Clock_hours ?pd_Clock_hours ?l_Clock_hours ?c_Clock_hours ?k_Clock_hours ?a_Clock_turned ?i_Clock_turned ?l_Clock_turned ?c_Clock_turned ?k_Clock_turned ?a__law_far ?l__law_far ?c__law_far ?k__law_far ?a_is_hour ?l_is_hour ?c_is_hour ?k_is_hour ?a_Clock_serving ?i_Clock_serving ?l_Clock_serving ?c_Clock_serving ?k_Clock_serving ?a_Clock___getitem__ ?i_Clock___getitem__ ?fi_Clock___getitem__ ?l_Clock___getitem__ ?c_Clock___getitem__ ?k_Clock___getitem__ ?a_Clock_served ?i_Clock_served ?l_Clock_served ?c_Clock_served ?k_Clock_served ?a_Clock_widths ?i_Clock_widths ?l_Clock_widths ?c_Clock_widths ?k_Clock_widths ?a_Clock_stays ?i_Clock_stays ?l_Clock_stays ?c_Clock_stays ?k_Clock_stays ?a__law_rows_right ?l__law_rows_right ?c__law_rows_right ?k__law_rows_right ?a_law ?l_law ?c_law ?k_law ?z_abs ?z_all ?z_bool ?z_enumerate ?z_int ?z_isinstance ?z_len ?z_list ?z_min ?z_range ?z_sum ?z_tuple ?k_MOST_HOURS
    (case a_Clock => k_is)
    (case pg_Clock => k_is)
    (case hd_Clock => k_is)
    (case po_Clock => k_is)
    (case sa_Clock => k_is)
    (case sf_Clock => k_is)
    (case n_Clock_kept_stays => k_is)
    (case n_Clock_kept_widths => k_is)
    (case a__law_bag => k_is)
    (case l__law_bag => k_is)
    (case c__law_bag => k_is)
    (case k__law_bag => k_is)
    (case a__law_take => k_is)
    (case l__law_take => k_is)
    (case c__law_take => k_is)
    (case k__law_take => k_is)
    (case a__law_stays => k_is)
    (case l__law_stays => k_is)
    (case c__law_stays => k_is)
    (case k__law_stays => k_is)
    (case a_is_integer => k_is)
    (case l_is_integer => k_is)
    (case c_is_integer => k_is)
    (case k_is_integer => k_is)
    (case a_are_stays => k_is)
    (case l_are_stays => k_is)
    (case c_are_stays => k_is)
    (case k_are_stays => k_is)
    (case a_need_order => k_is)
    (case l_need_order => k_is)
    (case c_need_order => k_is)
    (case k_need_order => k_is)
    (case a_width_of => k_is)
    (case l_width_of => k_is)
    (case c_width_of => k_is)
    (case k_width_of => k_is)
    (case a_Clock___init__ => k_is)
    (case i_Clock___init__ => k_is)
    (case mm_Clock => k_is)
    (case mc_Clock => k_is)
    (case l_Clock___init__ => k_is)
    (case c_Clock___init__ => k_is)
    (case k_Clock___init__ => k_is)
    (case a__law_clock => k_is)
    (case l__law_clock => k_is)
    (case c__law_clock => k_is)
    (case k__law_clock => k_is)
    (case a__law_mixed => k_is)
    (case l__law_mixed => k_is)
    (case c__law_mixed => k_is)
    (case k__law_mixed => k_is)
    (case a_Clock_mirrored => k_is)
    (case i_Clock_mirrored => k_is)
    (case l_Clock_mirrored => k_is)
    (case c_Clock_mirrored => k_is)
    (case k_Clock_mirrored => k_is)
    (case pa_Clock_hours => k_is)
    (case pb_Clock_hours => k_is)
    (case pc_Clock_hours => k_is)
    (case pd_Clock_hours => k_is)
    (case l_Clock_hours => k_is)
    (case c_Clock_hours => k_is)
    (case k_Clock_hours => k_is)
    (case a_Clock_turned => k_is)
    (case i_Clock_turned => k_is)
    (case l_Clock_turned => k_is)
    (case c_Clock_turned => k_is)
    (case k_Clock_turned => k_is)
    (case a__law_far => k_is)
    (case l__law_far => k_is)
    (case c__law_far => k_is)
    (case k__law_far => k_is)
    (case a_is_hour => k_is)
    (case l_is_hour => k_is)
    (case c_is_hour => k_is)
    (case k_is_hour => k_is)
    (case a_Clock_serving => k_is)
    (case i_Clock_serving => k_is)
    (case l_Clock_serving => k_is)
    (case c_Clock_serving => k_is)
    (case k_Clock_serving => k_is)
    (case a_Clock___getitem__ => k_is)
    (case i_Clock___getitem__ => k_is)
    (case fi_Clock___getitem__ => k_is)
    (case l_Clock___getitem__ => k_is)
    (case c_Clock___getitem__ => k_is)
    (case k_Clock___getitem__ => k_is)
    (case a_Clock_served => k_is)
    (case i_Clock_served => k_is)
    (case l_Clock_served => k_is)
    (case c_Clock_served => k_is)
    (case k_Clock_served => k_is)
    (case a_Clock_widths => k_is)
    (case i_Clock_widths => k_is)
    (case l_Clock_widths => k_is)
    (case c_Clock_widths => k_is)
    (case k_Clock_widths => k_is)
    (case a_Clock_stays => k_is)
    (case i_Clock_stays => k_is)
    (case l_Clock_stays => k_is)
    (case c_Clock_stays => k_is)
    (case k_Clock_stays => k_is)
    (case a__law_rows_right => k_is)
    (case l__law_rows_right => k_is)
    (case c__law_rows_right => k_is)
    (case k__law_rows_right => k_is)
    (case a_law => k_is)
    (case l_law => k_is)
    (case c_law => k_is)
    (case k_law => k_is)
    (case z_abs => k_is)
    (case z_all => k_is)
    (case z_bool => k_is)
    (case z_enumerate => k_is)
    (case z_int => k_is)
    (case z_isinstance => k_is)
    (case z_len => k_is)
    (case z_list => k_is)
    (case z_min => k_is)
    (case z_range => k_is)
    (case z_sum => k_is)
    (case z_tuple => k_is)
    (case k_MOST_HOURS => k_is)
#print axioms PySem.Challenge.cw_hourneeds_k15_whole_served_and_serving_holds
