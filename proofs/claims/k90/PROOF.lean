import PyProof.Rows.All
import Wide.All
import OpenK.AllK
import Wide.FinOn
import HandS.ForMost
import HandS.ForExc
import HandS.Evl
import HandS.Walk
import HandS.Property
import HandS.IsInst
import HandS.Style
import HandS.More
import HandS.SetFor
import HandS.Zip
import HandS.TupAny
import HandS.Wide
import HandS.Deep
import KE.KOpsOwn
import KE.KDictZip
import KE.RegKIsAll
import KE.GoesEnum
import KE.Datum
import KE.IntTextLaws
import PyProof.StrBlock2
import KE.GoesMore
import KE.KItemsList
import HandS.ListItems
import KE.KTupSum
import OpenK.KOps
import HandS.OwnIter
import HandS.IterVal
import PyProof.ReprRoads
import PyProof.ReprLen
import PyProof.CallFns
import HandS.Conv
import HandS.ClsMeth
import HandS.TryOnly
import HandS.Text
import PySem.Challenge.RW_hourneeds_k90_texts_told
set_option Elab.async false
set_option linter.all false
set_option maxRecDepth 100000
set_option maxHeartbeats 2000000
/-! Rules of our own over the hand layer: items of lists by +=, operators, comparisons and subscripts of own classes. -/
namespace Hn
open PySem PySem.Spec PyProof.Rows L2

/-- xs[i] by getItem (for xs[i] += e) -/
theorem get_list {X : Cx} : PGet X (rIxL X.K) := by
  intro pins s σ H x y v u Q I rx ry h
  obtain ⟨p, xs, i, z, rfl, rfl, hq, he, q⟩ := h
  cases rx
  obtain ⟨t, rfl⟩ := ry
  obtain ⟨its, r, pl, hz⟩ := I.list hq
  obtain ⟨j, h1, h2, h3, h4, h5⟩ := atI_get he
  obtain ⟨w, ew, rw'⟩ := r.get h2
  have hl := r.length
  have hn := line63
  have fin : EP X pins σ Q w s := ⟨z, H, I, rw', q⟩
  by_cases h0 : 0 ≤ i
  · have hj : i.toNat = j := by
      rw [seqIndex_of h0 h5] at h1
      exact Option.some.inj h1
    exact wpAny_getItem_list pl.isList h0 (by omega) (by rw [hj]; simpa using ew) fin
  · have hj : (i + (its.toArray.size : Int)).toNat = j := by
      rw [seqIndex_neg (by omega) h4] at h1
      rw [List.size_toArray, ← hl]
      exact Option.some.inj h1
    exact wpAny_getItem_list_neg pl.isList (by omega) (by rw [List.size_toArray] <;> omega) (by omega) (by rw [hj]; simpa using ew) fin

section
variable {X : Cx} {CX : CXT} {k : Nat} {f C : Addr} {fd : FuncData} {ps : List Str} {sp : Sp} {E : XK}

/-- a promise whose answers are never NotImplemented: nothing to ask, values V have none -/
theorem back_ne {pins : List (Addr × Obj)} {σ : L2.St} {Q : VK} {v : Value} {s' : Shared} (h : EP X pins σ Q v s') : PySem.W.CmpBack (EP X pins σ Q) v s' := by
  obtain ⟨z, H', I', r, q⟩ := id h
  cases z with
  | non => cases r; exact h
  | bl b => cases r; exact h
  | int i => obtain ⟨t, rfl⟩ := r; exact h
  | str i => obtain ⟨t, rfl⟩ := r; exact h
  | byt i => obtain ⟨t, rfl⟩ := r; exact h
  | flt i => obtain ⟨t, rfl⟩ := r; exact h
  | ref a => cases r; exact h
  | ty n => cases r; exact h

/-- x op y by the class's own method, both of one class -/
def rOwn (C : Addr) (sp : Sp) (E : XK) : R2 := fun x y H Q => ∃ a b dx dy fs gs, x = .ref a ∧ y = .ref b ∧ H a = some (.ins C dx fs) ∧ H b = some (.ins C dy gs) ∧ sp [x, y] H Q E
theorem op_own {op : Operator} (F : FnOk X.prog X.w X.K X.mg X.base CX k f fd ps sp) (hr : Room k X.A) (hb : Binds X.K fd ps []) (hx : Passes CX X E)
    (hc : PySem.W.selfFirst X.K C = true) (hs : PySem.W.findIn X.K (.ref C) (PySem.dunder op.info.2) = some (some (.ref f))) (hf : PySem.W.isFn X.K (.ref f) = true) :
    OpR X (binaryOp op) (rOwn C sp E) := by
  intro pins s σ H x y v u Q I rx ry h
  obtain ⟨a, b, dx, dy, fs, gs, rfl, rfl, ha, hbb, q⟩ := h
  cases rx
  cases ry
  obtain ⟨mA, J, _⟩ := ins_get I.hok ha
  obtain ⟨mB, J', _⟩ := ins_get I.hok hbb
  obtain ⟨od, J, _⟩ := J.look
  obtain ⟨od', J', _⟩ := J'.look
  obtain ⟨m, hF⟩ := I.fr
  refine PySem.W.binop_K hF I.ok.mod.kin J J'.type hc hs hf ?_
  exact wpAny_mono (run_fn (us := [.ref a, .ref b]) (vs := [.ref a, .ref b]) F hr hb .nil hx I (.cons rfl (.cons rfl .nil)) q) (fun v s' hv => back_ne hv) fun _ _ e => e

/-- x op n, n an int -/
def rOwnI (C : Addr) (sp : Sp) (E : XK) : R2 := fun x y H Q => ∃ a i dx fs, x = .ref a ∧ y = .int i ∧ H a = some (.ins C dx fs) ∧ sp [x, y] H Q E
theorem op_ownI {op : Operator} {rc fo ro : Option Value} (F : FnOk X.prog X.w X.K X.mg X.base CX k f fd ps sp) (hr : Room k X.A) (hb : Binds X.K fd ps []) (hx : Passes CX X E)
    (hc : PySem.W.selfFirst X.K C = true) (hs : PySem.W.findIn X.K (.ref C) (PySem.dunder op.info.2) = some (some (.ref f))) (hf : PySem.W.isFn X.K (.ref f) = true)
    (hrc : PySem.W.findIn X.K (.ref C) (dunderR op.info.2) = some rc) (hp : rc = none ∨ ∃ g : Addr, rc = some (.ref g))
    (h1 : PySem.W.findIn X.K (.type "int") (PySem.dunder op.info.2) = some fo) (h2 : PySem.W.findIn X.K (.type "int") (dunderR op.info.2) = some ro) (hsub : PySem.W.subIn X.K (.type "int") (.ref C) = some false) :
    OpR X (binaryOp op) (rOwnI C sp E) := by
  intro pins s σ H x y v u Q I rx ry h
  obtain ⟨a, i, dx, fs, rfl, rfl, ha, q⟩ := h
  cases rx
  obtain ⟨t, rfl⟩ := ry
  obtain ⟨mA, J, _⟩ := ins_get I.hok ha
  obtain ⟨od, J, _⟩ := J.look
  obtain ⟨m, hF⟩ := I.fr
  refine PySem.W.ksp_binT (b := .int i t) (T := "int") hF I.ok.mod.kin J rfl hc hs hf hrc hp h1 h2 hsub ?_
  exact wpAny_mono (run_fn (us := [.ref a, .int i t]) (vs := [.ref a, .int i]) F hr hb .nil hx I (.cons rfl (.cons ⟨t, rfl⟩ .nil)) q) (fun v s' hv => back_ne hv) fun _ _ e => e

/-- x == y by the class's own method -/
theorem op_eqOwn (F : FnOk X.prog X.w X.K X.mg X.base CX k f fd ps sp) (hr : Room k X.A) (hb : Binds X.K fd ps []) (hx : Passes CX X E)
    (hs : PySem.W.findIn X.K (.ref C) "__eq__" = some (some (.ref f))) (hf : PySem.W.isFn X.K (.ref f) = true) :
    OpR X (compareOp .Eq) (rOwn C sp E) := by
  intro pins s σ H x y v u Q I rx ry h
  obtain ⟨a, b, dx, dy, fs, gs, rfl, rfl, ha, hbb, q⟩ := h
  cases rx
  cases ry
  obtain ⟨mA, J, _⟩ := ins_get I.hok ha
  obtain ⟨mB, J', _⟩ := ins_get I.hok hbb
  obtain ⟨od, J, _⟩ := J.look
  obtain ⟨od', J', _⟩ := J'.look
  obtain ⟨m, hF⟩ := I.fr
  refine PySem.W.cmp_K (op := .Eq) (tb := .ref C) hr.units0 hF I.ok.mod.kin J J'.type (by simp [PySem.W.notFirst]) hs hf ?_
  exact wpAny_mono (run_fn (us := [.ref a, .ref b]) (vs := [.ref a, .ref b]) F hr hb .nil hx I (.cons rfl (.cons rfl .nil)) q) (fun v s' hv => back_ne hv) fun _ _ e => e

/-- the callee runs, called by a built-in -/
theorem run_fn1 {pins : List (Addr × Obj)} {σ : L2.St} {H : Hp} {s : Shared} {Q : VK} {us : List Value} {vs : List V} (F : FnOk X.prog X.w X.K X.mg X.base CX k f fd ps sp) (hr : Room (k + 1) X.A) (hb : Binds X.K fd ps []) (hx : Passes CX X E)
    (I : Inv X pins σ H s) (r : Vals vs us) (h : sp vs H Q E) : wpAny (model X.prog X.w) X.A.in1 (call (.ref f) us) (EP X pins σ Q) X.xe s := by
  have hl : (us ++ []).length = ps.length := by
    rw [List.append_nil, ← r.length]
    exact F.len _ _ _ _ h
  have hb' := hb s us I.kIn hl
  rw [List.append_nil] at hb'
  refine wpAny_call (codeAny_mono (F.run X.A.in1 X.stack s H ⟨us, []⟩ us vs Q E hr.in1 I.env0.in1 hb' r h) fun r s' hq => ?_)
  cases r with
  | error e => exact hx pins σ H s e s' I hq
  | ok fl =>
    cases fl with
    | ret u => exact I.after hq
    | next => exact False.elim hq
    | brk => exact False.elim hq
    | cont => exact False.elim hq

section
open PySem.W
variable {prog : Program} {w : World} {A : Around} {E' : Value → Shared → Prop} {s : Shared} {K : Frag} {x L : Addr} {h0 : Heap} {m : Str → Option Value} {ox : Obj} {od : Option Obj} {b : Value}
theorem ne_slot : Slot "object" "__ne__" "object.__ne__" :=
  .of (owner := "object") (n := "__ne__") (by rw [typeLookup_type, builtinLookup_eq_fast]; kernel_rfl) (by decide +kernel) (by decide +kernel) (by decide +kernel)
    (by first | exact .inl (by decide +kernel) | exact .inr (by decide +kernel)) (by rw [isSubtype_type]; kernel_rfl)
/-- object.__ne__ asks the own __eq__ -/
theorem objNe_K {Q : Fin → Shared → Prop} (hu : A.units < cLine) (X : K.In s.heap) (I : InstAt s.heap x ox C od) (hs : findIn K (.ref C) "__eq__" = some (some (.ref f))) (hf : isFn K (.ref f) = true)
    (h : wpAny (model prog w) A (call (.ref f) [.ref x, b]) (fun v s' => ∃ r, v = .bool r ∧ Q (.done (.ret (.bool (!r)))) s') E' s) :
    wpAny (model prog w) A (Builtin.«object.__ne__» ⟨[.ref x, b], []⟩) Q E' s := by
  have one : wpAny (model prog w) A (callSpecialIfBound? (.ref x) (Str.ofString "__eq__") [b]) (fun v s' => ∃ r, v = some (.bool r) ∧ Q (.done (.ret (.bool (!r)))) s') E' s :=
    ifBound_K X I hs hf (wpAny_mono h (fun v s' hv => by obtain ⟨r, rfl, q⟩ := hv; exact ⟨r, rfl, q⟩) fun _ _ e => e)
  unfold Builtin.«object.__ne__»
  obtain ⟨hh, g, d, t, os⟩ := s
  repeat (first
    | with_reducible refine wpAny_cRoomFor hu ?_
    | (refine wpAny_bind (m := callSpecialIfBound? (.ref x) (Str.ofString "__eq__") [b]) (wpAny_mono one (fun v s' hv => ?_) fun _ _ e => e); obtain ⟨r, rfl, hq⟩ := hv)
    | exact hq
    | exact wpAny_pure hq
    | (refine wpAny_bind (m := truthy (.bool _)) (wpAny_truthy_bool ?_))
    | wp_step)
/-- x's type is below object -/
theorem isObj_K {M : Model} (X : K.In s.heap) (I : InstAt s.heap x ox C od) (hm : mroIn K C (.type "object") = some true) : Looks M s.heap (isInstance (.ref x) (.type "object")) true :=
  I.type.andThen (looks_mroIn X hm)
theorem tryNe_K {Q : Option Value → Shared → Prop} (hu : A.units + 1 < cLine) (X : K.In s.heap) (I : InstAt s.heap x ox C od) (hn : findIn K (.ref C) "__ne__" = some (some (.builtin "object.__ne__"))) (hm : mroIn K C (.type "object") = some true)
    (hs : findIn K (.ref C) "__eq__" = some (some (.ref f))) (hf : isFn K (.ref f) = true)
    (h : wpAny (model prog w) A.in1 (call (.ref f) [.ref x, b]) (fun v s' => ∃ r, v = .bool r ∧ Q (some (.bool (!r))) s') E' s) :
    wpAny (model prog w) A (tryCompare (.ref x) "__ne__" b) Q E' s := by
  unfold tryCompare
  simp only [callSpecialIfBound?, bindSpecialIfBound?]
  refine wpAny_bind (wpAny_holding (wpAny_bind (wpAny_bind (wpAny_bind (I.type.here ((looks_findIn X hn).here ?_))))))
  simp only [ne_slot.bind]
  refine wpAny_bind (wpAny_askSetting (wpAny_ite ?_))
  have fin : wpAny (model prog w) A (call (.builtin "object.__ne__") ([.ref x] ++ [b])) (fun v s' => ∃ r, v = .bool r ∧ Q (some v) s') E' s := by
    refine wpAny_call (codeAny_call_builtin ne_slot.plain F.cmpEntry_ne (check_slot F.cmpKind_ne F.cmpSplit_ne (isObj_K X I hm) (F.cmpArgs_ne _ _) ?_))
    refine objNe_K (A := A.in1) hu X I hs hf (wpAny_mono h (fun v s' hv => ?_) fun _ _ e => e)
    obtain ⟨r, rfl, q⟩ := hv
    exact ⟨r, rfl, ⟨!r, rfl, q⟩⟩
  have fin2 : wpAny (model prog w) A (call (.builtin "object.__ne__") ([.ref x] ++ [b]) >>= fun v => pure (some v)) (fun v s' => ∃ r, v = some (.bool r) ∧ Q v s') E' s :=
    wpAny_bind (wpAny_mono fin (fun v s' hv => wpAny_pure (by obtain ⟨r, rfl, q⟩ := hv; exact ⟨r, rfl, q⟩)) fun _ _ e => e)
  have fin3 : wpAny (model prog w) A (call (.builtin "object.__ne__") ([.ref x] ++ [b]) >>= fun v => pure (some v)) (fun v s' => wpAny (model prog w) A (match v with
    | some .notImplemented => pure none | none => pure none | some v => pure (some v)) Q E' s') E' s :=
    wpAny_mono fin2 (fun v s' hv => by obtain ⟨r, rfl, q⟩ := hv; exact wpAny_pure q) fun _ _ e => e
  split
  · exact wpAny_bind (wpAny_pure (wpAny_pure fin3))
  · exact wpAny_tryCatch (wpAny_bind (wpAny_pure (wpAny_pure fin3)))
theorem ne_K {Q : Value → Shared → Prop} (hu : A.units + 1 < cLine) (X : K.In s.heap) (I : InstAt s.heap x ox C od) (hb : Looks (model prog w) s.heap (typeOf b) (.ref C)) (hn : findIn K (.ref C) "__ne__" = some (some (.builtin "object.__ne__")))
    (hm : mroIn K C (.type "object") = some true) (hs : findIn K (.ref C) "__eq__" = some (some (.ref f))) (hf : isFn K (.ref f) = true) (hone : ∀ v, b = .ref v ∨ True)
    (ho : oneThing? .NotEq (.ref x) b = none)
    (h : wpAny (model prog w) A.in1 (call (.ref f) [.ref x, b]) (fun v s' => ∃ r, v = .bool r ∧ Q (.bool (!r)) s') E' s) : wpAny (model prog w) A (richCompare .NotEq (.ref x) b) Q E' s := by
  unfold richCompare
  simp only [ho]
  refine wpAny_holding (wpAny_bind (wpAny_cRoomFor (Nat.lt_of_succ_lt hu) ?_))
  rw [cmpInfo_NotEq]
  dsimp only
  refine wpAny_bind (I.type.here (wpAny_bind (hb.here ?_)))
  rw [show (Value.ref C != Value.ref C) = false from by simp]
  simp only [Bool.false_eq_true, if_false]
  refine wpAny_bind (wpAny_pure ?_)
  simp only [Bool.false_eq_true, if_false]
  refine wpAny_bind (tryNe_K hu X I hn hm hs hf (wpAny_mono h (fun v s' hv => ?_) fun _ _ e => e))
  obtain ⟨r, rfl, q⟩ := hv
  exact ⟨r, rfl, wpAny_pure q⟩
end
/-- x != y by the class's own __eq__ -/
def rOwnNe (C : Addr) (sp : Sp) (E : XK) : R2 := fun x y H Q => ∃ a b dx dy fs gs, x = .ref a ∧ y = .ref b ∧ H a = some (.ins C dx fs) ∧ H b = some (.ins C dy gs) ∧ sp [x, y] H (fun z H' => ∃ r, z = .bl r ∧ Q (.bl (!r)) H') E
theorem op_neOwn (F : FnOk X.prog X.w X.K X.mg X.base CX k f fd ps sp) (hr : Room (k + 1) X.A) (hb : Binds X.K fd ps []) (hx : Passes CX X E)
    (hs : PySem.W.findIn X.K (.ref C) "__eq__" = some (some (.ref f))) (hf : PySem.W.isFn X.K (.ref f) = true)
    (hn : PySem.W.findIn X.K (.ref C) "__ne__" = some (some (.builtin "object.__ne__"))) (hm : PySem.W.mroIn X.K C (.type "object") = some true) :
    OpR X (compareOp .NotEq) (rOwnNe C sp E) := by
  intro pins s σ H x y v u Q I rx ry h
  obtain ⟨a, b, dx, dy, fs, gs, rfl, rfl, ha, hbb, q⟩ := h
  cases rx
  cases ry
  obtain ⟨mA, J, _⟩ := ins_get I.hok ha
  obtain ⟨mB, J', _⟩ := ins_get I.hok hbb
  obtain ⟨od, J, _⟩ := J.look
  obtain ⟨od', J', _⟩ := J'.look
  have hu := hr.units
  refine ne_K (by omega) I.kIn J J'.type hn hm hs hf (fun _ => .inr trivial) (by simp only [oneThing_ref]) ?_
  refine wpAny_mono (run_fn1 (us := [.ref a, .ref b]) (vs := [.ref a, .ref b]) F hr hb hx I (.cons rfl (.cons rfl .nil)) q) (fun v s' hv => ?_) fun _ _ e => e
  obtain ⟨z, H', I', rz, r, rfl, q⟩ := hv
  cases rz
  exact ⟨r, rfl, .bl (!r), H', I', rfl, q⟩
end
end Hn

/-! Defs by their promise alone; comprehensions by what each item is; the bag of drawn numbers. -/
namespace Hn
open PySem PySem.Spec PyProof.Rows L2 Evl

/-! ### defs -/
/-- the def at f keeps the promise sp, by at most level k -/
def Okf (P : Program) (w : World) (K : PySem.W.Frag) (mg : Str → Option Value) (base : Heap) (k : Nat) (f : Addr) (ps : List Str) (sp : Sp) : Prop :=
  ∃ fd, FnOk P w K mg base (L2.CX P w) k f fd ps sp ∧ Binds K fd ps []
section
variable {P : Program} {w : World} {K : PySem.W.Frag} {mg : Str → Option Value} {base : Heap}
theorem Okf.mono {j k : Nat} {f : Addr} {ps : List Str} {sp : Sp} (F : Okf P w K mg base j f ps sp) (h : j ≤ k) : Okf P w K mg base k f ps sp :=
  let ⟨fd, a, b⟩ := F
  ⟨fd, a.mono h, b⟩
theorem Okf.imp {k : Nat} {f : Addr} {ps : List Str} {sp sp' : Sp} (F : Okf P w K mg base k f ps sp) (h : ∀ vs H Q E, sp' vs H Q E → sp vs H Q E) : Okf P w K mg base k f ps sp' :=
  let ⟨fd, a, b⟩ := F
  ⟨fd, a.imp h, b⟩
/-- a def of the text that stands at f, and how it binds -/
def Df (K : PySem.W.Frag) (x qual : Str) (st : Stmt) (f : Addr) (ps : List Str) : Prop := ∃ fd, Fun K x qual st f fd ∧ Binds K fd ps []
theorem Df.kp {x qual : Str} {st : Stmt} {f : Addr} {ps : List Str} (F : Df K x qual st f ps) : PySem.W.keepIn K (.ref f) = true := let ⟨_, a, _⟩ := F; a.kp
/-- a def that lets nothing out keeps its promise wherever something may be let out -/
theorem fn_lift {CX : CXT} {k : Nat} {f : Addr} {fd : FuncData} {ps : List Str} {sp : Sp} (F : FnOk P w K mg base CX0 k f fd ps sp) : FnOk P w K mg base CX k f fd ps sp :=
  ⟨F.len, fun A outer s H args us vs Q E hr e0 hb r q => codeAny_mono (F.run A outer s H args us vs Q E hr e0 hb r q) fun rr s' hc => by
    cases rr with
    | error e => exact False.elim hc
    | ok fl => cases fl <;> exact hc⟩
theorem okf_of {x qual : Str} {st : Stmt} {f : Addr} {N ps : List Str} {k : Nat} {sp : Sp} (F : Df K x qual st f ps) (S : FnScope N ps (defScope st)) (len : ∀ vs H Q E, sp vs H Q E → vs.length = ps.length)
    (hbody : ∀ (cdv : Value) (A : Around) (outer : List Env) (s : Shared) (H : Hp) (vs : List V) (Q : VK) (E : XK), Room k (A.deeper (envOfC qual (defScope st) s.heap.objs.size f cdv)) → sp vs H Q E →
      ∃ t, PSs (cxOf CX0 P w K mg base N qual (defScope st) f cdv A outer s H E).nox (defBody st) t ∧ t { nx := fun _ H' => Q .non H', rt := Q } (start N vs) H) : Okf P w K mg base (k + 1) f ps sp :=
  let ⟨fd, a, b⟩ := F
  ⟨fd, fn_lift (a.ok S len hbody), b⟩
end
section
variable {X : Cx} {k : Nat} {f C : Addr} {ps : List Str} {sp : Sp} {x m : Str} {p pos apos : Pos} {e o : Expr} {es : List Expr} {ta : TE} {t : TA}
theorem pf_call (G : Okf X.prog X.w X.K X.mg X.base k f ps sp) (hr : Room k X.A) (hg : Gl X x) (hm : X.mg x = some (.ref f)) (hk : PySem.W.keepIn X.K (.ref f) = true)
    (ha : PA X (e :: es) t) (hdb : (x == ("__debug__" : Str)) = false := by decide) (he : starEach (e :: es) X.env = (false, eval e X.env) :: starEach es X.env := by rfl) (hpl : (backTo pos (starEach es X.env)).any (·.1) = false := by rfl) :
    PE X (.Call (.Name x p) (e :: es) [] pos) (tCall sp [] E0 t) :=
  let ⟨_, a, b⟩ := G
  pe_call a hr hg hm hk b .nil passL ha hdb he hpl
theorem pf_meth {pl : Sem Bool} (G : Okf X.prog X.w X.K X.mg X.base k f ps sp) (hr : Room k X.A) (c : Cls X.K C) (hm : Meth X.K C m f) (he : PE X o ta) (ha : PA X (e :: es) t)
    (hst : starEach (e :: es) X.env = (false, eval e X.env) :: starEach es X.env := by rfl) (hpl : (backTo pos (starEach es X.env)).any (·.1) = false := by rfl)
    (ht : eval (.Call (.Attribute o m apos) (e :: es) [] pos) X.env = (do
      let ov ← eval o X.env
      standAt apos.atName
      let (f, first) ← holding [ov] (getMethod ov m pl)
      callWith pos f first (backTo pos (starEach (e :: es) X.env)) (backToKw pos (keywordEach [] X.env))) := by rfl) :
    PE X (.Call (.Attribute o m apos) (e :: es) [] pos) (tMeth C m sp [] E0 ta t) :=
  let ⟨_, a, b⟩ := G
  pe_meth he c hm a hr b .nil passL ha hst hpl ht
theorem pf_meth0 {pl : Sem Bool} (G : Okf X.prog X.w X.K X.mg X.base k f ps sp) (hr : Room k X.A) (c : Cls X.K C) (hm : Meth X.K C m f) (he : PE X o ta)
    (ht : eval (.Call (.Attribute o m apos) [] [] pos) X.env = (do
      let ov ← eval o X.env
      standAt apos.atName
      let (f, first) ← holding [ov] (getMethod ov m pl)
      callWith pos f first (backTo pos (starEach [] X.env)) (backToKw pos (keywordEach [] X.env))) := by rfl) :
    PE X (.Call (.Attribute o m apos) [] [] pos) (tMeth C m sp [] E0 ta tNil) :=
  let ⟨_, a, b⟩ := G
  pe_meth0 he c hm a hr b .nil passL ht
theorem pf_make (G : Okf X.prog X.w X.K X.mg X.base k f ps sp) (hr : Room (k + 1) X.A) (M : Mk X.K C f) (hg : Gl X x) (hm : X.mg x = some (.ref C))
    (ha : PA X (e :: es) t) (hdb : (x == ("__debug__" : Str)) = false := by decide) (he : starEach (e :: es) X.env = (false, eval e X.env) :: starEach es X.env := by rfl) (hpl : (backTo pos (starEach es X.env)).any (·.1) = false := by rfl) :
    PE X (.Call (.Name x p) (e :: es) [] pos) (tMake C sp [] E0 t) :=
  let ⟨_, a, b⟩ := G
  pe_make M a hr hg hm b .nil passL ha hdb he hpl
theorem passN {X : Cx} : Passes (L2.CX X.prog X.w) X.nox E0 := fun _ _ _ _ _ _ _ h => by
  obtain ⟨_, _, _, _, _, _, _, _, _, _, _, _, z⟩ := h
  exact z.elim
theorem pf_prop {q : Addr} (G : Okf X.prog X.w X.K X.mg X.base k f ps sp) (hr : Room (k + 1) X.A) (c : Cls X.K C) (hp : PropOf X.K C m q f) (he : PE X e ta)
    (hab : attributeBase e m X.env (eval e X.env) = eval e X.env := by rfl) : PE X (.Attribute e m pos) (tProp C sp [] E0 ta) :=
  let ⟨_, a, b⟩ := G
  pe_prop he c hp a hr b .nil passN hab
end

/-! ### sequences -/
/-- a list or a tuple -/
def Sq (K : PySem.W.Frag) (H : Hp) (a : Addr) (xs : List V) : Prop := SqL K H a xs ∨ SqT K H a xs
theorem Sq.mono {K : PySem.W.Frag} {H H' : Hp} {a : Addr} {xs : List V} (e : Ex H H') (h : Sq K H a xs) : Sq K H' a xs := h.elim (fun h => .inl (ex_l e h)) (fun h => .inr (ex_t e h))
theorem Ex.upd2 {H H1 : Hp} {p : Addr} {o : HO} (e : Ex H H1) (h : H1 p = none) : Ex H (upd H1 p o) := e.trans (Ex.new h)

/-! ### items of rows of ints -/
theorem at_int {ns : List Int} {i : Int} (h0 : 0 ≤ i) (h1 : i < (ns.length : Int)) : atI (ns.map V.int) i = some (.int (ns.getD i.toNat 0)) := by
  obtain ⟨j, rfl⟩ : ∃ j : Nat, i = (j : Int) := ⟨i.toNat, by omega⟩
  have hj : j < ns.length := by omega
  refine atI_nat ?_
  rw [List.getElem?_map, List.getElem?_eq_getElem hj, Int.toNat_natCast, List.getD_eq_getElem?_getD, List.getElem?_eq_getElem hj]
  rfl
theorem int_at {ns : List Int} {i : Nat} {x : V} (h : (ns.map V.int)[i]? = some x) : x = .int (ns.getD i 0) := by
  rw [List.getElem?_map] at h
  rw [List.getD_eq_getElem?_getD]
  cases e : ns[i]? with
  | none => rw [e] at h; cases h
  | some u => rw [e] at h; exact (Option.some.inj h).symm
theorem gD_mem {ns : List Int} {j : Nat} (h : j < ns.length) : ns.getD j 0 ∈ ns := by
  rw [List.getD_eq_getElem?_getD, List.getElem?_eq_getElem h]
  exact List.getElem_mem h

/-! ### all but lists stays -/
def isLst : HO → Bool
  | .lst _ => true
  | _ => false
/-- what is no list stands as it stood -/
def Xl (H H' : Hp) : Prop := ∀ a o, H a = some o → isLst o = false → H' a = some o
theorem Xl.refl (H : Hp) : Xl H H := fun _ _ h _ => h
theorem Xl.trans {H H1 H2 : Hp} (a : Xl H H1) (b : Xl H1 H2) : Xl H H2 := fun x o h n => b x o (a x o h n) n
theorem Xl.of {H H' : Hp} (e : Ex H H') : Xl H H' := fun a o h _ => e a o h
theorem Xl.set {H : Hp} {l : Addr} {xs ys : List V} (h : H l = some (.lst xs)) : Xl H (upd H l (.lst ys)) := fun a o e n => by
  rw [upd_ne (ne_of e h (by intro z; rw [z] at n; cases n))]
  exact e

/-! ### comprehensions: each item is told by R, which stays -/
section
variable {J : It} {n : Nat} {G : Hp → Prop} {Y : Nat → Hp → V → Hp → Prop}
/-- what a comprehension's reading asks behind the walked thing -/
def LcTail (J : It) (H1 : Hp) (g : TG) (tt : TT) (te : TE) (vs : List Nat) (σ : L2.St) (Q : VK) : Prop :=
  ∀ D, H1 D = none → ∃ W : Nat → Nat → Hp → Prop, (∃ m, W 0 m (upd H1 D (.lst []))) ∧ ∀ i m H, W i m H →
      (J.stop i H ∧ Q (.ref D) H) ∨ (J.go i H ∧ ∃ Nx : Hp → Prop, (∀ H', Nx H' → ∃ m', m' < m ∧ W (i + 1) m' H') ∧ ∀ x H', J.yld i H x H' → g x (wipe σ vs) H' fun σ2 H2 => wipe σ2 vs = wipe σ vs ∧ tt σ2 H2 fun b H3 =>
        if b = true then te σ2 H3 fun y H4 => ∃ acc, H4 D = some (.lst acc) ∧ acc.length < sizeLine ∧ Nx (upd H4 D (.lst (acc ++ [y]))) else Nx H3)
/-- items f i of the turns i that pass the test p -/
theorem lc_fil (w : Walk J n G Y) {g : TG} {tt : TT} {te : TE} {vs : List Nat} {σ : L2.St} {H1 : Hp} {Q : VK} (p : Nat → Bool) (R : Addr → Nat → V → Hp → Prop) (hG : ∀ D H H', Ex H1 H' → Ex H H' → H1 D = none → (∃ xs, H D = some (.lst xs)) → G H')
    (hR1 : ∀ D i v H H', Ex H H' → R D i v H → R D i v H') (hR2 : ∀ D i v H xs ys, H D = some (.lst xs) → R D i v H → R D i v (upd H D (.lst ys))) (hn : n ≤ 100000)
    (turn : ∀ D i x H H', i < n → Ex H1 H → H1 D = none → (∃ xs, H D = some (.lst xs)) → Y i H x H' → ∀ k : Bool → Hp → Prop, ∀ kk : VK, (∀ y H4, p i = true → Ex H H4 → R D i y H4 → kk y H4) → (∀ H3, p i = false → Ex H H3 → k false H3) →
      g x (wipe σ vs) H' fun σ2 H2 => wipe σ2 vs = wipe σ vs ∧ tt σ2 H2 fun b H3 => if b = true then te σ2 H3 kk else k false H3)
    (fin : ∀ D H ys, H1 D = none → Ex H1 H → H D = some (.lst ys) → ys.length = ((List.range n).filter p).length → (∀ (j : Nat) (y : V) (i : Nat), ys[j]? = some y → ((List.range n).filter p)[j]? = some i → R D i y H) → Q (.ref D) H) :
    LcTail J H1 g tt te vs σ Q := by
  intro D hD
  refine lc_it w (fun i H => Ex H1 H ∧ ∃ ys, H D = some (.lst ys) ∧ ys.length = ((List.range i).filter p).length ∧ ∀ (j : Nat) (y : V) (i' : Nat), ys[j]? = some y → ((List.range i).filter p)[j]? = some i' → R D i' y H) ⟨Ex.new hD, [], upd_same, rfl, fun j y i h => by simp at h⟩ (fun i H _ q => hG D H H q.1 (Ex.refl H) hD (let ⟨ys, h, _⟩ := q.2; ⟨ys, h⟩)) (fun i x H H' hi q y => ?_) fun H q => ?_
  · obtain ⟨e, ys, hy, hl, hr⟩ := q
    have hlen : ys.length ≤ i := by
      rw [hl]
      have := List.length_filter_le p (List.range i)
      rw [List.length_range] at this
      exact this
    have T := turn D i x H H' hi e hD ⟨ys, hy⟩ y (fun _ H3 => Ex H1 H3 ∧ ∃ ys, H3 D = some (.lst ys) ∧ ys.length = ((List.range (i + 1)).filter p).length ∧ ∀ (j : Nat) (y : V) (i' : Nat), ys[j]? = some y → ((List.range (i + 1)).filter p)[j]? = some i' → R D i' y H3)
      (fun y H4 => ∃ acc, H4 D = some (.lst acc) ∧ acc.length < sizeLine ∧ Ex H1 (upd H4 D (.lst (acc ++ [y]))) ∧ ∃ ys, (upd H4 D (.lst (acc ++ [y]))) D = some (.lst ys) ∧ ys.length = ((List.range (i + 1)).filter p).length ∧ ∀ (j : Nat) (y' : V) (i' : Nat), ys[j]? = some y' → ((List.range (i + 1)).filter p)[j]? = some i' → R D i' y' (upd H4 D (.lst (acc ++ [y]))))
      ?_ ?_
    · exact T
    · intro z H4 pi e4 rz
      have hfil : (List.range (i + 1)).filter p = (List.range i).filter p ++ [i] := by
        rw [List.range_succ, List.filter_append, List.filter_cons, if_pos pi] <;> rfl
      have hD4 := e4 D _ hy
      refine ⟨ys, hD4, sz_lt (by omega), Ex.mut (e.trans e4) hD, ys ++ [z], upd_same, ?_, fun j u i' hj hi' => ?_⟩
      · rw [hfil, List.length_append, List.length_append, hl]
        rfl
      · rw [hfil] at hi'
        refine hR2 D i' u H4 ys _ hD4 ?_
        rcases Nat.lt_or_ge j ys.length with h | h
        · rw [List.getElem?_append_left h] at hj
          rw [List.getElem?_append_left (by omega)] at hi'
          exact hR1 D i' u H H4 e4 (hr j u i' hj hi')
        · have h0 : j = ys.length := by
            have := (List.getElem?_eq_some_iff.mp hj).1
            rw [List.length_append, List.length_singleton] at this
            omega
          subst h0
          rw [List.getElem?_append_right (Nat.le_refl _), Nat.sub_self] at hj
          rw [hl, List.getElem?_append_right (Nat.le_refl _), Nat.sub_self] at hi'
          have ej : z = u := by simpa using hj
          have ei : i = i' := by simpa using hi'
          rw [← ej, ← ei]
          exact rz
    · intro H3 pi e3
      have hfil : (List.range (i + 1)).filter p = (List.range i).filter p := by
        rw [List.range_succ, List.filter_append, List.filter_cons, if_neg (by rw [pi]; decide)]
        exact List.append_nil _
      rw [hfil]
      exact ⟨e.trans e3, ys, e3 D _ hy, hl, fun j u i' hj hi' => hR1 D i' u H H3 e3 (hr j u i' hj hi')⟩
  · obtain ⟨e, ys, hy, hl, hr⟩ := q
    exact fin D H ys hD e hy hl fun j y i h1 h2 => hr j y i h1 h2
/-- range(n) -/
theorem walk_r0 {n : Nat} : Walk (Itr 0 n) n (fun _ => True) (fun i H x H' => H' = H ∧ x = .int (i : Int)) :=
  ⟨fun _ _ hi _ => hi, fun _ _ => Nat.le_refl _, fun i _ x _ _ _ y => ⟨y.1, by rw [y.2, Int.zero_add]⟩⟩
theorem filter_all (n : Nat) : (List.range n).filter (fun _ => true) = List.range n := List.filter_eq_self.mpr fun _ _ => rfl
/-- every turn gives an item -/
theorem lc_map (w : Walk J n G Y) {g : TG} {te : TE} {vs : List Nat} {σ : L2.St} {H1 : Hp} {Q : VK} (R : Addr → Nat → V → Hp → Prop) (hG : ∀ D H H', Ex H1 H' → Ex H H' → H1 D = none → (∃ xs, H D = some (.lst xs)) → G H')
    (hR1 : ∀ D i v H H', Ex H H' → R D i v H → R D i v H') (hR2 : ∀ D i v H xs ys, H D = some (.lst xs) → R D i v H → R D i v (upd H D (.lst ys))) (hn : n ≤ 100000)
    (turn : ∀ D i x H H', i < n → Ex H1 H → H1 D = none → (∃ xs, H D = some (.lst xs)) → Y i H x H' → ∀ k : VK, (∀ y H4, Ex H H4 → R D i y H4 → k y H4) → g x (wipe σ vs) H' fun σ2 H2 => wipe σ2 vs = wipe σ vs ∧ te σ2 H2 k)
    (fin : ∀ D H ys, H1 D = none → Ex H1 H → H D = some (.lst ys) → ys.length = n → (∀ (i : Nat) (y : V), ys[i]? = some y → R D i y H) → Q (.ref D) H) :
    LcTail J H1 g tYes te vs σ Q := by
  refine lc_fil w (fun _ => true) R hG hR1 hR2 hn (fun D i x H H' hi e hD hx y k kk h1 _ => turn D i x H H' hi e hD hx y kk fun z H4 e4 r => h1 z H4 rfl e4 r) fun D H ys hD e hy hl hr => ?_
  rw [filter_all, List.length_range] at hl
  refine fin D H ys hD e hy hl fun i y h => hr i y i h ?_
  have hi := (List.getElem?_eq_some_iff.mp h).1
  rw [filter_all, List.getElem?_range (by omega)]
/-- .. each item a value that says nothing of the heap -/
theorem lc_val (w : Walk J n G Y) {g : TG} {te : TE} {vs : List Nat} {σ : L2.St} {H1 : Hp} {Q : VK} (R : Nat → V → Prop) (hG : ∀ H, Ex H1 H → G H) (hn : n ≤ 100000)
    (turn : ∀ i x H H', i < n → Ex H1 H → Y i H x H' → ∀ k : VK, (∀ y H4, Ex H H4 → R i y → k y H4) → g x (wipe σ vs) H' fun σ2 H2 => wipe σ2 vs = wipe σ vs ∧ te σ2 H2 k)
    (fin : ∀ D H ys, H1 D = none → Ex H1 H → H D = some (.lst ys) → ys.length = n → (∀ (i : Nat) (y : V), ys[i]? = some y → R i y) → Q (.ref D) H) : LcTail J H1 g tYes te vs σ Q :=
  lc_map w (fun _ i v _ => R i v) (fun _ _ H' e _ _ _ => hG H' e) (fun _ _ _ _ _ _ r => r) (fun _ _ _ _ _ _ _ r => r) hn (fun _ i x H H' hi e _ _ y k h => turn i x H H' hi e y k h) fun D H ys hD e hy hl hr => fin D H ys hD e hy hl hr
/-- .. each item just f i -/
theorem lc_fun (w : Walk J n G Y) {g : TG} {te : TE} {vs : List Nat} {σ : L2.St} {H1 : Hp} {Q : VK} (f : Nat → V) (hG : ∀ H, Ex H1 H → G H) (hn : n ≤ 100000)
    (turn : ∀ i x H H', i < n → Ex H1 H → Y i H x H' → ∀ k : VK, (∀ H4, Ex H H4 → k (f i) H4) → g x (wipe σ vs) H' fun σ2 H2 => wipe σ2 vs = wipe σ vs ∧ te σ2 H2 k)
    (fin : ∀ D H, H1 D = none → Ex H1 H → H D = some (.lst ((List.range n).map f)) → Q (.ref D) H) : LcTail J H1 g tYes te vs σ Q :=
  lc_val w (fun i y => y = f i) hG hn (fun i x H H' hi e y k h => turn i x H H' hi e y k fun H4 e4 => h _ H4 e4 rfl) fun D H ys hD e hy hl hr => by
    refine fin D H hD e ?_
    rw [hy]
    congr 2
    refine List.ext_getElem? fun i => ?_
    rcases Nat.lt_or_ge i n with h | h
    · have h2 : i < ys.length := by omega
      rw [List.getElem?_eq_getElem h2, List.getElem?_map, List.getElem?_range h, hr i ys[i] (List.getElem?_eq_getElem h2)]
      rfl
    · rw [List.getElem?_eq_none (by omega), List.getElem?_eq_none (by rw [List.length_map, List.length_range]; omega)]
/-- .. each item that passes just f i -/
theorem lc_filf (w : Walk J n G Y) {g : TG} {tt : TT} {te : TE} {vs : List Nat} {σ : L2.St} {H1 : Hp} {Q : VK} (p : Nat → Bool) (f : Nat → V) (hG : ∀ H, Ex H1 H → G H) (hn : n ≤ 100000)
    (turn : ∀ i x H H', i < n → Ex H1 H → Y i H x H' → ∀ k : Bool → Hp → Prop, ∀ kk : VK, (∀ H4, p i = true → Ex H H4 → kk (f i) H4) → (∀ H3, p i = false → Ex H H3 → k false H3) →
      g x (wipe σ vs) H' fun σ2 H2 => wipe σ2 vs = wipe σ vs ∧ tt σ2 H2 fun b H3 => if b = true then te σ2 H3 kk else k false H3)
    (fin : ∀ D H, H1 D = none → Ex H1 H → H D = some (.lst (((List.range n).filter p).map f)) → Q (.ref D) H) : LcTail J H1 g tt te vs σ Q :=
  lc_fil w p (fun _ i v _ => v = f i) (fun _ _ H' e _ _ _ => hG H' e) (fun _ _ _ _ _ _ r => r) (fun _ _ _ _ _ _ _ r => r) hn (fun _ i x H H' hi e _ _ y k kk h1 h2 => turn i x H H' hi e y k kk (fun H4 pi e4 => h1 _ H4 pi e4 rfl) h2) fun D H ys hD e hy hl hr => by
    refine fin D H hD e ?_
    rw [hy]
    congr 2
    refine List.ext_getElem? fun j => ?_
    rcases Nat.lt_or_ge j ys.length with h | h
    · have h2 : j < ((List.range n).filter p).length := by omega
      rw [List.getElem?_eq_getElem h, List.getElem?_map, List.getElem?_eq_getElem h2, hr j ys[j] _ (List.getElem?_eq_getElem h) (List.getElem?_eq_getElem h2)]
      rfl
    · rw [List.getElem?_eq_none (by omega), List.getElem?_eq_none (by rw [List.length_map]; omega)]
end
end Hn

/-! The bag of drawn numbers: its state is not told, so a draw changes nothing that is known. -/
namespace Hn
open PySem PySem.Spec PyProof.Rows L2 Evl

/-- what a bag's list holds -/
def BagV (l : Addr) (xs : List V) : Prop := ∃ c0 c1 c2 : Int, xs = [.int c0, .int c1, .int c2, .ref l] ∧ 0 ≤ c0 ∧ 0 ≤ c1 ∧ c1 < 2147483647 ∧ 0 ≤ c2
/-- the bag's own object: a list of such four -/
def BagO (b l : Addr) (h : Heap) : Prop := ∃ xs, BagV l xs ∧ ∃ (its : List Value) (n : Nat), Vals xs its ∧ h.get? b = some { cls := .type "list", data := .seq its.toArray n }
/-- a bag stands at b -/
def Bag (H : Hp) (b : Addr) : Prop := ∃ (l : Addr) (o : Obj) (cs : List Int), H b = some (.ext (BagO b l)) ∧ H l = some (.frz o (.lst (cs.map V.int))) ∧ (∀ c ∈ cs, 0 ≤ c) ∧ cs.length ≤ 63
theorem Bag.mono {H H' : Hp} {b : Addr} (e : Xl H H') (h : Bag H b) : Bag H' b :=
  let ⟨l, o, cs, h1, h2, h3, h4⟩ := h
  ⟨l, o, cs, e _ _ h1 rfl, e _ _ h2 rfl, h3, h4⟩

/-! ### another view of the heap at a def's end -/
section
variable {P : Program} {w : World} {K : PySem.W.Frag} {mg : Str → Option Value} {base : Heap} {CX : CXT}
/-- what is tracked may be told otherwise when a def ends -/
theorem fn_alt {k : Nat} {f : Addr} {fd : FuncData} {ps : List Str} {sp sp' : Sp} (F : FnOk P w K mg base CX k f fd ps sp)
    (h : ∀ vs H Q E, sp' vs H Q E → sp vs H (fun v H1 => ∀ h' : Heap, HOk P w H1 h' → ∃ H2 : Hp, HOk P w H2 h' ∧ (∀ a, H1 a = none → H2 a = none) ∧ (∀ b xs, H b = some (.tup xs) → H2 b = some (.tup xs)) ∧
      (∀ b o u, H b = some (.frz o u) → H2 b = some (.frz o u)) ∧ (∀ b qs, H b = some (.tbl qs) → ∃ more, H2 b = some (.tbl (qs ++ more))) ∧ Q v H2) E) : FnOk P w K mg base CX k f fd ps sp' := by
  refine ⟨fun vs H Q E q => F.len _ _ _ _ (h vs H Q E q), fun A outer s H args us vs Q E hr e0 hb r q => ?_⟩
  refine codeAny_mono (F.run A outer s H args us vs _ E hr e0 hb r (h vs H Q E q)) fun rr s' hc => ?_
  cases rr with
  | error e => exact hc
  | ok fl =>
    cases fl with
    | ret u =>
      obtain ⟨v, H1, h1, h2, un, hok, rv, q⟩ := hc
      obtain ⟨H2, k1, k2, k3, k4, k5, k6⟩ := q s'.heap hok
      exact ⟨v, H2, h1, h2, ⟨un.keep, un.slot, fun b o e n x => k2 b (un.free b o e n x), un.there, k3, k4, k5⟩, k1, rv, k6⟩
    | next => exact False.elim hc
    | brk => exact False.elim hc
    | cont => exact False.elim hc
theorem okf_alt {k : Nat} {f : Addr} {ps : List Str} {sp sp' : Sp} (F : Okf P w K mg base k f ps sp)
    (h : ∀ vs H Q E, sp' vs H Q E → sp vs H (fun v H1 => ∀ h' : Heap, HOk P w H1 h' → ∃ H2 : Hp, HOk P w H2 h' ∧ (∀ a, H1 a = none → H2 a = none) ∧ (∀ b xs, H b = some (.tup xs) → H2 b = some (.tup xs)) ∧
      (∀ b o u, H b = some (.frz o u) → H2 b = some (.frz o u)) ∧ (∀ b qs, H b = some (.tbl qs) → ∃ more, H2 b = some (.tbl (qs ++ more))) ∧ Q v H2) E) : Okf P w K mg base k f ps sp' :=
  let ⟨fd, a, b⟩ := F
  ⟨fd, fn_alt a h, b⟩
/-- what stands at a may be told otherwise, if it is so and nothing leans on it -/
theorem hok_put {H : Hp} {h : Heap} {a : Addr} {o u : HO} (x : HOk P w H h) (ha : H a = some o) (hm : Mut (some o)) (hu : ObjOk P w (upd H a u) h a u) : HOk P w (upd H a u) h := fun b q e => by
  by_cases hb : b = a
  · subst hb
    rw [upd_same] at e
    cases e
    exact hu
  · rw [upd_ne hb] at e
    refine (x b q e).stay (fun _ _ _ z => z) (fun c z => ?_) fun c xs z => ?_
    · rw [upd_ne (ne_of z ha (by intro q; rw [← q] at hm; exact hm))]
      exact z
    · rw [upd_ne (ne_of z ha (by intro q; rw [← q] at hm; exact hm))]
      exact z
theorem ext_ok {H : Hp} {h : Heap} {b l : Addr} {xs : List V} (hx : BagV l xs) (ok : ObjOk P w H h b (.lst xs)) (H' : Hp) : ObjOk P w H' h b (.ext (BagO b l)) := by
  obtain ⟨_, its, n, r, e⟩ := ok
  refine ⟨⟨xs, hx, its, n, r, e⟩, ⟨_, e⟩, fun h1 h2 q k => ?_⟩
  obtain ⟨xs', hx', its', n', r', e'⟩ := q
  exact ⟨xs', hx', its', n', r', k _ e'⟩

/-- what _law_take promises of the list itself -/
def spTakeL : Sp := fun vs H Q _ => ∃ (b l : Addr) (u : Int) (o : Obj) (cs : List Int) (xs : List V), vs = [.ref b, .int u] ∧ H b = some (.lst xs) ∧ BagV l xs ∧ H l = some (.frz o (.lst (cs.map V.int))) ∧ (∀ c ∈ cs, 0 ≤ c) ∧ cs.length ≤ 63 ∧ 0 < u ∧ u < 1073741824 ∧
  ∀ (n : Int) (ys : List V), 0 ≤ n → n < u → BagV l ys → Q (.int n) (upd H b (.lst ys))
/-- .. of the bag: some number below the bound, nothing else is otherwise -/
def spTake : Sp := fun vs H Q _ => ∃ (b : Addr) (u : Int), vs = [.ref b, .int u] ∧ Bag H b ∧ 0 < u ∧ u < 1073741824 ∧ ∀ n : Int, 0 ≤ n → n < u → Q (.int n) H

theorem take_ok {k : Nat} {f : Addr} {ps : List Str} (F : Okf P w K mg base k f ps spTakeL) (hl : ps.length = 2) : Okf P w K mg base k f ps spTake := by
  obtain ⟨fd, F, hb⟩ := F
  refine ⟨fd, ⟨fun vs H Q E q => ?_, fun A outer s H args us vs Q E hr e0 hbd r q => ?_⟩, hb⟩
  · obtain ⟨b, u, rfl, _⟩ := q
    exact hl.symm
  · obtain ⟨b, u, rfl, ⟨l, o, cs, hB, hL, hc, hcl⟩, hu0, hu1, k⟩ := q
    obtain ⟨⟨xs, hx, its, n, rv, hobj⟩, _, _⟩ := e0.hok b _ hB
    have hz : xs.length ≤ sizeLine := by
      obtain ⟨c0, c1, c2, rfl, _⟩ := hx
      show 4 ≤ sizeLine
      decide
    have ok1 : HOk P w (upd H b (.lst xs)) s.heap := hok_put e0.hok hB trivial ⟨hz, its, n, rv, hobj⟩
    have nb : ∀ c, H c = none → c ≠ b := fun c z y => by rw [y, hB] at z; cases z
    have e1 : Env0 P w K mg base A outer s (upd H b (.lst xs)) :=
      ⟨e0.frames, e0.mod, fun c q e => ⟨(e0.bs c q e).1, by rw [upd_ne (nb c (e0.bs c q e).2)]; exact (e0.bs c q e).2⟩, e0.bsz, e0.funs, fun c hc' => by rw [upd_ne (nb c (e0.frf c hc'))]; exact e0.frf c hc', ok1, e0.bare⟩
    have nl : l ≠ b := ne_of hL hB (by intro z; cases z)
    refine codeAny_mono (F.run A outer s (upd H b (.lst xs)) args us [.ref b, .int u] (fun v H' => ∃ m ys, v = .int m ∧ 0 ≤ m ∧ m < u ∧ BagV l ys ∧ H' = upd H b (.lst ys)) E0 hr e1 hbd r
      ⟨b, l, u, o, cs, xs, rfl, upd_same, hx, by rw [upd_ne nl]; exact hL, hc, hcl, hu0, hu1, fun m ys h0 h1 hy => ⟨m, ys, rfl, h0, h1, hy, upd_upd⟩⟩) fun rr s' hc' => ?_
    cases rr with
    | error e =>
      obtain ⟨_, _, _, _, _, _, _, _, _, _, _, _, z⟩ := hc'
      exact z.elim
    | ok fl =>
      cases fl with
      | ret uu =>
        obtain ⟨v, H1, h1, h2, un, hok, rv', m, ys, rfl, m0, m1, hy, rfl⟩ := hc'
        refine ⟨.int m, H, h1, h2, ⟨fun c q e n hf hx' => ?_, fun c q e n hf hx' => ?_, fun c q e n hx' => n, un.there, fun _ _ z => z, fun _ _ _ z => z, fun c qs z => ⟨#[], by rw [z]; simp⟩⟩, ?_, rv', k m m0 m1⟩
        · exact un.keep c q e (by rw [upd_ne (nb c n)]; exact n) hf hx'
        · exact un.slot c q e (by rw [upd_ne (nb c n)]; exact n) hf hx'
        · have ok2 := hok_put hok (upd_same (H := H)) trivial (u := .ext (BagO b l)) (ext_ok hy (hok b _ upd_same) _)
          rw [upd_upd] at ok2
          have eH : upd H b (.ext (BagO b l)) = H := by
            funext c
            by_cases hcb : c = b
            · subst hcb
              rw [upd_same, hB]
            · rw [upd_ne hcb]
          rw [eH] at ok2
          exact ok2
      | next => exact False.elim hc'
      | brk => exact False.elim hc'
      | cont => exact False.elim hc'

/-- what _law_bag promises of the lists themselves, and of the bag -/
def spBagL (K : PySem.W.Frag) : Sp := fun vs H Q _ => ∃ (a : Addr) (ns : List Int), vs = [.ref a] ∧ SqL K H a (ns.map V.int) ∧ ns.length ≤ 63 ∧
  ∀ (b l : Addr) (cs : List Int) (H' : Hp), Ex H H' → H b = none → H l = none → H' b = some (.lst [.int 0, .int 1234567891, .int 0, .ref l]) → H' l = some (.lst (cs.map V.int)) → (∀ c ∈ cs, 0 ≤ c) → cs.length ≤ 63 → Q (.ref b) H'
def spBag (K : PySem.W.Frag) : Sp := fun vs H Q _ => ∃ (a : Addr) (ns : List Int), vs = [.ref a] ∧ SqL K H a (ns.map V.int) ∧ ns.length ≤ 63 ∧ ∀ (b : Addr) (H' : Hp), Ex H H' → Bag H' b → Q (.ref b) H'
theorem bag_ok {k : Nat} {f : Addr} {ps : List Str} (F : Okf P w K mg base k f ps (spBagL K)) : Okf P w K mg base k f ps (spBag K) := by
  refine okf_alt F fun vs H Q E q => ?_
  obtain ⟨a, ns, rfl, hS, hl, k⟩ := q
  refine ⟨a, ns, rfl, hS, hl, fun b l cs H' e nb nl hb hL h0 hcl h' hok => ?_⟩
  have nlb : l ≠ b := ne_of hL hb (by
    intro z
    have z' : cs.map V.int = [.int 0, .int 1234567891, .int 0, .ref l] := by injection z
    have := congrArg (fun z => z[3]?) z'
    rw [List.getElem?_map] at this
    cases hh : cs[3]? with
    | none => rw [hh] at this; simp at this
    | some q => rw [hh] at this; simp at this)
  obtain ⟨hz, its, n, r, hobj⟩ := hok l _ hL
  have ok1 : HOk P w (upd H' l (.frz { cls := .type "list", data := .seq its.toArray n } (.lst (cs.map V.int)))) h' := hok_put hok hL trivial ⟨hobj, hz, its, n, r, hobj⟩
  have hb1 : upd H' l (.frz { cls := .type "list", data := .seq its.toArray n } (.lst (cs.map V.int))) b = some (.lst [.int 0, .int 1234567891, .int 0, .ref l]) := by rw [upd_ne nlb.symm]; exact hb
  have hv : BagV l [.int 0, .int 1234567891, .int 0, .ref l] := ⟨0, 1234567891, 0, rfl, by decide, by decide, by decide, by decide⟩
  have ok2 := hok_put ok1 hb1 trivial (u := .ext (BagO b l)) (ext_ok hv (ok1 b _ hb1) _)
  have e2 : Ex H (upd (upd H' l (.frz { cls := .type "list", data := .seq its.toArray n } (.lst (cs.map V.int)))) b (.ext (BagO b l))) := Ex.mut (Ex.mut e nl) nb
  refine ⟨_, ok2, fun c hc => ?_, fun c xs z => e2 _ _ z, fun c o u z => e2 _ _ z, fun c qs z => ⟨#[], by rw [e2 _ _ z]; simp⟩, k b _ e2 ⟨l, _, cs, upd_same, by rw [upd_ne nlb]; exact upd_same, h0, hcl⟩⟩
  have c1 : c ≠ b := fun z => by rw [z, hb] at hc; cases hc
  have c2 : c ≠ l := fun z => by rw [z, hL] at hc; cases hc
  rw [upd_ne c1, upd_ne c2]
  exact hc
end
end Hn

/-! More rules: the operators by promises, constants, subscripts of own classes. -/
namespace Hn
open PySem PySem.Spec PyProof.Rows L2 Evl
section
variable {X : Cx} {k : Nat} {f C : Addr} {ps : List Str} {sp : Sp}
theorem pe_gint {x : Str} {i : Int} {pos : Pos} (hg : Gl X x) (hm : ∃ t : Tok, X.mg x = some (.int i t)) (hd : (x == ("__debug__" : Str)) = false := by decide) : PE X (.Name x pos) (tC (.int i)) :=
  let ⟨t, h⟩ := hm
  pe_glob hg h ⟨t, rfl⟩ hd
theorem op_ownB {op : Operator} (G : Okf X.prog X.w X.K X.mg X.base k f ps sp) (hr : Room k X.A)
    (hc : PySem.W.selfFirst X.K C = true) (hs : PySem.W.findIn X.K (.ref C) (PySem.dunder op.info.2) = some (some (.ref f))) (hf : PySem.W.isFn X.K (.ref f) = true) : OpR X (binaryOp op) (rOwn C sp E0) :=
  let ⟨_, a, b⟩ := G
  op_own a hr b passL hc hs hf
theorem op_eqB (G : Okf X.prog X.w X.K X.mg X.base k f ps sp) (hr : Room k X.A)
    (hs : PySem.W.findIn X.K (.ref C) "__eq__" = some (some (.ref f))) (hf : PySem.W.isFn X.K (.ref f) = true) : OpR X (compareOp .Eq) (rOwn C sp E0) :=
  let ⟨_, a, b⟩ := G
  op_eqOwn a hr b passL hs hf
theorem op_neB (G : Okf X.prog X.w X.K X.mg X.base k f ps sp) (hr : Room (k + 1) X.A)
    (hs : PySem.W.findIn X.K (.ref C) "__eq__" = some (some (.ref f))) (hf : PySem.W.isFn X.K (.ref f) = true)
    (hn : PySem.W.findIn X.K (.ref C) "__ne__" = some (some (.builtin "object.__ne__"))) (hm : PySem.W.mroIn X.K C (.type "object") = some true) : OpR X (compareOp .NotEq) (rOwnNe C sp E0) :=
  let ⟨_, a, b⟩ := G
  op_neOwn a hr b passL hs hf hn hm
end
end Hn

/-! Readings opened one by one, by their heads. -/
namespace Hn
open PySem PySem.Spec PyProof.Rows L2 Evl
section
variable {K : PySem.W.Frag} {σ : L2.St} {H : Hp} {Q : VK} {QB : Bool → Hp → Prop} {D : Ends} {ta tb tc te : TE} {t u : TS} {tt tu : TT} {ar : TA} {QA : List V → Hp → Prop} {r r' : R2} {x y v : V} {i j : Int} {n : Nat} {wi : TI} {g : TG} {R : It → Hp → Prop} {vs : List Nat}
theorem r_seq (h : t { D with nx := u D } σ H) : tSeq t u D σ H := h
theorem r_next (h : D.nx σ H) : tNext D σ H := h
theorem r_asg (h : te σ H fun x H1 => g x σ H1 D.nx) : tAsg te g D σ H := h
theorem r_name {q : L2.St → Hp → Prop} (h : q (σ.set n (some v)) H) : gName n v σ H q := h
theorem r_ret (h : te σ H D.rt) : tRet te D σ H := h
theorem r_retN (h : D.rt .non H) : tRetN D σ H := h
theorem r_drop (h : te σ H fun _ H1 => D.nx σ H1) : tDrop te D σ H := h
theorem r_ifS (h : tt σ H fun b H1 => if b = true then t D σ H1 else u D σ H1) : tIfS tt t u D σ H := h
theorem r_test (h : te σ H fun x H' => ∃ k, x = .bl k ∧ QB k H') : tTest te σ H QB := h
theorem r_B (h : te σ H fun x H' => ∃ k, x = .bl k ∧ QB k H') : tB te σ H QB := h
theorem r_and (h : tt σ H fun c H1 => if c = true then tu σ H1 QB else QB false H1) : tAnd tt tu σ H QB := h
theorem r_or (h : tt σ H fun c H1 => if c = true then QB true H1 else tu σ H1 QB) : tOr tt tu σ H QB := h
theorem r_not (h : tt σ H fun c H1 => QB (!c) H1) : tNot tt σ H QB := h
theorem r_andV (h : ta σ H fun x H1 => ∃ c, x = .bl c ∧ if c = true then tb σ H1 Q else Q (.bl false) H1) : tAndV ta tb σ H Q := h
theorem r_orV (h : ta σ H fun x H1 => ∃ c, x = .bl c ∧ if c = true then Q (.bl true) H1 else tb σ H1 Q) : tOrV ta tb σ H Q := h
theorem r_notV (h : ta σ H fun x H1 => ∃ c, x = .bl c ∧ Q (.bl (!c)) H1) : tNotV ta σ H Q := h
theorem r_if (h : tt σ H fun c H1 => if c = true then ta σ H1 Q else tb σ H1 Q) : tIf tt ta tb σ H Q := h
theorem r_var (h : σ[n]? = some (some v)) (q : Q v H) : tVar n σ H Q := ⟨v, h, q⟩
theorem r_c (q : Q v H) : tC v σ H Q := q
theorem r_op (h : ta σ H fun x H1 => tb σ H1 fun y H2 => r x y H2 Q) : tOp r ta tb σ H Q := h
theorem r_un {ru : V → Hp → VK → Prop} (h : ta σ H fun x H1 => ru x H1 Q) : tUn ru ta σ H Q := h
theorem r_chain (h : ta σ H fun x H1 => tb σ H1 fun y H2 => r x y H2 fun z H3 => ∃ k, z = .bl k ∧ (if k = true then tc σ H3 fun w' H4 => r' y w' H4 Q else Q (.bl false) H3)) : tChain r r' ta tb tc σ H Q := h
theorem r_lst (h : ar σ H fun xs H1 => xs.length ≤ sizeLine ∧ ∀ p, H1 p = none → Q (.ref p) (upd H1 p (.lst xs))) : tLst ar σ H Q := h
theorem r_tup (h : ar σ H fun xs H1 => xs.length ≤ sizeLine ∧ ∀ p, H1 p = none → Q (.ref p) (upd H1 p (.tup xs))) : tTup ar σ H Q := h
theorem r_nil (h : QA [] H) : tNil σ H QA := h
theorem r_cons (h : ta σ H fun x H1 => ar σ H1 fun xs H2 => QA (x :: xs) H2) : tCons ta ar σ H QA := h
theorem r_call {sp : Sp} {dvs : List V} {E : XK} (h : ar σ H fun vs H1 => sp (vs ++ dvs) H1 Q E) : tCall sp dvs E ar σ H Q := h
theorem r_call1 {sp : Sp} {E : XK} {ws : List V} (h : sp ws H Q E) : sp (ws ++ []) H Q E := by rw [List.append_nil]; exact h
theorem r_meth {sp : Sp} {C : Addr} {m : Str} {E : XK} (h : ta σ H fun x H1 => ∃ a dx fs, x = .ref a ∧ H1 a = some (.ins C dx fs) ∧ fs.lookup m = none ∧ ar σ H1 fun vs H2 => sp (x :: (vs ++ [])) H2 Q E) : tMeth C m sp [] E ta ar σ H Q := h
theorem r_make {sp : Sp} {C : Addr} {E : XK} (h : ar σ H fun vs H1 => ∀ x dx, H1 x = none → H1 dx = none → dx ≠ x → sp (.ref x :: (vs ++ [])) (upd (upd H1 dx (.own x)) x (.ins C dx [])) (fun v H2 => v = .non ∧ Q (.ref x) H2) E) : tMake C sp [] E ar σ H Q := h
theorem r_prop {sp : Sp} {C : Addr} {E : XK} (h : ta σ H fun x H1 => ∃ a dx fs, x = .ref a ∧ H1 a = some (.ins C dx fs) ∧ sp [.ref a] H1 Q E) : tProp C sp [] E ta σ H Q := h
theorem r_cb {rc : List V → Hp → VK → Prop} (h : ar σ H fun vs H1 => rc vs H1 Q) : tCB rc ar σ H Q := h
theorem r_bm {T : String} {rm : V → List V → Hp → VK → Prop} (h : te σ H fun x H1 => tyV K T x H1 ∧ ar σ H1 fun xs H2 => rm x xs H2 Q) : tBM K T rm te ar σ H Q := h
theorem r_bm0 {T : String} {rm : V → List V → Hp → VK → Prop} (h : te σ H fun x H1 => tyV K T x H1 ∧ rm x [] H1 Q) : tBM0 K T rm te σ H Q := h
theorem r_sl {rs : V → Option Int → Option Int → Hp → VK → Prop} {tl th : TO} (h : te σ H fun x H1 => tl σ H1 fun l H2 => th σ H2 fun u H3 => rs x l u H3 Q) : L2.tSl rs te tl th σ H Q := h
theorem r_noPart {q : Option Int → Hp → Prop} (h : q none H) : tNoPart σ H q := h
theorem r_part {q : Option Int → Hp → Prop} (h : te σ H fun x H1 => ∃ i, x = .int i ∧ q (some i) H1) : tPart te σ H q := h
theorem r_int1 {p : Int → Prop} (h : p i) : ∃ k, V.int i = .int k ∧ p k := ⟨i, rfl, h⟩
theorem r_bl1 {b : Bool} {p : Bool → Prop} (h : p b) : ∃ k, V.bl b = .bl k ∧ p k := ⟨b, rfl, h⟩
theorem r_revL (h : te σ H fun x H1 => ∃ a xs, x = .ref a ∧ SqL K H1 a xs ∧ ∀ p, H1 p = none → Q (.ref p) (upd H1 p (.lst xs.reverse))) : tRevL K te σ H Q := h
theorem r_lc (h : wi σ H fun J H1 => LcTail J H1 g tt te vs σ Q) : tLc wi g tt te vs σ H Q := h
theorem r_par {n m : Nat} (h : ar σ H fun vs H1 => ∃ v w, vs = [v, w] ∧ D.nx ((σ.set n (some v)).set m (some w)) H1) : tPar n m ar D σ H := h
theorem r_par3 {n m l : Nat} (h : ar σ H fun vs H1 => ∃ u v w, vs = [u, v, w] ∧ D.nx (((σ.set n (some u)).set m (some v)).set l (some w)) H1) : tPar3 n m l ar D σ H := h
theorem r_two {p : V → V → Prop} {a b : V} (h : p a b) : ∃ v w, [a, b] = [v, w] ∧ p v w := ⟨a, b, rfl, h⟩
theorem r_three {p : V → V → V → Prop} {a b c : V} (h : p a b c) : ∃ u v w, [a, b, c] = [u, v, w] ∧ p u v w := ⟨a, b, c, rfl, h⟩
theorem r_aug {ti : TIp} {x : V} (h : σ[n]? = some (some x)) (q : te σ H fun y H1 => ti x y H1 fun z H2 => D.nx (σ.set n (some z)) H2) : tAug n te ti D σ H := ⟨x, h, q⟩
theorem r_augS {ti te' : TE} {tget : V → V → Hp → VK → Prop} {tip : TIp} {tset : TSet} (h : ta σ H fun o H1 => ti σ H1 fun i H2 => tget o i H2 fun x H3 => te' σ H3 fun y H4 => tip x y H4 fun z H5 => tset o i z H5 fun H6 => D.nx σ H6) : tAugS ta ti te' tget tip tset D σ H := h
theorem r_sub {tset : TSet} {q : L2.St → Hp → Prop} (h : ta σ H fun o H1 => tb σ H1 fun i H2 => tset o i v H2 fun H3 => q σ H3) : gSub ta tb tset v σ H q := h
theorem r_fld {f : Str} (h : ta σ H fun x H1 => ∃ a C dx fs v, x = .ref a ∧ H1 a = some (.ins C dx fs) ∧ Cls K C ∧ NoAttr K C f ∧ fs.lookup f = some v ∧ Q v H1) : tFld K ta f σ H Q := h
theorem r_sfld {f : Str} (h : tb σ H fun y H1 => ta σ H1 fun x H2 => ∃ a C dx fs, x = .ref a ∧ H2 a = some (.ins C dx fs) ∧ Cls K C ∧ NoAttr K C f ∧ fs.length < 1000 ∧ D.nx σ (upd H2 a (.ins C dx (putF f y fs)))) : sFld K ta tb f D σ H := h
theorem r_iList (h : te σ H fun x H1 => ∃ a, x = .ref a ∧ (∃ xs, SqL K H1 a xs) ∧ R (Itl K a) H1) : iList K te σ H R := h
theorem r_iTup (h : te σ H fun x H1 => ∃ a, x = .ref a ∧ (∃ xs, SqT K H1 a xs) ∧ R (Itt K a) H1) : iTup K te σ H R := h
theorem r_iRng1 (h : ar σ H fun vs H1 => ∃ j : Int, vs = [.int j] ∧ -(2 ^ 62) ≤ j ∧ j < 2 ^ 62 ∧ R (Itr 0 j.toNat) H1) : iRng1 ar σ H R := h
theorem r_iRng2 (h : ar σ H fun vs H1 => ∃ i j : Int, vs = [.int i, .int j] ∧ (-(2 ^ 62) ≤ i ∧ i < 2 ^ 62 ∧ -(2 ^ 62) ≤ j ∧ j < 2 ^ 62) ∧ R (Itr i (j - i).toNat) H1) : iRng2 ar σ H R := h
theorem r_iEnum (h : ar σ H fun vs H1 => ∃ a xs, vs = [.ref a] ∧ SqL K H1 a xs ∧ R (Ite K a) H1) : iEnum K ar σ H R := h
theorem r_iZip (h : ar σ H fun vs H1 => ∃ a b xs ys, vs = [.ref a, .ref b] ∧ SqL K H1 a xs ∧ SqL K H1 b ys ∧ R (Itz K a b) H1) : iZip K ar σ H R := h
theorem r_range1 {p : Int → Prop} (h0 : -(2 ^ 62) ≤ i) (h1 : i < 2 ^ 62) (h : p i) : ∃ j : Int, [V.int i] = [.int j] ∧ -(2 ^ 62) ≤ j ∧ j < 2 ^ 62 ∧ p j := ⟨i, rfl, h0, h1, h⟩
theorem r_yes (h : QB true H) : tYes σ H QB := h
theorem r_wipe {σ2 : L2.St} {p : Prop} (e : wipe σ2 vs = wipe σ vs) (h : p) : wipe σ2 vs = wipe σ vs ∧ p := ⟨e, h⟩
theorem r_pair {T : Addr} {n m : Nat} {q : L2.St → Hp → Prop} (h : q ((σ.set n (some x)).set m (some y)) (upd H T (.tup [x, y]))) : gTup K 2 (gCons (gName n) (gCons (gName m) gNil)) (.ref T) σ (upd H T (.tup [x, y])) q :=
  ⟨T, [x, y], rfl, .inl (.inl upd_same), rfl, x, [y], rfl, y, [], rfl, rfl, h⟩
/-! values -/
theorem r_I0 {f : Int → Int → V} (q : Q (f i j) H) : rI0 f (.int i) (.int j) H Q := ⟨i, j, rfl, rfl, q⟩
theorem r_I {C : Int → Int → Prop} {f : Int → Int → V} (c : C i j) (q : Q (f i j) H) : rI C f (.int i) (.int j) H Q := ⟨i, j, rfl, rfl, c, q⟩
theorem r_U {f : Int → V} (q : Q (f i) H) : rU f (.int i) H Q := ⟨i, rfl, q⟩
theorem r_eqI (q : Q (.bl (decide (i = j))) H) : rEq (.int i) (.int j) H Q := by
  refine ⟨rfl, ?_⟩
  have e : decide (V.int i = V.int j) = decide (i = j) := by rw [Bool.eq_iff_iff]; simp
  rw [e]
  exact q
theorem r_neI (q : Q (.bl (!decide (i = j))) H) : rNe (.int i) (.int j) H Q := by
  refine ⟨rfl, ?_⟩
  have e : decide (V.int i = V.int j) = decide (i = j) := by rw [Bool.eq_iff_iff]; simp
  rw [e]
  exact q
theorem r_eqB {a b : Bool} (q : Q (.bl (decide (a = b))) H) : rEq (.bl a) (.bl b) H Q := by
  refine ⟨rfl, ?_⟩
  have e : decide (V.bl a = V.bl b) = decide (a = b) := by rw [Bool.eq_iff_iff]; simp
  rw [e]
  exact q
theorem r_neB {a b : Bool} (q : Q (.bl (!decide (a = b))) H) : rNe (.bl a) (.bl b) H Q := by
  refine ⟨rfl, ?_⟩
  have e : decide (V.bl a = V.bl b) = decide (a = b) := by rw [Bool.eq_iff_iff]; simp
  rw [e]
  exact q
theorem r_ipI {f : Int → Int → Int} (q : Q (.int (f i j)) H) : ipI f (.int i) (.int j) H Q := ⟨i, j, rfl, rfl, q⟩
theorem r_ixL {p : Addr} {xs : List V} (h : SqL K H p xs) (ha : atI xs i = some v) (q : Q v H) : rIxL K (.ref p) (.int i) H Q := ⟨p, xs, i, v, rfl, rfl, h, ha, q⟩
theorem r_ixT {p : Addr} {xs : List V} (h : SqT K H p xs) (ha : atI xs i = some v) (q : Q v H) : rIxT K (.ref p) (.int i) H Q := ⟨p, xs, i, v, rfl, rfl, h, ha, q⟩
theorem r_ixS {p : Addr} {xs : List V} (h : Sq K H p xs) (ha : atI xs i = some v) (q : Q v H) : rIx K (.ref p) (.int i) H Q :=
  h.elim (fun h => .inl ⟨p, xs, i, v, rfl, rfl, h, ha, q⟩) fun h => .inr (.inl ⟨p, xs, i, v, rfl, rfl, h, ha, q⟩)
theorem r_setL {p : Addr} {xs : List V} {k : Int} {m : Nat} {q : Hp → Prop} (h : H p = some (.lst xs)) (hk : ixN xs.length k = some m) (hq : q (upd H p (.lst (xs.set m v)))) : rSetL (.ref p) (.int k) v H q := ⟨p, xs, k, m, rfl, rfl, h, hk, hq⟩
/-! tests -/
theorem r_ite {p A B : Prop} [Decidable p] (h1 : p → A) (h2 : ¬ p → B) : if decide p = true then A else B := ite2 (fun h => h1 (of_decide_eq_true h)) fun h => h2 fun z => h (decide_eq_true z)
theorem r_itn {p A B : Prop} [Decidable p] (h1 : ¬ p → A) (h2 : p → B) : if (!decide p) = true then A else B := by
  by_cases h : p
  · rw [decide_eq_true h]
    exact iteF (h2 h)
  · rw [decide_eq_false h]
    exact iteT (h1 h)
theorem r_itb {b : Bool} {A B : Prop} (h1 : b = true → A) (h2 : b = false → B) : if b = true then A else B := by
  cases b
  · exact iteF (h2 rfl)
  · exact iteT (h1 rfl)
theorem r_itnb {b : Bool} {A B : Prop} (h1 : b = false → A) (h2 : b = true → B) : if (!b) = true then A else B := by
  cases b
  · exact iteT (h1 rfl)
  · exact iteF (h2 rfl)
/-! loops -/
/-- what a for's reading asks behind the walked thing -/
def ForTail (J : It) (H1 : Hp) (g : TG) (tb : TS) (D : Ends) (σ : L2.St) : Prop := ∃ W : Nat → Nat → L2.St → Hp → Prop, (∃ m, W 0 m σ H1) ∧ ∀ i m σ H, W i m σ H →
  (J.stop i H ∧ D.nx σ H) ∨ (J.go i H ∧ ∃ N : L2.St → Hp → Prop, (∀ σ' H', N σ' H' → ∃ m', m' < m ∧ W (i + 1) m' σ' H') ∧ ∀ x H', J.yld i H x H' → g x σ H' fun σ2 H2 => tb { D with nx := N, ct := N, bk := D.nx } σ2 H2)
theorem r_for (h : wi σ H fun J H1 => ForTail J H1 g t D σ) : tFor wi g t D σ H := h
theorem for_w {J : It} {G : Hp → Prop} {Y : Nat → Hp → V → Hp → Prop} (w : Walk J n G Y) (Pv : Nat → L2.St → Hp → Prop) (h0 : Pv 0 σ H) (hG : ∀ i σ H, i ≤ n → Pv i σ H → G H)
    (hs : ∀ i x σ H H', i < n → Pv i σ H → Y i H x H' → g x σ H' fun σ2 H2 => t { D with nx := Pv (i + 1), ct := Pv (i + 1), bk := D.nx } σ2 H2) (hd : ∀ σ H, Pv n σ H → D.nx σ H) : ForTail J H g t D σ :=
  for_it w Pv h0 hG hs hd
end
end Hn

/-! Lists and tuples walked alike; enumerate of a tuple; t[::-1]; c[i] by an own __getitem__. -/
namespace Hn
open PySem PySem.Spec PyProof.Rows L2 Evl

/-! ### enumerate(v), v a tuple -/
theorem meets_enum1 {v : Value} {o : Obj} {P : Heap → Prop} (B : Begins v o P) :
    Meets (Builtin.«enumerate.__new__» ⟨[.type "enumerate", v], []⟩) (fun _ R s => P s.heap ∧
      R (.ok (.ret (.ref (s.heap.push o).objs.size))) { s with heap := (s.heap.push o).push { cls := .type "enumerate", data := .fields #[.none, .bool false, .ref s.heap.objs.size, rawInt 0, .none, .none] } }) :=
  .of_wp fun prog w A R s h => by
    obtain ⟨hp, g, d, tk, os⟩ := s
    obtain ⟨h1, h⟩ := h
    have hsub := sub_enumerate
    have q1 : ∀ {A' : Around} {E : Value → Shared → Prop} {Q : Value → Shared → Prop}, Q (.ref hp.objs.size) ⟨hp.push o, g, d, tk, os⟩ → wpAny (model prog w) A' (pyIter v) Q E ⟨hp, g, d, tk, os⟩ := fun q => B.iter prog w _ _ ⟨hp, g, d, tk, os⟩ _ h1 q
    wp_walk using q1
    refine wpAny_stack_any fun st => wpAny_pure ?_
    split
    · rename_i c _ _ _ _ _
      cases (c == Value.type "enumerate") <;> (wp_walk using q1; exact ⟨_, rfl, h⟩)
    · wp_walk using q1
      exact ⟨_, rfl, h⟩
theorem call_enum1 {prog : Program} {w : World} {A : Around} {E : Value → Shared → Prop} {s : Shared} {v : Value} {o : Obj} {P : Heap → Prop} {Q : Value → Shared → Prop} (B : Begins v o P) (h1 : P s.heap)
    (h : ∀ h' : Heap, IsEnum h' (s.heap.objs.size + 1) s.heap.objs.size 0 .none → h'.get? s.heap.objs.size = some o → (∀ b o, s.heap.get? b = some o → h'.get? b = some o) → Q (.ref (s.heap.objs.size + 1)) { s with heap := h' }) :
    wpAny (model prog w) A (call (.type "enumerate") [v]) Q E s := by
  refine callType_new F.called_enumerate (by decide) (F.typeCall_enumerate_1 _) (F.newCall_enumerate_1 _) (fun obj => F.args_object_init_2 obj _) F.entry_enumerate_new (meets_enum1 B) ⟨h1, ?_⟩
  have hz : (s.heap.push o).objs.size = s.heap.objs.size + 1 := Heap.size_push ..
  have hg := Heap.get?_push_size (s.heap.push o) (o := { cls := .type "enumerate", data := .fields #[.none, .bool false, .ref s.heap.objs.size, rawInt 0, .none, .none] }) rfl
  rw [hz] at hg
  show _ ∧ _
  rw [hz]
  exact ⟨⟨_, hg, rfl⟩, h _ hg (Heap.get?_push_of_some _ (Heap.get?_push_size _ B.free)) fun b o x => Heap.get?_push_of_some _ (Heap.get?_push_of_some _ x)⟩
/-- the tuple at a, each item in a new pair behind its place -/
def Itet (K : PySem.W.Frag) (a : Addr) : It :=
  ⟨fun i H => ∃ (xs : List V) (x : V), SqT K H a xs ∧ xs[i]? = some x, fun i H v H' => ∃ T x, v = .ref T ∧ H T = none ∧ H' = upd H T (.tup [.int (i : Nat), x]) ∧ ∀ xs, SqT K H a xs → xs[i]? = some x, fun i H => ∃ xs : List V, SqT K H a xs ∧ xs.length = i⟩
theorem walk_enumT {K : PySem.W.Frag} {a : Addr} {xs : List V} : Walk (Itet K a) xs.length (fun H => SqT K H a xs) (YPair (fun i => some (.int (i : Nat))) (fun i => xs[i]?)) := by
  refine ⟨fun i _ hi q => ⟨xs, xs[i], q, by simp [hi]⟩, fun _ q => ⟨xs, q, rfl⟩, fun i H v H' _ q y => ?_⟩
  obtain ⟨T, x, h1, h2, h3, h4⟩ := y
  exact ⟨T, _, x, h1, h2, h3, rfl, h4 xs q⟩
theorem turn_enumT {P : Program} {w : World} {K : PySem.W.Frag} {elts : List Expr} {kk : Nat} {tpos : Pos} (a e it : Addr) (hne : e ≠ it) (ha : a ≠ it) (hae : e ≠ a) :
    Turn P w K (.Tuple elts kk tpos) (Itet K a) [e, it] e (fun i h => (∃ old, IsEnum h e it ((i : Nat) : Int) old) ∧ h.IsTupleIter it a i) where
  mem := by simp
  obj := fun i h st b hb => by
    obtain ⟨⟨old, he⟩, ⟨o, ho, hc, hd⟩⟩ := st
    rcases (show b = e ∨ b = it by simpa using hb) with z | z
    · rw [z]
      exact ⟨_, he, fun v q => nomatch q⟩
    · rw [z]
      exact ⟨o, ho, fun v q => by rw [hd] at q; cases q⟩
  keep := fun i h h' st k => by
    obtain ⟨⟨old, he⟩, hi⟩ := st
    exact ⟨⟨old, k e (by simp) _ he⟩, hi.at fun o q => k it (by simp) o q⟩
  item := by
    intro X hP hw hK hc i pins s σ H E I hf st hg
    subst hP hw hK
    obtain ⟨⟨old, he⟩, hit⟩ := st
    obtain ⟨xs, x, hq, hx⟩ := hg
    obtain ⟨its, rv, p, hz⟩ := I.tuple hq
    obtain ⟨u, hu, ru⟩ := rv.get hx
    have hel : e < s.heap.objs.size := Heap.lt_size he
    have hil : it < s.heap.objs.size := by obtain ⟨_, q, _⟩ := hit; exact Heap.lt_size q
    have hn : i < its.toArray.size := by
      rw [List.size_toArray]
      exact (List.getElem?_eq_some_iff.mp hu).1
    have D := Draws.tuple (prog := X.prog) (w := X.w) (A := X.A.in1) (I.ok.hd hc) it a ha its.toArray
    refine wpAny_pyNext_enum_itemC D he ⟨hit, p⟩ hn hne (by simp [hne, hae]) fun x' h' tk hx' ho hst' hT hsz hk => ?_
    have ex : x' = u := by
      have z : its.toArray[i]? = some u := by simpa using hu
      rw [z] at hx'
      exact (Option.some.inj hx').symm
    subst ex
    refine ⟨_, rfl, wpAny_letOwnedTupleGo_enum (s := { s with heap := h', toks := tk + 1 }) ho fun h'' he' sb => ?_⟩
    have hT2 : h''.get? s.heap.objs.size = some { cls := .type "tuple", data := .seq #[.int i tk, x'] } := (sb.2 _ (Nat.ne_of_gt hel)).trans hT
    have new : ObjOk X.prog X.w (upd H s.heap.objs.size (.tup [.int (i : Nat), x])) h'' s.heap.objs.size (.tup [.int (i : Nat), x]) :=
      ⟨by show 2 ≤ sizeLine; decide, [.int i tk, x'], .cons ⟨_, rfl⟩ (.cons ru .nil), ⟨_, hT2, rfl, _, rfl⟩⟩
    have I1 : Inv X pins σ (upd H s.heap.objs.size (.tup [.int (i : Nat), x])) { s with heap := h'', toks := tk + 1 } :=
      I.turnedNew (ch := [e, it]) (fun b ob hb q => (sb.2 b (fun z => hb (by simp [z]))).trans (hk b ob (fun z => hb (by simp [z])) (fun z => hb (by simp [z])) q)) hf (Nat.le_refl _) new
    refine ⟨.ref s.heap.objs.size, _, I1, rfl, ⟨_, x, rfl, I.hok.fresh (Nat.le_refl _), rfl, fun ys hy => ?_⟩, ⟨⟨x', ?_⟩, hst'.1.at fun o q => (sb.2 it (Ne.symm hne)).trans q⟩, fun b hb => ?_⟩
    · rw [I.tuple_inj hy hq]
      exact hx
    · have e1 : ((i + 1 : Nat) : Int) = (i : Int) + 1 := by omega
      rw [e1]
      exact he'
    · have hb' : b < s.heap.objs.size := by
        rcases (show b = e ∨ b = it by simpa using hb) with z | z
        · rw [z]; exact hel
        · rw [z]; exact hil
      rw [upd_ne (Nat.ne_of_lt hb')]
      exact (hf b hb).1
  done := by
    intro X hP hw hK hc i pins s σ H E I hf st hg
    subst hP hw hK
    obtain ⟨⟨old, he⟩, hit⟩ := st
    obtain ⟨xs, hq, hx⟩ := hg
    obtain ⟨its, rv, p, hz⟩ := I.tuple hq
    obtain ⟨f0, f1, f2, f3, f4, f5⟩ := hf it (by simp)
    have hl : its.toArray.size = i := by
      rw [List.size_toArray, ← rv.length]
      exact hx
    have D := Draws.tuple (prog := X.prog) (w := X.w) (A := X.A.in1) (I.ok.hd hc) it a ha its.toArray
    refine wpAny_pyNext_enum_endD D he ⟨by rw [hl]; exact hit, p⟩ fun h' eb => ?_
    exact ⟨rfl, I.turned (t' := s.toks) (fun b o hb q => eb b o hb q) f0 f1 f3 f4 f5⟩
  self := fun A i s Q E st h => by
    obtain ⟨⟨_, he⟩, _⟩ := st
    exact wpAny_pyIter_enum he h
/-! ### a list or a tuple walked -/
section
variable {X : Cx} {tg : Expr}
/-- a walk that gives xs as long as what stands in H1 stands -/
def Goes1 (H1 : Hp) (n : Nat) (Y : Nat → Hp → V → Hp → Prop) (J : It) : Prop := ∃ G : Hp → Prop, Walk J n G Y ∧ ∀ H, Ex H1 H → G H
def iSeq (K : PySem.W.Frag) (tl : TE) : TI := fun σ H R => tl σ H fun x H1 => ∃ a xs H0, x = .ref a ∧ Sq K H0 a xs ∧ Ex H0 H1 ∧ ∀ J, Goes1 H0 xs.length (YAt xs) J → R J H1
theorem new1 {pins : List (Addr × Obj)} {σ : L2.St} {H : Hp} {s : Shared} (I : Inv X pins σ H s) : (∀ b ∈ [s.heap.objs.size], FpOk X pins H b) ∧ ∀ o, Inv X pins σ H { s with heap := s.heap.push o } :=
  ⟨fun b hb => by
    obtain rfl : b = s.heap.objs.size := by simpa using hb
    exact I.fpOk (Nat.le_refl _) (I.hok.fresh (Nat.le_refl _)), fun o => I.kept (t' := s.toks) fun b o e => Heap.get?_push_of_some _ e⟩
theorem pi_seq {l : Expr} {tl : TE} (hl : PE X l tl) : PI X tg l (iSeq X.K tl) := by
  refine ⟨fun pins s σ H R I h => ?_⟩
  refine thn (hl.run pins s σ H _ I h) fun v s1 ⟨x, H1, I1, r1, a, xs, H0, ex, hq0, e0, q⟩ => ?_
  subst ex
  cases r1
  obtain ⟨fp, kp⟩ := new1 I1
  rcases hq0 with hq | hq
  · obtain ⟨its, rv, p, hz⟩ := I1.list (ex_l e0 hq)
    refine wpAny_pyIter_list p.isList ?_
    exact ⟨s1.heap.objs.size, [s1.heap.objs.size], _, _, H1, rfl, kp _, turn_list a _, ⟨_, Heap.get?_push_size _ rfl, rfl, rfl⟩, fp, q _ ⟨_, walk_list, fun H' e => ex_l e hq⟩⟩
  · obtain ⟨its, rv, p, hz⟩ := I1.tuple (ex_t e0 hq)
    refine wpAny_pyIter_tuple (show s1.heap.IsTuple a its.toArray from p) ?_
    exact ⟨s1.heap.objs.size, [s1.heap.objs.size], _, _, H1, rfl, kp _, turn_tuple a _, ⟨_, Heap.get?_push_size _ rfl, rfl, rfl⟩, fp, q _ ⟨_, walk_tup, fun H' e => ex_t e hq⟩⟩
/-- enumerate of a list or a tuple -/
def YEnum (xs : List V) : Nat → Hp → V → Hp → Prop := YPair (fun i => some (.int (i : Nat))) (fun i => xs[i]?)
def iEnumS (K : PySem.W.Frag) (ta : TA) : TI := fun σ H R => ta σ H fun vs H1 => ∃ a xs H0, vs = [.ref a] ∧ Sq K H0 a xs ∧ Ex H0 H1 ∧ ∀ J, Goes1 H0 xs.length (YEnum xs) J → R J H1
theorem pi_enumS {e : Expr} {ta : TA} {p pos tpos : Pos} {elts : List Expr} {kk : Nat} (hg : Gl X "enumerate") (hm : X.mg "enumerate" = none) (ha : PA X [e] ta) (hs : starEach [e] X.env = [(false, eval e X.env)] := by rfl) :
    PI X (.Tuple elts kk tpos) (.Call (.Name "enumerate" p) [e] [] pos) (iEnumS X.K ta) := by
  refine ⟨fun pins s σ H R I h => ?_⟩
  refine Call_ (ld_blt I hg hm boot_enumerate (PyProof.Rows.callWith_type1 (thn (ha.run pos pins s σ H _ I h) fun us s1 ⟨vs, H1, I1, r1, a, xs, H0, ex, hq0, e0, q⟩ => ?_) hs rfl))
  subst ex
  obtain rfl := Vals.ref1 r1
  have fp : ∀ b ∈ [s1.heap.objs.size + 1, s1.heap.objs.size], FpOk X pins H1 b := fun b hb => by
    have hle : s1.heap.objs.size ≤ b := by
      rcases (show b = s1.heap.objs.size + 1 ∨ b = s1.heap.objs.size by simpa using hb) with z | z <;> omega
    exact I1.fpOk hle (I1.hok.fresh hle)
  rcases hq0 with hq | hq
  · obtain ⟨its, rv, p', hz⟩ := I1.list (ex_l e0 hq)
    refine call_enumerate_list p'.isList fun h' he hit hsz hk => wpAny_pyIter_enum he ?_
    exact ⟨s1.heap.objs.size + 1, [s1.heap.objs.size + 1, s1.heap.objs.size], _, _, H1, rfl, I1.kept (t' := s1.toks) hk, turn_enum a (s1.heap.objs.size + 1) s1.heap.objs.size, ⟨⟨.none, he⟩, hit, Nat.succ_ne_self _⟩, fp, q _ ⟨_, walk_enum, fun H' e => ex_l e hq⟩⟩
  · obtain ⟨its, rv, p', hz⟩ := I1.tuple (ex_t e0 hq)
    have hlt : a < s1.heap.objs.size := by obtain ⟨o, ho, _⟩ := id p'; exact Heap.lt_size ho
    refine call_enum1 (begins_tuple a its.toArray) p' fun h' he hit hk => wpAny_pyIter_enum he ?_
    exact ⟨s1.heap.objs.size + 1, [s1.heap.objs.size + 1, s1.heap.objs.size], _, _, H1, rfl, I1.kept (t' := s1.toks) hk, turn_enumT a (s1.heap.objs.size + 1) s1.heap.objs.size (Nat.succ_ne_self _) (Nat.ne_of_lt hlt) (Nat.ne_of_gt (Nat.lt_succ_of_lt hlt)), ⟨⟨.none, he⟩, ⟨_, hit, rfl, rfl⟩⟩, fp, q _ ⟨_, walk_enumT, fun H' e => ex_t e hq⟩⟩
end
section
variable {K : PySem.W.Frag} {σ : L2.St} {H : Hp} {te : TE} {ar : TA} {R : It → Hp → Prop}
theorem r_iSeq (h : te σ H fun x H1 => ∃ a xs H0, x = .ref a ∧ Sq K H0 a xs ∧ Ex H0 H1 ∧ ∀ J, Goes1 H0 xs.length (YAt xs) J → R J H1) : iSeq K te σ H R := h
theorem r_iEnumS (h : ar σ H fun vs H1 => ∃ a xs H0, vs = [.ref a] ∧ Sq K H0 a xs ∧ Ex H0 H1 ∧ ∀ J, Goes1 H0 xs.length (YEnum xs) J → R J H1) : iEnumS K ar σ H R := h
end
/-! ### t[::-1] -/
theorem adjust_rev (n : Nat) : Builtin.Slice.sliceAdjust none none (-1) (n : Int) = ((n : Int) - 1, -1) := by
  unfold Builtin.Slice.sliceAdjust
  simp
theorem places_rev (n : Nat) : Builtin.Slice.slicePlaces ((n : Int) - 1) (-1) (-1) = n := by
  unfold Builtin.Slice.slicePlaces
  rw [if_neg (by decide)]
  split <;> simp <;> omega
section
open HT
variable {prog : Program} {w : World} {A : Around} {E : Value → Shared → Prop} {s : Shared}
theorem sliceApplied_rev {sl : Addr} {vs : Value} {n : Nat} {Q : Int × Int × Nat → Shared → Prop} (hs : s.heap.IsSliceOf sl .none .none vs) (ps : IsPart vs (some (-1)))
    (h : Q ((n : Int) - 1, -1, n) s) : wpAny (model prog w) A (Builtin.Slice.sliceApplied (.ref sl) (pure (n : Int))) Q E s := by
  obtain ⟨os, hos, hcs, hds⟩ := id hs
  unfold Builtin.Slice.sliceApplied Builtin.Slice.sliceFields
  refine wpAny_bind (wpAny_bind (wpAny_field hos hds (x := .none) rfl (wpAny_bind (wpAny_field hos hds (x := .none) rfl (wpAny_bind (wpAny_field hos hds (x := vs) rfl (wpAny_pure ?_)))))))
  refine wpAny_bind (slicePart_ ps ?_)
  show wpAny _ _ (if ((-1 : Int) == 0) = true then _ else _) _ _ s
  rw [if_neg (by decide)]
  refine wpAny_bind (slicePart_none (wpAny_bind (slicePart_none (wpAny_bind (wpAny_pure ?_)))))
  show wpAny _ _ (match Builtin.Slice.sliceAdjust none none (-1) (n : Int) with | (lo, hi) => pure (lo, (-1 : Int), Builtin.Slice.slicePlaces lo hi (-1))) _ _ s
  rw [adjust_rev n]
  show wpAny _ _ (pure ((n : Int) - 1, (-1 : Int), Builtin.Slice.slicePlaces ((n : Int) - 1) (-1) (-1))) _ _ s
  rw [places_rev]
  exact wpAny_pure h
theorem pick_rev (xs : Array Value) : ((List.range xs.size).filterMap fun (k : Nat) => xs[((xs.size : Int) - 1 + (k : Int) * -1).toNat]?).toArray = xs.toList.reverse.toArray := by
  congr 1
  have e : ((List.range xs.size).filterMap fun (k : Nat) => xs[((xs.size : Int) - 1 + (k : Int) * -1).toNat]?) = ((List.range xs.size).map (fun k => xs.size - 1 - k)).filterMap (xs[·]?) := by
    rw [List.filterMap_map]
    congr 1
    funext k
    have : ((xs.size : Int) - 1 + (k : Int) * -1).toNat = xs.size - 1 - k := by omega
    show xs[((xs.size : Int) - 1 + (k : Int) * -1).toNat]? = xs[xs.size - 1 - k]?
    rw [this]
  rw [e, PySem.W.krv_range, List.filterMap_reverse, PySem.W.krv_all]
theorem getItem_tuple_rev {t sl : Addr} {items : Array Value} {vs : Value} {Q : Value → Shared → Prop} (ht : IsTup s.heap t items) (hs : s.heap.IsSliceOf sl .none .none vs) (ps : IsPart vs (some (-1))) (hsz : items.size ≤ sizeLine)
    (h : Q (.ref s.heap.objs.size) { s with heap := s.heap.push { cls := .type "tuple", data := .seq items.toList.reverse.toArray } }) : wpAny (model prog w) A (getItem (.ref t) (.ref sl)) Q E s := by
  have htake : sizeOk (.seq items.toList.reverse.toArray) := by
    show items.toList.reverse.toArray.size ≤ sizeLine
    rw [List.size_toArray, List.length_reverse, Array.length_toList]
    exact hsz
  obtain ⟨os, hos, hcs, hds⟩ := id hs
  have hTs : s.TypeIs (.ref sl) "slice" := ⟨os, hos, hcs⟩
  unfold getItem
  try with_reducible refine wpAny_holding ?_
  first | refine wpAny_bind (wpAny_pure ?_) | skip
  refine wpAny_bind (wpAny_sequenceKey ht.typeIs (by decide) (wpAny_bind (wpAny_callSpecial?_slot (name := Str.ofString "__getitem__") ht.typeIs PyProof.Rows.slot_tuple_getitem (wpAny_call_entry PyProof.Rows.slot_tuple_getitem ht.typeIs entry_tuple_getitem ?_ (args_tuple_getitem _ _)))))
  show wpAny _ _ (Builtin.Tuple.tupleItemsOf (.ref t) >>= _) _ _ s
  refine wpAny_bind (tupleItemsOf_ ht (wpAny_bind (wpAny_typeOf hTs ?_)))
  rw [if_pos (by decide)]
  refine wpAny_bind (sliceApplied_rev hs ps ?_)
  show wpAny _ _ (if (((items.size : Int) - 1 == 0) && ((-1 : Int) == 1) && items.size == items.size) = true then _ else _) _ _ s
  rw [if_neg (by rw [show ((-1 : Int) == 1) = false from rfl, Bool.and_false, Bool.false_and]; decide), pick_rev]
  first
    | exact wpAny_bind (m := Builtin.Tuple.tupleExact _) (wpAny_newObj_type (wpAny_pure ⟨_, rfl, wpAny_pure h⟩) htake)
    | exact wpAny_bind (wpAny_bind (m := Builtin.Tuple.tupleExact _) (wpAny_newObj_type (wpAny_pure (wpAny_pure ⟨_, rfl, wpAny_pure h⟩)) htake))
    | exact wpAny_bind (wpAny_bind (m := Builtin.Tuple.tupleExact _) (wpAny_newObj_type (wpAny_pure ⟨_, rfl, wpAny_pure h⟩) htake))
end
section
variable {X : Cx}
def tRevT (K : PySem.W.Frag) (te : TE) : TE := fun σ H Q => te σ H fun x H1 => ∃ a xs, x = .ref a ∧ SqT K H1 a xs ∧ ∀ p, H1 p = none → Q (.ref p) (upd H1 p (.tup xs.reverse))
theorem r_revT {K : PySem.W.Frag} {σ : L2.St} {H : Hp} {te : TE} {Q : VK} (h : te σ H fun x H1 => ∃ a xs, x = .ref a ∧ SqT K H1 a xs ∧ ∀ p, H1 p = none → Q (.ref p) (upd H1 p (.tup xs.reverse))) : tRevT K te σ H Q := h
theorem pe_revT {e : Expr} {te : TE} {k : Nat} {p1 p2 p3 pos : Pos} (he : PE X e te) : PE X (.Subscript e (.Slice none none (some (.UnaryOp .USub (.Constant (.int 1) k p1) p2)) p3) pos) (tRevT X.K te) := by
  refine ⟨fun pins s σ H Q I h => ?_⟩
  refine Subscript_ (thn (he.run pins s σ H _ I h) fun v s1 ⟨x, H1, I1, r1, a, xs, ex, hx, q⟩ => ?_)
  subst ex
  cases r1
  have hst : PO X (some (.UnaryOp .USub (.Constant (.int 1) k p1) p2)) (tPart (tUn (rU fun i => .int (-i)) (tC (.int 1)))) := po_some (pe_un un_neg pe_int)
  refine wpAny_Slice (thn (po_none.run pins s1 σ H1 (fun o H2 => o = none ∧ H2 = H1) I1 ⟨rfl, rfl⟩) fun vl s2 ⟨l, H2, I2, pl, el, e2⟩ => ?_)
  subst el e2
  refine thn (po_none.run pins s2 σ H2 (fun o H3 => o = none ∧ H3 = H2) I2 ⟨rfl, rfl⟩) fun vu s3 ⟨u, H3, I3, pu, eu, e3⟩ => ?_
  subst eu e3
  refine thn (hst.run pins s3 σ H3 (fun o H4 => o = some (-1) ∧ H4 = H3) I3 ⟨1, rfl, -1, rfl, rfl, rfl⟩) fun vs s4 ⟨o, H4, I4, ps, eo, e4⟩ => ?_
  subst eo e4
  cases pl
  cases pu
  have I5 : Inv X pins σ H4 { s4 with heap := s4.heap.push { cls := .type "slice", data := .fields #[.none, .none, vs] } } := I4.kept (t' := s4.toks) fun b ob q => Heap.get?_push_of_some _ q
  obtain ⟨its, r, ht, hz⟩ := I5.tuple hx
  have hlen := r.length
  show wpAny (model X.prog X.w) X.A (subscriptTail e (.Slice none none (some (.UnaryOp .USub (.Constant (.int 1) k p1) p2)) p3) (.ref a) (.ref s4.heap.objs.size)) (EP X pins σ Q) X.xe { s4 with heap := s4.heap.push { cls := .type "slice", data := .fields #[.none, .none, vs] } }
  refine tail_any (ops := [.ref a, .ref s4.heap.objs.size]) ht.typeIs (PyProof.Rows.slot_tuple_getitem.lookup) ?_ (by with_unfolding_all rfl)
  refine getItem_tuple_rev ht (Heap.IsSliceOf.new _ .none .none vs) ps (by rw [List.size_toArray]; omega) ?_
  refine ⟨.ref _, _, I5.laid (t' := s4.toks) (o := .tup xs.reverse) (fun b ob q => Heap.get?_push_of_some _ q) (Nat.le_refl _) ?_, rfl, q _ (I5.hok.fresh (Nat.le_refl _))⟩
  exact ⟨by rw [List.length_reverse]; exact hz, its.reverse, r.reverse, ⟨_, Heap.get?_push_size _ rfl, rfl, _, rfl⟩⟩

/-! ### c[i] by the class's own __getitem__ -/
variable {k : Nat} {f C : Addr} {ps : List Str} {sp : Sp}
def tIxO (C : Addr) (sp : Sp) (ta tb : TE) : TE := fun σ H Q => ta σ H fun x H1 => tb σ H1 fun y H2 => ∃ a dx fs, x = .ref a ∧ H2 a = some (.ins C dx fs) ∧ sp [x, y] H2 Q E0
theorem r_ixO {C : Addr} {sp : Sp} {σ : L2.St} {H : Hp} {ta tb : TE} {Q : VK} (h : ta σ H fun x H1 => tb σ H1 fun y H2 => ∃ a dx fs, x = .ref a ∧ H2 a = some (.ins C dx fs) ∧ sp [x, y] H2 Q E0) : tIxO C sp ta tb σ H Q := h
theorem pe_ixB {a b : Expr} {ta tb : TE} {pos : Pos} (G : Okf X.prog X.w X.K X.mg X.base k f ps sp) (hr : Room (k + 1) X.A)
    (hs : PySem.W.findIn X.K (.ref C) "__getitem__" = some (some (.ref f))) (hf : PySem.W.fnIn X.K f = true) (hfn : PySem.W.isFn X.K (.ref f) = true) (ha : PE X a ta) (hb : PE X b tb)
    (hsl : ∀ x i, subscripted b true (.ref x) i = runValue (.builtin "lifetime.subscript" ⟨[.ref x, i], []⟩) := by intro _ _; with_unfolding_all rfl) : PE X (.Subscript a b pos) (tIxO C sp ta tb) := by
  obtain ⟨fd, F, hbd⟩ := G
  refine ⟨fun pins s σ H Q I h => ?_⟩
  refine Subscript_ (binT ha hb I h fun v u s2 x y H2 I2 rx ry q => ?_)
  obtain ⟨p, dx, fs, rfl, hp, q⟩ := q
  cases rx
  obtain ⟨mA, J, _⟩ := ins_get I2.hok hp
  obtain ⟨od, J, _⟩ := J.look
  obtain ⟨m, hF⟩ := I2.fr
  refine PySem.W.sub_K hF I2.ok.mod.kin J hs hf hfn ?_ (hsl p u)
  exact run_fn1 (us := [.ref p, u]) (vs := [.ref p, y]) F hr hbd passL I2 (.cons rfl (.cons ry .nil)) q
end
end Hn

/-! Clocks, plainly: stays round about, widths. -/
namespace Hn

/-- the item at any place, round about -/
def cyc (s : List Int) (i : Int) : Int := s.getD (i % (s.length : Int)).toNat 0
/-- how many begins back serve the hour h -/
def wd (s : List Int) (h : Int) : Int := (((List.range s.length).filter fun (b : Nat) => decide ((b : Int) < cyc s (h - (b : Int)))).length : Int)
def wds (s : List Int) : List Int := (List.range s.length).map fun (h : Nat) => wd s h
def okStays (s : List Int) : Bool := decide (1 ≤ s.length) && decide (s.length ≤ 48) && s.all fun x => decide (1 ≤ x) && decide (x ≤ (s.length : Int))
structure Good (s : List Int) : Prop where
  ne : 1 ≤ s.length
  le : s.length ≤ 48
  lo : ∀ i : Int, 1 ≤ cyc s i
  hi : ∀ i : Int, cyc s i ≤ (s.length : Int)
  od : ∀ i : Int, cyc s i ≤ 1 + cyc s (i + 1)

theorem mod_bd {n : Nat} (h : 1 ≤ n) (i : Int) : 0 ≤ i % (n : Int) ∧ i % (n : Int) < (n : Int) := ⟨Int.emod_nonneg _ (by omega), Int.emod_lt_of_pos _ (by omega)⟩
theorem cyc_mem {s : List Int} (h : 1 ≤ s.length) (i : Int) : cyc s i ∈ s := by
  have := mod_bd h i
  unfold cyc
  rw [List.getD_eq_getElem?_getD, List.getElem?_eq_getElem (by omega)]
  exact List.getElem_mem _
theorem cyc_at {s : List Int} {j : Nat} (h : j < s.length) : cyc s (j : Int) = s.getD j 0 := by
  unfold cyc
  rw [Int.emod_eq_of_lt (by omega) (by omega), Int.toNat_natCast]
theorem cyc_mod (s : List Int) (i : Int) : cyc s (i % (s.length : Int)) = cyc s i := by
  unfold cyc
  rw [Int.emod_emod_of_dvd _ (Int.dvd_refl _)]
theorem cyc_congr {s : List Int} {i j : Int} (h : i % (s.length : Int) = j % (s.length : Int)) : cyc s i = cyc s j := by
  unfold cyc
  rw [h]
theorem okStays_iff {s : List Int} : okStays s = true ↔ (1 ≤ s.length ∧ s.length ≤ 48 ∧ ∀ x ∈ s, 1 ≤ x ∧ x ≤ (s.length : Int)) := by
  unfold okStays
  simp only [Bool.and_eq_true, decide_eq_true_eq, List.all_eq_true]
  constructor
  · rintro ⟨⟨a, b⟩, c⟩
    exact ⟨a, b, c⟩
  · rintro ⟨a, b, c⟩
    exact ⟨⟨a, b⟩, c⟩
theorem Good.ok {s : List Int} (g : Good s) : okStays s = true := by
  refine okStays_iff.mpr ⟨g.ne, g.le, fun x hx => ?_⟩
  obtain ⟨j, hj, rfl⟩ := List.mem_iff_getElem.mp hx
  have e : cyc s (j : Int) = s[j] := by
    rw [cyc_at hj, List.getD_eq_getElem?_getD, List.getElem?_eq_getElem hj]
    rfl
  rw [← e]
  exact ⟨g.lo _, g.hi _⟩
theorem Good.of {s : List Int} (h : okStays s = true) (o : ∀ j : Nat, j < s.length → s.getD j 0 ≤ 1 + cyc s ((j : Int) + 1)) : Good s := by
  obtain ⟨h1, h2, h3⟩ := okStays_iff.mp h
  refine ⟨h1, h2, fun i => (h3 _ (cyc_mem h1 i)).1, fun i => (h3 _ (cyc_mem h1 i)).2, fun i => ?_⟩
  have hb := mod_bd h1 i
  have e1 := o (i % (s.length : Int)).toNat (by omega)
  have e2 : (((i % (s.length : Int)).toNat : Nat) : Int) = i % (s.length : Int) := by omega
  rw [e2] at e1
  have e3 : cyc s (i % (s.length : Int) + 1) = cyc s (i + 1) := cyc_congr (by rw [Int.emod_add_emod])
  rw [e3] at e1
  exact e1

/-! ### windows have no gap -/
theorem down {s : List Int} (g : Good s) (h : Int) : ∀ (b : Nat), (b : Int) + 1 < cyc s (h - ((b : Int) + 1)) → (b : Int) < cyc s (h - b) := fun b q => by
  have := g.od (h - ((b : Int) + 1))
  rw [show h - ((b : Int) + 1) + 1 = h - b by omega] at this
  omega
theorem down' {s : List Int} (g : Good s) (h : Int) : ∀ (k b : Nat), (((b + k : Nat) : Int)) < cyc s (h - ((b + k : Nat) : Int)) → (b : Int) < cyc s (h - b)
  | 0, b, q => q
  | k + 1, b, q => down' g h k b (by
      have := down g h (b + k)
      rw [show ((b + (k + 1) : Nat) : Int) = ((b + k : Nat) : Int) + 1 by omega] at q
      exact this q)
/-- a downward closed test on the first numbers: how many pass is where it ends -/
theorem count_down (p : Nat → Bool) : ∀ n : Nat, (∀ b, p (b + 1) = true → p b = true) → ∀ b, b < n → (b < ((List.range n).filter p).length ↔ p b = true) := by
  intro n hp
  have hp' : ∀ k b, p (b + k) = true → p b = true := fun k => by
    induction k with
    | zero => exact fun b h => h
    | succ k ih => exact fun b h => ih b (hp (b + k) h)
  induction n with
  | zero => intro b hb; omega
  | succ n ih =>
    intro b hb
    rw [List.range_succ, List.filter_append, List.length_append, List.filter_cons]
    have hle : ((List.range n).filter p).length ≤ n := by
      have := List.length_filter_le p (List.range n)
      rw [List.length_range] at this
      exact this
    by_cases hn : p n = true
    · have all : ((List.range n).filter p).length = n := by
        have e : (List.range n).filter p = List.range n := List.filter_eq_self.mpr fun a ha => hp' (n - a) a (by
          have := List.mem_range.mp ha
          rw [show a + (n - a) = n by omega]
          exact hn)
        rw [e, List.length_range]
      rw [if_pos hn, all]
      simp only [List.filter_nil, List.length_cons, List.length_nil]
      refine ⟨fun _ => hp' (n - b) b (by rw [show b + (n - b) = n by omega]; exact hn), fun _ => by omega⟩
    · rw [if_neg hn]
      simp only [List.filter_nil, List.length_nil, Nat.add_zero]
      rcases Nat.lt_or_ge b n with h | h
      · exact ih b h
      · have e : b = n := by omega
        subst e
        exact ⟨fun h => absurd h (by omega), fun h => absurd h hn⟩
/-- the hour h is served by the begin b hours back just if b is less than its width -/
theorem wd_iff {s : List Int} (g : Good s) (h : Int) {b : Nat} (hb : b < s.length) : (b : Int) < wd s h ↔ (b : Int) < cyc s (h - b) := by
  have := count_down (fun (b : Nat) => decide ((b : Int) < cyc s (h - (b : Int)))) s.length (fun b q => by
    have q' := of_decide_eq_true q
    exact decide_eq_true (down g h b (by
      rw [show ((b + 1 : Nat) : Int) = (b : Int) + 1 by omega] at q'
      exact q'))) b hb
  unfold wd
  rw [decide_eq_true_eq] at this
  rw [← this]
  omega
theorem wd_le {s : List Int} (h : Int) : wd s h ≤ (s.length : Int) := by
  unfold wd
  have := List.length_filter_le (fun (b : Nat) => decide ((b : Int) < cyc s (h - (b : Int)))) (List.range s.length)
  rw [List.length_range] at this
  omega
theorem wd_nn {s : List Int} (h : Int) : 0 ≤ wd s h := by
  unfold wd
  omega
theorem wd_pos {s : List Int} (g : Good s) (h : Int) : 1 ≤ wd s h := by
  have := (wd_iff g h (b := 0) g.ne).mpr (by have := g.lo (h - ((0 : Nat) : Int)); omega)
  omega
theorem wd_mod (s : List Int) (h : Int) : wd s (h % (s.length : Int)) = wd s h := by
  unfold wd
  congr 2
  refine List.filter_congr fun b _ => ?_
  rw [cyc_congr (i := h % (s.length : Int) - b) (j := h - b) (by rw [Int.emod_sub_emod])]
theorem wds_length (s : List Int) : (wds s).length = s.length := by
  unfold wds
  rw [List.length_map, List.length_range]
theorem cyc_wds {s : List Int} (h1 : 1 ≤ s.length) (h : Int) : cyc (wds s) h = wd s h := by
  have hb := mod_bd h1 h
  unfold cyc
  rw [wds_length, List.getD_eq_getElem?_getD]
  unfold wds
  rw [List.getElem?_map, List.getElem?_range (by omega)]
  show wd s (((h % (s.length : Int)).toNat : Nat) : Int) = wd s h
  rw [show (((h % (s.length : Int)).toNat : Nat) : Int) = h % (s.length : Int) by omega, wd_mod]
theorem wd_step {s : List Int} (g : Good s) (h : Int) : wd s (h + 1) ≤ 1 + wd s h := by
  rcases Int.lt_or_le (1 + wd s h) (wd s (h + 1)) with q | q
  · exfalso
    have h0 := wd_nn (s := s) h
    have h1 := wd_le (s := s) (h + 1)
    obtain ⟨b, hb⟩ : ∃ b : Nat, wd s h = (b : Int) := ⟨(wd s h).toNat, by omega⟩
    have e1 := (wd_iff g (h + 1) (b := b + 1) (by omega)).mp (by omega)
    have e2 : (b : Int) < cyc s (h - b) := by
      rw [show h + 1 - ((b + 1 : Nat) : Int) = h - b by omega] at e1
      omega
    have e3 := (wd_iff g h (b := b) (by omega)).mpr e2
    omega
  · omega
end Hn

/-! Kinds of values; calls by name, read. -/
namespace Hn
open PySem PySem.Spec PyProof.Rows L2 Evl
section
variable {K : PySem.W.Frag} {σ : L2.St} {H : Hp} {Q : VK} {a : Addr} {xs : List V} {i : Int}
theorem sq_ty (h : Sq K H a xs) : TyX K H (.ref a) (.type "list") ∨ TyX K H (.ref a) (.type "tuple") := by
  rcases h with h | h
  · rcases h with (h | ⟨o, h⟩) | ⟨o, its, n, h1, h2, _⟩
    · exact .inl (.base (.lst h))
    · exact .inl (.base (.frz h))
    · exact .inl (.kList h1 h2)
  · rcases h with (h | ⟨o, h⟩) | ⟨o, its, n, h1, h2, _⟩
    · exact .inr (.base (.tup h))
    · exact .inr (.fTuple h)
    · exact .inr (.kTuple h1 h2)
theorem r_isiSeq {tp : Addr} (h : Sq K H a xs) (ht : H tp = some (.tup [.ty "list", .ty "tuple"])) (q : Q (.bl true) H) : rIsiT K [.ref a, .ref tp] H Q := by
  have pc : Paired ClsV [V.ty "list", V.ty "tuple"] [.type "list", .type "tuple"] := .cons (.ty _) (.cons (.ty _) .nil)
  rcases sq_ty h with t | t
  · exact ⟨.ref a, tp, _, _, _, true, rfl, ht, pc, t, kitAny_cons (b := true) (kit_ty (by decide +kernel)) (fun z => nomatch z) (fun _ => rfl), q⟩
  · exact ⟨.ref a, tp, _, _, _, true, rfl, ht, pc, t, kitAny_cons (b := false) (kit_ty (by decide +kernel)) (fun _ => kitAny_cons (b := true) (kit_ty (by decide +kernel)) (fun z => nomatch z) (fun _ => rfl)) (fun z => nomatch z), q⟩
theorem r_isiInt (q : Q (.bl true) H) : rIsi K [.int i, .ty "int"] H Q := ⟨.int i, .ty "int", _, _, true, rfl, .ty _, .base (.int i), kit_ty (by decide +kernel), q⟩
theorem r_isiIntB (q : Q (.bl false) H) : rIsi K [.int i, .ty "bool"] H Q := ⟨.int i, .ty "bool", _, _, false, rfl, .ty _, .base (.int i), kit_ty (by decide +kernel), q⟩
theorem r_all {bs : List Bool} (h : SqL K H a (bs.map V.bl)) (q : Q (.bl (bs.all id)) H) : rAll K [.ref a] H Q := ⟨a, bs, rfl, h, q⟩
theorem r_sum {ns : List Int} (h : SqL K H a (ns.map V.int)) (q : Q (.int ns.sum) H) : rSum K [.ref a] H Q := ⟨a, ns, rfl, h, q⟩
theorem ty_lst (h : H a = some (.lst xs)) : tyV K "list" (.ref a) H := .inl ⟨rfl, xs, .inl (.inl h)⟩
theorem szc (h : Nat.ble xs.length 1000 = true) : xs.length ≤ sizeLine := by
  have : (1000 : Nat) ≤ sizeLine := by decide
  have := Nat.le_of_ble_eq_true h
  omega
/-- a new list that nobody else holds -/
def RetN (xs : List V) (H : Hp) (Q : VK) : Prop := ∀ p H', H p = none → Ex H H' → H' p = some (.lst xs) → Q (.ref p) H'
theorem tup_mono {H' : Hp} (e : Xl H H') (h : SqT K H a xs) : SqT K H' a xs := by
  rcases h with (h | ⟨o, h⟩) | h
  · exact .inl (.inl (e _ _ h rfl))
  · exact .inl (.inr ⟨o, e _ _ h rfl⟩)
  · exact .inr h
/-- a tuple stands though an instance is written -/
theorem tup_ins {C dx : Addr} {fs : List (Str × V)} {p : Addr} {o : HO} (hp : H p = some (.ins C dx fs)) (h : SqT K H a xs) : SqT K (upd H p o) a xs := by
  rcases h with (h | ⟨o', h⟩) | h
  · exact .inl (.inl (by rw [upd_ne (ne_of h hp (by intro z; cases z))]; exact h))
  · exact .inl (.inr ⟨o', by rw [upd_ne (ne_of h hp (by intro z; cases z))]; exact h⟩)
  · exact .inr h
theorem map_range_int (ns : List Int) (f : Int → V) : (List.range ns.length).map (fun i => f (ns.getD i 0)) = ns.map f := by
  refine List.ext_getElem? fun i => ?_
  rw [List.getElem?_map, List.getElem?_map]
  rcases Nat.lt_or_ge i ns.length with h | h
  · rw [List.getElem?_range h, List.getElem?_eq_getElem h, Option.map_some, Option.map_some, List.getD_eq_getElem?_getD, List.getElem?_eq_getElem h]
    rfl
  · rw [List.getElem?_eq_none (by rw [List.length_range]; omega), List.getElem?_eq_none h]
    rfl
end
end Hn

/-! The rules with the written part by its own name, so that they fit within a comprehension's block. -/
namespace Hn
open PySem PySem.Spec PyProof.Rows L2 Evl
section
variable {X : Cx} {K : PySem.W.Frag} {tg l e : Expr} {tl te : TE} {ar : TA}
theorem k_ixL (h : X.K = K) : IxR X (rIxL K) := h ▸ ix_list
theorem k_ixT (h : X.K = K) : IxR X (rIxT K) := h ▸ ix_tup
theorem k_ixS (h : X.K = K) : IxR X (rIx K) := h ▸ ix_seq
theorem k_getL (h : X.K = K) : PGet X (rIxL K) := h ▸ get_list
def rLen (K : PySem.W.Frag) : List V → Hp → VK → Prop := fun xs H Q => ∃ p ys, xs = [.ref p] ∧ (SqL K H p ys ∨ SqT K H p ys) ∧ Q (.int ys.length) H
def rListOf (K : PySem.W.Frag) : List V → Hp → VK → Prop := fun xs H Q => ∃ p ys, xs = [.ref p] ∧ (SqL K H p ys ∨ SqT K H p ys) ∧ ∀ l, H l = none → Q (.ref l) (upd H l (.lst ys))
def rTupOf (K : PySem.W.Frag) : List V → Hp → VK → Prop := fun xs H Q => ∃ p ys, xs = [.ref p] ∧ ((SqL K H p ys ∧ ∀ l, H l = none → Q (.ref l) (upd H l (.tup ys))) ∨ (SqT K H p ys ∧ Q (.ref p) H))
def rAbs : List V → Hp → VK → Prop := fun xs H Q => ∃ i, xs = [.int i] ∧ Q (.int (if i < 0 then -i else i)) H
def rInt1 : List V → Hp → VK → Prop := fun xs H Q => (∃ i, xs = [.int i] ∧ Q (.int i) H) ∨ ∃ k, xs = [.bl k] ∧ Q (.int (if k then 1 else 0)) H
def rIsNon : R2 := fun x y H Q => y = .non ∧ Q (.bl (decide (x = .non))) H
def rNotNon : R2 := fun x y H Q => y = .non ∧ Q (.bl (!decide (x = .non))) H
def rInsert : V → List V → Hp → VK → Prop := fun x vs H Q => ∃ (l : Addr) (xs : List V) (i : Int) (y : V), x = .ref l ∧ vs = [.int i, y] ∧ H l = some (.lst xs) ∧ xs.length < sizeLine ∧ 0 ≤ i ∧ i < 2 ^ 63 ∧
    Q .non (upd H l (.lst (xs.take i.toNat ++ [y] ++ xs.drop i.toNat)))
def rMin2 : List V → Hp → VK → Prop := fun xs H Q => ∃ i j, xs = [.int i, .int j] ∧ Q (.int (if j < i then j else i)) H
def rMx2 : List V → Hp → VK → Prop := fun xs H Q => ∃ i j, xs = [.int i, .int j] ∧ Q (.int (if j > i then j else i)) H
theorem k_len (h : X.K = K) : CallR X (.builtin "len") (rLen K) := h ▸ call_len_seq
theorem k_listOf (h : X.K = K) : CallR X (.type "list") (rListOf K) := h ▸ call_list_of
theorem k_tupOf (h : X.K = K) : CallR X (.type "tuple") (rTupOf K) := h ▸ call_tuple_of
theorem k_abs : CallR X (.builtin "abs") rAbs := call_abs
theorem k_int1 : CallR X (.type "int") rInt1 := call_int1
theorem k_isN : OpR X (compareOp .Is) rIsNon := op_isN
theorem k_notN : OpR X (compareOp .IsNot) rNotNon := op_notN
theorem k_insert : MtR X "list.insert" rInsert := mt_insert
theorem k_min2 (hc : X.calm = true) : CallR X (.builtin "min") rMin2 := call_min2 hc
theorem k_max2 (hc : X.calm = true) : CallR X (.builtin "max") rMx2 := call_max2 hc
section
variable {H : Hp} {Q : VK} {i j : Int} {x : V} {a : Addr} {xs : List V}
theorem r_len (h : Sq K H a xs) (q : Q (.int (xs.length : Int)) H) : rLen K [.ref a] H Q := ⟨a, xs, rfl, h, q⟩
theorem r_listOf (h : Sq K H a xs) (q : ∀ l, H l = none → Q (.ref l) (upd H l (.lst xs))) : rListOf K [.ref a] H Q := ⟨a, xs, rfl, h, q⟩
/-- tuple(x): some tuple of the items, x itself or a new one -/
theorem r_tupOf (h : Sq K H a xs) (q : ∀ l H', Ex H H' → SqT K H' l xs → Q (.ref l) H') : rTupOf K [.ref a] H Q :=
  h.elim (fun h => ⟨a, xs, rfl, .inl ⟨h, fun l nl => q l _ (Ex.new nl) (.inl (.inl upd_same))⟩⟩) fun h => ⟨a, xs, rfl, .inr ⟨h, q a H (Ex.refl H) h⟩⟩
theorem r_abs (q : Q (.int (if i < 0 then -i else i)) H) : rAbs [.int i] H Q := ⟨i, rfl, q⟩
theorem r_intP (q : Q (.int i) H) : rInt1 [.int i] H Q := .inl ⟨i, rfl, q⟩
theorem r_intB {b : Bool} (q : Q (.int (if b then 1 else 0)) H) : rInt1 [.bl b] H Q := .inr ⟨b, rfl, q⟩
theorem r_min2 (q : Q (.int (if j < i then j else i)) H) : rMin2 [.int i, .int j] H Q := ⟨i, j, rfl, q⟩
theorem r_max2 (q : Q (.int (if j > i then j else i)) H) : rMx2 [.int i, .int j] H Q := ⟨i, j, rfl, q⟩
theorem r_isN (q : Q (.bl (decide (x = .non))) H) : rIsNon x .non H Q := ⟨rfl, q⟩
theorem r_notN (q : Q (.bl (!decide (x = .non))) H) : rNotNon x .non H Q := ⟨rfl, q⟩
theorem r_isNi (q : Q (.bl false) H) : rIsNon (.int i) .non H Q := ⟨rfl, q⟩
theorem r_isNr (q : Q (.bl false) H) : rIsNon (.ref a) .non H Q := ⟨rfl, q⟩
theorem r_isNn (q : Q (.bl true) H) : rIsNon .non .non H Q := ⟨rfl, q⟩
theorem r_notNi (q : Q (.bl true) H) : rNotNon (.int i) .non H Q := ⟨rfl, q⟩
theorem r_notNr (q : Q (.bl true) H) : rNotNon (.ref a) .non H Q := ⟨rfl, q⟩
theorem r_notNn (q : Q (.bl false) H) : rNotNon .non .non H Q := ⟨rfl, q⟩
end
theorem k_all (h : X.K = K) (hc : X.calm = true) : CallR X (.builtin "all") (rAll K) := h ▸ cr_all hc
theorem k_any (h : X.K = K) (hc : X.calm = true) : CallR X (.builtin "any") (rAny K) := h ▸ cr_any hc
theorem k_sum (h : X.K = K) (hc : X.calm = true) : CallR X (.builtin "sum") (rSum K) := h ▸ cr_sum hc
theorem k_min (h : X.K = K) (hc : X.calm = true) : CallR X (.builtin "min") (rMin K) := h ▸ cr_min hc
theorem k_max (h : X.K = K) (hc : X.calm = true) : CallR X (.builtin "max") (rMax K) := h ▸ cr_max hc
theorem k_in (h : X.K = K) : OpR X (compareOp .In) (rIn K false) := h ▸ op_in_seq
theorem k_notIn (h : X.K = K) : OpR X (compareOp .NotIn) (rIn K true) := h ▸ op_notIn_seq
theorem k_eqD (h : X.K = K) (hu : X.A.units + 64 < cLine) : OpR X (compareOp .Eq) (rEqD K) := h ▸ op_eqD hu
theorem k_neD (h : X.K = K) (hu : X.A.units + 64 < cLine) : OpR X (compareOp .NotEq) (rNeD K) := h ▸ op_neD hu
theorem k_isi (h : X.K = K) : CallR X (.builtin "isinstance") (rIsi K) := h ▸ call_isi
theorem k_isiT (h : X.K = K) : CallR X (.builtin "isinstance") (rIsiT K) := h ▸ call_isiT
theorem k_slL (h : X.K = K) : SlR X (rSlL K) := h ▸ sl_list
theorem k_piL (h : X.K = K) (hl : PE X l tl) : PI X tg l (iList K tl) := h ▸ pi_list hl
theorem k_piT (h : X.K = K) (hl : PE X l tl) : PI X tg l (iTup K tl) := h ▸ pi_tup hl
theorem k_piS (h : X.K = K) (hl : PE X l tl) : PI X tg l (iSeq K tl) := h ▸ pi_seq hl
theorem k_piE {p pos tpos : Pos} {elts : List Expr} {kk : Nat} (h : X.K = K) (hg : Gl X "enumerate") (hm : X.mg "enumerate" = none) (ha : PA X [e] ar) (hs : starEach [e] X.env = [(false, eval e X.env)] := by rfl) :
    PI X (.Tuple elts kk tpos) (.Call (.Name "enumerate" p) [e] [] pos) (iEnumS K ar) := h ▸ pi_enumS hg hm ha hs
theorem k_piZ {e2 : Expr} {p pos tpos : Pos} {elts : List Expr} {kk : Nat} (h : X.K = K) (hg : Gl X "zip") (hm : X.mg "zip" = none) (ha : PA X [e, e2] ar)
    (hs : starEach [e, e2] X.env = (false, eval e X.env) :: starEach [e2] X.env := by rfl) (hpl : (backTo pos (starEach [e2] X.env)).any (·.1) = false := by rfl) :
    PI X (.Tuple elts kk tpos) (.Call (.Name "zip" p) [e, e2] [] pos) (iZip K ar) := h ▸ pi_zip hg hm ha hs hpl
theorem k_fld {f : Str} {pos : Pos} (h : X.K = K) (he : PE X e te) (hb : attributeBase e f X.env (eval e X.env) = eval e X.env := by rfl) : PE X (.Attribute e f pos) (tFld K te f) := h ▸ pe_fld he hb
theorem k_sfld {o : Expr} {ta : TE} {f : Str} {pos pos' : Pos} (h : X.K = K) (ha : PE X o ta) (hv : PE X e te) (hs : swapsWith e (some (.Attribute o f pos')) pos.line X.env = pure false := by rfl) : PS X (.Assign [.Attribute o f pos'] e pos) (sFld K ta te f) := h ▸ ps_fld ha hv hs
theorem k_revL {k : Nat} {p1 p2 p3 pos : Pos} (h : X.K = K) (he : PE X e te) : PE X (.Subscript e (.Slice none none (some (.UnaryOp .USub (.Constant (.int 1) k p1) p2)) p3) pos) (tRevL K te) := h ▸ pe_revL he
theorem k_revT {k : Nat} {p1 p2 p3 pos : Pos} (h : X.K = K) (he : PE X e te) : PE X (.Subscript e (.Slice none none (some (.UnaryOp .USub (.Constant (.int 1) k p1) p2)) p3) pos) (tRevT K te) := h ▸ pe_revT he
theorem k_gtup {es : List Expr} {k : Nat} {t : TGs} {n : Nat} {pos : Pos} (h : X.K = K) (hc : X.calm = true) (hh : PGs X es t)
    (hn : (assignEach es X.env).length = n := by rfl) (hst : (assignEach es X.env).findIdx? (·.1) = none := by rfl) : PG X (.Tuple es k pos) (gTup K n t) := h ▸ pg_tup hc hh hn hst
theorem pe_bty {x : Str} {n : String} {pos : Pos} (hg : Gl X x) (hm : X.mg x = none) (hv : bootBuiltins x = some (.type n)) (hn : x ≠ "__name__" := by decide) (hd : (x == ("__debug__" : Str)) = false := by decide) : PE X (.Name x pos) (tC (.ty n)) := pe_bltn hg hm hv rfl hn hd
end
end Hn

/-! Clocks as objects. -/
namespace Hn
open PySem PySem.Spec PyProof.Rows L2 Evl
theorem at_cyc {ns : List Int} (h : 1 ≤ ns.length) (j : Int) : atI (ns.map V.int) (j % (ns.length : Int)) = some (.int (cyc ns j)) := by
  have hb := mod_bd h j
  rw [at_int hb.1 hb.2]
  rfl
/-- the fields of a clock -/
def clkF (a b : Addr) : List (Str × V) := putF "kept_widths" (.ref b) (putF "kept_stays" (.ref a) [])
theorem clkF_stays (a b : Addr) : (clkF a b).lookup ("kept_stays" : Str) = some (.ref a) := by
  unfold clkF
  rw [lookup_putF, if_neg (by decide +kernel), lookup_putF, if_pos rfl]
theorem clkF_widths (a b : Addr) : (clkF a b).lookup ("kept_widths" : Str) = some (.ref b) := by
  unfold clkF
  rw [lookup_putF, if_pos rfl]
theorem clkF_no (a b : Addr) {m : Str} (h1 : ¬ m = "kept_widths") (h2 : ¬ m = "kept_stays") : (clkF a b).lookup m = none := by
  unfold clkF
  rw [lookup_putF, if_neg h1, lookup_putF, if_neg h2]
  rfl
/-- a Clock of the stays s -/
def Clk (K : PySem.W.Frag) (C : Addr) (H : Hp) (v : V) (s : List Int) : Prop :=
  ∃ p dx a b, v = .ref p ∧ H p = some (.ins C dx (clkF a b)) ∧ SqT K H a (s.map V.int) ∧ SqT K H b ((wds s).map V.int) ∧ Good s
theorem Clk.mono {K : PySem.W.Frag} {C : Addr} {H H' : Hp} {v : V} {s : List Int} (e : Xl H H') (h : Clk K C H v s) : Clk K C H' v s :=
  let ⟨p, dx, a, b, h1, h2, h3, h4, h5⟩ := h
  ⟨p, dx, a, b, h1, e _ _ h2 rfl, tup_mono e h3, tup_mono e h4, h5⟩
theorem Clk.ex {K : PySem.W.Frag} {C : Addr} {H H' : Hp} {v : V} {s : List Int} (e : Ex H H') (h : Clk K C H v s) : Clk K C H' v s := h.mono (.of e)
theorem Clk.good {K : PySem.W.Frag} {C : Addr} {H : Hp} {v : V} {s : List Int} (h : Clk K C H v s) : Good s := let ⟨_, _, _, _, _, _, _, _, h5⟩ := h; h5
/-- what the making of a Clock asks: items that are good stays, and gives: the Clock -/
def MkClk (K : PySem.W.Frag) (C : Addr) (H : Hp) (v : V) (Q : Addr → Hp → Prop) : Prop := ∃ a s, v = .ref a ∧ Sq K H a (s.map V.int) ∧ Good s ∧ ∀ u H', Ex H H' → Clk K C H' (.ref u) s → Q u H'
/-- its __init__'s promise -/
def spClkInit (K : PySem.W.Frag) (C : Addr) : Sp := fun vs H Q _ => ∃ (H0 : Hp) (x dx a : Addr) (s : List Int), vs = [.ref x, .ref a] ∧ H = upd (upd H0 dx (.own x)) x (.ins C dx []) ∧ H0 x = none ∧ H0 dx = none ∧ dx ≠ x ∧ Sq K H0 a (s.map V.int) ∧ Good s ∧
  ∀ H', Ex H0 H' → Clk K C H' (.ref x) s → Q .non H'
theorem mkClk {K : PySem.W.Frag} {C : Addr} {H : Hp} {v : V} {Q : Addr → Hp → Prop} {E : XK} (h : MkClk K C H v Q) : ∀ x dx, H x = none → H dx = none → dx ≠ x → spClkInit K C (.ref x :: ([v] ++ [])) (upd (upd H dx (.own x)) x (.ins C dx [])) (fun v H2 => v = .non ∧ Q x H2) E := by
  intro x dx nx ndx ne
  obtain ⟨a, s, rfl, hS, g, k⟩ := h
  exact ⟨H, x, dx, a, s, rfl, rfl, nx, ndx, ne, hS, g, fun H' e c => ⟨rfl, k _ _ e c⟩⟩
/-- a method of a Clock is asked -/
theorem r_clkM {K : PySem.W.Frag} {C : Addr} {H : Hp} {v : V} {s : List Int} {m : Str} {p : Prop} (h : Clk K C H v s) (q : p) (h1 : ¬ m = "kept_widths" := by decide +kernel) (h2 : ¬ m = "kept_stays" := by decide +kernel) : ∃ a dx fs, v = .ref a ∧ H a = some (.ins C dx fs) ∧ fs.lookup m = none ∧ p :=
  let ⟨x, dx, a, b, e, hp, _⟩ := h
  ⟨x, dx, _, e, hp, clkF_no a b h1 h2, q⟩
theorem r_clkP {K : PySem.W.Frag} {C : Addr} {H : Hp} {v : V} {s : List Int} {p : Addr → Prop} (h : Clk K C H v s) (q : ∀ a, v = .ref a → p a) : ∃ a dx fs, v = .ref a ∧ H a = some (.ins C dx fs) ∧ p a :=
  let ⟨x, dx, _, _, e, hp, _⟩ := h
  ⟨x, dx, _, e, hp, q x e⟩
theorem r_clkG {K : PySem.W.Frag} {C : Addr} {H : Hp} {v : V} {s : List Int} {p : Prop} (h : Clk K C H v s) (q : p) : ∃ a dx fs, v = .ref a ∧ H a = some (.ins C dx fs) ∧ p :=
  let ⟨x, dx, _, _, e, hp, _⟩ := h
  ⟨x, dx, _, e, hp, q⟩
end Hn

/-! Clocks turned, mirrored; sums round about. -/
namespace Hn
/-- n items by their place -/
def rowOf (n : Nat) (f : Int → Int) : List Int := (List.range n).map fun (i : Nat) => f (i : Int)
theorem rowOf_length (n : Nat) (f : Int → Int) : (rowOf n f).length = n := by
  unfold rowOf
  rw [List.length_map, List.length_range]
theorem rowOf_getD {n : Nat} (f : Int → Int) {j : Nat} (h : j < n) : (rowOf n f).getD j 0 = f (j : Int) := by
  unfold rowOf
  rw [List.getD_eq_getElem?_getD, List.getElem?_map, List.getElem?_range h]
  rfl
theorem cyc_rowOf {n : Nat} (f : Int → Int) (h : 1 ≤ n) (i : Int) : cyc (rowOf n f) i = f (i % (n : Int)) := by
  have hb := mod_bd h i
  unfold cyc
  rw [rowOf_length, rowOf_getD f (by omega), show ((i % (n : Int)).toNat : Int) = i % (n : Int) by omega]
theorem rowOf_congr {n : Nat} {f g : Int → Int} (h : ∀ i : Int, 0 ≤ i → i < (n : Int) → f i = g i) : rowOf n f = rowOf n g := by
  unfold rowOf
  refine List.map_congr_left fun i hi => h _ (by omega) ?_
  have := List.mem_range.mp hi
  omega
theorem row_ext {s : List Int} {n : Nat} (f : Int → Int) (hl : s.length = n) (h : ∀ j : Nat, j < n → s.getD j 0 = f (j : Int)) : s = rowOf n f := by
  refine List.ext_getElem? fun i => ?_
  rcases Nat.lt_or_ge i n with q | q
  · have := h i q
    rw [List.getD_eq_getElem?_getD, List.getElem?_eq_getElem (by omega)] at this
    rw [List.getElem?_eq_getElem (by omega)]
    unfold rowOf
    rw [List.getElem?_map, List.getElem?_range q]
    exact congrArg some this
  · rw [List.getElem?_eq_none (by omega), List.getElem?_eq_none (by rw [rowOf_length]; omega)]
/-- a row is told by its items round about -/
theorem row_cyc (s : List Int) : s = rowOf s.length (cyc s) := row_ext _ rfl fun _ hj => (cyc_at hj).symm
theorem eq_of_cyc {s t : List Int} (hl : s.length = t.length) (h : ∀ i : Int, 0 ≤ i → i < (s.length : Int) → cyc s i = cyc t i) : s = t := by
  rw [row_cyc s, row_cyc t, ← hl]
  exact rowOf_congr h
theorem wds_row (s : List Int) : wds s = rowOf s.length (wd s) := rfl
/-! ### turned -/
def turnS (s : List Int) (b : Int) : List Int := rowOf s.length fun i => cyc s (i + b)
theorem turnS_length (s : List Int) (b : Int) : (turnS s b).length = s.length := rowOf_length _ _
theorem cyc_turn {s : List Int} (h : 1 ≤ s.length) (b i : Int) : cyc (turnS s b) i = cyc s (i + b) := by
  unfold turnS
  rw [cyc_rowOf _ h]
  exact cyc_congr (by rw [Int.emod_add_emod])
theorem Good.turn {s : List Int} (g : Good s) (b : Int) : Good (turnS s b) := by
  have hl := turnS_length s b
  refine ⟨by rw [hl]; exact g.ne, by rw [hl]; exact g.le, fun i => ?_, fun i => ?_, fun i => ?_⟩
  · rw [cyc_turn g.ne]
    exact g.lo _
  · rw [cyc_turn g.ne, hl]
    exact g.hi _
  · rw [cyc_turn g.ne, cyc_turn g.ne, show i + 1 + b = (i + b) + 1 by omega]
    exact g.od _
theorem wd_turn {s : List Int} (h : 1 ≤ s.length) (b i : Int) : wd (turnS s b) i = wd s (i + b) := by
  unfold wd
  rw [turnS_length]
  congr 2
  refine List.filter_congr fun c _ => ?_
  rw [cyc_turn h, show i - (c : Int) + b = i + b - c by omega]
/-! ### mirrored -/
theorem cyc_rev {s : List Int} (h : 1 ≤ s.length) (i : Int) : cyc s.reverse i = cyc s (-1 - i) := by
  have h1 := mod_bd h i
  have h2 := mod_bd h (-1 - i)
  have e : (-1 - i) % (s.length : Int) = (s.length : Int) - 1 - i % (s.length : Int) := by
    have e1 : (-1 - i) % (s.length : Int) = ((s.length : Int) - 1 - i % (s.length : Int)) % (s.length : Int) := by
      rw [show (s.length : Int) - 1 - i % (s.length : Int) = (-1 - i % (s.length : Int)) + (s.length : Int) by omega, Int.add_emod_right, Int.sub_emod_emod]
    rw [e1, Int.emod_eq_of_lt (by omega) (by omega)]
  unfold cyc
  rw [List.length_reverse, e, List.getD_eq_getElem?_getD, List.getD_eq_getElem?_getD, List.getElem?_reverse (by omega)]
  congr 2
  omega
def mirS (s : List Int) : List Int := (wds s).reverse
theorem mirS_length (s : List Int) : (mirS s).length = s.length := by
  unfold mirS
  rw [List.length_reverse, wds_length]
theorem cyc_mir {s : List Int} (h : 1 ≤ s.length) (i : Int) : cyc (mirS s) i = wd s (-1 - i) := by
  unfold mirS
  rw [cyc_rev (by rw [wds_length]; exact h), cyc_wds h]
theorem Good.mir {s : List Int} (g : Good s) : Good (mirS s) := by
  have hl := mirS_length s
  refine ⟨by rw [hl]; exact g.ne, by rw [hl]; exact g.le, fun i => ?_, fun i => ?_, fun i => ?_⟩
  · rw [cyc_mir g.ne]
    exact wd_pos g _
  · rw [cyc_mir g.ne, hl]
    exact wd_le _
  · rw [cyc_mir g.ne, cyc_mir g.ne, show (-1 - i : Int) = (-1 - (i + 1)) + 1 by omega]
    exact wd_step g _
theorem wd_mir {s : List Int} (g : Good s) (h : Int) : wd (mirS s) h = cyc s (-1 - h) := by
  have gm := g.mir
  have hl := mirS_length s
  have key : ∀ b : Nat, b < s.length → ((b : Int) < wd (mirS s) h ↔ (b : Int) < cyc s (-1 - h)) := fun b hb => by
    rw [wd_iff gm h (by rw [hl]; exact hb), cyc_mir g.ne, show (-1 - (h - (b : Int))) = (-1 - h) + b by omega, wd_iff g _ hb, show (-1 - h) + (b : Int) - b = -1 - h by omega]
  have a1 := wd_nn (s := mirS s) h
  have a2 := wd_le (s := mirS s) h
  have a3 := g.lo (-1 - h)
  have a4 := g.hi (-1 - h)
  rw [hl] at a2
  rcases Int.lt_trichotomy (wd (mirS s) h) (cyc s (-1 - h)) with q | q | q
  · have := (key (wd (mirS s) h).toNat (by omega)).mpr (by omega)
    omega
  · exact q
  · have := (key (cyc s (-1 - h)).toNat (by omega)).mp (by omega)
    omega
theorem mir_mir {s : List Int} (g : Good s) : mirS (mirS s) = s := by
  refine eq_of_cyc (by rw [mirS_length, mirS_length]) fun i _ _ => ?_
  rw [cyc_mir (by rw [mirS_length]; exact g.ne), wd_mir g, show (-1 - (-1 - i)) = i by omega]
/-! ### sums -/
def Sg : Nat → (Int → Int) → Int
  | 0, _ => 0
  | n + 1, f => Sg n f + f (n : Int)
theorem Sg_congr {n : Nat} {f g : Int → Int} (h : ∀ i : Int, 0 ≤ i → i < (n : Int) → f i = g i) : Sg n f = Sg n g := by
  induction n with
  | zero => rfl
  | succ n ih =>
    show Sg n f + f n = Sg n g + g n
    rw [ih fun i h0 h1 => h i h0 (by omega), h n (by omega) (by omega)]
theorem Sg_add {n : Nat} {f g : Int → Int} : Sg n (fun i => f i + g i) = Sg n f + Sg n g := by
  induction n with
  | zero => rfl
  | succ n ih =>
    show Sg n _ + (f n + g n) = (Sg n f + f n) + (Sg n g + g n)
    rw [ih]
    omega
theorem Sg_zero {n : Nat} : Sg n (fun _ => 0) = 0 := by
  induction n with
  | zero => rfl
  | succ n ih => show Sg n _ + 0 = 0; rw [ih]; rfl
theorem Sg_mul {n : Nat} (c : Int) (f : Int → Int) : Sg n (fun i => c * f i) = c * Sg n f := by
  induction n with
  | zero => exact (Int.mul_zero c).symm
  | succ n ih =>
    show Sg n _ + c * f n = c * (Sg n f + f n)
    rw [ih, Int.mul_add]
theorem Sg_swap {n m : Nat} (f : Int → Int → Int) : Sg n (fun i => Sg m (fun j => f i j)) = Sg m (fun j => Sg n (fun i => f i j)) := by
  induction n with
  | zero => exact Sg_zero.symm
  | succ n ih =>
    show Sg n _ + Sg m (fun j => f n j) = Sg m (fun j => Sg n (fun i => f i j) + f n j)
    rw [ih, Sg_add]
theorem Sg_first {n : Nat} (f : Int → Int) : Sg (n + 1) f = f 0 + Sg n (fun i => f (i + 1)) := by
  induction n with
  | zero => show 0 + f ((0 : Nat) : Int) = f 0 + 0; rw [Int.zero_add, Int.add_zero]; rfl
  | succ n ih =>
    show Sg (n + 1) f + f ((n + 1 : Nat) : Int) = f 0 + (Sg n _ + f ((n : Int) + 1))
    rw [ih, show ((n + 1 : Nat) : Int) = (n : Int) + 1 by omega]
    omega
/-- round about a sum may begin anywhere -/
theorem Sg_turn1 {n : Nat} {f : Int → Int} (p : ∀ i, f (i + (n : Int)) = f i) : Sg n (fun i => f (i + 1)) = Sg n f := by
  cases n with
  | zero => rfl
  | succ n =>
    rw [Sg_first (n := n) f]
    show Sg n (fun i => f (i + 1)) + f ((n : Int) + 1) = _
    have := p 0
    rw [show (0 : Int) + ((n + 1 : Nat) : Int) = (n : Int) + 1 by omega] at this
    rw [this]
    omega
theorem Sg_turnN {n : Nat} {f : Int → Int} (p : ∀ i, f (i + (n : Int)) = f i) : ∀ k : Nat, Sg n (fun i => f (i + (k : Int))) = Sg n f
  | 0 => Sg_congr fun i _ _ => by rw [show i + ((0 : Nat) : Int) = i by omega]
  | k + 1 => by
    rw [← Sg_turnN p k, ← Sg_turn1 (f := fun i => f (i + (k : Int))) (fun i => by rw [show i + (n : Int) + k = (i + k) + n by omega]; exact p _)]
    exact Sg_congr fun i _ _ => by rw [show i + ((k + 1 : Nat) : Int) = i + 1 + k by omega]
theorem Sg_turn {n : Nat} {f : Int → Int} (p : ∀ i, f (i + (n : Int)) = f i) (b : Int) : Sg n (fun i => f (i + b)) = Sg n f := by
  rcases Int.lt_or_le b 0 with h | h
  · have e := Sg_turnN (f := fun i => f (i + b)) (fun i => by rw [show i + (n : Int) + b = (i + b) + n by omega]; exact p _) (-b).toNat
    rw [← e]
    exact Sg_congr fun i _ _ => by rw [show i + ((-b).toNat : Int) + b = i by omega]
  · have e := Sg_turnN p b.toNat
    rw [← e]
    exact Sg_congr fun i _ _ => by rw [show i + (b.toNat : Int) = i + b by omega]
/-- .. and go the other way -/
theorem Sg_rev {n : Nat} (f : Int → Int) : Sg n (fun i => f ((n : Int) - 1 - i)) = Sg n f := by
  induction n with
  | zero => rfl
  | succ n ih =>
    rw [Sg_first]
    show f (((n + 1 : Nat) : Int) - 1 - 0) + _ = Sg n f + f n
    rw [← ih, show ((n + 1 : Nat) : Int) - 1 - 0 = n by omega, Int.add_comm]
    congr 1
    exact Sg_congr fun i _ _ => by rw [show ((n + 1 : Nat) : Int) - 1 - (i + 1) = (n : Int) - 1 - i by omega]
theorem sum_row (n : Nat) (f : Int → Int) : (rowOf n f).sum = Sg n f := by
  induction n with
  | zero => rfl
  | succ n ih =>
    show _ = Sg n f + f n
    rw [← ih]
    unfold rowOf
    rw [List.range_succ, List.map_append, List.sum_append]
    show _ + (f n + 0) = _
    rw [Int.add_zero]
theorem sum_cyc (s : List Int) : s.sum = Sg s.length (cyc s) := by
  have := sum_row s.length (cyc s)
  rw [← row_cyc s] at this
  exact this
theorem cyc_per (s : List Int) (i : Int) : cyc s (i + (s.length : Int)) = cyc s i := cyc_congr (by rw [Int.add_emod_right])
theorem wd_per (s : List Int) (i : Int) : wd s (i + (s.length : Int)) = wd s i := by
  rw [← wd_mod, Int.add_emod_right, wd_mod]
/-- how many pass, as a sum -/
theorem count_sum (p : Nat → Bool) (n : Nat) : (((List.range n).filter p).length : Int) = Sg n (fun i => if p i.toNat = true then 1 else 0) := by
  induction n with
  | zero => rfl
  | succ n ih =>
    show _ = Sg n _ + (if p ((n : Int)).toNat = true then 1 else 0)
    rw [← ih, List.range_succ, List.filter_append, List.length_append, Int.toNat_natCast, List.filter_cons]
    by_cases h : p n = true
    · rw [if_pos h, if_pos h]
      show ((_ + 1 : Nat) : Int) = _
      omega
    · rw [if_neg h, if_neg h]
      show ((_ + 0 : Nat) : Int) = _
      omega
theorem wd_sum (s : List Int) (h : Int) : wd s h = Sg s.length (fun b => if b < cyc s (h - b) then 1 else 0) := by
  unfold wd
  rw [count_sum]
  refine Sg_congr fun i h0 _ => ?_
  rw [show ((i.toNat : Nat) : Int) = i by omega]
  by_cases q : i < cyc s (h - i)
  · rw [if_pos (decide_eq_true q), if_pos q]
  · rw [if_neg (by rw [decide_eq_false q]; decide), if_neg q]
theorem cnt_below {n : Nat} {c : Int} : ∀ (_ : 0 ≤ c) (_ : c ≤ (n : Int)), Sg n (fun b => if b < c then 1 else 0) = c := by
  induction n generalizing c with
  | zero => intro h0 h1; show (0 : Int) = c; omega
  | succ n ih =>
    intro h0 h1
    show Sg n _ + (if (n : Int) < c then 1 else 0) = c
    by_cases q : (n : Int) < c
    · rw [if_pos q]
      have e : Sg n (fun b => if b < c then 1 else 0) = Sg n (fun b => if b < (n : Int) then 1 else 0) := Sg_congr fun i _ h => by rw [if_pos (by omega), if_pos h]
      rw [e, ih (c := (n : Int)) (by omega) (by omega)]
      omega
    · rw [if_neg q, ih h0 (by omega)]
      omega
/-- stays and widths have one sum -/
theorem wds_sum {s : List Int} (g : Good s) : (wds s).sum = s.sum := by
  rw [wds_row, sum_row, sum_cyc]
  have e1 : Sg s.length (wd s) = Sg s.length (fun h => Sg s.length (fun b => if b < cyc s (h - b) then 1 else 0)) := Sg_congr fun i _ _ => wd_sum s i
  rw [e1, Sg_swap]
  have e2 : Sg s.length (fun j => Sg s.length (fun i => if j < cyc s (i - j) then 1 else 0)) = Sg s.length (fun j => Sg s.length (fun i => if j < cyc s i then 1 else 0)) := Sg_congr fun j _ _ => by
    rw [← Sg_turn (f := fun i => if j < cyc s i then 1 else 0) (fun i => by rw [cyc_per]) (-j)]
    exact Sg_congr fun i _ _ => by rw [show i - j = i + -j by omega]
  rw [e2, Sg_swap]
  exact Sg_congr fun i _ _ => cnt_below (by have := g.lo i; omega) (g.hi i)
/-! ### rows of least sums are stays in order -/
/-- the least of the drawn ones ahead, each with the way to it -/
theorem Good.least {m : List Int} {n : Nat} {dr : List Int} {top : Int} (hn : 1 ≤ n) (hn2 : n ≤ 48) (hl : m.length = n) (hd : dr.length = n) (ht : top ≤ (n : Int)) (h1 : ∀ i, 1 ≤ cyc dr i ∧ cyc dr i ≤ top)
    (hm : ∀ j : Nat, j < n → (∃ a : Nat, a < n ∧ m.getD j 0 = cyc dr ((j : Int) + a) + a) ∧ ∀ a : Nat, a < n → m.getD j 0 ≤ cyc dr ((j : Int) + a) + a) : Good m := by
  have hc : ∀ i : Int, (∃ a : Nat, a < n ∧ cyc m i = cyc dr (i + a) + a) ∧ ∀ a : Nat, a < n → cyc m i ≤ cyc dr (i + a) + a := fun i => by
    have hb := mod_bd hn i
    have e : cyc m i = m.getD (i % (n : Int)).toNat 0 := by
      unfold cyc
      rw [hl]
    have er : ∀ a : Nat, cyc dr (((i % (n : Int)).toNat : Int) + a) = cyc dr (i + a) := fun a => cyc_congr (by
      rw [show ((i % (n : Int)).toNat : Int) = i % (n : Int) by omega, hd, Int.emod_add_emod])
    obtain ⟨⟨a, ha, e1⟩, e2⟩ := hm (i % (n : Int)).toNat (by omega)
    refine ⟨⟨a, ha, by rw [e, e1, er]⟩, fun a ha => ?_⟩
    have := e2 a ha
    rw [er] at this
    rw [e]
    exact this
  refine ⟨by omega, by omega, fun i => ?_, fun i => ?_, fun i => ?_⟩
  · obtain ⟨⟨a, ha, e⟩, _⟩ := hc i
    have := (h1 (i + a)).1
    omega
  · have e := (hc i).2 0 (by omega)
    have := (h1 (i + ((0 : Nat) : Int))).2
    omega
  · obtain ⟨⟨a, ha, e⟩, _⟩ := hc (i + 1)
    rcases Nat.lt_or_ge (a + 1) n with q | q
    · have := (hc i).2 (a + 1) q
      rw [show i + ((a + 1 : Nat) : Int) = i + 1 + a by omega] at this
      omega
    · have e0 := (hc i).2 0 (by omega)
      have e2 : cyc dr (i + 1 + (a : Int)) = cyc dr (i + ((0 : Nat) : Int)) := by
        rw [show i + 1 + (a : Int) = (i + ((0 : Nat) : Int)) + (dr.length : Int) by omega]
        exact cyc_per dr _
      omega
theorem Good.const {n : Nat} {c : Int} (hn : 1 ≤ n) (hn2 : n ≤ 48) (h0 : 1 ≤ c) (h1 : c ≤ (n : Int)) : Good (List.replicate n c) := by
  have e : ∀ i, cyc (List.replicate n c) i = c := fun i => by
    have hb := mod_bd hn i
    unfold cyc
    rw [List.length_replicate, List.getD_eq_getElem?_getD, List.getElem?_replicate, if_pos (by omega)]
    rfl
  refine ⟨by rw [List.length_replicate]; exact hn, by rw [List.length_replicate]; exact hn2, fun i => by rw [e]; exact h0, fun i => by rw [e, List.length_replicate]; exact h1, fun i => by rw [e, e]; omega⟩
/-! ### served and serving -/
/-- the hours that one serves who begins at h -/
def servedOf (s : List Int) (h : Int) : List Int := (List.range (cyc s h).toNat).map fun (k : Nat) => (h + (k : Int)) % (s.length : Int)
/-- the hours of the window of h -/
def servingOf (s : List Int) (h : Int) : List Int := (List.range (wd s h).toNat).map fun (k : Nat) => (h - wd s h + 1 + (k : Int)) % (s.length : Int)
theorem serv_rev (s : List Int) (h : Int) : servingOf s h = ((List.range (wd s h).toNat).map fun (k : Nat) => (h - (k : Int)) % (s.length : Int)).reverse := by
  unfold servingOf
  have h0 := wd_nn (s := s) h
  refine List.ext_getElem? fun i => ?_
  rcases Nat.lt_or_ge i (wd s h).toNat with q | q
  · rw [List.getElem?_reverse (by rw [List.length_map, List.length_range]; exact q), List.getElem?_map, List.getElem?_map, List.length_map, List.length_range, List.getElem?_range q, List.getElem?_range (by omega)]
    show some ((h - wd s h + 1 + (i : Int)) % (s.length : Int)) = some ((h - (((wd s h).toNat - 1 - i : Nat) : Int)) % (s.length : Int))
    rw [show h - wd s h + 1 + (i : Int) = h - (((wd s h).toNat - 1 - i : Nat) : Int) by omega]
  · rw [List.getElem?_eq_none (by rw [List.length_map, List.length_range]; exact q), List.getElem?_eq_none (by rw [List.length_reverse, List.length_map, List.length_range]; exact q)]
theorem mem_served {s : List Int} (g : Good s) {h b : Int} (h0 : 0 ≤ h) (h1 : h < (s.length : Int)) : h ∈ servedOf s b ↔ (h - b) % (s.length : Int) < cyc s b := by
  unfold servedOf
  rw [List.mem_map]
  have hm := mod_bd g.ne (h - b)
  have hl := g.lo b
  have hh := g.hi b
  constructor
  · rintro ⟨k, hk, e⟩
    rw [List.mem_range] at hk
    rw [← e, Int.emod_sub_emod, show b + (k : Int) - b = k by omega, Int.emod_eq_of_lt (by omega) (by omega)]
    omega
  · intro q
    refine ⟨((h - b) % (s.length : Int)).toNat, List.mem_range.mpr (by omega), ?_⟩
    rw [show ((((h - b) % (s.length : Int)).toNat : Nat) : Int) = (h - b) % (s.length : Int) by omega, Int.add_emod_emod, show b + (h - b) = h by omega, Int.emod_eq_of_lt h0 h1]
theorem mem_serving {s : List Int} (g : Good s) {h b : Int} (h0 : 0 ≤ b) (h1 : b < (s.length : Int)) : b ∈ servingOf s h ↔ (h - b) % (s.length : Int) < wd s h := by
  rw [serv_rev, List.mem_reverse, List.mem_map]
  have hm := mod_bd g.ne (h - b)
  have hl := wd_nn (s := s) h
  have hh := wd_le (s := s) h
  constructor
  · rintro ⟨k, hk, e⟩
    rw [List.mem_range] at hk
    rw [← e, Int.sub_emod_emod, show h - (h - (k : Int)) = k by omega, Int.emod_eq_of_lt (by omega) (by omega)]
    omega
  · intro q
    refine ⟨((h - b) % (s.length : Int)).toNat, List.mem_range.mpr (by omega), ?_⟩
    rw [show ((((h - b) % (s.length : Int)).toNat : Nat) : Int) = (h - b) % (s.length : Int) by omega, Int.sub_emod_emod, show h - (h - b) = b by omega, Int.emod_eq_of_lt h0 h1]
/-- an hour is served by a begin just if the begin is in its window -/
theorem served_iff {s : List Int} (g : Good s) {h b : Int} (h0 : 0 ≤ h) (h1 : h < (s.length : Int)) (b0 : 0 ≤ b) (b1 : b < (s.length : Int)) : h ∈ servedOf s b ↔ b ∈ servingOf s h := by
  rw [mem_served g h0 h1, mem_serving g b0 b1]
  have hm := mod_bd g.ne (h - b)
  have := wd_iff g h (b := ((h - b) % (s.length : Int)).toNat) (by omega)
  rw [show ((((h - b) % (s.length : Int)).toNat : Nat) : Int) = (h - b) % (s.length : Int) by omega] at this
  rw [this, cyc_congr (i := h - (h - b) % (s.length : Int)) (j := b) (by rw [Int.sub_emod_emod, show h - (h - b) = b by omega])]
theorem mod_flip {n : Nat} (h : 1 ≤ n) (x : Int) : (n : Int) - 1 - x % (n : Int) = ((n : Int) - 1 - x) % (n : Int) := by
  have hb := mod_bd h x
  have e : ((n : Int) - 1 - x) % (n : Int) = ((n : Int) - 1 - x % (n : Int)) % (n : Int) := (Int.sub_emod_emod ..).symm
  exact (e.trans (Int.emod_eq_of_lt (by omega) (by omega))).symm
theorem mir_served {s : List Int} (g : Good s) (h : Int) : servedOf (mirS s) ((s.length : Int) - 1 - h) = ((servingOf s h).map fun x => (s.length : Int) - 1 - x).reverse := by
  have e : cyc (mirS s) ((s.length : Int) - 1 - h) = wd s h := by
    rw [cyc_mir g.ne, show (-1 - ((s.length : Int) - 1 - h)) = h - (s.length : Int) by omega]
    have := wd_per s (h - (s.length : Int))
    rw [show h - (s.length : Int) + (s.length : Int) = h by omega] at this
    exact this.symm
  rw [serv_rev, List.map_reverse, List.reverse_reverse, List.map_map]
  unfold servedOf
  rw [e, mirS_length]
  refine List.map_congr_left fun k _ => ?_
  show _ = (s.length : Int) - 1 - (h - (k : Int)) % (s.length : Int)
  rw [mod_flip g.ne, show (s.length : Int) - 1 - (h - (k : Int)) = (s.length : Int) - 1 - h + k by omega]
theorem mir_serving {s : List Int} (g : Good s) (h : Int) : servingOf (mirS s) ((s.length : Int) - 1 - h) = ((servedOf s h).map fun x => (s.length : Int) - 1 - x).reverse := by
  have e : wd (mirS s) ((s.length : Int) - 1 - h) = cyc s h := by
    rw [wd_mir g, show (-1 - ((s.length : Int) - 1 - h)) = h - (s.length : Int) by omega]
    have := cyc_per s (h - (s.length : Int))
    rw [show h - (s.length : Int) + (s.length : Int) = h by omega] at this
    exact this.symm
  rw [serv_rev, e, mirS_length]
  unfold servedOf
  rw [List.map_map]
  congr 1
  refine List.map_congr_left fun k _ => ?_
  show _ = (s.length : Int) - 1 - (h + (k : Int)) % (s.length : Int)
  rw [mod_flip g.ne, show (s.length : Int) - 1 - (h + (k : Int)) = (s.length : Int) - 1 - h - k by omega]
/-! ### windows read off the stays -/
theorem filter_down (p : Nat → Bool) (hp : ∀ b, p (b + 1) = true → p b = true) : ∀ n : Nat, (List.range n).filter p = List.range ((List.range n).filter p).length := by
  have hp' : ∀ k b, p (b + k) = true → p b = true := fun k => by
    induction k with
    | zero => exact fun b h => h
    | succ k ih => exact fun b h => ih b (hp (b + k) h)
  intro n
  induction n with
  | zero => rfl
  | succ n ih =>
    rw [List.range_succ, List.filter_append, List.length_append, List.filter_cons]
    by_cases hn : p n = true
    · have e : (List.range n).filter p = List.range n := List.filter_eq_self.mpr fun a ha => hp' (n - a) a (by
        have := List.mem_range.mp ha
        rw [show a + (n - a) = n by omega]
        exact hn)
      rw [if_pos hn, e, List.length_range]
      simp only [List.filter_nil, List.length_cons, List.length_nil]
      exact (List.range_succ).symm
    · rw [if_neg hn]
      simp only [List.filter_nil, List.length_nil, Nat.add_zero, List.append_nil]
      exact ih
theorem serving_filter {s : List Int} (g : Good s) (h : Int) : (((List.range s.length).filter fun (b : Nat) => decide ((b : Int) < cyc s (h - (b : Int)))).map fun (b : Nat) => (h - (b : Int)) % (s.length : Int)).reverse = servingOf s h := by
  have e := filter_down (fun (b : Nat) => decide ((b : Int) < cyc s (h - (b : Int)))) (fun b q => by
    have q' := of_decide_eq_true q
    exact decide_eq_true (down g h b (by
      rw [show ((b + 1 : Nat) : Int) = (b : Int) + 1 by omega] at q'
      exact q'))) s.length
  rw [e, serv_rev]
  congr 3
theorem serving_len (s : List Int) (h : Int) : ((servingOf s h).length : Int) = wd s h := by
  unfold servingOf
  rw [List.length_map, List.length_range]
  have := wd_nn (s := s) h
  omega
/-! ### clocks there and back -/
theorem wds_turn {s : List Int} (g : Good s) (b : Int) : wds (turnS s b) = turnS (wds s) b := by
  have hl := turnS_length s b
  refine eq_of_cyc (by rw [wds_length, turnS_length, turnS_length, wds_length]) fun i _ _ => ?_
  rw [cyc_wds (by rw [hl]; exact g.ne), wd_turn g.ne, cyc_turn (by rw [wds_length]; exact g.ne), cyc_wds g.ne]
theorem wds_mir {s : List Int} (g : Good s) : wds (mirS s) = s.reverse := by
  have hl := mirS_length s
  refine eq_of_cyc (by rw [wds_length, mirS_length, List.length_reverse]) fun i _ _ => ?_
  rw [cyc_wds (by rw [hl]; exact g.ne), wd_mir g, cyc_rev g.ne]
theorem turn_turn {s : List Int} (h : 1 ≤ s.length) (a b : Int) : turnS (turnS s a) b = turnS s (a + b) := by
  refine eq_of_cyc (by rw [turnS_length, turnS_length, turnS_length]) fun i _ _ => ?_
  rw [cyc_turn (by rw [turnS_length]; exact h), cyc_turn h, cyc_turn h, show i + b + a = i + (a + b) by omega]
theorem turn_zero {s : List Int} (h : 1 ≤ s.length) : turnS s 0 = s := by
  refine eq_of_cyc (by rw [turnS_length]) fun i _ _ => ?_
  rw [cyc_turn h, Int.add_zero]
theorem turn_back {s : List Int} (h : 1 ≤ s.length) (b : Int) : turnS (turnS s b) (0 - b) = s := by
  rw [turn_turn h, show b + (0 - b) = 0 by omega, turn_zero h]
theorem turn_all {s : List Int} (h : 1 ≤ s.length) : turnS s (s.length : Int) = s := by
  refine eq_of_cyc (by rw [turnS_length]) fun i _ _ => ?_
  rw [cyc_turn h, cyc_per]
theorem mir_turn {s : List Int} (g : Good s) (b : Int) : mirS (turnS s b) = turnS (mirS s) (0 - b) := by
  have hl := turnS_length s b
  refine eq_of_cyc (by rw [mirS_length, turnS_length, turnS_length, mirS_length]) fun i _ _ => ?_
  rw [cyc_mir (by rw [hl]; exact g.ne), wd_turn g.ne, cyc_turn (by rw [mirS_length]; exact g.ne), cyc_mir g.ne, show -1 - i + b = -1 - (i + (0 - b)) by omega]
theorem cyc_rep {n : Nat} (h : 1 ≤ n) (c i : Int) : cyc (List.replicate n c) i = c := by
  have hb := mod_bd h i
  unfold cyc
  rw [List.length_replicate, List.getD_eq_getElem?_getD, List.getElem?_replicate, if_pos (by omega)]
  rfl
theorem turn_rep {n : Nat} (h : 1 ≤ n) (c b : Int) : turnS (List.replicate n c) b = List.replicate n c := by
  refine eq_of_cyc (by rw [turnS_length]) fun i _ _ => ?_
  rw [cyc_turn (by rw [List.length_replicate]; exact h), cyc_rep h, cyc_rep h]
theorem wd_rep {n : Nat} (h : 1 ≤ n) {c : Int} (h0 : 0 ≤ c) (h1 : c ≤ (n : Int)) (i : Int) : wd (List.replicate n c) i = c := by
  rw [wd_sum, List.length_replicate]
  rw [Sg_congr (g := fun b => if b < c then 1 else 0) fun j _ _ => by rw [cyc_rep h]]
  exact cnt_below h0 h1
theorem wds_rep {n : Nat} (h : 1 ≤ n) {c : Int} (h0 : 0 ≤ c) (h1 : c ≤ (n : Int)) : wds (List.replicate n c) = List.replicate n c := by
  have hl : 1 ≤ (List.replicate n c).length := by rw [List.length_replicate]; exact h
  refine eq_of_cyc (by rw [wds_length]) fun i _ _ => ?_
  rw [cyc_wds hl, wd_rep h h0 h1, cyc_rep h]
theorem mir_rep {n : Nat} (h : 1 ≤ n) {c : Int} (h0 : 0 ≤ c) (h1 : c ≤ (n : Int)) : mirS (List.replicate n c) = List.replicate n c := by
  unfold mirS
  rw [wds_rep h h0 h1, List.reverse_replicate]
end Hn

/-! Data told by a Lean value; a text a number of times. -/
namespace Hn
open PySem PySem.Spec PyProof.Rows L2 Evl
section
variable {α β : Type} [DecidableEq α] [PySem.W.Datum α] [DecidableEq β] [PySem.W.Datum β] {K : PySem.W.Frag} {H H' : Hp} {Q : VK} {x y : V} {a b : Addr} {vs : List V} {ns : List Int}
/-- the heap holds u at the value x -/
def Hd (K : PySem.W.Frag) (H : Hp) (x : V) (u : α) : Prop := Dp K H x (PySem.W.Datum.toD u)
def HdAll (K : PySem.W.Frag) (H : Hp) (vs : List V) (us : List α) : Prop := DpAll K H vs (us.map PySem.W.Datum.toD)
/-- data of this kind can be laid -/
def LayT (α : Type) [DecidableEq α] [PySem.W.Datum α] : Prop := ∀ u : α, PyData.canLay0 (PySem.W.Datum.toD u) = true
theorem lay_int : LayT Int := fun _ => rfl
theorem lay_bool : LayT Bool := fun _ => rfl
theorem lay_unit : LayT Unit := fun _ => rfl
theorem lay_all (h : LayT α) : ∀ us : List α, PyData.canLayAll0 (us.map PySem.W.Datum.toD) = true
  | [] => rfl
  | u :: us => by
    rw [List.map_cons, PyData.canLayAll0, h u, lay_all h us]
    rfl
theorem lay_list (h : LayT α) : LayT (List α) := fun us => by
  show PyData.canLay0 (.list _) = true
  rw [PyData.canLay0]
  exact lay_all h us
theorem lay_tup (h : LayT α) : LayT (PySem.W.Tup α) := fun us => by
  show PyData.canLay0 (.tuple _) = true
  rw [PyData.canLay0]
  exact lay_all h us.items
theorem lay_pair (h : LayT α) (h2 : LayT β) : LayT (α × β) := fun u => by
  show PyData.canLay0 (.tuple _) = true
  rw [PyData.canLay0, PyData.canLayAll0, PyData.canLayAll0, PyData.canLayAll0, h u.1, h2 u.2]
  rfl
theorem lay_sh (h : LayT α) (hd : PySem.W.Datum.depth α ≤ 64) (u : α) : SeqAt.shaped (PySem.W.Datum.toD u) = true := by
  unfold SeqAt.shaped
  rw [h u]
  exact decide_eq_true (Nat.le_trans (PySem.W.Datum.depth_le u) hd)
theorem r_eqH (l : LayT α) {u v : α} (hx : Hd K H x u) (hy : Hd K H y v) (q : Q (.bl (decide (u = v))) H) (hd : PySem.W.Datum.depth α ≤ 64 := by decide) : rEqD K x y H Q :=
  ⟨_, _, hx, hy, lay_sh l hd u, lay_sh l hd v, by rw [PySem.W.Datum.eqv]; exact q⟩
theorem r_neH (l : LayT α) {u v : α} (hx : Hd K H x u) (hy : Hd K H y v) (q : Q (.bl (!decide (u = v))) H) (hd : PySem.W.Datum.depth α ≤ 64 := by decide) : rNeD K x y H Q :=
  ⟨_, _, hx, hy, lay_sh l hd u, lay_sh l hd v, by rw [PySem.W.Datum.eqv]; exact q⟩
theorem hd_list {us : List α} (h : SqL K H a vs) (hv : HdAll K H vs us) : Hd K H (.ref a) us := .lst h hv
theorem hd_tup {us : List α} (h : SqT K H a vs) (hv : HdAll K H vs us) : Hd K H (.ref a) (PySem.W.Tup.mk us) := .tup h hv
theorem hda_ints : ∀ ns : List Int, HdAll K H (ns.map V.int) ns
  | [] => .nil
  | n :: ns => .cons (.int n) (hda_ints ns)
theorem hda_bools : ∀ bs : List Bool, HdAll K H (bs.map V.bl) bs
  | [] => .nil
  | n :: ns => .cons (.bl n) (hda_bools ns)
theorem hd_ints (h : SqL K H a (ns.map V.int)) : Hd K H (.ref a) ns := hd_list h (hda_ints ns)
theorem hd_intsT (h : SqT K H a (ns.map V.int)) : Hd K H (.ref a) (PySem.W.Tup.mk ns) := hd_tup h (hda_ints ns)
theorem hd_bools {bs : List Bool} (h : SqL K H a (bs.map V.bl)) : Hd K H (.ref a) bs := hd_list h (hda_bools bs)
theorem hda_ix : ∀ {vs : List V} {us : List α}, vs.length = us.length → (∀ (i : Nat) v u, vs[i]? = some v → us[i]? = some u → Hd K H v u) → HdAll K H vs us
  | [], [], _, _ => .nil
  | _ :: _, [], h, _ => by cases h
  | [], _ :: _, h, _ => by cases h
  | v :: vs, u :: us, h, f => .cons (f 0 v u rfl rfl) (hda_ix (by simpa using h) fun i v u h1 h2 => f (i + 1) v u (by simpa using h1) (by simpa using h2))
mutual
theorem dp_ex (e : Ex H H') : ∀ {x : V} {u : PyData}, Dp K H x u → Dp K H' x u
  | _, _, .non => .non
  | _, _, .bl b => .bl b
  | _, _, .int i => .int i
  | _, _, .str y => .str y
  | _, _, .lst a b => .lst (ex_l e a) (dpa_ex e b)
  | _, _, .tup a b => .tup (ex_t e a) (dpa_ex e b)
theorem dpa_ex (e : Ex H H') : ∀ {vs : List V} {us : List PyData}, DpAll K H vs us → DpAll K H' vs us
  | _, _, .nil => .nil
  | _, _, .cons a b => .cons (dp_ex e a) (dpa_ex e b)
end
theorem hd_ex {u : α} (e : Ex H H') (h : Hd K H x u) : Hd K H' x u := dp_ex e h
/-- lists of ints, one int after another alike -/
theorem r_eqL {ms : List Int} (h1 : SqL K H a (ns.map V.int)) (h2 : SqL K H b (ms.map V.int)) (q : Q (.bl (decide (ns = ms))) H) : rEqD K (.ref a) (.ref b) H Q := r_eqH (lay_list lay_int) (hd_ints h1) (hd_ints h2) q
theorem r_neL {ms : List Int} (h1 : SqL K H a (ns.map V.int)) (h2 : SqL K H b (ms.map V.int)) (q : Q (.bl (!decide (ns = ms))) H) : rNeD K (.ref a) (.ref b) H Q := r_neH (lay_list lay_int) (hd_ints h1) (hd_ints h2) q
theorem r_eqT {ms : List Int} (h1 : SqT K H a (ns.map V.int)) (h2 : SqT K H b (ms.map V.int)) (q : Q (.bl (decide (ns = ms))) H) : rEqD K (.ref a) (.ref b) H Q := r_eqH (lay_tup lay_int) (hd_intsT h1) (hd_intsT h2) (by
  rw [show decide (PySem.W.Tup.mk ns = PySem.W.Tup.mk ms) = decide (ns = ms) from decide_eq_decide.mpr ⟨fun e => by cases e; rfl, fun e => by rw [e]⟩]
  exact q)
theorem r_neT {ms : List Int} (h1 : SqT K H a (ns.map V.int)) (h2 : SqT K H b (ms.map V.int)) (q : Q (.bl (!decide (ns = ms))) H) : rNeD K (.ref a) (.ref b) H Q := r_neH (lay_tup lay_int) (hd_intsT h1) (hd_intsT h2) (by
  rw [show decide (PySem.W.Tup.mk ns = PySem.W.Tup.mk ms) = decide (ns = ms) from decide_eq_decide.mpr ⟨fun e => by cases e; rfl, fun e => by rw [e]⟩]
  exact q)
theorem inV_int (i : Int) : ∀ ns : List Int, inV (.int i) (ns.map V.int) = decide (i ∈ ns)
  | [] => rfl
  | n :: ns => by
    have ih := inV_int i ns
    unfold inV at ih ⊢
    rw [List.map_cons, List.any_cons, ih]
    have e : eqV (.int n) (.int i) = decide (n = i) := by
      show decide _ = _
      rfl
    rw [e, Bool.eq_iff_iff]
    simp only [Bool.or_eq_true, decide_eq_true_eq, List.mem_cons]
    exact ⟨fun h => h.elim (fun h => .inl h.symm) .inr, fun h => h.elim (fun h => .inl h.symm) .inr⟩
theorem flat_ints (ns : List Int) : (ns.map V.int).all flatV = true := by
  rw [List.all_map]
  exact List.all_eq_true.mpr fun _ _ => rfl
theorem r_inI {i : Int} (h : Sq K H a (ns.map V.int)) (q : Q (.bl (decide (i ∈ ns))) H) : rIn K false (.int i) (.ref a) H Q := ⟨a, _, rfl, h, rfl, flat_ints ns, by rw [inV_int]; exact q⟩
theorem r_notInI {i : Int} (h : Sq K H a (ns.map V.int)) (q : Q (.bl (!decide (i ∈ ns))) H) : rIn K true (.int i) (.ref a) H Q := ⟨a, _, rfl, h, rfl, flat_ints ns, by rw [inV_int]; exact q⟩
end
section
variable {X : Cx}
/-- a text, n times: n small -/
def rStrMul : R2 := fun x y H Q => ∃ (a : Str) (n : Int), x = .str a ∧ y = .int n ∧ 0 ≤ n ∧ n < 1000 ∧ a.length ≤ 10 ∧ Q (.str (Txt.mul a n)) H
theorem op_strmul : OpR X (binaryOp .Mult) rStrMul := by
  intro pins s σ H x y v u Q I rx ry h
  obtain ⟨a, n, rfl, rfl, h0, h1, h2, q⟩ := h
  obtain ⟨t, rfl⟩ := rx
  obtain ⟨t', rfl⟩ := ry
  refine SB.mul ⟨?_, fun h3 _ => ?_, fun h3 _ => ?_⟩ fun t'' k => ⟨.str _, H, I.tok _, ⟨_, rfl⟩, q⟩
  · rw [Bool.or_eq_false_iff]
    exact ⟨decide_eq_false (by omega), decide_eq_false (by omega)⟩
  · have e : (10 : Int) ≤ (2 ^ 63 - 1) / n := (Int.le_ediv_iff_mul_le (by omega)).mpr (by omega)
    have e2 : (a.length : Int) ≤ 10 := by omega
    omega
  · unfold Builtin.Str.tooLong
    refine decide_eq_false ?_
    have : a.length * n.toNat ≤ 10 * 1000 := Nat.mul_le_mul h2 (by omega)
    have e : (10 * 1000 : Nat) ≤ sizeLine := by decide
    omega
def rAddS : R2 := fun x y H Q => ∃ i j, x = .str i ∧ y = .str j ∧ i.length + j.length ≤ sizeLine ∧ Q (.str (i ++ j)) H
theorem k_addS : OpR X (binaryOp .Add) rAddS := op_add_str
def rIntS : List V → Hp → VK → Prop := fun xs H Q => ∃ a n, xs = [.str a] ∧ PySem.intText? a = some n ∧ a.length ≤ 640 ∧ Q (.int n) H
theorem k_intS : CallR X (.type "int") rIntS := call_int_str
/-- a one and k noughts: the number -/
theorem ten_text : ∀ k : Fin 40, ((PySem.intText? (Str.ofString "1" ++ Txt.mul (Str.ofString "0") (k.1 : Int))).isSome && decide ((Str.ofString "1" ++ Txt.mul (Str.ofString "0") (k.1 : Int)).length ≤ 640)) = true := by decide +kernel
end
/-- values that are ints, as a row -/
theorem ints_of {P : Int → Prop} : ∀ {vs : List V}, (∀ v ∈ vs, ∃ z : Int, P z ∧ v = .int z) → ∃ ns : List Int, (∀ z ∈ ns, P z) ∧ vs = ns.map V.int
  | [], _ => ⟨[], fun _ h => (nomatch h), rfl⟩
  | v :: vs, h => by
    obtain ⟨z, hz, rfl⟩ := h v (List.mem_cons_self ..)
    obtain ⟨ns, hns, rfl⟩ := ints_of (vs := vs) fun w hw => h w (List.mem_cons_of_mem _ hw)
    refine ⟨z :: ns, fun y hy => ?_, rfl⟩
    rcases List.mem_cons.mp hy with rfl | hy
    · exact hz
    · exact hns y hy
theorem flat_rep {α : Type} (x : α) : ∀ n : Nat, (List.replicate n [x]).flatten = List.replicate n x
  | 0 => rfl
  | n + 1 => by rw [List.replicate_succ, List.flatten_cons, flat_rep x n, List.replicate_succ]; rfl
/-- a list of new lists -/
def Rows (H : Hp) (D : Addr) (n : Nat) (f : Nat → List V) : Prop := ∃ ys, H D = some (.lst ys) ∧ ys.length = n ∧ ∀ (i : Nat) y, ys[i]? = some y → ∃ p, y = .ref p ∧ H p = some (.lst (f i))
theorem Rows.ex {H H' : Hp} {D : Addr} {n : Nat} {f : Nat → List V} (e : Ex H H') (h : Rows H D n f) : Rows H' D n f :=
  let ⟨ys, h1, h2, h3⟩ := h
  ⟨ys, e _ _ h1, h2, fun i y hy => let ⟨p, hp, q⟩ := h3 i y hy; ⟨p, hp, e _ _ q⟩⟩
theorem Rows.sq {K : PySem.W.Frag} {H : Hp} {D : Addr} {n : Nat} {f : Nat → List V} (h : Rows H D n f) {Q : VK} {i : Nat} (hi : i < n) (q : ∀ p, H p = some (.lst (f i)) → Q (.ref p) H) : rIxL K (.ref D) (.int (i : Int)) H Q := by
  obtain ⟨ys, h1, h2, h3⟩ := h
  have hy : ys[i]? = some ys[i] := List.getElem?_eq_getElem (by omega)
  obtain ⟨p, hp, hq⟩ := h3 i _ hy
  refine ⟨D, ys, i, .ref p, rfl, rfl, .inl (.inl h1), atI_nat ?_, q p hq⟩
  rw [hy, hp]
theorem Rows.hd {α : Type} [DecidableEq α] [PySem.W.Datum α] {K : PySem.W.Frag} {H : Hp} {D : Addr} {n : Nat} {f : Nat → List V} (h : Rows H D n f) (us : Nat → List α) (hu : ∀ i, i < n → HdAll K H (f i) (us i)) : Hd K H (.ref D) ((List.range n).map us) := by
  obtain ⟨ys, h1, h2, h3⟩ := h
  refine hd_list (.inl (.inl h1)) (hda_ix (by rw [List.length_map, List.length_range]; exact h2) fun i v u hv hu' => ?_)
  obtain ⟨p, rfl, hp⟩ := h3 i v hv
  have hi : i < n := by
    have := (List.getElem?_eq_some_iff.mp hv).1
    omega
  rw [List.getElem?_map, List.getElem?_range hi] at hu'
  cases hu'
  exact hd_list (.inl (.inl hp)) (hu i hi)
section
variable {J : It} {n : Nat} {G : Hp → Prop} {Y : Nat → Hp → V → Hp → Prop}
/-- each item a new list -/
theorem lc_rows (w : Walk J n G Y) {g : TG} {te : TE} {vs : List Nat} {σ : L2.St} {H1 : Hp} {Q : VK} (f : Nat → List V) (hG : ∀ H, Ex H1 H → G H) (hn : n ≤ 100000)
    (turn : ∀ i x H H', i < n → Ex H1 H → Y i H x H' → ∀ k : VK, RetN (f i) H k → g x (wipe σ vs) H' fun σ2 H2 => wipe σ2 vs = wipe σ vs ∧ te σ2 H2 k)
    (fin : ∀ D H, H1 D = none → Ex H1 H → Rows H D n f → Q (.ref D) H) : LcTail J H1 g tYes te vs σ Q :=
  lc_map w (fun D i v H => ∃ p, v = .ref p ∧ H p = some (.lst (f i)) ∧ p ≠ D) (fun _ _ H' e _ _ _ => hG H' e) (fun D i v H H' e ⟨p, h1, h2, h3⟩ => ⟨p, h1, e _ _ h2, h3⟩) (fun D i v H xs ys _ ⟨p, h1, h2, h3⟩ => ⟨p, h1, by rw [upd_ne h3]; exact h2, h3⟩) hn
    (fun D i x H H' hi e hD ⟨xs, hx⟩ y k h => turn i x H H' hi e y k fun p H4 np e4 hp => h _ _ e4 ⟨p, rfl, hp, fun z => by rw [z, hx] at np; cases np⟩)
    fun D H ys hD e hy hl hr => fin D H hD e ⟨ys, hy, hl, fun i y h => let ⟨p, h1, h2, _⟩ := hr i y h; ⟨p, h1, h2⟩⟩
end
/-- what a law asks and gives -/
def spLaw (K : PySem.W.Frag) : Sp := fun vs H Q _ => ∃ (a : Addr) (ns : List Int), vs = [.ref a] ∧ SqL K H a (ns.map V.int) ∧ ns.length ≤ 63 ∧ ∀ H', Q (.bl true) H'
/-- a list of new lists that are such and such -/
def RowsP (H : Hp) (D : Addr) (n : Nat) (P : Nat → List V → Prop) : Prop := ∃ ys, H D = some (.lst ys) ∧ ys.length = n ∧ ∀ (i : Nat) y, ys[i]? = some y → ∃ p xs, y = .ref p ∧ H p = some (.lst xs) ∧ P i xs
theorem RowsP.ex {H H' : Hp} {D : Addr} {n : Nat} {P : Nat → List V → Prop} (e : Ex H H') (h : RowsP H D n P) : RowsP H' D n P :=
  let ⟨ys, h1, h2, h3⟩ := h
  ⟨ys, e _ _ h1, h2, fun i y hy => let ⟨p, xs, hp, q, r⟩ := h3 i y hy; ⟨p, xs, hp, e _ _ q, r⟩⟩
theorem RowsP.sq {K : PySem.W.Frag} {H : Hp} {D : Addr} {n : Nat} {P : Nat → List V → Prop} (h : RowsP H D n P) {Q : VK} {i : Nat} (hi : i < n) (q : ∀ p xs, P i xs → H p = some (.lst xs) → Q (.ref p) H) : rIxL K (.ref D) (.int (i : Int)) H Q := by
  obtain ⟨ys, h1, h2, h3⟩ := h
  have hy : ys[i]? = some ys[i] := List.getElem?_eq_getElem (by omega)
  obtain ⟨p, xs, hp, hq, hr⟩ := h3 i _ hy
  refine ⟨D, ys, i, .ref p, rfl, rfl, .inl (.inl h1), atI_nat ?_, q p xs hr hq⟩
  rw [hy, hp]
section
variable {J : It} {n : Nat} {G : Hp → Prop} {Y : Nat → Hp → V → Hp → Prop}
theorem lc_rowsP (w : Walk J n G Y) {g : TG} {te : TE} {vs : List Nat} {σ : L2.St} {H1 : Hp} {Q : VK} (P : Nat → List V → Prop) (hG : ∀ H, Ex H1 H → G H) (hn : n ≤ 100000)
    (turn : ∀ i x H H', i < n → Ex H1 H → Y i H x H' → ∀ k : VK, (∀ xs, P i xs → RetN xs H k) → g x (wipe σ vs) H' fun σ2 H2 => wipe σ2 vs = wipe σ vs ∧ te σ2 H2 k)
    (fin : ∀ D H, H1 D = none → Ex H1 H → RowsP H D n P → Q (.ref D) H) : LcTail J H1 g tYes te vs σ Q :=
  lc_map w (fun D i v H => ∃ p xs, v = .ref p ∧ H p = some (.lst xs) ∧ P i xs ∧ p ≠ D) (fun _ _ H' e _ _ _ => hG H' e) (fun D i v H H' e ⟨p, xs, h1, h2, h3, h4⟩ => ⟨p, xs, h1, e _ _ h2, h3, h4⟩) (fun D i v H xs ys _ ⟨p, us, h1, h2, h3, h4⟩ => ⟨p, us, h1, by rw [upd_ne h4]; exact h2, h3, h4⟩) hn
    (fun D i x H H' hi e hD ⟨xs, hx⟩ y k h => turn i x H H' hi e y k fun us hP p H4 np e4 hp => h _ _ e4 ⟨p, us, rfl, hp, hP, fun z => by rw [z, hx] at np; cases np⟩)
    fun D H ys hD e hy hl hr => fin D H hD e ⟨ys, hy, hl, fun i y h => let ⟨p, xs, h1, h2, h3, _⟩ := hr i y h; ⟨p, xs, h1, h2, h3⟩⟩
end
end Hn

/-! list(zip(a, b)): each given tuple stays out. -/
namespace Hn
open PySem PySem.W PySem.Calls PySem.Spec PyProof.Rows L2 Evl
open Sem (wp)
theorem zip_nolen : typeLookup (.type "zip") "__len__" = pure none := by rw [typeLookup_type, builtinLookup_eq_fast]; kernel_rfl
theorem zip_nohint : typeLookup (.type "zip") "__length_hint__" = pure none := by rw [typeLookup_type, builtinLookup_eq_fast]; kernel_rfl
section
variable {prog : Program} {w : World} {A : Around} {E : Value → Shared → Prop} {s : Shared} {z TI TO T i1 i2 S : Addr} {fp1 fp2 : List Addr} {n i : Nat} {P1 P2 : Nat → Value → Prop} {St1 St2 : Nat → Heap → Prop} {f : Bool} {oT : Obj}
theorem zh_item {Q : Value → Shared → Prop} (D : ZipSep2 z TI TO i1 i2 fp1 fp2) (D1 : Draws prog w A i1 fp1 n P1 St1) (D2 : Draws prog w A i2 fp2 n P2 St2)
    (hz : IsZipHeld s.heap z TI TO T f) (hT : s.heap.get? T = some oT) (hTI : IsTupOf2 s.heap TI (.ref i1) (.ref i2)) (st1 : St1 i s.heap) (st2 : St2 i s.heap) (hi : i < n)
    (hQ : ∀ x1 x2 h' tk, P1 i x1 → P2 i x2 → IsZipHeld h' z TI TO T true → St1 (i + 1) h' → St2 (i + 1) h' → IsTupOf2 h' s.heap.objs.size x1 x2 → h'.objs.size = s.heap.objs.size + 1 →
      (∀ c o, c ≠ z → c ≠ i1 → c ≠ i2 → s.heap.get? c = some o → h'.get? c = some o) → Q (.ref s.heap.objs.size) { s with heap := h', toks := tk }) :
    wpAny (model prog w) A (Builtin.«zip.__next__» ⟨[.ref z], []⟩) (fun fin s' => ∃ v, fin = .done (.ret v) ∧ Q v s') E s := by
  obtain ⟨hp, g, d, tk0, os⟩ := s
  show wpAny _ _ (field (.ref z) 2 >>= _) _ _ _
  refine wpAny_bind (wpAny_field hz rfl (x := .bool false) rfl ?_)
  show wpAny _ _ (field (.ref z) 3 >>= _) _ _ _
  refine wpAny_bind (wpAny_field hz rfl (x := .ref TI) rfl ?_)
  refine wpAny_bind (wpAny_seqItems hTI rfl ?_)
  show wpAny _ _ (Builtin.SmallTypes.ownedTupleIsFree (.ref z) >>= _) _ _ _
  refine wpAny_bind (wpAny_tupleHeld_zip hz hT fun g0 hz0 hs0 => ?_)
  replace hs0 : Heap.SameBut z hp g0 := hs0
  simp only [Bool.false_eq_true, if_false]
  refine wpAny_bind ?_
  rw [← Array.forIn_toList]
  simp only [List.forIn_cons, List.forIn_nil]
  refine wpAny_bind (wpAny_bind (wpAny_holding ?_))
  show wpAny _ _ (Builtin.SmallTypes.nextOf (.ref i1) >>= _) _ _ ⟨g0, g, d, tk0, os⟩
  refine wpAny_bind (D1.item i _ _ _ hi (D1.over st1 hs0 D.zf1) fun x1 p1 tk1 hx1 sn1 hp1 => wpAny_pure ?_)
  replace hp1 : Heap.SameBut i1 g0 p1 := hp1
  refine wpAny_pure ?_
  refine wpAny_bind (wpAny_bind (wpAny_holding ?_))
  show wpAny _ _ (Builtin.SmallTypes.nextOf (.ref i2) >>= _) _ _ ⟨p1, g, d, tk1, os⟩
  refine wpAny_bind (D2.item i _ _ _ hi (D2.over (D2.over st2 hs0 D.zf2) hp1 D.sep1_2) fun x2 p2 tk2 hx2 sn2 hp2 => wpAny_pure ?_)
  replace hp2 : Heap.SameBut i2 p1 p2 := hp2
  refine wpAny_pure (wpAny_pure ?_)
  show wpAny _ _ (newTuple [x1, x2] >>= _) _ _ ⟨p2, g, d, tk2, os⟩
  refine wpAny_bind (wpAny_newTuple ?_)
  have hsz : p2.objs.size = hp.objs.size := by rw [hp2.1, hp1.1, hs0.1]
  have hzz : IsZipHeld p2 z TI TO T true := hp2.extBut _ _ D.zi2 (hp1.extBut _ _ D.zi1 hz0)
  have hkk : ∀ c o, c ≠ z → c ≠ i1 → c ≠ i2 → hp.get? c = some o → p2.get? c = some o := fun c o cz c1 c2 e => hp2.extBut _ _ c2 (hp1.extBut _ _ c1 (hs0.extBut _ _ cz e))
  have hj1 : St1 (i + 1) p2 := D1.over sn1 hp2 D.sep2_1
  have up : ∀ c o, p2.get? c = some o → (p2.push { cls := .type "tuple", data := .seq #[x1, x2] }).get? c = some o := fun c o e => Heap.get?_push_of_some _ e
  have hp3 : IsTupOf2 (p2.push { cls := .type "tuple", data := .seq #[x1, x2] }) p2.objs.size x1 x2 := Heap.get?_push_size _ rfl
  have hz4 : (p2.push { cls := .type "tuple", data := .seq #[x1, x2] }).objs.size = p2.objs.size + 1 := Heap.size_push ..
  refine wpAny_pure ⟨_, rfl, ?_⟩
  show Q (.ref p2.objs.size) ⟨p2.push { cls := .type "tuple", data := .seq #[x1, x2] }, g, d, tk2, os⟩
  rw [hsz] at hp3 hz4 ⊢
  exact hQ x1 x2 _ tk2 hx1 hx2 (up _ _ hzz) (D1.frame _ _ _ hj1 fun b _ o e => up b o e) (D2.frame _ _ _ sn2 fun b _ o e => up b o e) hp3 hz4 fun c o cz c1 c2 e => up c o (hkk c o cz c1 c2 e)
theorem zh_end {Q : Fin → Shared → Prop} (D : ZipSep2 z TI TO i1 i2 fp1 fp2) (D1 : Draws prog w A i1 fp1 n P1 St1)
    (hz : IsZipHeld s.heap z TI TO T f) (hT : s.heap.get? T = some oT) (hTI : IsTupOf2 s.heap TI (.ref i1) (.ref i2)) (st1 : St1 n s.heap)
    (hE : ∀ h' tk e, (∀ c o, c ≠ z → c ≠ i1 → c ≠ i2 → s.heap.get? c = some o → h'.get? c = some o) → (∃ o, h'.get? e = some o ∧ o.cls = .type "StopIteration") → E (.ref e) { s with heap := h', toks := tk }) :
    wpAny (model prog w) A (Builtin.«zip.__next__» ⟨[.ref z], []⟩) Q E s := by
  obtain ⟨hp, g, d, tk0, os⟩ := s
  show wpAny _ _ (field (.ref z) 2 >>= _) _ _ _
  refine wpAny_bind (wpAny_field hz rfl (x := .bool false) rfl ?_)
  show wpAny _ _ (field (.ref z) 3 >>= _) _ _ _
  refine wpAny_bind (wpAny_field hz rfl (x := .ref TI) rfl ?_)
  refine wpAny_bind (wpAny_seqItems hTI rfl ?_)
  show wpAny _ _ (Builtin.SmallTypes.ownedTupleIsFree (.ref z) >>= _) _ _ _
  refine wpAny_bind (wpAny_tupleHeld_zip hz hT fun g0 hz0 hs0 => ?_)
  replace hs0 : Heap.SameBut z hp g0 := hs0
  simp only [Bool.false_eq_true, if_false]
  refine wpAny_bind ?_
  rw [← Array.forIn_toList]
  simp only [List.forIn_cons, List.forIn_nil]
  refine wpAny_bind (wpAny_bind (wpAny_holding ?_))
  show wpAny _ _ (Builtin.SmallTypes.nextOf (.ref i1) >>= _) _ _ ⟨g0, g, d, tk0, os⟩
  refine wpAny_bind (D1.done ⟨g0, g, d, tk0, os⟩ _ _ (D1.over st1 hs0 D.zf1) fun q e hq he => ?_)
  replace hq : Heap.ExtBut i1 g0 q := hq
  exact hE q tk0 e (fun c o cz c1 _ x => hq _ _ c1 (hs0.extBut _ _ cz x)) he
theorem zn_held {Q : Option Value → Shared → Prop} (D : ZipSep2 z TI TO i1 i2 fp1 fp2) (D1 : Draws prog w A.in1 i1 fp1 n P1 St1) (D2 : Draws prog w A.in1 i2 fp2 n P2 St2)
    (hz : IsZipHeld s.heap z TI TO T f) (hT : s.heap.get? T = some oT) (hTI : IsTupOf2 s.heap TI (.ref i1) (.ref i2)) (st1 : St1 i s.heap) (st2 : St2 i s.heap) (hi : i < n)
    (hQ : ∀ x1 x2 h' tk, P1 i x1 → P2 i x2 → IsZipHeld h' z TI TO T true → St1 (i + 1) h' → St2 (i + 1) h' → IsTupOf2 h' s.heap.objs.size x1 x2 → h'.objs.size = s.heap.objs.size + 1 →
      (∀ c o, c ≠ z → c ≠ i1 → c ≠ i2 → s.heap.get? c = some o → h'.get? c = some o) → Q (some (.ref s.heap.objs.size)) { s with heap := h', toks := tk }) :
    wpAny (model prog w) A (pyNext (.ref z)) Q E s := by
  have hTy : s.TypeIs (.ref z) "zip" := ⟨_, hz, rfl⟩
  unfold pyNext
  exact wpAny_bind (wpAny_attempt (wpAny_callSpecial?_slot (name := Str.ofString "__next__") hTy F.slot_zip_next
    (wpAny_call_entry F.slot_zip_next hTy F.entry_zip_next
      (zh_item D D1 D2 hz hT hTI st1 st2 hi fun x1 x2 h' tk a1 a2 a3 a4 a5 a6 a7 a8 => wpAny_pure (hQ x1 x2 h' tk a1 a2 a3 a4 a5 a6 a7 a8)) (F.args_zip_next_1 _))))
theorem zn_first {Q : Option Value → Shared → Prop} {a1 a2 : Value} (D : ZipSep2 z TI TO i1 i2 fp1 fp2) (D1 : Draws prog w A.in1 i1 fp1 n P1 St1) (D2 : Draws prog w A.in1 i2 fp2 n P2 St2)
    (hz : IsZip s.heap z TI TO .none) (hTI : IsTupOf2 s.heap TI (.ref i1) (.ref i2)) (hTO : IsTupOf2 s.heap TO a1 a2) (st1 : St1 i s.heap) (st2 : St2 i s.heap) (hi : i < n)
    (hQ : ∀ x1 x2 h' tk, P1 i x1 → P2 i x2 → IsZip h' z TI TO (rawInt s.heap.objs.size) → St1 (i + 1) h' → St2 (i + 1) h' → IsTupOf2 h' s.heap.objs.size x1 x2 → h'.objs.size = s.heap.objs.size + 1 →
      (∀ c o, c ≠ z → c ≠ TO → c ≠ i1 → c ≠ i2 → s.heap.get? c = some o → h'.get? c = some o) → Q (some (.ref s.heap.objs.size)) { s with heap := h', toks := tk }) :
    wpAny (model prog w) A (pyNext (.ref z)) Q E s := by
  have hTy : s.TypeIs (.ref z) "zip" := ⟨_, hz, rfl⟩
  unfold pyNext
  exact wpAny_bind (wpAny_attempt (wpAny_callSpecial?_slot (name := Str.ofString "__next__") hTy F.slot_zip_next
    (wpAny_call_entry F.slot_zip_next hTy F.entry_zip_next
      (zipD2_next_item D D1 D2 hz hTI hTO st1 st2 hi hi fun x1 x2 h' tk a1 a2 a3 _ a4 a5 a6 a7 a8 => wpAny_pure (hQ x1 x2 h' tk a1 a2 a3 a4 a5 a6 a7 a8)) (F.args_zip_next_1 _))))
theorem zn_end {Q : Option Value → Shared → Prop} (D : ZipSep2 z TI TO i1 i2 fp1 fp2) (D1 : Draws prog w A.in1 i1 fp1 n P1 St1)
    (hz : IsZipHeld s.heap z TI TO T f) (hT : s.heap.get? T = some oT) (hTI : IsTupOf2 s.heap TI (.ref i1) (.ref i2)) (st1 : St1 n s.heap)
    (hQ : ∀ h' tk, (∀ c o, c ≠ z → c ≠ i1 → c ≠ i2 → s.heap.get? c = some o → h'.get? c = some o) → Q none { s with heap := h', toks := tk }) : wpAny (model prog w) A (pyNext (.ref z)) Q E s := by
  have hTy : s.TypeIs (.ref z) "zip" := ⟨_, hz, rfl⟩
  unfold pyNext
  refine wpAny_bind (wpAny_attempt (wpAny_callSpecial?_slot (name := Str.ofString "__next__") hTy F.slot_zip_next
    (wpAny_call_entry F.slot_zip_next hTy F.entry_zip_next (zh_end D D1 hz hT hTI st1 fun h' tk e hk he => ?_) (F.args_zip_next_1 _))))
  obtain ⟨o, ho, hc⟩ := he
  refine wpAny_bind (wpAny_isInstance (T := "StopIteration") (b := true) ⟨o, ho, hc⟩ isSubtype_stop ?_)
  exact wpAny_pure (hQ _ _ hk)
/-- where a zip stands while its tuples are kept in the list at S -/
structure ZS (z TI TO i1 i2 S : Addr) (St1 St2 : Nat → Heap → Prop) (i : Nat) (h : Heap) : Prop where
  ti : IsTupOf2 h TI (.ref i1) (.ref i2)
  s1 : St1 i h
  s2 : St2 i h
  zz : (i = 0 ∧ IsZip h z TI TO .none ∧ ∃ a b, IsTupOf2 h TO a b) ∨ (0 < i ∧ ∃ T f oT, IsZipHeld h z TI TO T f ∧ h.get? T = some oT ∧ T ≠ S ∧ T ≠ z ∧ T ≠ i1 ∧ T ≠ i2)
/-- the tuples given -/
structure ZG (P1 P2 : Nat → Value → Prop) (lo : Addr) (h : Heap) (as : List Addr) : Prop where
  rise : as.Pairwise (· < ·)
  above : ∀ a ∈ as, lo < a
  pairs : ∀ (j : Nat) (a : Addr), as[j]? = some a → ∃ x1 x2, P1 j x1 ∧ P2 j x2 ∧ IsTupOf2 h a x1 x2
theorem ZG.there {lo : Addr} {h : Heap} {as : List Addr} (g : ZG P1 P2 lo h as) {a : Addr} (ha : a ∈ as) : a < h.objs.size := by
  obtain ⟨j, hj⟩ := List.mem_iff_getElem?.mp ha
  obtain ⟨_, _, _, _, e⟩ := g.pairs j a hj
  exact Heap.lt_size e
end
/-- all iterators' cells lie below S -/
structure ZB (z TI TO i1 i2 S : Addr) (fp1 fp2 : List Addr) : Prop where
  z : z < S
  TI : TI < S
  TO : TO < S
  i1 : i1 < S
  i2 : i2 < S
  f1 : ∀ b ∈ fp1, b < S
  f2 : ∀ b ∈ fp2, b < S
section
variable {prog : Program} {w : World} {z TI TO i1 i2 S : Addr} {fp1 fp2 : List Addr} {n : Nat} {P1 P2 : Nat → Value → Prop} {St1 St2 : Nat → Heap → Prop}
theorem ZS.keep {A : Around} {i : Nat} {h h' : Heap} (B : ZB z TI TO i1 i2 S fp1 fp2) (D1 : Draws prog w A i1 fp1 n P1 St1) (D2 : Draws prog w A i2 fp2 n P2 St2) (x : ZS z TI TO i1 i2 S St1 St2 i h) (k : ∀ b o, b ≠ S → h.get? b = some o → h'.get? b = some o) : ZS z TI TO i1 i2 S St1 St2 i h' :=
  ⟨k _ _ (Nat.ne_of_lt B.TI) x.ti, D1.frame _ _ _ x.s1 fun b hb o e => k b o (Nat.ne_of_lt (B.f1 b hb)) e, D2.frame _ _ _ x.s2 fun b hb o e => k b o (Nat.ne_of_lt (B.f2 b hb)) e, by
    rcases x.zz with ⟨h0, h1, a, b, h2⟩ | ⟨h0, T, f, oT, h1, h2, h3, h4⟩
    · exact .inl ⟨h0, k _ _ (Nat.ne_of_lt B.z) h1, a, b, k _ _ (Nat.ne_of_lt B.TO) h2⟩
    · exact .inr ⟨h0, T, f, oT, k _ _ (Nat.ne_of_lt B.z) h1, k _ _ h3 h2, h3, h4⟩⟩
variable {A : Around} {E : Value → Shared → Prop} {s : Shared} {R : Result → Shared → Prop}
/-- the next one, wherever the zip stands -/
theorem zs_next {i : Nat} {Q : Option Value → Shared → Prop} (D : ZipSep2 z TI TO i1 i2 fp1 fp2) (B : ZB z TI TO i1 i2 S fp1 fp2) (D1 : Draws prog w A.in1 i1 fp1 n P1 St1) (D2 : Draws prog w A.in1 i2 fp2 n P2 St2) (hS : S < s.heap.objs.size)
    (x : ZS z TI TO i1 i2 S St1 St2 i s.heap) (hi : i < n)
    (hQ : ∀ x1 x2 h' tk, P1 i x1 → P2 i x2 → ZS z TI TO i1 i2 S St1 St2 (i + 1) h' → IsTupOf2 h' s.heap.objs.size x1 x2 → h'.objs.size = s.heap.objs.size + 1 →
      (∀ c o, c ≠ z → c ≠ TO → c ≠ i1 → c ≠ i2 → s.heap.get? c = some o → h'.get? c = some o) → Q (some (.ref s.heap.objs.size)) { s with heap := h', toks := tk }) :
    wpAny (model prog w) A (pyNext (.ref z)) Q E s := by
  have big : ∀ b, b < S → s.heap.objs.size ≠ b := fun b hb => Nat.ne_of_gt (Nat.lt_trans hb hS)
  rcases x.zz with ⟨h0, h1, a, b, h2⟩ | ⟨h0, T, f, oT, h1, h2, h3, h4, h5, h6⟩
  · refine zn_first D D1 D2 h1 x.ti h2 x.s1 x.s2 hi fun x1 x2 h' tk p1 p2 z' t1 t2 tp sz k => ?_
    exact hQ x1 x2 h' tk p1 p2 ⟨k _ _ D.TIz D.TITO D.TIi1 D.TIi2 x.ti, t1, t2, .inr ⟨Nat.succ_pos _, s.heap.objs.size, false, _, z', tp, Nat.ne_of_gt hS, big _ B.z, big _ B.i1, big _ B.i2⟩⟩ tp sz k
  · refine zn_held D D1 D2 h1 h2 x.ti x.s1 x.s2 hi fun x1 x2 h' tk p1 p2 z' t1 t2 tp sz k => ?_
    exact hQ x1 x2 h' tk p1 p2 ⟨k _ _ D.TIz D.TIi1 D.TIi2 x.ti, t1, t2, .inr ⟨Nat.succ_pos _, T, true, oT, z', k _ _ h4 h5 h6 h2, h3, h4, h5, h6⟩⟩ tp sz fun c o c1 _ c3 c4 e => k c o c1 c3 c4 e
theorem zl_loop (D : ZipSep2 z TI TO i1 i2 fp1 fp2) (B : ZB z TI TO i1 i2 S fp1 fp2) (D1 : Draws prog w A.in1.in1 i1 fp1 n P1 St1) (D2 : Draws prog w A.in1.in1 i2 fp2 n P2 St2) (hn : n ≤ sizeLine) (hn1 : 1 ≤ n) (res : Value) {h₁ : Heap}
    (hR : ∀ h' tk acc c as, (∀ b o, b ≠ S → b ≠ z → b ≠ TO → b ≠ i1 → b ≠ i2 → h₁.get? b = some o → h'.get? b = some o) → h'.get? S = some { cls := .type "list", dict := none, data := .seq acc c, slots := #[] } → as.length = n → ZG P1 P2 S h' as →
      acc.toList = as.map Value.ref → R (.ok (.ret res)) { s with heap := h', toks := tk }) :
    ∀ (k i : Nat) (h : Heap) (tk c : Nat) (acc : Array Value) (as : List Addr), n - i = k → i ≤ n → ZS z TI TO i1 i2 S St1 St2 i h → (∀ b o, b ≠ S → b ≠ z → b ≠ TO → b ≠ i1 → b ≠ i2 → h₁.get? b = some o → h.get? b = some o) →
      h.get? S = some { cls := .type "list", dict := none, data := .seq acc c, slots := #[] } → acc.toList = as.map Value.ref → as.length = i → ZG P1 P2 S h as →
      codeAny (model prog w) A (.builtin "list.extend.loop" ⟨[.ref S, .ref z, res], []⟩) R { s with heap := h, toks := tk } := by
  have ne : ∀ a, S < a → a ≠ z ∧ a ≠ TO ∧ a ≠ i1 ∧ a ≠ i2 := fun a ha => ⟨Nat.ne_of_gt (Nat.lt_trans B.z ha), Nat.ne_of_gt (Nat.lt_trans B.TO ha), Nat.ne_of_gt (Nat.lt_trans B.i1 ha), Nat.ne_of_gt (Nat.lt_trans B.i2 ha)⟩
  intro k
  induction k with
  | zero =>
    intro i h tk c acc as hk hi hst hkeep hS hacc hal hG
    obtain rfl : i = n := by omega
    refine codeAny_builtin PySem.F.entry_extend_loop ?_
    rw [Around.under_plainId PySem.F.plain_extend_loop _]
    show wpAny _ A.in1 (pyNext (.ref z) >>= _) _ _ _
    rcases hst.zz with ⟨h0, _⟩ | ⟨h0, T, f, oT, h1, h2, h3, h4, h5, h6⟩
    · omega
    · refine wpAny_bind (zn_end (s := { s with heap := h, toks := tk }) (A := A.in1) D D1 h1 h2 hst.ti hst.s1 fun h' tk' he => ?_)
      refine wpAny_pure (hR h' tk' acc c as (fun b o b1 b2 b3 b4 b5 e => he b o b2 b4 b5 (hkeep b o b1 b2 b3 b4 b5 e)) (he S _ (Nat.ne_of_gt B.z) (Nat.ne_of_gt B.i1) (Nat.ne_of_gt B.i2) hS) hal ⟨hG.rise, hG.above, fun j a hj => ?_⟩ hacc)
      obtain ⟨x1, x2, q1, q2, e3⟩ := hG.pairs j a hj
      obtain ⟨n1, n2, n3, n4⟩ := ne a (hG.above a (List.mem_of_getElem? hj))
      exact ⟨x1, x2, q1, q2, he a _ n1 n3 n4 e3⟩
  | succ k ih =>
    intro i h tk c acc as hk hi hst hkeep hS hacc hal hG
    have hlt : i < n := by omega
    have hsz : acc.size = i := by rw [← Array.length_toList, hacc, List.length_map, hal]
    have hSl : S < h.objs.size := Heap.lt_size hS
    refine codeAny_builtin PySem.F.entry_extend_loop ?_
    rw [Around.under_plainId PySem.F.plain_extend_loop _]
    show wpAny _ A.in1 (pyNext (.ref z) >>= _) _ _ _
    refine wpAny_bind (zs_next (s := { s with heap := h, toks := tk }) (A := A.in1) D B D1 D2 hSl hst hlt fun x1 x2 h' tk' p1 p2 hst' ht hz hkp => ?_)
    dsimp only at ht hz hkp ⊢
    have hS' := hkp S _ (Nat.ne_of_gt B.z) (Nat.ne_of_gt B.TO) (Nat.ne_of_gt B.i1) (Nat.ne_of_gt B.i2) hS
    have up : ∀ b o, b ≠ S → h'.get? b = some o → (h'.update S (Obj.mapSeq (·.push (Value.ref h.objs.size)))).get? b = some o := fun b o hb e => (Heap.get?_update_other _ _ (Ne.symm hb)).trans e
    show wpAny _ A.in1 (updateSeq S (·.push (Value.ref h.objs.size)) >>= _) _ _ _
    refine wpAny_bind ?_
    refine wpAny_updateSeq hS' rfl (wpAny_pure ⟨plainId_quiet PySem.F.plain_extend_loop _, ih (i + 1) _ tk' _ (acc.push (Value.ref h.objs.size)) (as ++ [h.objs.size]) (by omega) hlt (hst'.keep B D1 D2 up)
      (fun b o b1 b2 b3 b4 b5 e => up b o b1 (hkp b o b2 b3 b4 b5 (hkeep b o b1 b2 b3 b4 b5 e))) (Heap.get?_update_self _ hS' rfl) (by rw [Array.toList_push, hacc, List.map_append]; rfl) (by rw [List.length_append, hal]; rfl) ⟨?_, ?_, ?_⟩⟩) (by rw [hsz]; omega) (by show (acc.push (Value.ref h.objs.size)).size ≤ sizeLine + 1; rw [Array.size_push, hsz]; omega)
    · refine List.pairwise_append.mpr ⟨hG.rise, List.pairwise_singleton _ _, fun a ha b hb => ?_⟩
      rw [List.mem_singleton.mp hb]
      exact hG.there ha
    · intro a ha
      rcases List.mem_append.mp ha with ha | ha
      · exact hG.above a ha
      · rw [List.mem_singleton.mp ha]; exact hSl
    · intro j b hj
      rcases Nat.lt_trichotomy j as.length with h1 | h1 | h1
      · rw [List.getElem?_append_left h1] at hj
        obtain ⟨y1, y2, q1, q2, e3⟩ := hG.pairs j b hj
        have hb := hG.above b (List.mem_of_getElem? hj)
        obtain ⟨n1, n2, n3, n4⟩ := ne b hb
        exact ⟨y1, y2, q1, q2, up b _ (Nat.ne_of_gt hb) (hkp b _ n1 n2 n3 n4 e3)⟩
      · subst h1
        have hb : h.objs.size = b := by simpa using hj
        subst hb
        exact ⟨x1, x2, by rw [hal]; exact p1, by rw [hal]; exact p2, up _ _ (Nat.ne_of_gt hSl) ht⟩
      · have hnone : (as ++ [h.objs.size])[j]? = none := List.getElem?_eq_none (by rw [List.length_append, List.length_singleton]; omega)
        rw [hnone] at hj; cases hj
/-- list(z) of a zip that has given nothing yet -/
theorem zl_call {Q : Value → Shared → Prop} {a1 a2 : Value} (D : ZipSep2 z TI TO i1 i2 fp1 fp2) (B : ZB z TI TO i1 i2 s.heap.objs.size fp1 fp2) (D1 : ∀ A : Around, A.handled = none → Draws prog w A i1 fp1 n P1 St1) (D2 : ∀ A : Around, A.handled = none → Draws prog w A i2 fp2 n P2 St2) (hh : A.handled = none)
    (hz : IsZip s.heap z TI TO .none) (hTI : IsTupOf2 s.heap TI (.ref i1) (.ref i2)) (hTO : IsTupOf2 s.heap TO a1 a2) (st1 : St1 0 s.heap) (st2 : St2 0 s.heap) (hn : n ≤ sizeLine) (hn1 : 1 ≤ n)
    (hQ : ∀ h' tk acc c as, (∀ b o, b ≠ z → b ≠ TO → b ≠ i1 → b ≠ i2 → s.heap.get? b = some o → h'.get? b = some o) → h'.get? s.heap.objs.size = some { cls := .type "list", dict := none, data := .seq acc c, slots := #[] } → as.length = n → ZG P1 P2 s.heap.objs.size h' as →
      acc.toList = as.map Value.ref → Q (.ref s.heap.objs.size) { s with heap := h', toks := tk }) :
    wpAny (model prog w) A (call (.type "list") [.ref z]) Q E s := by
  refine callType_codes (Q₁ := fun obj s₁ => obj = .ref s.heap.objs.size ∧ s₁ = { s with heap := s.heap.push { cls := .type "list", data := .seq #[] } }) PySem.F.called_list (PySem.F.typeCall_list_1 _) PySem.F.entry_list_init
    (code_list_new _ ⟨rfl, rfl⟩) fun obj s₁ h₁ => ?_
  obtain ⟨rfl, rfl⟩ := h₁
  have hS : (s.heap.push { cls := .type "list", data := .seq #[] }).get? s.heap.objs.size = some { cls := .type "list", data := .seq #[] } := Heap.get?_push_size _ rfl
  have hzS : s.heap.objs.size ≠ z := Nat.ne_of_gt B.z
  refine ⟨⟨_, hS, rfl⟩, PySem.F.args_list_init_2 _ _, ?_⟩
  show wpAny _ _ (do let old ← Builtin.List.listItems (.ref s.heap.objs.size); Builtin.List.listUpdate (.ref s.heap.objs.size) (fun _ => #[]); letGo old.toList.reverse; Builtin.List.listExtendWith (.ref s.heap.objs.size) (.ref z) .none) _ _ _
  refine wpAny_bind ?_
  unfold Builtin.List.listItems
  refine wpAny_bind (wpAny_seqItems hS rfl (wpAny_pure ?_))
  show wpAny _ _ (updateSeq s.heap.objs.size (fun _ => #[]) >>= fun _ => letGo (#[] : Array Value).toList.reverse >>= fun _ => Builtin.List.listExtendWith (.ref s.heap.objs.size) (.ref z) .none) _ _ _
  refine wpAny_bind (wpAny_updateSeq hS rfl ?_)
  have hS₂ := Heap.get?_update_self (Obj.mapSeq (fun _ => (#[] : Array Value))) hS rfl
  have oth : ∀ b o, b ≠ s.heap.objs.size → (s.heap.push { cls := .type "list", data := .seq #[] }).get? b = some o → ((s.heap.push { cls := .type "list", data := .seq #[] }).update s.heap.objs.size (Obj.mapSeq (fun _ => (#[] : Array Value)))).get? b = some o :=
    fun b o hb e => (Heap.get?_update_other _ _ (Ne.symm hb)).trans e
  refine wpAny_bind (wpAny_letGo ?_)
  have kp : ∀ b o, s.heap.get? b = some o → ((s.heap.push { cls := .type "list", data := .seq #[] }).update s.heap.objs.size (Obj.mapSeq (fun _ => (#[] : Array Value)))).get? b = some o := fun b o e => oth b o (Nat.ne_of_lt (Heap.lt_size e)) (Heap.get?_push_of_some _ e)
  have hz2 := kp _ _ hz
  have hh1 : A.in1.in1.in1.handled = none := hh
  have d1 := D1 A.in1.in1.in1 hh1
  have d2 := D2 A.in1.in1.in1 hh1
  unfold Builtin.List.listExtendWith
  refine wpAny_bind (wpAny_typeOf (T := "zip") ⟨_, hz2, rfl⟩ ?_)
  have h1 : Builtin.List.listSameRef (.ref s.heap.objs.size) (.ref z) = false := by simp [Builtin.List.listSameRef, hzS]
  have h2 : (Value.type "zip" == Value.type "list") = false := by decide
  have h3 : (Value.type "zip" == Value.type "tuple") = false := by decide
  simp only [h1, h2, h3, Bool.or_false, Bool.false_eq_true, if_false]
  refine wpAny_bind (wpAny_pyIter_zip hz2 ?_)
  refine wpAny_bind (wpAny_holding ?_)
  unfold Builtin.List.listLengthHint
  refine wpAny_bind (wpAny_specialOf (T := "zip") ⟨_, hz2, rfl⟩ zip_nolen ?_)
  refine wpAny_bind (wpAny_specialOf (T := "zip") ⟨_, hz2, rfl⟩ zip_nohint ?_)
  refine wpAny_pure ?_
  rw [Bool.true_or, if_pos rfl]
  refine wpAny_bind (wpAny_rule ?_)
  refine wpAny_bind ?_
  show wpAny _ _ (updateSeq s.heap.objs.size (·.push .none) >>= fun _ => updateSeq s.heap.objs.size (·.pop)) _ _ _
  refine wpAny_bind (wpAny_updateSeq hS₂ rfl ?_)
  have hS₃ := Heap.get?_update_self (Obj.mapSeq (·.push Value.none)) hS₂ rfl
  refine wpAny_updateSeq (hz := by seq_fits) hS₃ rfl ?_
  have hS₄ := Heap.get?_update_self (Obj.mapSeq (·.pop)) hS₃ rfl
  have kp2 : ∀ b o, s.heap.get? b = some o → _ := fun b o e => (Heap.get?_update_other _ (Obj.mapSeq (·.pop)) (Ne.symm (Nat.ne_of_lt (Heap.lt_size e)))).trans ((Heap.get?_update_other _ (Obj.mapSeq (·.push Value.none)) (Ne.symm (Nat.ne_of_lt (Heap.lt_size e)))).trans (kp b o e))
  refine wpAny_pure ⟨plainId_quiet PySem.F.plain_extend_loop _, zl_loop (h₁ := s.heap) D B d1 d2 hn hn1 .none (fun h' tk acc c as hk hS' hl hG hacc => ?_) n 0 _ _ _ _ [] rfl (Nat.zero_le _)
    ⟨kp2 _ _ hTI, (D1 A hh).frame _ _ _ st1 fun b _ o e => kp2 b o e, (D2 A hh).frame _ _ _ st2 fun b _ o e => kp2 b o e, .inl ⟨rfl, kp2 _ _ hz, _, _, kp2 _ _ hTO⟩⟩ (fun b o _ _ _ _ _ e => kp2 b o e) hS₄ rfl rfl ⟨List.Pairwise.nil, (fun _ ha => nomatch ha), (fun j a hj => by simp at hj)⟩⟩
  exact ⟨rfl, hQ h' tk acc c as (fun b o b1 b2 b3 b4 e => hk b o (Nat.ne_of_lt (Heap.lt_size e)) b1 b2 b3 b4 e) hS' hl hG hacc⟩
end
/-! ### tracked -/
/-- the tuples tracked at their addresses -/
def putP : Hp → List Addr → List (V × V) → Hp
  | H, a :: as, p :: ps => putP (upd H a (.tup [p.1, p.2])) as ps
  | H, _, _ => H
theorem putP_off {b : Addr} : ∀ (as : List Addr) (ps : List (V × V)) (H : Hp), b ∉ as → putP H as ps b = H b
  | [], _, _, _ => rfl
  | _ :: _, [], _, _ => rfl
  | a :: as, p :: ps, H, h => by
    show putP (upd H a _) as ps b = H b
    rw [putP_off as ps _ (fun z => h (List.mem_cons_of_mem _ z)), upd_ne (fun z => h (by rw [z]; exact List.mem_cons_self))]
theorem putP_at : ∀ (as : List Addr) (ps : List (V × V)) (H : Hp), as.Nodup → ∀ (j : Nat) (a : Addr) (p : V × V), as[j]? = some a → ps[j]? = some p → putP H as ps a = some (.tup [p.1, p.2])
  | [], _, _, _, _, _, _, h, _ => by simp at h
  | _ :: _, [], _, _, _, _, _, _, h => by simp at h
  | a :: as, p :: ps, H, hn, j, b, q, h1, h2 => by
    have hn' := List.nodup_cons.mp hn
    show putP (upd H a _) as ps b = _
    cases j with
    | zero =>
      obtain rfl : a = b := by simpa using h1
      obtain rfl : p = q := by simpa using h2
      rw [putP_off as ps _ hn'.1, upd_same]
    | succ j => exact putP_at as ps _ hn'.2 j b q (by simpa using h1) (by simpa using h2)
section
variable {X : Cx}
theorem pairs_laid {pins : List (Addr × Obj)} {σ : L2.St} {H : Hp} {s : Shared} {h' : Heap} {tk : Nat} {zs : List (V × V)} {acc : Array Value} {c : Nat} {as : List Addr} {S : Addr} (I : Inv X pins σ H s) (hS0 : s.heap.objs.size ≤ S) (hz : zs.length ≤ sizeLine)
    (hk : ∀ b o, s.heap.get? b = some o → h'.get? b = some o) (hS : h'.get? S = some { cls := .type "list", dict := none, data := .seq acc c, slots := #[] }) (hl : as.length = zs.length) (rise : as.Pairwise (· < ·)) (above : ∀ a ∈ as, S < a)
    (pairs : ∀ (j : Nat) (a : Addr) (p : V × V), as[j]? = some a → zs[j]? = some p → ∃ x1 x2, RelV p.1 x1 ∧ RelV p.2 x2 ∧ IsTupOf2 h' a x1 x2) (hacc : acc.toList = as.map Value.ref) :
    ∃ H' : Hp, Ex H H' ∧ H S = none ∧ (∀ t ∈ as, H t = none) ∧ S ∉ as ∧ H' S = some (.lst (as.map V.ref)) ∧ (∀ (j : Nat) (a : Addr) (p : V × V), as[j]? = some a → zs[j]? = some p → H' a = some (.tup [p.1, p.2])) ∧ Inv X pins σ H' { s with heap := h', toks := tk } := by
  have hSn : S ∉ as := fun z => Nat.lt_irrefl _ (above _ z)
  have nd : as.Nodup := List.Pairwise.imp (fun {a b} (h : a < b) => Nat.ne_of_lt h) rise
  have new : ∀ t ∈ as, H t = none := fun t ht => I.hok.fresh (Nat.le_trans hS0 (Nat.le_of_lt (above t ht)))
  have newS : H S = none := I.hok.fresh hS0
  have atP := putP_at as zs (upd H S (.lst (as.map V.ref))) nd
  have off : ∀ b, b ∉ as → b ≠ S → putP (upd H S (.lst (as.map V.ref))) as zs b = H b := fun b h1 h2 => by rw [putP_off as zs _ h1, upd_ne h2]
  have low : ∀ b o, s.heap.get? b = some o → b ∉ as ∧ b ≠ S := fun b o e => ⟨fun z => absurd (Heap.lt_size e) (Nat.not_lt.mpr (Nat.le_trans hS0 (Nat.le_of_lt (above b z)))), fun z => absurd (Heap.lt_size e) (Nat.not_lt.mpr (z ▸ hS0))⟩
  have kp : ∀ b u, H b = some u → (putP (upd H S (.lst (as.map V.ref))) as zs) b = some u := fun b u e => by
    rw [off b (fun z => by rw [new b z] at e; cases e) (fun z => by rw [z, newS] at e; cases e)]
    exact e
  have eS : putP (upd H S (.lst (as.map V.ref))) as zs S = some (.lst (as.map V.ref)) := by rw [putP_off as zs _ hSn, upd_same]
  refine ⟨putP (upd H S (.lst (as.map V.ref))) as zs, kp, newS, new, hSn, eS, atP, ?_⟩
  refine I.call' (ch := []) rfl ⟨fun b o q _ _ _ => hk b o q, fun b o q _ _ _ => ⟨o.slots, hk b o q⟩, fun b o q n _ => ?_, fun b o q _ => ⟨o, hk b o q⟩, fun b xs q => kp b _ q, fun b o u q => kp b _ q, fun b ps q => ⟨#[], by rw [kp b _ q]; simp⟩⟩ (fun b u q => ?_) I.bare fun b z => by simp at z
  · obtain ⟨z1, z2⟩ := low b o q
    rw [off b z1 z2]
    exact n
  · by_cases hb : b ∈ as
    · obtain ⟨j, hj⟩ := List.mem_iff_getElem?.mp hb
      have hj2 : j < zs.length := by
        have := (List.getElem?_eq_some_iff.mp hj).1
        omega
      have e2 : zs[j]? = some zs[j] := List.getElem?_eq_getElem hj2
      rw [atP j b _ hj e2] at q
      cases q
      obtain ⟨x1, x2, f1, f2, f3⟩ := pairs j b _ hj e2
      exact ⟨by show 2 ≤ sizeLine; decide, [x1, x2], .cons f1 (.cons f2 .nil), ⟨_, f3, rfl, _, rfl⟩⟩
    · by_cases hb2 : b = S
      · rw [hb2] at q ⊢
        rw [eS] at q
        cases q
        refine ⟨by rw [List.length_map]; omega, acc.toList, c, by rw [hacc]; exact LiI.vals_refs as, ?_⟩
        rw [Array.toArray_toList]
        exact hS
      · rw [off b hb hb2] at q
        exact (I.hok b u q).stay (fun d v _ y => hk d v y) (fun d y => kp d _ y) fun d xs y => kp d _ y
/-- a list or a tuple as a source of an iterator at it -/
theorem sq_src {pins : List (Addr × Obj)} {σ : L2.St} {H : Hp} {s : Shared} {a : Addr} {xs : List V} (I : Inv X pins σ H s) (hq : Sq X.K H a xs) {it : Addr} (hit : s.heap.objs.size ≤ it) :
    ∃ (its : List Value) (o : Obj) (HH : Heap → Prop) (St : Nat → Heap → Prop), Vals xs its ∧ xs.length ≤ sizeLine ∧ Begins (.ref a) o HH ∧ HH s.heap ∧ a < s.heap.objs.size ∧
      (∀ A : Around, A.handled = none → Draws X.prog X.w A it [it, a] its.length (fun i v => its[i]? = some v) St) ∧ ∀ h', HH h' → h'.get? it = some o → St 0 h' := by
  rcases hq with hq | hq
  · obtain ⟨its, rv, p, hz⟩ := I.list hq
    have hlt : a < s.heap.objs.size := p.lt
    have hd : ∀ A : Around, A.handled = none → Draws X.prog X.w A it [it, a] its.toArray.size (fun i v => its.toArray[i]? = some v) (fun i h => h.IsListIter it a i ∧ h.IsList a its.toArray) := fun A hh => Draws.list hh it a (Nat.ne_of_lt (Nat.lt_of_lt_of_le hlt hit)) its.toArray
    simp only [List.size_toArray, List.getElem?_toArray] at hd
    exact ⟨its, _, _, _, rv, hz, begins_list a its.toArray, p.isList, hlt, hd, fun h' h1 h2 => ⟨⟨_, h2, rfl, rfl⟩, h1⟩⟩
  · obtain ⟨its, rv, p, hz⟩ := I.tuple hq
    have hlt : a < s.heap.objs.size := by obtain ⟨o, ho, _⟩ := id p; exact Heap.lt_size ho
    have hd : ∀ A : Around, A.handled = none → Draws X.prog X.w A it [it, a] its.toArray.size (fun i v => its.toArray[i]? = some v) (fun i h => h.IsTupleIter it a i ∧ h.IsTuple a its.toArray) := fun A hh => Draws.tuple hh it a (Nat.ne_of_lt (Nat.lt_of_lt_of_le hlt hit)) its.toArray
    simp only [List.size_toArray, List.getElem?_toArray] at hd
    exact ⟨its, _, _, _, rv, hz, begins_tuple a its.toArray, p, hlt, hd, fun h' h1 h2 => ⟨⟨_, h2, rfl, rfl⟩, h1⟩⟩
def rListZip (K : PySem.W.Frag) : List V → Hp → VK → Prop := fun vs H Q => ∃ a b xs ys, vs = [.ref a, .ref b] ∧ Sq K H a xs ∧ Sq K H b ys ∧ xs.length = ys.length ∧ 1 ≤ xs.length ∧
  ∀ (H' : Hp) (p : Addr) (ts : List Addr), Ex H H' → H p = none → (∀ t ∈ ts, H t = none) → p ∉ ts → H' p = some (.lst (ts.map V.ref)) → ts.length = xs.length →
    (∀ (j : Nat) t x y, ts[j]? = some t → xs[j]? = some x → ys[j]? = some y → H' t = some (.tup [x, y])) → Q (.ref p) H'
def tListZip (K : PySem.W.Frag) (ar : TA) : TE := fun σ H Q => ar σ H fun vs H1 => rListZip K vs H1 Q
theorem vals_get : ∀ {xs : List V} {us : List Value}, Vals xs us → ∀ {i : Nat} {u : Value}, us[i]? = some u → ∃ x, xs[i]? = some x ∧ RelV x u
  | _, _, .nil, _, _, h => by simp at h
  | _, _, .cons r t, 0, u, h => by
    obtain rfl := Option.some.inj h
    exact ⟨_, rfl, r⟩
  | _, _, .cons r t, i + 1, u, h => vals_get t h
theorem vals_len {xs : List V} {us : List Value} (h : Vals xs us) : xs.length = us.length := by
  induction h with
  | nil => rfl
  | cons _ _ ih => rw [List.length_cons, List.length_cons, ih]
/-- list(zip(a, b)) -/
theorem pe_listZip {e e2 : Expr} {ta : TA} {p p2 cpos pos : Pos} {K : PySem.W.Frag} (hKK : X.K = K) (hc : X.calm = true) (hg : Gl X "list") (hm : X.mg "list" = none) (hg2 : Gl X "zip") (hm2 : X.mg "zip" = none) (ha : PA X [e, e2] ta)
    (hs2 : starEach [e, e2] X.env = (false, eval e X.env) :: starEach [e2] X.env := by rfl) (hpl : (backTo cpos (starEach [e2] X.env)).any (·.1) = false := by rfl)
    (hs : starEach [.Call (.Name "zip" p2) [e, e2] [] cpos] X.env = (false, eval (.Call (.Name "zip" p2) [e, e2] [] cpos) X.env) :: starEach [] X.env := by rfl) :
    PE X (.Call (.Name "list" p) [.Call (.Name "zip" p2) [e, e2] [] cpos] [] pos) (tListZip K ta) := by
  subst hKK
  refine ⟨fun pins s σ H Q I hq => ?_⟩
  refine wpAny_Call_Name_kw (ld_blt I hg hm (show bootBuiltins "list" = some (.type "list") by decide +kernel) ?_)
  refine PyProof.Rows.callWith_type1 ?_ hs rfl
  rw [hs]
  show wpAny _ _ (spliced ((false, eval (.Call (.Name "zip" p2) [e, e2] [] cpos) X.env) :: backTo pos (starEach [] X.env))) _ _ s
  refine Calls.spliced_cons ?_
  refine Call_ (ld_blt I hg2 hm2 PyProof.Rows.boot_zip (PyProof.Rows.callWith_type1 (thn (ha.run cpos pins s σ H _ I hq) fun us s1 ⟨vs, H1, I1, r1, q1⟩ => ?_) hs2 hpl))
  obtain ⟨a, b, xs, ys, ex, hx, hy, hl, h1, q⟩ := q1
  subst ex
  cases r1 with
  | cons r rr =>
    cases rr with
    | cons r' rr =>
      cases rr
      cases r
      cases r'
      obtain ⟨its, o1, HH1, St1, rv1, hz1, B1, hh1, lt1, D1, S1⟩ := sq_src I1 hx (it := s1.heap.objs.size) (Nat.le_refl _)
      obtain ⟨its2, o2, HH2, St2, rv2, hz2, B2, hh2, lt2, D2, S2⟩ := sq_src I1 hy (it := s1.heap.objs.size + 1) (Nat.le_succ _)
      have ll : its2.length = its.length := by rw [← vals_len rv1, ← vals_len rv2, hl]
      rw [ll] at D2
      refine zip_begins2 B1 B2 hh1 hh2 fun h' hz hTI hTO g1 g2 hsz hk => ?_
      refine Calls.spliced_nil ?_
      have bnd : ∀ k : Nat, k < 5 → s1.heap.objs.size + k < h'.objs.size := fun k hk => by
        rw [hsz]
        exact Nat.add_lt_add_left hk _
      refine zl_call (s := { s1 with heap := h' }) (fp1 := [s1.heap.objs.size, a]) (fp2 := [s1.heap.objs.size + 1, b]) (zip_sep2 (fun c hc => by rw [List.mem_singleton.mp hc]; exact lt1) (fun c hc => by rw [List.mem_singleton.mp hc]; exact lt2))
        ⟨bnd 4 (by decide), bnd 2 (by decide), bnd 3 (by decide), bnd 0 (by decide), bnd 1 (by decide), fun c hc => ?_, fun c hc => ?_⟩ D1 D2 (I1.ok.hd hc) hz hTI hTO (S1 h' (B1.keeps _ _ hh1 hk) g1) (S2 h' (B2.keeps _ _ hh2 hk) g2) (by rw [← vals_len rv1]; exact hz1) (by rw [← vals_len rv1]; exact h1) fun h'' tk acc c as hk2 hS hlen hG hacc => ?_
      · rcases List.mem_cons.mp hc with rfl | hc
        · exact bnd 0 (by decide)
        · rw [List.mem_singleton.mp hc]
          exact Nat.lt_trans lt1 (bnd 0 (by decide))
      · rcases List.mem_cons.mp hc with rfl | hc
        · exact bnd 1 (by decide)
        · rw [List.mem_singleton.mp hc]
          exact Nat.lt_trans lt2 (bnd 0 (by decide))
      · have low : ∀ b o, s1.heap.get? b = some o → ∀ k : Nat, b ≠ s1.heap.objs.size + k := fun b o e k z => absurd (Heap.lt_size e) (Nat.not_lt.mpr (by rw [z]; exact Nat.le_add_right _ _))
        obtain ⟨H', k1, k2, k3, k4, k5, k6, J⟩ := pairs_laid (tk := tk) (zs := xs.zip ys) (S := h'.objs.size) I1 (by rw [hsz]; exact Nat.le_add_right _ _) (by rw [List.length_zip, hl, Nat.min_self, ← hl]; exact hz1) (fun b o e => hk2 b o (low b o e 4) (low b o e 3) (low b o e 0) (low b o e 1) (hk b o e)) hS (by rw [hlen, List.length_zip, hl, Nat.min_self, ← hl, vals_len rv1]) hG.rise hG.above (fun j t pr hj hp => by
          obtain ⟨x1, x2, p1, p2, p3⟩ := hG.pairs j t hj
          obtain ⟨v1, e1, f1⟩ := vals_get rv1 p1
          obtain ⟨v2, e2, f2⟩ := vals_get rv2 p2
          have : (xs.zip ys)[j]? = some (v1, v2) := by
            rw [List.getElem?_zip_eq_some]
            exact ⟨e1, e2⟩
          rw [this] at hp
          cases hp
          exact ⟨x1, x2, f1, f2, p3⟩) hacc
        exact ⟨.ref _, H', J, rfl, q H' _ as k1 k2 k3 k4 k5 (by rw [hlen, vals_len rv1]) fun j t x y e1 e2 e3 => k6 j t (x, y) e1 (by rw [List.getElem?_zip_eq_some]; exact ⟨e2, e3⟩)⟩
end
section
variable {K : PySem.W.Frag} {σ : L2.St} {H : Hp} {Q : VK} {ar : TA}
theorem r_listZip (h : ar σ H fun vs H1 => rListZip K vs H1 Q) : tListZip K ar σ H Q := h
end
end Hn

/-! sum of a tuple; len, * and the like of own classes. -/
namespace Hn
open PySem PySem.Spec PyProof.Rows L2 Evl
section
variable {X : Cx} {K : PySem.W.Frag} {k : Nat} {f C : Addr} {ps : List Str} {sp : Sp}
theorem sum_rawT {prog : Program} {w : World} {A : Around} {E : Value → Shared → Prop} {s : Shared} {l : Addr} {its : List Value} {ns : List Int} {Q : Value → Shared → Prop} (hh : A.handled = none) (hl : s.heap.IsTuple l its.toArray) (hi : IntsAre its ns)
    (h : ∀ h' tk t', (∀ b o, s.heap.get? b = some o → h'.get? b = some o) → Q (.int ns.sum t') { s with heap := h', toks := tk }) : wpAny (model prog w) A (call (.builtin "sum") [.ref l]) Q E s := by
  obtain ⟨xs, e⟩ := hi.allInts.items
  have hn : numsOf (intItems xs).toList = ns := by rw [← e]; exact hi.numsOf
  rw [nums_intItems] at hn
  rw [e] at hl
  refine PySem.W.ktm_sumG hh hl fun h' tk t' hk => ?_
  have := h h' tk t' hk
  rw [preSum_eq, List.take_of_length_le (by simp), hn]; exact this
def rSumS (K : PySem.W.Frag) : List V → Hp → VK → Prop := fun vs H Q => ∃ (a : Addr) (ns : List Int), vs = [V.ref a] ∧ Sq K H a (ns.map V.int) ∧ Q (.int ns.sum) H
theorem k_sumS (h : X.K = K) (hc : X.calm = true) : CallR X (.builtin "sum") (rSumS K) := by
  subst h
  intro pins s σ H vs us Q I r h
  obtain ⟨a, ns, rfl, hs, q⟩ := h
  rcases hs with hs | hs
  · exact cr_sum hc pins s σ H _ us Q I r ⟨a, ns, rfl, hs, q⟩
  · obtain ⟨its, rv, hl, _⟩ := I.tuple hs
    rw [Vals.ref1 r]
    exact sum_rawT (I.ok.hd hc) hl rv.ints fun h' tk t' hk => ⟨.int _, H, I.kept hk, ⟨_, rfl⟩, q⟩
theorem r_sumS {H : Hp} {Q : VK} {a : Addr} {ns : List Int} (h : Sq K H a (ns.map V.int)) (q : Q (.int ns.sum) H) : rSumS K [.ref a] H Q := ⟨a, ns, rfl, h, q⟩
/-- len(x) by the class's own __len__ -/
def rLenO (C : Addr) (sp : Sp) (E : XK) : List V → Hp → VK → Prop := fun vs H Q => ∃ a dx fs, vs = [.ref a] ∧ H a = some (.ins C dx fs) ∧ sp [.ref a] H (fun v H' => ∃ n : Int, v = .int n ∧ 0 ≤ n ∧ n < 2 ^ 63 ∧ Q (.int n) H') E
theorem k_lenO (G : Okf X.prog X.w X.K X.mg X.base k f ps sp) (hr : Room (k + 1) X.A) (hs : PySem.W.findIn X.K (.ref C) "__len__" = some (some (.ref f))) (hf : PySem.W.isFn X.K (.ref f) = true) : CallR X (.builtin "len") (rLenO C sp E0) := by
  obtain ⟨fd, F, hb⟩ := G
  intro pins s σ H vs us Q I r h
  obtain ⟨a, dx, fs, rfl, ha, q⟩ := h
  rw [Vals.ref1 r]
  obtain ⟨mA, J, _⟩ := ins_get I.hok ha
  obtain ⟨od, J, _⟩ := J.look
  obtain ⟨m, hF⟩ := I.fr
  refine PySem.W.len_K hF I.ok.mod.kin J hs hf ?_
  refine wpAny_mono (run_fn1 (us := [.ref a]) (vs := [.ref a]) F hr hb passL I (.cons rfl .nil) q) (fun v s' hv => ?_) fun _ _ e => e
  obtain ⟨z, H', I', rz, n, rfl, h0, h1, q'⟩ := hv
  obtain ⟨t, rfl⟩ := rz
  exact ⟨⟨h0, h1⟩, .int n, H', I'.tok _, ⟨_, rfl⟩, q'⟩
/-- an own operator with an int at its right -/
theorem k_ownI {op : Operator} (G : Okf X.prog X.w X.K X.mg X.base k f ps sp) (hr : Room k X.A)
    (hc : PySem.W.selfFirst X.K C = true) (hs : PySem.W.findIn X.K (.ref C) (PySem.dunder op.info.2) = some (some (.ref f))) (hf : PySem.W.isFn X.K (.ref f) = true)
    (hrc : ∃ rc, PySem.W.findIn X.K (.ref C) (dunderR op.info.2) = some rc ∧ (rc = none ∨ ∃ g : Addr, rc = some (.ref g)))
    (hi : (∃ fo, PySem.W.findIn X.K (.type "int") (PySem.dunder op.info.2) = some fo) ∧ ∃ ro, PySem.W.findIn X.K (.type "int") (dunderR op.info.2) = some ro) (hsub : PySem.W.subIn X.K (.type "int") (.ref C) = some false) :
    OpR X (binaryOp op) (rOwnI C sp E0) :=
  let ⟨_, a, b⟩ := G
  let ⟨_, h1, h2⟩ := hrc
  let ⟨⟨_, h3⟩, _, h4⟩ := hi
  op_ownI a hr b passL hc hs hf h1 h2 h3 h4 hsub
end
section
open PySem.W
variable {prog : Program} {w : World} {A : Around} {E : Value → Shared → Prop} {s : Shared} {K : Frag} {x C L f : Addr} {h₀ : Heap} {m : Str → Option Value} {ox : Obj} {od : Option Obj} {i : Int} {t : Tok}
/-- int.__mul__ knows nothing of own things -/
theorem mul_own_not {dx : Addr} {Q : Option Value → Shared → Prop} (hx : s.heap.get? x = some (PySem.W.instObj C dx)) (h : Q none s) : wpAny (model prog w) A (tryMethod (.int i t) "__mul__" (.ref x)) Q E s := by
  unfold tryMethod
  refine wpAny_bind (wpAny_callSpecial?_slot (name := Str.ofString "__mul__") (typeIs_int s i t) F.slot_int_mul (wpAny_call_entry F.slot_int_mul (typeIs_int s i t) F.entry_int_mul ?_ (F.args_int_mul_2 _ _)))
  unfold Builtin.«int.__mul__»
  unfold Builtin.Int.intBinary
  refine wpAny_bind (wpAny_of_eq (a := (Value.int i t, [Value.ref x])) (by first | rfl | kernel_rfl) ?_)
  refine wpAny_bind (wpAny_of_eq (a := i) (by first | rfl | kernel_rfl) ?_)
  show wpAny _ _ (asInt? (.ref x) >>= _) _ _ _
  refine wpAny_bind ?_
  unfold asInt?
  refine wpAny_bind (wpAny_load hx ?_)
  refine wpAny_pure ?_
  refine wpAny_bind (wpAny_rule ?_)
  exact wpAny_pure ⟨_, rfl, wpAny_pure h⟩
/-- an int times an own thing -/
theorem bin_rmul {dx fm : Addr} {Q : Value → Shared → Prop} (X : K.In s.heap) (I : InstAt s.heap x ox C od) (hx : s.heap.get? x = some (PySem.W.instObj C dx)) (hc : selfFirst K C = true) (hm : findIn K (.ref C) "__mul__" = some (some (.ref fm)))
    (hs : findIn K (.ref C) "__rmul__" = some (some (.ref f))) (hf : isFn K (.ref f) = true) (hsub : subIn K (.ref C) (.type "int") = some false)
    (h : wpAny (model prog w) A (call (.ref f) [.ref x, .int i t]) (PySem.W.CmpBack Q) E s) : wpAny (model prog w) A (binaryOp .Mult (.int i t) (.ref x)) Q E s := by
  obtain ⟨cd, rest, hcd, hmro⟩ := ksp_first hc
  have one := ksp_try (b := .int i t) X I hs hf h
  have no : ∀ {Q : Option Value → Shared → Prop}, Q none s → wpAny (model prog w) A (tryMethod (.int i t) (Str.ofString "__mul__") (.ref x)) Q E s := fun q => mul_own_not hx q
  obtain ⟨hh, g, d, tt, os⟩ := s
  have L1 : Looks (model prog w) hh (typeOf (.ref x)) (.ref C) := I.type
  have L2 : Looks (model prog w) hh (typeOf (.int i t)) (.type "int") := Looks.of_pure rfl
  have L3 : Looks (model prog w) hh (fillsNumberSlot (.ref C) "mul") true := fills_K X hcd hmro hm
  have L4 : Looks (model prog w) hh (fillsNumberSlot (.type "int") "mul") true := Looks.of_pure F.fills_int_mul
  have L5 : Looks (model prog w) hh (isSubtype (.ref C) (.type "int")) false := looks_subIn X hsub
  have L6 : Looks (model prog w) hh (numberSlotInPython (.type "int") "mul") false := Looks.of_pure rfl
  have hne : (Value.type "int" == Value.ref C) = false := Bool.eq_false_iff.mpr fun q => by cases beq_iff_eq.mp q
  have hi : Operator.info .Mult = ("*", "mul") := rfl
  simp only [binaryOp, hi]
  refine wpAny_holding (wpAny_bind ?_)
  unfold binaryOp1
  refine wpAny_bind (L2.at (wpAny_bind (L1.at (wpAny_bind (L4.at ?_)))))
  simp only [hne, Bool.false_eq_true, if_false]
  refine wpAny_bind (L3.at ?_)
  simp only [Bool.and_self, if_true]
  refine wpAny_bind (L5.at ?_)
  simp only [Bool.false_eq_true, if_false]
  repeat ((fail_if_success (with_reducible show wpAny _ _ (tryMethod _ _ _) _ _ _)); lk)
  refine no ?_
  repeat ((fail_if_success (with_reducible show wpAny _ _ (tryMethod _ _ _) _ _ _)); lk)
  refine wpAny_mono one (fun r s' hr' => ?_) fun _ _ e => e
  obtain ⟨v, rfl, hq⟩ := hr'
  repeat lk
  exact hq
end
section
variable {X : Cx} {k : Nat} {f C : Addr} {ps : List Str} {sp : Sp}
def rOwnR (C : Addr) (sp : Sp) (E : XK) : R2 := fun x y H Q => ∃ i a dx fs, x = .int i ∧ y = .ref a ∧ H a = some (.ins C dx fs) ∧ sp [.ref a, .int i] H Q E
theorem k_rmul (G : Okf X.prog X.w X.K X.mg X.base k f ps sp) (hr : Room k X.A) (hc : PySem.W.selfFirst X.K C = true) (hs : PySem.W.findIn X.K (.ref C) "__rmul__" = some (some (.ref f))) (hf : PySem.W.isFn X.K (.ref f) = true)
    (hm : ∃ fm : Addr, PySem.W.findIn X.K (.ref C) "__mul__" = some (some (.ref fm))) (hsub : PySem.W.subIn X.K (.ref C) (.type "int") = some false) : OpR X (binaryOp .Mult) (rOwnR C sp E0) := by
  obtain ⟨fd, F, hb⟩ := G
  obtain ⟨fm, hm⟩ := hm
  intro pins s σ H x y v u Q I rx ry h
  obtain ⟨i, a, dx, fs, rfl, rfl, ha, q⟩ := h
  cases ry
  obtain ⟨t, rfl⟩ := rx
  obtain ⟨mA, J0, _⟩ := ins_get I.hok ha
  obtain ⟨_, _, _, ho, _⟩ := (show ObjOk X.prog X.w H s.heap a (.ins C dx fs) from I.hok a _ ha)
  obtain ⟨od, J, _⟩ := J0.look
  refine bin_rmul I.kIn J ho hc hm hs hf hsub ?_
  exact wpAny_mono (run_fn (us := [.ref a, .int i t]) (vs := [.ref a, .int i]) F hr hb .nil passL I (.cons rfl (.cons ⟨t, rfl⟩ .nil)) q) (fun v s' hv => back_ne hv) fun _ _ e => e
end
end Hn

/-! Objects of one row of ints in one field (Needs, Plan); pairs; isinstance of own classes. -/
namespace Hn
open PySem PySem.Spec PyProof.Rows L2 Evl
/-- what isinstance(x, C) asks of a class C -/
structure IsC (K : PySem.W.Frag) (C : Addr) : Prop where
  cl : Cls K C
  ha : PySem.W.findIn K (.ref C) "__class__" = some (some (.builtin "object.__class__"))
  hn : PySem.W.specialIn K (.builtin "object.__class__") "__get__" = some (some (.builtin "getset_descriptor.__get__"))
  tk : PySem.W.takesIn K (.builtin "object.__class__") = some true
  mr : PySem.W.mroIn K C (.type "object") = some true
theorem r_isiOwn {K : PySem.W.Frag} {C a dx : Addr} {H : Hp} {fs : List (Str × V)} {Q : VK} (h : IsC K C) (ha : H a = some (.ins C dx fs)) (q : Q (.bl true) H) : rIsi K [.ref a, .ref C] H Q :=
  ⟨.ref a, .ref C, _, _, true, rfl, .own C, .base (.ins ha h.cl h.ha h.hn h.tk h.mr), by unfold PySem.W.kitOne; rw [if_pos (beq_self_eq_true _)], q⟩
/-- a row of needs or begins -/
structure GoodN (ns : List Int) : Prop where
  ne : 1 ≤ ns.length
  le : ns.length ≤ 48
  nn : ∀ i, 0 ≤ cyc ns i
theorem GoodN.mem {ns : List Int} (g : GoodN ns) : ∀ x ∈ ns, 0 ≤ x := fun x hx => by
  obtain ⟨j, hj, rfl⟩ := List.mem_iff_getElem.mp hx
  have := g.nn (j : Int)
  rw [cyc_at hj, List.getD_eq_getElem?_getD, List.getElem?_eq_getElem hj] at this
  exact this
theorem GoodN.of {ns : List Int} (h1 : 1 ≤ ns.length) (h2 : ns.length ≤ 48) (h : ∀ x ∈ ns, 0 ≤ x) : GoodN ns := ⟨h1, h2, fun i => h _ (cyc_mem h1 i)⟩
def okRow (ns : List Int) : Bool := decide (1 ≤ ns.length) && decide (ns.length ≤ 48) && ns.all fun x => decide (0 ≤ x)
theorem okRow_iff {s : List Int} : okRow s = true ↔ GoodN s := by
  unfold okRow
  simp only [Bool.and_eq_true, decide_eq_true_eq, List.all_eq_true]
  constructor
  · rintro ⟨⟨a, b⟩, c⟩
    exact GoodN.of a b c
  · intro g
    exact ⟨⟨g.ne, g.le⟩, g.mem⟩
def rwF (fld : Str) (a : Addr) : List (Str × V) := putF fld (.ref a) []
theorem rwF_at (fld : Str) (a : Addr) : (rwF fld a).lookup fld = some (.ref a) := by
  unfold rwF
  rw [lookup_putF, if_pos rfl]
theorem rwF_no {fld m : Str} (a : Addr) (h : ¬ m = fld) : (rwF fld a).lookup m = none := by
  unfold rwF
  rw [lookup_putF, if_neg h]
  rfl
/-- an object whose one field holds the row ns -/
def Rw (K : PySem.W.Frag) (C : Addr) (fld : Str) (H : Hp) (v : V) (ns : List Int) : Prop :=
  ∃ p dx a, v = .ref p ∧ H p = some (.ins C dx (rwF fld a)) ∧ SqT K H a (ns.map V.int) ∧ GoodN ns
section
variable {K : PySem.W.Frag} {C : Addr} {fld : Str} {H H' : Hp} {v : V} {ns : List Int}
theorem Rw.mono (e : Xl H H') (h : Rw K C fld H v ns) : Rw K C fld H' v ns :=
  let ⟨p, dx, a, h1, h2, h3, h4⟩ := h
  ⟨p, dx, a, h1, e _ _ h2 rfl, tup_mono e h3, h4⟩
theorem Rw.ex (e : Ex H H') (h : Rw K C fld H v ns) : Rw K C fld H' v ns := h.mono (.of e)
theorem Rw.good (h : Rw K C fld H v ns) : GoodN ns := let ⟨_, _, _, _, _, _, g⟩ := h; g
theorem r_rwM {m : Str} {p : Prop} (h : Rw K C fld H v ns) (hm : ¬ m = fld) (q : p) : ∃ a dx fs, v = .ref a ∧ H a = some (.ins C dx fs) ∧ fs.lookup m = none ∧ p :=
  let ⟨x, dx, a, e, hp, _⟩ := h
  ⟨x, dx, _, e, hp, rwF_no a hm, q⟩
theorem r_rwG {p : Prop} (h : Rw K C fld H v ns) (q : p) : ∃ a dx fs, v = .ref a ∧ H a = some (.ins C dx fs) ∧ p :=
  let ⟨x, dx, _, e, hp, _⟩ := h
  ⟨x, dx, _, e, hp, q⟩
theorem r_rwP {p : Addr → Prop} (h : Rw K C fld H v ns) (q : ∀ a, v = .ref a → p a) : ∃ a dx fs, v = .ref a ∧ H a = some (.ins C dx fs) ∧ p a :=
  let ⟨x, dx, _, e, hp, _⟩ := h
  ⟨x, dx, _, e, hp, q x e⟩
/-- its field -/
theorem r_rwF {p : V → Prop} (h : Rw K C fld H v ns) (cl : Cls K C) (na : NoAttr K C fld) (q : ∀ a, SqT K H a (ns.map V.int) → p (.ref a)) : ∃ a C dx fs u, v = .ref a ∧ H a = some (.ins C dx fs) ∧ Cls K C ∧ NoAttr K C fld ∧ fs.lookup fld = some u ∧ p u :=
  let ⟨x, dx, a, e, hp, ha, _⟩ := h
  ⟨x, C, dx, _, _, e, hp, cl, na, rwF_at fld a, q a ha⟩
/-- an own operator of two -/
theorem r_own2 {fld' : Str} {w : V} {ms : List Int} {sp : Sp} {E : XK} {Q : VK} (h : Rw K C fld H v ns) (h' : Rw K C fld' H w ms) (q : sp [v, w] H Q E) : rOwn C sp E v w H Q := by
  obtain ⟨x, dx, a, rfl, hp, _⟩ := h
  obtain ⟨y, dy, b, rfl, hq, _⟩ := h'
  exact ⟨x, y, dx, dy, _, _, rfl, rfl, hp, hq, q⟩
theorem r_own2N {fld' : Str} {w : V} {ms : List Int} {sp : Sp} {E : XK} {Q : VK} (h : Rw K C fld H v ns) (h' : Rw K C fld' H w ms) (q : sp [v, w] H (fun x H' => ∃ r, x = .bl r ∧ Q (.bl (!r)) H') E) : rOwnNe C sp E v w H Q := by
  obtain ⟨x, dx, a, rfl, hp, _⟩ := h
  obtain ⟨y, dy, b, rfl, hq, _⟩ := h'
  exact ⟨x, y, dx, dy, _, _, rfl, rfl, hp, hq, q⟩
theorem r_ownI {i : Int} {sp : Sp} {E : XK} {Q : VK} (h : Rw K C fld H v ns) (q : sp [v, .int i] H Q E) : rOwnI C sp E v (.int i) H Q := by
  obtain ⟨x, dx, a, rfl, hp, _⟩ := h
  exact ⟨x, i, dx, _, rfl, rfl, hp, q⟩
theorem r_ownR {i : Int} {sp : Sp} {E : XK} {Q : VK} (h : Rw K C fld H v ns) (q : sp [v, .int i] H Q E) : rOwnR C sp E (.int i) v H Q := by
  obtain ⟨x, dx, a, rfl, hp, _⟩ := h
  exact ⟨i, x, dx, _, rfl, rfl, hp, q⟩
theorem r_lenO {sp : Sp} {E : XK} {Q : VK} (h : Rw K C fld H v ns) (q : sp [v] H (fun x H' => ∃ n : Int, x = .int n ∧ 0 ≤ n ∧ n < 2 ^ 63 ∧ Q (.int n) H') E) : rLenO C sp E [v] H Q := by
  obtain ⟨x, dx, a, rfl, hp, _⟩ := h
  exact ⟨x, dx, _, rfl, hp, q⟩
end
def MkRw (K : PySem.W.Frag) (C : Addr) (fld : Str) (H : Hp) (v : V) (Q : Addr → Hp → Prop) : Prop := ∃ a s, v = .ref a ∧ Sq K H a (s.map V.int) ∧ GoodN s ∧ ∀ u H', Ex H H' → Rw K C fld H' (.ref u) s → Q u H'
def spRwInit (K : PySem.W.Frag) (C : Addr) (fld : Str) : Sp := fun vs H Q _ => ∃ (H0 : Hp) (x dx a : Addr) (s : List Int), vs = [.ref x, .ref a] ∧ H = upd (upd H0 dx (.own x)) x (.ins C dx []) ∧ H0 x = none ∧ H0 dx = none ∧ dx ≠ x ∧ Sq K H0 a (s.map V.int) ∧ GoodN s ∧
  ∀ H', Ex H0 H' → Rw K C fld H' (.ref x) s → Q .non H'
theorem mkRw {K : PySem.W.Frag} {C : Addr} {fld : Str} {H : Hp} {v : V} {Q : Addr → Hp → Prop} {E : XK} (h : MkRw K C fld H v Q) : ∀ x dx, H x = none → H dx = none → dx ≠ x → spRwInit K C fld (.ref x :: ([v] ++ [])) (upd (upd H dx (.own x)) x (.ins C dx [])) (fun v H2 => v = .non ∧ Q x H2) E := by
  intro x dx nx ndx ne
  obtain ⟨a, s, rfl, hS, g, k⟩ := h
  exact ⟨H, x, dx, a, s, rfl, rfl, nx, ndx, ne, hS, g, fun H' e c => ⟨rfl, k _ _ e c⟩⟩
/-! ### a list of pairs of ints -/
def Prs (H : Hp) (p : Addr) (ns ms : List Int) : Prop := ∃ ts : List Addr, H p = some (.lst (ts.map V.ref)) ∧ ts.length = ns.length ∧ ∀ (j : Nat) t, ts[j]? = some t → H t = some (.tup [.int (ns.getD j 0), .int (ms.getD j 0)])
theorem Prs.ex {H H' : Hp} {p : Addr} {ns ms : List Int} (e : Ex H H') (h : Prs H p ns ms) : Prs H' p ns ms :=
  let ⟨ts, h1, h2, h3⟩ := h
  ⟨ts, e _ _ h1, h2, fun j t ht => e _ _ (h3 j t ht)⟩
theorem r_pairT {K : PySem.W.Frag} {σ : L2.St} {H : Hp} {T : Addr} {x y : V} {n m : Nat} {q : L2.St → Hp → Prop} (hT : H T = some (.tup [x, y])) (h : q ((σ.set n (some x)).set m (some y)) H) : gTup K 2 (gCons (gName n) (gCons (gName m) gNil)) (.ref T) σ H q :=
  ⟨T, [x, y], rfl, .inl (.inl hT), rfl, x, [y], rfl, y, [], rfl, rfl, h⟩
/-- a comprehension over such pairs -/
theorem lc_prs {K : PySem.W.Frag} {g : TG} {te : TE} {vs : List Nat} {σ : L2.St} {H1 : Hp} {Q : VK} {p : Addr} {ns ms : List Int} (hP : Prs H1 p ns ms) (f : Nat → V) (hn : ns.length ≤ 100000)
    (turn : ∀ i T H, i < ns.length → Ex H1 H → H T = some (.tup [.int (ns.getD i 0), .int (ms.getD i 0)]) → ∀ k : VK, (∀ H4, Ex H H4 → k (f i) H4) → g (.ref T) (wipe σ vs) H fun σ2 H2 => wipe σ2 vs = wipe σ vs ∧ te σ2 H2 k)
    (fin : ∀ D H, H1 D = none → Ex H1 H → H D = some (.lst ((List.range ns.length).map f)) → Q (.ref D) H) : ∃ a, V.ref p = .ref a ∧ (∃ xs, SqL K H1 a xs) ∧ LcTail (Itl K a) H1 g tYes te vs σ Q := by
  obtain ⟨ts, h1, h2, h3⟩ := hP
  refine ⟨p, rfl, ⟨_, .inl (.inl h1)⟩, lc_fun (walk_list (xs := ts.map V.ref)) f (fun H e => .inl (.inl (e _ _ h1))) (by rw [List.length_map]; omega) ?_ ?_⟩
  · rintro i x H H' hi e ⟨rfl, hx⟩ k hk
    rw [List.length_map] at hi
    rw [List.getElem?_map] at hx
    cases ht : ts[i]? with
    | none => rw [ht] at hx; cases hx
    | some T =>
      rw [ht] at hx
      obtain rfl := Option.some.inj hx
      exact turn i T _ (by omega) e (e _ _ (h3 i T ht)) k hk
  · intro D H nD e hD
    rw [List.length_map, h2] at hD
    exact fin D H nD e hD
/-! ### rows reckoned -/
def zipR (f : Int → Int → Int) (s t : List Int) : List Int := rowOf s.length fun i => f (cyc s i) (cyc t i)
def mapR (f : Int → Int) (s : List Int) : List Int := rowOf s.length fun i => f (cyc s i)
theorem zipR_length (f : Int → Int → Int) (s t : List Int) : (zipR f s t).length = s.length := rowOf_length _ _
theorem mapR_length (f : Int → Int) (s : List Int) : (mapR f s).length = s.length := rowOf_length _ _
theorem cyc_zipR {f : Int → Int → Int} {s t : List Int} (h : 1 ≤ s.length) (hl : t.length = s.length) (i : Int) : cyc (zipR f s t) i = f (cyc s i) (cyc t i) := by
  unfold zipR
  rw [cyc_rowOf _ h, cyc_mod]
  rw [← hl, cyc_mod]
theorem cyc_mapR {f : Int → Int} {s : List Int} (h : 1 ≤ s.length) (i : Int) : cyc (mapR f s) i = f (cyc s i) := by
  unfold mapR
  rw [cyc_rowOf _ h, cyc_mod]
theorem GoodN.zip {f : Int → Int → Int} {s t : List Int} (g : GoodN s) (gt : GoodN t) (hl : t.length = s.length) (h : ∀ a b, 0 ≤ a → 0 ≤ b → 0 ≤ f a b) : GoodN (zipR f s t) := by
  refine ⟨by rw [zipR_length]; exact g.ne, by rw [zipR_length]; exact g.le, fun i => ?_⟩
  rw [cyc_zipR g.ne hl]
  exact h _ _ (g.nn i) (gt.nn i)
theorem GoodN.map {f : Int → Int} {s : List Int} (g : GoodN s) (h : ∀ a, 0 ≤ a → 0 ≤ f a) : GoodN (mapR f s) := by
  refine ⟨by rw [mapR_length]; exact g.ne, by rw [mapR_length]; exact g.le, fun i => ?_⟩
  rw [cyc_mapR g.ne]
  exact h _ (g.nn i)
theorem GoodN.turn {s : List Int} (g : GoodN s) (b : Int) : GoodN (turnS s b) := by
  refine ⟨by rw [turnS_length]; exact g.ne, by rw [turnS_length]; exact g.le, fun i => ?_⟩
  rw [cyc_turn g.ne]
  exact g.nn _
theorem GoodN.rev {s : List Int} (g : GoodN s) : GoodN s.reverse := by
  refine ⟨by rw [List.length_reverse]; exact g.ne, by rw [List.length_reverse]; exact g.le, fun i => ?_⟩
  rw [cyc_rev g.ne]
  exact g.nn _
theorem row_lit {n : Nat} (f : Int → Int) : (rowOf n f).map V.int = (List.range n).map fun (i : Nat) => V.int (f (i : Int)) := by
  unfold rowOf
  rw [List.map_map]
  rfl
theorem getD_cyc {s : List Int} {i : Nat} (h : i < s.length) : s.getD i 0 = cyc s (i : Int) := (cyc_at h).symm
/-! ### rows by their items -/
section
variable {n : Nat} {a b : Int → Int}
theorem rowOf_inj : rowOf n a = rowOf n b ↔ ∀ j : Nat, j < n → a (j : Int) = b (j : Int) := by
  refine ⟨fun h j hj => ?_, fun h => rowOf_congr fun i h0 h1 => ?_⟩
  · rw [← rowOf_getD a hj, ← rowOf_getD b hj, h]
  · have := h i.toNat (by omega)
    rw [show ((i.toNat : Nat) : Int) = i by omega] at this
    exact this
theorem row_ne (g : GoodN (rowOf n a)) : 1 ≤ n := by
  have := g.ne
  rw [rowOf_length] at this
  exact this
theorem cyc_row {i : Int} (h0 : 0 ≤ i) (h1 : i < (n : Int)) : cyc (rowOf n a) i = a i := by
  rw [cyc_rowOf a (by omega), Int.emod_eq_of_lt h0 h1]
theorem zipR_row (f : Int → Int → Int) : zipR f (rowOf n a) (rowOf n b) = rowOf n fun i => f (a i) (b i) := by
  unfold zipR
  rw [rowOf_length]
  exact rowOf_congr fun i h0 h1 => by rw [cyc_row h0 h1, cyc_row h0 h1]
theorem mapR_row (f : Int → Int) : mapR f (rowOf n a) = rowOf n fun i => f (a i) := by
  unfold mapR
  rw [rowOf_length]
  exact rowOf_congr fun i h0 h1 => by rw [cyc_row h0 h1]
theorem turnS_row (h : 1 ≤ n) (c : Int) : turnS (rowOf n a) c = rowOf n fun i => a ((i + c) % (n : Int)) := by
  unfold turnS
  rw [rowOf_length]
  exact rowOf_congr fun i _ _ => by rw [cyc_rowOf a h]
theorem rev_row : (rowOf n a).reverse = rowOf n fun i => a ((n : Int) - 1 - i) := by
  refine row_ext _ (by rw [List.length_reverse, rowOf_length]) fun j hj => ?_
  rw [List.getD_eq_getElem?_getD, List.getElem?_reverse (by rw [rowOf_length]; exact hj), ← List.getD_eq_getElem?_getD, rowOf_length, rowOf_getD a (by omega)]
  congr 1
  omega
def wthn (n : Nat) (a b : Int → Int) : Bool := (List.range n).all fun (j : Nat) => decide (a (j : Int) ≤ b (j : Int))
theorem wthn_iff : wthn n a b = true ↔ ∀ j : Nat, j < n → a (j : Int) ≤ b (j : Int) := by
  unfold wthn
  simp only [List.all_eq_true, List.mem_range, decide_eq_true_eq]
theorem all_row : ((List.range (rowOf n a).length).all fun i => decide ((rowOf n a).getD i 0 ≤ (rowOf n b).getD i 0)) = wthn n a b := by
  rw [rowOf_length]
  unfold wthn
  rw [Bool.eq_iff_iff, List.all_eq_true, List.all_eq_true]
  refine ⟨fun h j hj => ?_, fun h j hj => ?_⟩
  · have := h j hj
    rw [rowOf_getD a (List.mem_range.mp hj), rowOf_getD b (List.mem_range.mp hj)] at this
    exact this
  · rw [rowOf_getD a (List.mem_range.mp hj), rowOf_getD b (List.mem_range.mp hj)]
    exact h j hj
/-- by | and by & -/
theorem wthn_or : decide (rowOf n (fun i => if b i > a i then b i else a i) = rowOf n b) = wthn n a b := by
  rw [Bool.eq_iff_iff, decide_eq_true_eq, rowOf_inj, wthn_iff]
  refine ⟨fun h j hj => ?_, fun h j hj => ?_⟩
  · have := h j hj
    split at this <;> omega
  · have := h j hj
    split <;> omega
theorem wthn_and : decide (rowOf n (fun i => if b i < a i then b i else a i) = rowOf n b) = wthn n b a := by
  rw [Bool.eq_iff_iff, decide_eq_true_eq, rowOf_inj, wthn_iff]
  refine ⟨fun h j hj => ?_, fun h j hj => ?_⟩
  · have := h j hj
    split at this <;> omega
  · have := h j hj
    split <;> omega
end
theorem r_same {p : Prop} {A B : Prop} [Decidable p] (h : p) (q : B) : if (!decide p) = true then A else B := by
  rw [decide_eq_true h]
  exact iteF q
theorem r_sameB {x y : Bool} {A B : Prop} (h : x = y) (q : B) : if (!decide (x = y)) = true then A else B := r_same h q
theorem r_yesB {x : Bool} {A B : Prop} (h : x = true) (q : A) : if x = true then A else B := by
  rw [h]
  exact iteT q
theorem r_notB {x : Bool} {A B : Prop} (h : x = true) (q : B) : if (!x) = true then A else B := by
  rw [h]
  exact iteF q
theorem r_fin {Q : VK} {H : Hp} {b : Bool} (h : b = true) (q : Q (.bl true) H) : Q (.bl b) H := by
  rw [h]
  exact q
/-! ### rows cut and bumped; products -/
/-- the begins times the dues -/
def dot (n : Nat) (a b : Int → Int) : Int := Sg n fun i => a i * b i
theorem cut_take {xs : List V} {h : Int} (h0 : 0 ≤ h) (h1 : h ≤ (xs.length : Int)) : cutV xs none (some h) = xs.take h.toNat := by
  obtain ⟨k, rfl⟩ : ∃ k : Nat, h = (k : Int) := ⟨h.toNat, by omega⟩
  unfold cutV
  rw [HT.sIx_none, show HT.sIx xs.length xs.length (some (k : Int)) = min k xs.length from HT.sIx_nat xs.length xs.length k]
  rw [List.drop_zero, Nat.sub_zero, Int.toNat_natCast, Nat.min_eq_left (by omega)]
theorem cut_drop {xs : List V} {h : Int} (h0 : 0 ≤ h) (h1 : h ≤ (xs.length : Int)) : cutV xs (some h) none = xs.drop h.toNat := by
  obtain ⟨k, rfl⟩ : ∃ k : Nat, h = (k : Int) := ⟨h.toNat, by omega⟩
  unfold cutV
  rw [HT.sIx_none, show HT.sIx xs.length 0 (some (k : Int)) = min k xs.length from HT.sIx_nat xs.length 0 k]
  rw [Int.toNat_natCast, Nat.min_eq_left (by omega)]
  exact List.take_of_length_le (by rw [List.length_drop]; omega)
theorem set_row {n : Nat} {a : Int → Int} {h : Nat} (hh : h < n) (z : Int) : ((rowOf n a).take h ++ [z]) ++ (rowOf n a).drop (h + 1) = rowOf n fun i => if i = (h : Int) then z else a i := by
  have hl := rowOf_length n a
  refine row_ext _ (by simp only [List.length_append, List.length_take, List.length_drop, List.length_singleton, hl]; omega) fun j hj => ?_
  have hg : ∀ i, i < n → (rowOf n a)[i]? = some (a (i : Int)) := fun i hi => by
    have := rowOf_getD a hi
    rw [List.getD_eq_getElem?_getD, List.getElem?_eq_getElem (by omega)] at this
    rw [List.getElem?_eq_getElem (by omega)]
    exact congrArg some this
  rw [List.getD_eq_getElem?_getD]
  have tl : ((rowOf n a).take h).length = h := by rw [List.length_take]; omega
  rcases Nat.lt_trichotomy j h with q | q | q
  · rw [List.append_assoc, List.getElem?_append_left (by omega), List.getElem?_take_of_lt q, hg j hj]
    show a j = _
    rw [if_neg (by omega)]
  · subst q
    rw [List.append_assoc, List.getElem?_append_right (by omega), tl, Nat.sub_self, if_pos rfl]
    rfl
  · rw [List.getElem?_append_right (by rw [List.length_append, tl, List.length_singleton]; omega), List.length_append, tl, List.length_singleton, List.getElem?_drop, show h + 1 + (j - (h + 1)) = j by omega, hg j hj, if_neg (by omega)]
    rfl
theorem Sg_one {n : Nat} {h : Nat} (hh : h < n) (f : Int → Int) : Sg n (fun i => if i = (h : Int) then f i else 0) = f (h : Int) := by
  induction n with
  | zero => omega
  | succ n ih =>
    show Sg n _ + (if (n : Int) = (h : Int) then f n else 0) = _
    by_cases q : h = n
    · subst q
      rw [if_pos rfl]
      have e : Sg h (fun i => if i = (h : Int) then f i else 0) = Sg h (fun _ => 0) := Sg_congr fun i _ h1 => if_neg (by omega)
      rw [e, Sg_zero]
      omega
    · rw [if_neg (by omega), ih (by omega)]
      omega
end Hn

/-! Defs whose promise needs to know more of the place of the call; list(x) and tuple(x) of own classes that hand out a tuple's iterator. -/
namespace Hn
open PySem PySem.Spec PyProof.Rows L2 Evl
/-- the def at f keeps its promise wherever Pre stands -/
def OkP (Pre : Around → Shared → Prop) (P : Program) (w : World) (K : PySem.W.Frag) (mg : Str → Option Value) (base : Heap) (k : Nat) (f : Addr) (ps : List Str) (sp : Sp) : Prop :=
  ∃ fd, Binds K fd ps [] ∧ (∀ vs H Q E, sp vs H Q E → vs.length = ps.length) ∧ ∀ (A : Around) (out : List Env) (s : Shared) (H : Hp) (ag : Args) (us : List Value) (vs : List V) (Q : VK) (E : XK), Pre A s → Room k A → Env0 P w K mg base A out s H → BindsTo s fd ag (ps.zip us) → Vals vs us → sp vs H Q E →
    codeAny (model P w) A (.call (.ref f) ag) (CR CX0 out P w H s Q E) s
section
variable {P : Program} {w : World} {K : PySem.W.Frag} {mg : Str → Option Value} {base : Heap} {Pre : Around → Shared → Prop}
theorem okP_of {x qual : Str} {st : Stmt} {f : Addr} {N ps : List Str} {k : Nat} {sp : Sp} (D : Df K x qual st f ps) (S : FnScope N ps (defScope st)) (len : ∀ vs H Q E, sp vs H Q E → vs.length = ps.length)
    (hbody : ∀ (cdv : Value) (A : Around) (out : List Env) (s : Shared) (H : Hp) (vs : List V) (Q : VK) (E : XK), Pre A s → Room k (A.deeper (envOfC qual (defScope st) s.heap.objs.size f cdv)) → sp vs H Q E →
      ∃ t, PSs (cxOf CX0 P w K mg base N qual (defScope st) f cdv A out s H E).nox (defBody st) t ∧ t { nx := fun _ H' => Q .non H', rt := Q } (start N vs) H) : OkP Pre P w K mg base (k + 1) f ps sp := by
  obtain ⟨fd, F, bd⟩ := D
  refine ⟨fd, bd, len, ?_⟩
  obtain ⟨oc, od, kV, doc, pm, an, cdv, ct, osl, rfl, lk, hcd⟩ := F.ex
  intro A out s H ag us vs Q E pre room env bnd rel hsp
  have ll := len _ _ _ _ hsp
  have inK : K.In s.heap := env.mod.kin.keeps fun b o e => (env.bs b o e).1
  have nol : s.heap.NoLimit := env.mod.nolimit.keeps fun b o e => (env.bs b o e).1
  have kinds : ∀ y ∈ ps.zip us, (defScope st).names.lookup y.1 = some .local ∨ ((defScope st).names.lookup y.1 = some .cell ∧ ((cellsFrom (s.heap.objs.size + 1) (defScope st).names []).lookup y.1).isSome = true) := fun y hy => by
    rcases S.par y.1 (List.of_mem_zip (a := y.1) (b := y.2) hy).1 with z | z
    · exact Or.inl z
    · exact Or.inr ⟨z, PySem.W.cellsFrom_some _ _ _ (Or.inl z)⟩
  refine codeAny_call_function room.depth (inK _ _ lk) rfl S.co S.gen rfl (PySem.W.codeRec_of inK hcd) (bnd _ _ _ _ ?_)
  refine wpAny_newFunctionEnv_cells S.kind kinds fun env1 he s1 x1 => ?_
  subst he
  refine ⟨nol.keeps x1.toInCall.keep, codeAny_func ?_⟩
  obtain ⟨t, tt, qq⟩ := hbody cdv A out s H vs Q E pre (room.deeper _) hsp
  have J : Inv (cxOf CX0 P w K mg base N qual (defScope st) f cdv A out s H E) [] (start N vs) H s1 := inv_start S room.hd env ll rel x1
  refine wpAny_mono (tt.nox.run [] s1 (start N vs) H _ J qq) (fun fl s' hs => ?_) fun e s' hs => hs
  have done : ∀ {σ' : L2.St} {H' : Hp} {v : V} {u : Value}, Inv (cxOf CX0 P w K mg base N qual (defScope st) f cdv A out s H E) [] σ' H' s' → RelV v u → Q v H' → CE out P w H s Q u s' :=
    fun {σ' H' v u} J rv q => ⟨v, H', J.os, J.bare, J.base, J.hok, rv, q⟩
  cases fl with
  | ret u =>
    obtain ⟨v, σ', H', J', rv, q⟩ := hs
    exact done J' rv q
  | next =>
    obtain ⟨σ', H', J', q⟩ := hs
    exact done (v := V.non) (u := Value.none) J' rfl q
  | brk =>
    obtain ⟨_, _, _, z⟩ := hs
    exact z.elim
  | cont =>
    obtain ⟨_, _, _, z⟩ := hs
    exact z.elim
end
/-- a tuple's iterator that has given nothing yet -/
def ItT (l it : Addr) : HO := .ext fun h => h.get? it = some { cls := .type "tuple_iterator", data := .fields #[.ref l, .int 0 0] }
theorem itT_ok {P : Program} {w : World} {H : Hp} {h : Heap} {l it : Addr} (e : h.get? it = some { cls := .type "tuple_iterator", data := .fields #[.ref l, .int 0 0] }) : ObjOk P w H h it (ItT l it) := ⟨e, ⟨_, e⟩, fun _ _ q k => k _ q⟩
theorem call_iterT0 {prog : Program} {w : World} {A : Around} {E : Value → Shared → Prop} {s : Shared} {l : Addr} {items : Array Value} {Q : Value → Shared → Prop} (hl : s.heap.IsTuple l items)
    (h : Q (.ref s.heap.objs.size) { s with heap := s.heap.push { cls := .type "tuple_iterator", data := .fields #[.ref l, .int 0 0] } }) : wpAny (model prog w) A (call (.builtin "iter") [.ref l]) Q E s := by
  refine Calls.call_function_entry (by decide +kernel) (by decide +kernel) PySem.W.kdk_entry_iter (PySem.W.kdk_args_iter _) ?_
  unfold Builtin.«iter»
  refine wpAny_bind (m := someArgs "iter" 1 2 _) (wpAny_of_eq (a := [Value.ref l]) (by first | rfl | kernel_rfl!) ?_)
  exact wpAny_bind (wpAny_pyIter_tuple hl (wpAny_pure ⟨_, rfl, h⟩))
def rIterT (K : PySem.W.Frag) (n : Nat) : List V → Hp → VK → Prop := fun xs H Q => ∃ (l : Addr) (zs : List V), xs = [.ref l] ∧ SqT K H l zs ∧ ∀ it, H it = none → n ≤ it → Q (.ref it) (upd H it (ItT l it))
section
variable {X : Cx} {K : PySem.W.Frag} {n k : Nat}
theorem k_iterT (hK : X.K = K) (hn : n ≤ X.s_0.heap.objs.size) : CallR X (.builtin "iter") (rIterT K n) := by
  subst hK
  intro pins s σ H xs us Q I r h
  obtain ⟨l, zs, rfl, hq, q⟩ := h
  rw [Vals.ref1 r]
  obtain ⟨its, rv, pl, hz⟩ := I.tuple hq
  refine call_iterT0 (show s.heap.IsTuple l its.toArray from pl) ?_
  exact ⟨.ref s.heap.objs.size, _, I.laid (t' := s.toks) (fun b u e => Heap.get?_push_of_some _ e) (Nat.le_refl _) (itT_ok (Heap.get?_push_size _ rfl)), rfl, q _ (I.hok.fresh (Nat.le_refl _)) (Nat.le_trans hn I.sz)⟩
/-- the tuple's iterator fills the list at q -/
theorem tl_loop {pins : List (Addr × Obj)} {σ : L2.St} {H : Hp} {A : Around} {R : Result → Shared → Prop} {q it l : Addr} {xs : List V} (hc : A.handled = none) (hl : SqT X.K H l xs) (hq : H q = none) (hz : xs.length < sizeLine)
    (hR : ∀ s, Inv X pins σ (upd H q (.lst xs)) s → R (.ok (.ret .none)) s) :
    ∀ (k i : Nat) (s : Shared), xs.length - i = k → i ≤ xs.length → Inv X pins σ (upd H q (.lst (xs.take i))) s → FpOk X pins (upd H q (.lst (xs.take i))) it → s.heap.IsTupleIter it l i →
      codeAny (model X.prog X.w) A (.builtin "list.extend.loop" ⟨[.ref q, .ref it, .none], []⟩) R s := by
  have hl' : ∀ ys, SqT X.K (upd H q (.lst ys)) l xs := fun ys => ex_t (Ex.new hq) hl
  intro k
  induction k with
  | zero =>
    intro i s hk hi I fp st
    obtain rfl : i = xs.length := by omega
    rw [List.take_length] at I fp
    obtain ⟨its, rv, p, _⟩ := I.tuple (hl' xs)
    obtain ⟨f0, f1, f2, f3, f4, f5⟩ := id fp
    have ln := rv.length
    refine codeAny_builtin PySem.F.entry_extend_loop ?_
    rw [Around.under_plainId PySem.F.plain_extend_loop _]
    show wpAny _ A.in1 (pyNext (.ref it) >>= _) _ _ _
    refine wpAny_bind (wpAny_pyNext_tuple_end (A := A.in1) hc st (show s.heap.IsTuple l its.toArray from p) (by simp; omega) fun h' eb => ?_)
    exact wpAny_pure (hR _ (I.turned (t' := s.toks) (fun b o hb e => eb b o hb e) f0 f1 f3 f4 f5))
  | succ k ih =>
    intro i s hk hi I fp st
    have hlt : i < xs.length := by omega
    obtain ⟨its, rv, p, _⟩ := I.tuple (hl' (xs.take i))
    have hx : xs[i]? = some xs[i] := List.getElem?_eq_getElem hlt
    obtain ⟨u, hu, ru⟩ := rv.get hx
    obtain ⟨f0, f1, f2, f3, f4, f5⟩ := id fp
    refine codeAny_builtin PySem.F.entry_extend_loop ?_
    rw [Around.under_plainId PySem.F.plain_extend_loop _]
    show wpAny _ A.in1 (pyNext (.ref it) >>= _) _ _ _
    refine wpAny_bind (wpAny_pyNext_tuple_item st (show s.heap.IsTuple l its.toArray from p) (x := u) (by simpa using hu) fun h' st' sb => ?_)
    have I1 : Inv X pins σ (upd H q (.lst (xs.take i))) { s with heap := h' } := I.turned (t' := s.toks) (fun b o hb e => (sb.2 b hb).trans e) f0 f1 f3 f4 f5
    show wpAny _ A.in1 (updateSeq q (·.push u) >>= _) _ _ _
    obtain ⟨z, its2, n2, r2, l2, e2⟩ := I1.lstM upd_same
    have tl : (xs.take i).length = i := by rw [List.length_take]; omega
    have nq : it ≠ q := fun z => by rw [z, upd_same] at f0; cases f0
    have I2 := I1.lset (f := (·.push u)) (its' := its2 ++ [u]) (ys := xs.take i ++ [xs[i]]) (t' := s.toks) upd_same e2 (by simp) (r2.append (.cons ru .nil)) (by rw [List.length_append, List.length_singleton]; omega)
    rw [upd_upd] at I2
    have tk : xs.take i ++ [xs[i]] = xs.take (i + 1) := by rw [List.take_succ, hx]; rfl
    rw [tk] at I2
    refine wpAny_bind (wpAny_updateSeq e2 rfl (wpAny_pure ⟨plainId_quiet PySem.F.plain_extend_loop _, ih (i + 1) _ (by omega) hlt I2 ⟨by rw [upd_ne nq]; rw [upd_ne nq] at f0; exact f0, f1, f2, f3, f4, f5⟩ ?_⟩) (by rw [List.size_toArray]; omega) (by show (its2.toArray.push u).size ≤ sizeLine + 1; rw [Array.size_push, List.size_toArray]; omega))
    exact st'.at fun o e => (Heap.get?_update_other _ _ (Ne.symm nq)).trans e
end
/-! ### list(x) -/
/-- what list(x) asks: __iter__ hands out an iterator of a tuple of xs, __len__ some int, the heap stays -/
def rListO (K : PySem.W.Frag) (C : Addr) (spI : Nat → Sp) (spL : Sp) : List V → Hp → VK → Prop := fun vs H Q => ∃ a dx fs xs, vs = [.ref a] ∧ H a = some (.ins C dx fs) ∧ xs.length ≤ 1000 ∧
  (∀ n H' Q', Ex H H' → (∀ l it, SqT K H' l xs → H' it = none → n ≤ it → Q' (.ref it) (upd H' it (ItT l it))) → spI n [.ref a] H' Q' E0) ∧
  (∀ H' Q', Ex H H' → (∀ m : Int, 0 ≤ m → m ≤ 1000 → Q' (.int m) H') → spL [.ref a] H' Q' E0) ∧ ∀ q, H q = none → Q (.ref q) (upd H q (.lst xs))
/-- what a class needs for list(x) -/
structure ItK (K : PySem.W.Frag) (C fi fl : Addr) : Prop where
  it : PySem.W.findIn K (.ref C) "__iter__" = some (some (.ref fi))
  itF : PySem.W.isFn K (.ref fi) = true
  ln : PySem.W.findIn K (.ref C) "__len__" = some (some (.ref fl))
  lnF : PySem.W.isFn K (.ref fl) = true
section
variable {X : Cx} {k : Nat} {C fi fl : Addr} {psI psL : List Str} {spI : Nat → Sp} {spL : Sp}
/-- an own def run at a deeper place, Pre known -/
theorem run_pre {EE : Value → Shared → Prop} {Pre : Around → Shared → Prop} {pins : List (Addr × Obj)} {σ : L2.St} {H : Hp} {s : Shared} {Q : VK} {f : Addr} {ps : List Str} {sp : Sp} {A1 : Around} {us : List Value} {vs : List V} (G : OkP Pre X.prog X.w X.K X.mg X.base k f ps sp) (sb : Sub X k A1) (pre : Pre A1 s)
    (I : Inv X pins σ H s) (r : Vals vs us) (h : sp vs H Q E0) : wpAny (model X.prog X.w) A1 (call (.ref f) us) (EP X pins σ Q) EE s := by
  obtain ⟨fd, hb, hlen, run⟩ := G
  have e0 : Env0 X.prog X.w X.K X.mg X.base A1 X.stack s H := by
    have e := I.env0
    exact ⟨by rw [sb.fr]; exact e.frames, e.mod, e.bs, e.bsz, e.funs, e.frf, e.hok, e.bare⟩
  have hl : (us ++ []).length = ps.length := by
    rw [List.append_nil, ← r.length]
    exact hlen _ _ _ _ h
  have hb' := hb s us I.kIn hl
  rw [List.append_nil] at hb'
  refine wpAny_call (codeAny_mono (run A1 X.stack s H ⟨us, []⟩ us vs Q E0 pre sb.room e0 hb' r h) fun rr s' hq => ?_)
  cases rr with
  | error e => exact False.elim hq
  | ok fl =>
    cases fl with
    | ret u => exact I.after hq
    | next => exact False.elim hq
    | brk => exact False.elim hq
    | cont => exact False.elim hq
/-- the same for a def without a Pre; nothing is let out -/
theorem run_sub {EE : Value → Shared → Prop} {pins : List (Addr × Obj)} {σ : L2.St} {H : Hp} {s : Shared} {Q : VK} {f : Addr} {ps : List Str} {sp : Sp} {A1 : Around} {us : List Value} {vs : List V} (G : Okf X.prog X.w X.K X.mg X.base k f ps sp) (sb : Sub X k A1)
    (I : Inv X pins σ H s) (r : Vals vs us) (h : sp vs H Q E0) : wpAny (model X.prog X.w) A1 (call (.ref f) us) (EP X pins σ Q) EE s := by
  obtain ⟨fd, F, hb⟩ := G
  have e0 : Env0 X.prog X.w X.K X.mg X.base A1 X.stack s H := by
    have e := I.env0
    exact ⟨by rw [sb.fr]; exact e.frames, e.mod, e.bs, e.bsz, e.funs, e.frf, e.hok, e.bare⟩
  have hl : (us ++ []).length = ps.length := by
    rw [List.append_nil, ← r.length]
    exact F.len _ _ _ _ h
  have hb' := hb s us I.kIn hl
  rw [List.append_nil] at hb'
  refine wpAny_call (codeAny_mono (F.run A1 X.stack s H ⟨us, []⟩ us vs Q E0 sb.room e0 hb' r h) fun rr s' hq => ?_)
  cases rr with
  | error e =>
    obtain ⟨_, _, _, _, _, _, _, _, _, _, _, _, z⟩ := hq
    exact z.elim
  | ok fl =>
    cases fl with
    | ret u => exact I.after hq
    | next => exact False.elim hq
    | brk => exact False.elim hq
    | cont => exact False.elim hq
theorem own_lenHint {EE : Value → Shared → Prop} {pins : List (Addr × Obj)} {σ : L2.St} {H : Hp} {s : Shared} {A1 : Around} {a dx : Addr} {fs : List (Str × V)} {R : Bool → Shared → Prop} (c : ItK X.K C fi fl) (GL : Okf X.prog X.w X.K X.mg X.base k fl psL spL) (sb : Sub X k A1.in1) (I : Inv X pins σ H s) (ha : H a = some (.ins C dx fs))
    (hL : ∀ Q', (∀ m : Int, 0 ≤ m → m ≤ 1000 → Q' (.int m) H) → spL [.ref a] H Q' E0) (h : ∀ b s', Inv X pins σ H s' → R b s') : wpAny (model X.prog X.w) A1 (Builtin.List.listLengthHint (.ref a)) R EE s := by
  obtain ⟨mA, J, _⟩ := ins_get I.hok ha
  obtain ⟨od, J, _⟩ := J.look
  obtain ⟨m, hF⟩ := I.fr
  unfold Builtin.List.listLengthHint
  refine wpAny_bind (wpAny_bind (J.type.here ((PySem.W.looks_findIn I.kIn c.ln).here ?_)))
  refine PySem.W.KFB.if_not rfl ?_
  rw [if_pos (show (some (Value.ref fl)).isSome = true from rfl)]
  refine wpAny_bind (wpAny_rule ?_)
  refine wpAny_bind (wpAny_attempt (PySem.W.len_K hF I.ok.mod.kin J c.ln c.lnF (wpAny_mono (run_sub (us := [.ref a]) (vs := [.ref a]) (Q := fun v H' => (∃ m : Int, v = .int m ∧ 0 ≤ m ∧ m ≤ 1000) ∧ H' = H) GL sb I (.cons rfl .nil) (hL _ fun m h0 h1 => ⟨⟨m, rfl, h0, h1⟩, rfl⟩)) (fun v s' hv => ?_) fun e s' he => he)))
  obtain ⟨z, H', I', rz, ⟨n, rfl, h0, h1⟩, rfl⟩ := hv
  obtain ⟨t, rfl⟩ := rz
  refine ⟨⟨h0, by omega⟩, ?_⟩
  refine wpAny_bind (m := asInt? (.int n s'.toks)) (wpAny_pure ?_)
  refine PySem.W.KFB.if_not (notLongL (by have : (1000 : Nat) ≤ sizeLine := (by decide); omega)) ?_
  exact wpAny_pure (h _ _ (I'.tok _))
theorem k_listO {K : PySem.W.Frag} (hK : X.K = K) (hc : X.calm = true) (c : ItK X.K C fi fl) (GI : ∀ n, OkP (fun _ s => n ≤ s.heap.objs.size) X.prog X.w X.K X.mg X.base k fi psI (spI n)) (GL : Okf X.prog X.w X.K X.mg X.base k fl psL spL) (hr : Room (k + 3) X.A) :
    CallR X (.type "list") (rListO K C spI spL) := by
  subst hK
  intro pins s σ H xs us Q I rv h
  obtain ⟨a, dx, fs, zs, rfl, ha, hz, hI, hL, q⟩ := h
  obtain ⟨u, rfl, ru⟩ := rv.one
  cases ru
  have sb3 : Sub X (k + 1) X.A.in1.in1 := (Sub.in1 (Sub.in1 (⟨hr, rfl⟩ : Sub X (k + 3) X.A)))
  have sb2 : Sub X k X.A.in1.in1 := sb3.mono (Nat.le_succ _)
  have line : (1000 : Nat) < sizeLine := by decide
  refine callType_codes (Q₁ := fun obj s₁ => obj = .ref s.heap.objs.size ∧ s₁ = { s with heap := s.heap.push { cls := .type "list", data := .seq #[] } }) PySem.F.called_list (PySem.F.typeCall_list_1 _) PySem.F.entry_list_init
    (code_list_new _ ⟨rfl, rfl⟩) fun obj s₁ h₁ => ?_
  obtain ⟨rfl, rfl⟩ := h₁
  have hS : (s.heap.push { cls := .type "list", data := .seq #[] }).get? s.heap.objs.size = some { cls := .type "list", data := .seq #[] } := Heap.get?_push_size _ rfl
  refine ⟨⟨_, hS, rfl⟩, PySem.F.args_list_init_2 _ _, ?_⟩
  have fr : H s.heap.objs.size = none := I.hok.fresh (Nat.le_refl _)
  have I1 : Inv X pins σ (upd H s.heap.objs.size (.lst [])) { s with heap := s.heap.push { cls := .type "list", data := .seq #[] } } := I.lnew (its := []) (t' := s.toks) .nil (Nat.zero_le _)
  show wpAny _ _ (do let old ← Builtin.List.listItems (.ref s.heap.objs.size); Builtin.List.listUpdate (.ref s.heap.objs.size) (fun _ => #[]); letGo old.toList.reverse; Builtin.List.listExtendWith (.ref s.heap.objs.size) (.ref a) .none) _ _ _
  refine wpAny_bind ?_
  unfold Builtin.List.listItems
  refine wpAny_bind (wpAny_seqItems hS rfl (wpAny_pure ?_))
  show wpAny _ _ (updateSeq s.heap.objs.size (fun _ => #[]) >>= fun _ => letGo (#[] : Array Value).toList.reverse >>= fun _ => Builtin.List.listExtendWith (.ref s.heap.objs.size) (.ref a) .none) _ _ _
  refine wpAny_bind (wpAny_updateSeq hS rfl ?_)
  have I2 := I1.lset (f := fun _ => #[]) (its := []) (its' := []) (ys := []) (t' := s.toks) upd_same hS rfl .nil (Nat.zero_le _)
  rw [upd_upd] at I2
  refine wpAny_bind (wpAny_letGo ?_)
  have eq0 : Ex H (upd H s.heap.objs.size (.lst [])) := Ex.new fr
  have hs2 : s.heap.objs.size ≤ ((s.heap.push { cls := .type "list", data := .seq #[] }).update s.heap.objs.size (Obj.mapSeq (fun _ => (#[] : Array Value)))).objs.size := by
    have e := Heap.get?_update_self (Obj.mapSeq (fun _ => (#[] : Array Value))) hS rfl
    exact Nat.le_of_lt (Heap.lt_size e)
  have ha2 : upd H s.heap.objs.size (.lst []) a = some (.ins C dx fs) := eq0 _ _ ha
  generalize hQ0 : s.heap.objs.size = p at *
  have hne : p ≠ a := ne_of (upd_same (H := H) (a := p) (o := .lst [])) ha2 (fun z => nomatch z)
  obtain ⟨mA, J, _⟩ := ins_get I2.hok ha2
  obtain ⟨od, J, _⟩ := J.look
  obtain ⟨m0, hF⟩ := I2.fr
  unfold Builtin.List.listExtendWith
  refine wpAny_bind (J.type.here ?_)
  have h1 : Builtin.List.listSameRef (.ref p) (.ref a) = false := by simp [Builtin.List.listSameRef, hne]
  have h2 : (Value.ref C == Value.type "list") = false := rfl
  have h3 : (Value.ref C == Value.type "tuple") = false := rfl
  simp only [h1, h2, h3, Bool.or_false, Bool.false_eq_true, if_false]
  refine wpAny_bind (PySem.W.owit_iter hF I2.ok.mod.kin J c.it c.itF ?_)
  refine wpAny_mono (run_pre (us := [.ref a]) (vs := [.ref a]) (Q := fun v H' => ∃ l it, v = .ref it ∧ SqT X.K (upd H p (.lst [])) l zs ∧ upd H p (.lst []) it = none ∧ X.s_0.heap.objs.size ≤ it ∧ H' = upd (upd H p (.lst [])) it (ItT l it)) (GI X.s_0.heap.objs.size) sb2 (I2.sz) I2 (.cons rfl .nil) (hI _ _ _ eq0 fun l it a1 a2 a3 => ⟨l, it, rfl, a1, a2, a3, rfl⟩)) (fun v s3 hv => ?_) fun e s' he => he
  obtain ⟨v', H3, I3, rv3, l, it, rfl, hl, hit, hn, rfl⟩ := hv
  cases rv3
  obtain ⟨hobj, _⟩ := (show ObjOk X.prog X.w _ s3.heap it (ItT l it) from I3.hok it _ upd_same)
  have hobj' : s3.heap.get? it = some { cls := .type "tuple_iterator", data := .fields #[.ref l, .int 0 0] } := hobj
  show wpAny _ _ (specialOf (.ref it) "__next__") _ _ _
  refine wpAny_specialOf (T := "tuple_iterator") ⟨_, hobj', rfl⟩ PySem.F.slot_tuple_iterator_next.lookup ?_
  have e3 : Ex H (upd (upd H p (.lst [])) it (ItT l it)) := eq0.trans (Ex.new hit)
  refine wpAny_bind (wpAny_holding (own_lenHint c GL (Sub.in1 sb3) I3 (e3 _ _ ha) (fun Q' hq' => hL _ _ e3 hq') fun b s4 I4 => ?_))
  have fp4 := ItX.inv_fp I4 upd_same hn
  have I5 := ItX.inv_drop I4 (a := it) (φ := fun h => h.get? it = some { cls := .type "tuple_iterator", data := .fields #[.ref l, .int 0 0] }) upd_same
  rw [ItX.dropH_upd hit] at I5 fp4
  obtain ⟨hobj4, _⟩ := (show ObjOk X.prog X.w _ s4.heap it (ItT l it) from I4.hok it _ upd_same)
  have st4 : s4.heap.IsTupleIter it l 0 := ⟨_, hobj4, rfl, rfl⟩
  have lq : p ≠ it := fun z => by rw [← z, upd_same] at hit; cases hit
  have fin : ∀ s5, Inv X pins σ (upd H p (.lst [])) s5 → s5.heap.IsTupleIter it l 0 → codeAny (model X.prog X.w) X.A.in1 (.builtin "list.extend.loop" ⟨[.ref p, .ref it, .none], []⟩) (wants (fun r s₂ => r = .none ∧ EP X pins σ Q (.ref p) s₂) X.xe) s5 := fun s5 J5 t5 => by
    have hl0 : SqT X.K H l zs := by
      rcases hl with (z | ⟨o, z⟩) | z
      · exact .inl (.inl (by rw [upd_ne (ne_of z upd_same (fun z => nomatch z))] at z; exact z))
      · exact .inl (.inr ⟨o, by rw [upd_ne (ne_of z upd_same (fun z => nomatch z))] at z; exact z⟩)
      · exact .inr z
    exact tl_loop (A := X.A.in1) (I.ok.hd hc) hl0 fr (by omega) (fun s6 J6 => ⟨rfl, .ref p, _, J6, rfl, q p fr⟩) zs.length 0 s5 rfl (Nat.zero_le _) J5 fp4 t5
  obtain ⟨z6, its6, k6, r6, hl6, e6⟩ := I5.lstM upd_same
  cases r6
  refine wpAny_ite_split (fun _ => ?_) (fun _ => wpAny_pure ⟨plainId_quiet PySem.F.plain_extend_loop _, fin s4 I5 st4⟩)
  refine wpAny_bind (wpAny_rule ?_)
  refine wpAny_bind ?_
  show wpAny _ _ (updateSeq p (·.push .none) >>= fun _ => updateSeq p (·.pop)) _ _ _
  refine wpAny_bind (wpAny_updateSeq e6 rfl ?_)
  have I7 := I5.lset (f := (·.push Value.none)) (its' := [Value.none]) (ys := [.non]) (t' := s4.toks) upd_same e6 (by simp) (.cons rfl .nil) (by rw [List.length_singleton, sizeLine_eq]; decide)
  obtain ⟨z8, its8, k8, r8, hl8, e8⟩ := I7.lstM upd_same
  obtain ⟨u8, rfl, ru8⟩ := r8.one
  refine wpAny_updateSeq e8 rfl ?_ (by show 1 ≤ sizeLine; rw [sizeLine_eq]; decide) (by show 0 ≤ sizeLine + 1; exact Nat.zero_le _)
  have I9 := I7.lset (f := (·.pop)) (its := [u8]) (its' := []) (ys := []) (t' := s4.toks) upd_same e8 (by rfl) .nil (Nat.zero_le _)
  rw [upd_upd, upd_upd] at I9
  refine wpAny_pure ⟨plainId_quiet PySem.F.plain_extend_loop _, fin _ I9 ?_⟩
  exact st4.at fun o e => (Heap.get?_update_other _ _ lq).trans ((Heap.get?_update_other _ _ lq).trans e)
end
end Hn

/-! repr of data: where no guard stands around; the law's head for such defs. -/
namespace Hn
open PySem PySem.Spec PyProof.Rows L2 Evl
/-- no guard stands around -/
def NoG (A : Around) (_ : Shared) : Prop := A.guards = some []
/-- data that is shown in few signs: made of ints of at most 40 digits -/
structure Fine (d : PyData) (w : Nat) : Prop where
  sh : d.showable = true
  nd : d.hasDict = false
  ls : d.leavesShort 41 = true
  wt : d.weight ≤ w
theorem Fine.mono {d : PyData} {w v : Nat} (h : Fine d w) (e : w ≤ v) : Fine d v := ⟨h.sh, h.nd, h.ls, Nat.le_trans h.wt e⟩
theorem log_40 {i : Int} (h : i.natAbs < 10 ^ 40) : i.natAbs.log2 < 140 := by
  by_cases z : i.natAbs = 0
  · rw [z]
    decide
  · exact (Nat.log2_lt z).mpr (Nat.lt_trans h (by decide))
theorem fine_int {i : Int} (h : i.natAbs < 10 ^ 40) : Fine (.int i) 200 := by
  have hl := log_40 h
  refine ⟨?_, ?_, ?_, ?_⟩
  · simp only [PyData.showable]
    exact decide_eq_true (by omega)
  · simp only [PyData.hasDict]
  · simp only [PyData.leavesShort]
    have e := int_text_length_le10 (k := 40) (by decide) h
    refine decide_eq_true ?_
    show (Str.ofString (toString i)).length ≤ 41
    rw [PySem.ofString_length]
    exact e
  · simp only [PyData.weight]
    split <;> omega
theorem fine_small {i : Int} (h : i.natAbs < 1000) : Fine (.int i) 11 := by
  have f := fine_int (i := i) (Nat.lt_trans h (by decide))
  refine ⟨f.sh, f.nd, f.ls, ?_⟩
  simp only [PyData.weight]
  split
  · omega
  · by_cases z : i.natAbs = 0
    · rw [z]
      decide
    · have : i.natAbs.log2 < 10 := (Nat.log2_lt z).mpr (Nat.lt_trans h (by decide))
      omega
theorem fine_bool (b : Bool) : Fine (.bool b) 0 := ⟨rfl, rfl, rfl, Nat.le_refl _⟩
theorem fine_none : Fine .none 0 := ⟨rfl, rfl, rfl, Nat.le_refl _⟩
theorem fine_all {w : Nat} : ∀ {ds : List PyData}, (∀ d ∈ ds, Fine d w) → PyData.showableAll ds = true ∧ PyData.hasDictAll ds = false ∧ PyData.leavesShortAll 41 ds = true ∧ PyData.weightAll ds ≤ ds.length * (w + 1)
  | [], _ => ⟨rfl, rfl, rfl, Nat.zero_le _⟩
  | d :: ds, h => by
    have hd := h d List.mem_cons_self
    obtain ⟨a, b, c, e⟩ := fine_all (ds := ds) fun x hx => h x (List.mem_cons_of_mem _ hx)
    refine ⟨?_, ?_, ?_, ?_⟩
    · simp only [PyData.showableAll, hd.sh, a, Bool.and_self]
    · simp only [PyData.hasDictAll, hd.nd, b, Bool.or_self]
    · simp only [PyData.leavesShortAll, hd.ls, c, Bool.and_self]
    · simp only [PyData.weightAll, List.length_cons]
      have := hd.wt
      rw [Nat.add_mul, Nat.one_mul]
      omega
theorem fine_list {w n : Nat} {ds : List PyData} (h : ∀ d ∈ ds, Fine d w) (hn : ds.length ≤ n) : Fine (.list ds) (n * (w + 1)) := by
  obtain ⟨a, b, c, e⟩ := fine_all h
  refine ⟨by simp only [PyData.showable]; exact a, by simp only [PyData.hasDict]; exact b, by simp only [PyData.leavesShort]; exact c, ?_⟩
  simp only [PyData.weight]
  exact Nat.le_trans e (Nat.mul_le_mul_right _ hn)
theorem fine_tuple {w n : Nat} {ds : List PyData} (h : ∀ d ∈ ds, Fine d w) (hn : ds.length ≤ n) : Fine (.tuple ds) (n * (w + 1)) := by
  obtain ⟨a, b, c, e⟩ := fine_all h
  refine ⟨by simp only [PyData.showable]; exact a, by simp only [PyData.hasDict]; exact b, by simp only [PyData.leavesShort]; exact c, ?_⟩
  simp only [PyData.weight]
  exact Nat.le_trans e (Nat.mul_le_mul_right _ hn)
theorem fine_ints {ns : List Int} {n : Nat} (h : ∀ z ∈ ns, z.natAbs < 10 ^ 40) (hn : ns.length ≤ n) : Fine (PySem.W.Datum.toD ns) (n * 201) :=
  fine_list (fun d hd => by
    obtain ⟨z, hz, rfl⟩ := List.mem_map.mp hd
    exact fine_int (h z hz)) (by rw [List.length_map]; exact hn)
theorem fine_smalls {ns : List Int} {n : Nat} (h : ∀ z ∈ ns, z.natAbs < 1000) (hn : ns.length ≤ n) : Fine (PySem.W.Datum.toD ns) (n * 12) :=
  fine_list (fun d hd => by
    obtain ⟨z, hz, rfl⟩ := List.mem_map.mp hd
    exact fine_small (h z hz)) (by rw [List.length_map]; exact hn)
/-- rows of small ints, one behind another -/
theorem fine_rows {rs : List (List Int)} {n m : Nat} (h : ∀ r ∈ rs, (∀ z ∈ r, z.natAbs < 1000) ∧ r.length ≤ n) (hm : rs.length ≤ m) : Fine (PySem.W.Datum.toD rs) (m * (n * 12 + 1)) :=
  fine_list (fun d hd => by
    obtain ⟨r, hr, rfl⟩ := List.mem_map.mp hd
    exact fine_smalls (h r hr).1 (h r hr).2) (by rw [List.length_map]; exact hm)
theorem Fine.len {d : PyData} {w : Nat} (h : Fine d w) (hw : w ≤ 300000) : d.shown.length ≤ 12900041 := by
  have e := PyData.shown_le 41 (by decide) d h.ls
  have := h.wt
  omega
def rRepr (K : PySem.W.Frag) : List V → Hp → VK → Prop := fun vs H Q => ∃ x d, vs = [x] ∧ Dp K H x d ∧ d.showable = true ∧ d.hasDict = false ∧ d.depth ≤ 64 ∧ d.shown.length ≤ 12900041 ∧ Q (.str d.shown) H
section
variable {X : Cx} {K : PySem.W.Frag} {k : Nat}
theorem k_repr (hK : X.K = K) (hg : X.A.guards = some []) (hr : Room k X.A) : CallR X (.builtin "repr") (rRepr K) := by
  subst hK
  intro pins s σ H vs us Q I r h
  obtain ⟨x, d, rfl, hd, hs, hn, hdp, hz, q⟩ := h
  obtain ⟨u, rfl, ru⟩ := r.one
  obtain ⟨as, rd⟩ := Dp.reads I d x u hd ru
  have un := hr.un
  have line : (12900041 : Nat) ≤ sizeLine := by decide
  have go : ∀ h' t' tk, (∀ b o, s.heap.get? b = some o → h'.get? b = some o) → EP X pins σ Q (.str d.shown t') { s with heap := h', toks := tk } := fun h' t' tk hk => ⟨.str d.shown, H, I.kept hk, ⟨_, rfl⟩, q⟩
  cases hd with
  | non => cases ru; exact PySem.P.repr_of_none (go s.heap _ _ fun _ _ e => e)
  | bl b =>
    cases ru
    refine PySem.P.repr_of_bool ?_
    have := go s.heap s.toks (s.toks + 1) fun _ _ e => e
    simp only [PyData.shown] at this
    cases b <;> exact this
  | int i =>
    obtain ⟨t, rfl⟩ := ru
    simp only [PyData.showable, decide_eq_true_eq] at hs
    refine PySem.P.repr_of_int hs ?_
    have := go s.heap s.toks (s.toks + 1) fun _ _ e => e
    simp only [PyData.shown] at this
    exact this
  | str y =>
    obtain ⟨t, rfl⟩ := ru
    simp only [PyData.shown] at go hz
    exact PySem.P.repr_of_str (go s.heap _ _ fun _ _ e => e) (by omega)
  | lst a b =>
    cases ru
    exact repr_of_reads' rd hs (PyData.noDict_hsm hn) hg (by omega) (fun _ _ e => e) go (by omega)
  | tup a b =>
    cases ru
    exact repr_of_reads' rd hs (PyData.noDict_hsm hn) hg (by omega) (fun _ _ e => e) go (by omega)
theorem r_repr {H : Hp} {Q : VK} {x : V} {d : PyData} {w : Nat} (h : Dp K H x d) (f : Fine d w) (hw : w ≤ 300000) (hd : d.depth ≤ 64) (q : Q (.str d.shown) H) : rRepr K [x] H Q := ⟨x, d, rfl, h, f.sh, f.nd, hd, f.len hw, q⟩
theorem r_reprH {α : Type} [DecidableEq α] [PySem.W.Datum α] {H : Hp} {Q : VK} {x : V} {u : α} {w : Nat} (h : Hd K H x u) (f : Fine (PySem.W.Datum.toD u) w) (hw : w ≤ 300000) (q : Q (.str (PySem.W.Datum.toD u).shown) H) (hd : PySem.W.Datum.depth α ≤ 64 := by decide) : rRepr K [x] H Q :=
  r_repr h f hw (Nat.le_trans (PySem.W.Datum.depth_le u) hd) q
theorem r_eqS {H : Hp} {Q : VK} {a b : Str} (q : Q (.bl (decide (a = b))) H) : rEq (.str a) (.str b) H Q := by
  refine ⟨rfl, ?_⟩
  have e : decide (V.str a = V.str b) = decide (a = b) := by rw [Bool.eq_iff_iff]; simp
  rw [e]
  exact q
theorem r_neS {H : Hp} {Q : VK} {a b : Str} (q : Q (.bl (!decide (a = b))) H) : rNe (.str a) (.str b) H Q := by
  refine ⟨rfl, ?_⟩
  have e : decide (V.str a = V.str b) = decide (a = b) := by rw [Bool.eq_iff_iff]; simp
  rw [e]
  exact q
end
section
variable {X : Cx} {k : Nat} {f C : Addr} {ps : List Str} {sp : Sp} {x m : Str} {p pos apos : Pos} {e o : Expr} {es : List Expr} {ta : TE} {t : TA} {Pre : Around → Shared → Prop}
/-- a call of a def that asks for Pre -/
theorem pg_call (G : OkP Pre X.prog X.w X.K X.mg X.base k f ps sp) (hp : ∀ s, Pre X.A s) (hr : Room k X.A) (hg : Gl X x) (hm : X.mg x = some (.ref f)) (hk : PySem.W.keepIn X.K (.ref f) = true)
    (ha : PA X (e :: es) t) (hdb : (x == ("__debug__" : Str)) = false := by decide) (he : starEach (e :: es) X.env = (false, eval e X.env) :: starEach es X.env := by rfl) (hpl : (backTo pos (starEach es X.env)).any (·.1) = false := by rfl) :
    PE X (.Call (.Name x p) (e :: es) [] pos) (tCall sp [] E0 t) := by
  refine ⟨fun pins s σ H Q I h => ?_⟩
  refine wpAny_Call_Name_kw (ld_glob I hg hm ?_ hdb)
  refine PySem.W.callWith_K (h₀ := X.base) I.ok.mod.kin hk (thn (ha.run pos pins s σ H _ I h) fun us s1 ⟨vs, H1, I1, r, q⟩ => ⟨I1.kIn, ?_⟩) he hpl
  replace q : sp (vs ++ []) H1 Q E0 := q
  rw [List.append_nil] at q
  exact run_pre G ⟨hr, rfl⟩ (hp s1) I1 r q
end
/-! ### the head of such a law -/
section
variable {P : Program} {w : World} {K : PySem.W.Frag} {mg mb : Str → Option Value} {k : Nat} {fa a : Addr} {x : Str} {sp : Sp} {st : Shared} {vs : List Value} {ns : List Int}
/-- behind the top, with nothing tracked but the script (or nothing at all) -/
theorem head_at (kin : K.In st.heap) (gl : st.heap.Ns mainGlobals mg) (bl : st.heap.Ns builtinsNs mb) (bb : ∀ y : Str, y ≠ "__name__" → mb y = bootBuiltins y) (lim : st.heap.NoLimit) (gens : st.gens = #[])
    (obj : st.heap.get? a = some { cls := .type "list", data := .seq vs.toArray }) (room : Room k callerA) (F : ∀ base : Heap, K.In base → base.Ns mainGlobals mg → OkP NoG P w K mg base k fa [x] sp)
    (H : Hp) (only : Only H) (hsp : sp [.ref a] H (fun v _ => v = .bl true) E0) (ok : HOk P w H st.heap) (one : ∀ b, H b ≠ none → b = a) (own : H a ≠ none → K.lookup a = none) :
    codeAny (model P w) callerA (.call (.ref fa) ⟨[.ref a], []⟩) (fun r s' => r = .ok (.ret (.bool true)) ∧ OldK st.heap s'.heap ∧ s'.os = st.os ∧ AllBare s'.gens) st := by
  have below : ∀ {b : Addr} {ob : Obj}, st.heap.get? b = some ob → H b = none → (hidT st.heap H).get? b = some ob := fun g n => hidT_get g n
  have plain : ∀ {b : Addr} {ob : Obj} {es : Array DictEntry} {ep : Nat}, st.heap.get? b = some ob → ob.data = .dict es ep → H b = none := by
    intro b ob es ep g hd
    by_cases hb : H b = none
    · exact hb
    · obtain rfl := one b hb
      rw [obj] at g
      cases g
      exact absurd (show Data.seq vs.toArray _ = Data.dict es ep from hd) (fun z => by cases z)
  have names : ∀ {b : Addr} {m : Str → Option Value}, st.heap.Ns b m → (hidT st.heap H).Ns b m := fun {b m} ⟨ob, es, ep, g, hd, r⟩ => ⟨ob, es, ep, below g (plain g hd), hd, r⟩
  have kinB : K.In (hidT st.heap H) := fun b ob g => below (kin b ob g) (by
    by_cases hb : H b = none
    · exact hb
    · obtain rfl := one b hb
      rw [own hb] at g
      cases g)
  have md : Mod K mg (hidT st.heap H) := ⟨kinB, names gl, ⟨mb, names bl, bb⟩, let ⟨mc, h1, h2⟩ := lim; ⟨mc, names h1, h2⟩⟩
  have env : Env0 P w K mg (hidT st.heap H) callerA [] st H := ⟨rfl, md, fun b ob g => of_hidT g, Nat.le_of_eq (hidT_size _ _), trivial, fun b hb => absurd (show b ∈ ([] : List Addr) from hb) (by simp), ok, .of_eq gens⟩
  obtain ⟨fd, bd, _, run⟩ := F _ kinB (names gl)
  have bnd := bd st [.ref a] kin rfl
  refine codeAny_mono (run callerA [] st H ⟨[.ref a], []⟩ [.ref a] [.ref a] _ _ rfl room env bnd (.cons rfl .nil) hsp) fun r s' h => ?_
  cases r with
  | error e => exact False.elim h
  | ok fl =>
    cases fl with
    | next => exact False.elim h
    | brk => exact False.elim h
    | cont => exact False.elim h
    | ret u =>
      obtain ⟨v, H', os, bare, un, ok', rel, rfl⟩ := h
      obtain rfl : u = Value.bool true := rel
      refine ⟨rfl, OldK.of_keep fun b ob g => ?_, os, bare⟩
      rcases only b with z | ⟨o2, zs, z⟩
      · exact un.keep b ob g z (by intro y; exact absurd (show b ∈ ([] : List Addr) from y) (by simp)) (by simp)
      · obtain ⟨g1, _⟩ := ok b _ z
        obtain ⟨g2, _⟩ := ok' b _ (un.frzs b o2 _ z)
        rw [g] at g1
        cases g1
        exact g2
theorem head_law (kin : K.In st.heap) (gl : st.heap.Ns mainGlobals mg) (bl : st.heap.Ns builtinsNs mb) (bb : ∀ y : Str, y ≠ "__name__" → mb y = bootBuiltins y) (lim : st.heap.NoLimit) (gens : st.gens = #[])
    (obj : st.heap.get? a = some { cls := .type "list", data := .seq vs.toArray }) (inn : IntsAre vs ns) (ln : ns.length ≤ sizeLine) (room : Room k callerA) (F : ∀ base : Heap, K.In base → base.Ns mainGlobals mg → OkP NoG P w K mg base k fa [x] sp)
    (hsp : ∀ H : Hp, SqL K H a (ns.map V.int) → sp [.ref a] H (fun v _ => v = .bl true) E0) :
    codeAny (model P w) callerA (.call (.ref fa) ⟨[.ref a], []⟩) (fun r s' => r = .ok (.ret (.bool true)) ∧ OldK st.heap s'.heap ∧ s'.os = st.os ∧ AllBare s'.gens) st := by
  have rel := vals_ints inn
  have sz := inn.length
  cases hk : K.lookup a with
  | some ob =>
    have g := kin a ob hk
    rw [obj] at g
    cases g
    refine head_at kin gl bl bb lim gens obj room F (fun _ => none) (fun _ => .inl rfl) (hsp _ (.inr ⟨_, vs.toArray, _, hk, rfl, rfl, rfl, by rw [List.size_toArray, sz]; exact ln, by simpa using rel⟩)) (fun b u z => ?_) (fun b z => absurd rfl z) fun z => absurd rfl z
    exact absurd (show (none : Option HO) = some u from z) (by simp)
  | none =>
    have e : ∀ b, (upd (fun _ => none) a (.frz { cls := .type "list", data := .seq vs.toArray } (.lst (ns.map V.int)))) b = if b = a then some (.frz { cls := .type "list", data := .seq vs.toArray } (.lst (ns.map V.int))) else none := fun b => by
      by_cases hb : b = a
      · rw [if_pos hb, hb, upd_same]
      · rw [if_neg hb, upd_ne hb]
    refine head_at kin gl bl bb lim gens obj room F (upd (fun _ => none) a (.frz { cls := .type "list", data := .seq vs.toArray } (.lst (ns.map V.int)))) (fun b => ?_) (hsp _ (.inl (.inr ⟨_, upd_same⟩))) (fun b u z => ?_) (fun b z => ?_) fun _ => hk
    · by_cases hb : b = a
      · exact .inr ⟨_, _, by rw [hb, upd_same]⟩
      · exact .inl (by rw [upd_ne hb])
    · by_cases hb : b = a
      · subst hb
        rw [upd_same] at z
        cases z
        exact ⟨obj, by rw [List.length_map]; exact ln, vs, _, rel, obj⟩
      · rw [upd_ne hb] at z
        cases z
    · by_cases hb : b = a
      · exact hb
      · exact absurd (by rw [upd_ne hb]) z
end
theorem walkG {l : PySem.W.OpenLaw} {n k : Nat} {q : Program} {loose : List Str} {XP : (Str → Option Value) → Heap → Prop} {YP : World → Heap → Prop} {d : DefRec} {K : Params → PySem.W.Frag} {x : Str} {sp : World → Sp}
    (most : l.most = some n) (line : n ≤ sizeLine) (nodf : d.params.defaults = []) (room : Room k callerA) (kin : ∀ (w : World) (h : Heap), YP w h → (K w.params).In h)
    (F : ∀ (w : World) (mg : Str → Option Value) (fa : Addr) (h : Heap), (K w.params).In h → h.Ns mainGlobals mg → mg d.name = some (.ref fa) → ∀ base : Heap, (K w.params).In base → base.Ns mainGlobals mg → OkP NoG l.prog w (K w.params) mg base k fa [x] (sp w))
    (hsp : ∀ (w : World) (H : Hp) (a : Addr) (ns : List Int), ns.length ≤ n → SqL (K w.params) H a (ns.map V.int) → sp w [.ref a] H (fun v _ => v = .bl true) E0) : PySem.W.WalkO q loose XP YP l.row.toRowW d [] (fun f vs => PySem.call f vs) := by
  refine Att.attach_call most nodf fun w s₀ s₁ mg mb fa o pm cd doc a vs ns G Y _ _ _ hmg obj inn len gens => ?_
  have kX := kin w _ Y
  exact head_law kX G.T.g G.T.b G.T.builtins G.T.nolimit gens obj inn (Nat.le_trans len line) room (F w mg fa _ kX G.T.g hmg) fun H hS => hsp w H a ns len hS
end Hn

/-! Static methods by the class; list(range(n)); clocks compared. -/
namespace Hn
open PySem PySem.Spec PyProof.Rows L2 Evl
/-- C.m is a staticmethod: its record at p, its def at g -/
structure SMet (K : PySem.W.Frag) (C : Addr) (mc : Value) (m : Str) (p g : Addr) : Prop where
  rd : PySem.W.readsIn K C mc = true
  ga : PySem.W.specialIn K (.ref C) "__getattribute__" = some (some (.builtin "type.__getattribute__"))
  at_ : PySem.W.findCls K (.ref C) mc m = some (.get (.builtin "staticmethod.__get__") (.ref p) .none (.ref C))
  rc : ∃ rest, PySem.W.recIn K p "staticmethod" = some (.ref g :: rest)
def tSMeth (C : Addr) (sp : Sp) (ta : TE) (t : TA) : TE := fun σ H Q => ta σ H fun x H1 => x = .ref C ∧ t σ H1 fun vs H2 => sp vs H2 Q E0
section
variable {X : Cx} {k : Nat} {C p g : Addr} {mc : Value} {ps : List Str} {sp : Sp} {o e : Expr} {es : List Expr} {m : Str} {pos apos : Pos} {ta : TE} {t : TA} {pl : Sem Bool}
theorem pe_static (he : PE X o ta) (c : SMet X.K C mc m p g) (hk : PySem.W.keepIn X.K (.ref g) = true) (G : Okf X.prog X.w X.K X.mg X.base k g ps sp) (hr : Room k X.A) (ha : PA X (e :: es) t)
    (hst : starEach (e :: es) X.env = (false, eval e X.env) :: starEach es X.env := by rfl) (hpl : (backTo pos (starEach es X.env)).any (·.1) = false := by rfl)
    (ht : eval (.Call (.Attribute o m apos) (e :: es) [] pos) X.env = (do
      let ov ← eval o X.env
      standAt apos.atName
      let (f, first) ← holding [ov] (getMethod ov m pl)
      callWith pos f first (backTo pos (starEach (e :: es) X.env)) (backToKw pos (keywordEach [] X.env))) := by rfl) :
    PE X (.Call (.Attribute o m apos) (e :: es) [] pos) (tSMeth C sp ta t) := by
  refine ⟨fun pins s σ H Q I h => ?_⟩
  refine PySem.W.methodCall_KW (pl := pl) (thn (he.run pins s σ H _ I h) fun u s1 ⟨x, H1, I1, rx, ex, q⟩ => ?_) ht
  subst ex
  obtain rfl : u = Value.ref C := rx
  obtain ⟨rest, hp⟩ := c.rc
  refine PySem.W.method_cls I1.kIn c.ga (PySem.W.cls_bind I1.kIn c.rd c.at_ (wpAny_call (PySem.W.sm_get (s := { s1 with toks := s1.toks + 1 }) I1.kIn hp (PySem.W.handed_on rfl ?_))))
  have I2 : Inv X pins σ H1 { s1 with toks := s1.toks + 1 } := I1.tok _
  refine PySem.W.callWith_K (h₀ := X.base) I2.ok.mod.kin hk (thn (ha.run pos pins _ σ H1 _ I2 q) fun us s3 ⟨vs, H2, I3, rv, q2⟩ => ⟨I3.kIn, ?_⟩) hst hpl
  exact run_sub G ⟨hr, rfl⟩ I3 rv q2
end
section
variable {σ : L2.St} {H : Hp} {Q : VK} {C : Addr} {sp : Sp} {ta : TE} {ar : TA} {x : V}
theorem r_smeth (h : ta σ H fun x H1 => x = .ref C ∧ ar σ H1 fun vs H2 => sp vs H2 Q E0) : tSMeth C sp ta ar σ H Q := h
theorem r_isC {p : Prop} (h : p) : V.ref C = .ref C ∧ p := ⟨rfl, h⟩
theorem r_lstRg {te : L2.St → Hp → (Int → Int → Hp → Prop) → Prop} (h : te σ H fun a b H1 => RgOk a b ∧ ∀ q, H1 q = none → Q (.ref q) (upd H1 q (.lst (rgV a b)))) : tLstRg te σ H Q := h
theorem r_rg1 {q : Int → Int → Hp → Prop} (h : ta σ H fun x H1 => ∃ n, x = .int n ∧ q 0 n H1) : tRg1 ta σ H q := h
theorem rgV0 (n : Nat) : rgV 0 (n : Int) = ((List.range n).map fun (i : Nat) => ((i : Nat) : Int)).map V.int := by
  unfold rgV
  rw [Int.sub_zero, Int.toNat_natCast, List.map_map]
  refine List.map_congr_left fun i _ => ?_
  show V.int (0 + (i : Int)) = V.int (i : Int)
  rw [Int.zero_add]
end
section
variable {K : PySem.W.Frag} {C : Addr} {H : Hp} {v w : V} {s t : List Int} {sp : Sp} {E : XK} {Q : VK}
theorem r_clk2 (h : Clk K C H v s) (h' : Clk K C H w t) (q : sp [v, w] H Q E) : rOwn C sp E v w H Q := by
  obtain ⟨x, dx, a, b, rfl, hp, _⟩ := h
  obtain ⟨y, dy, a', b', rfl, hq, _⟩ := h'
  exact ⟨x, y, dx, dy, _, _, rfl, rfl, hp, hq, q⟩
theorem r_clk2N (h : Clk K C H v s) (h' : Clk K C H w t) (q : sp [v, w] H (fun x H' => ∃ r, x = .bl r ∧ Q (.bl (!r)) H') E) : rOwnNe C sp E v w H Q := by
  obtain ⟨x, dx, a, b, rfl, hp, _⟩ := h
  obtain ⟨y, dy, a', b', rfl, hq, _⟩ := h'
  exact ⟨x, y, dx, dy, _, _, rfl, rfl, hp, hq, q⟩
theorem r_clkL (h : Clk K C H v s) (q : sp [v] H (fun x H' => ∃ n : Int, x = .int n ∧ 0 ≤ n ∧ n < 2 ^ 63 ∧ Q (.int n) H') E) : rLenO C sp E [v] H Q := by
  obtain ⟨x, dx, a, b, rfl, hp, _⟩ := h
  exact ⟨x, dx, _, rfl, hp, q⟩
end
end Hn

/-! for x in own; own == anything. -/
namespace Hn
open PySem PySem.Spec PyProof.Rows L2 Evl
/-- an own thing walked: __iter__ hands out an iterator of a tuple of xs -/
def iOwn (K : PySem.W.Frag) (C : Addr) (spI : Nat → Sp) (tl : TE) : TI := fun σ H R => tl σ H fun x H1 => ∃ a dx fs xs, x = .ref a ∧ H1 a = some (.ins C dx fs) ∧
  (∀ n Q', (∀ l it, SqT K H1 l xs → H1 it = none → n ≤ it → Q' (.ref it) (upd H1 it (ItT l it))) → spI n [.ref a] H1 Q' E0) ∧ ∀ l, SqT K H1 l xs → R (Itt K l) H1
section
variable {X : Cx} {K : PySem.W.Frag} {k : Nat} {C fi : Addr} {psI : List Str} {spI : Nat → Sp} {tg l : Expr} {tl : TE}
theorem k_piO (hK : X.K = K) (GI : ∀ n, OkP (fun _ s => n ≤ s.heap.objs.size) X.prog X.w X.K X.mg X.base k fi psI (spI n)) (hr : Room k X.A) (hit : PySem.W.findIn X.K (.ref C) "__iter__" = some (some (.ref fi))) (hF : PySem.W.isFn X.K (.ref fi) = true) (hl : PE X l tl) :
    PI X tg l (iOwn K C spI tl) := by
  subst hK
  refine ⟨fun pins s σ H R I h => ?_⟩
  refine thn (hl.run pins s σ H _ I h) fun v s1 ⟨x, H1, I1, r1, a, dx, fs, xs, ex, ha, hI, q⟩ => ?_
  subst ex
  cases r1
  obtain ⟨mA, J, _⟩ := ins_get I1.hok ha
  obtain ⟨od, J, _⟩ := J.look
  obtain ⟨m0, fr⟩ := I1.fr
  refine PySem.W.owit_iter fr I1.ok.mod.kin J hit hF ?_
  refine wpAny_mono (run_pre (us := [.ref a]) (vs := [.ref a]) (Q := fun v H' => ∃ l it, v = .ref it ∧ SqT X.K H1 l xs ∧ H1 it = none ∧ X.s_0.heap.objs.size ≤ it ∧ H' = upd H1 it (ItT l it)) (GI X.s_0.heap.objs.size) ⟨hr, rfl⟩ I1.sz I1 (.cons rfl .nil) (hI _ _ fun l it a1 a2 a3 => ⟨l, it, rfl, a1, a2, a3, rfl⟩)) (fun v s3 hv => ?_) fun e s' he => he
  obtain ⟨v', H3, I3, rv3, tp, it, rfl, hl', hn', hge, rfl⟩ := hv
  cases rv3
  obtain ⟨hobj, _⟩ := (show ObjOk X.prog X.w _ s3.heap it (ItT tp it) from I3.hok it _ upd_same)
  have hobj' : s3.heap.get? it = some { cls := .type "tuple_iterator", data := .fields #[.ref tp, .int 0 0] } := hobj
  show wpAny _ _ (specialOf (.ref it) "__next__") _ _ _
  refine wpAny_specialOf (T := "tuple_iterator") ⟨_, hobj', rfl⟩ PySem.F.slot_tuple_iterator_next.lookup ?_
  have fp4 := ItX.inv_fp I3 upd_same hge
  have I5 := ItX.inv_drop I3 (a := it) (φ := fun h => h.get? it = some { cls := .type "tuple_iterator", data := .fields #[.ref tp, .int 0 0] }) upd_same
  rw [ItX.dropH_upd hn'] at I5 fp4
  exact ⟨it, [it], _, _, H1, rfl, I5, turn_tuple tp it, ⟨_, hobj', rfl, rfl⟩, fun b hb => by rw [List.mem_singleton.mp hb]; exact fp4, q tp hl'⟩
end
section
variable {K : PySem.W.Frag} {C : Addr} {spI : Nat → Sp} {σ : L2.St} {H : Hp} {te : TE} {R : It → Hp → Prop}
theorem r_iOwn (h : te σ H fun x H1 => ∃ a dx fs xs, x = .ref a ∧ H1 a = some (.ins C dx fs) ∧ (∀ n Q', (∀ l it, SqT K H1 l xs → H1 it = none → n ≤ it → Q' (.ref it) (upd H1 it (ItT l it))) → spI n [.ref a] H1 Q' E0) ∧ ∀ l, SqT K H1 l xs → R (Itt K l) H1) : iOwn K C spI te σ H R := h
end
/-! ### own == anything whose kind is known -/
def rOwnA (K : PySem.W.Frag) (C : Addr) (sp : Sp) : R2 := fun x y H Q => ∃ a dx fs t, x = .ref a ∧ H a = some (.ins C dx fs) ∧ TyX K H y t ∧ PySem.W.notFirst K C t = true ∧ sp [x, y] H Q E0
section
variable {X : Cx} {K : PySem.W.Frag} {k : Nat} {C f : Addr} {ps : List Str} {sp : Sp}
theorem k_eqA (hK : X.K = K) (G : Okf X.prog X.w X.K X.mg X.base k f ps sp) (hr : Room k X.A) (hs : PySem.W.findIn X.K (.ref C) "__eq__" = some (some (.ref f))) (hf : PySem.W.isFn X.K (.ref f) = true) : OpR X (compareOp .Eq) (rOwnA K C sp) := by
  subst hK
  intro pins s σ H x y v u Q I rx ry h
  obtain ⟨a, dx, fs, t, rfl, ha, ty, nf, q⟩ := h
  cases rx
  obtain ⟨P, kt, hp, _⟩ := kit_of I ry ty
  obtain ⟨mA, J, _⟩ := ins_get I.hok ha
  obtain ⟨od, J, _⟩ := J.look
  obtain ⟨m, hF⟩ := I.fr
  refine PySem.W.cmp_K (op := .Eq) (tb := t) hr.units0 hF I.ok.mod.kin J (kt.ty _ _ I.kIn hp) nf hs hf ?_
  exact wpAny_mono (run_sub (us := [.ref a, u]) (vs := [.ref a, y]) G ⟨hr, rfl⟩ I (.cons rfl (.cons ry .nil)) q) (fun v s' hv => back_ne hv) fun _ _ e => e
end
theorem nf_of {K : PySem.W.Frag} {C : Addr} {t : Value} (h : PySem.W.subIn K t (.ref C) = some false) : PySem.W.notFirst K C t = true := by
  unfold PySem.W.notFirst
  rw [h, Bool.or_eq_true]
  exact .inr rfl
theorem nf_same {K : PySem.W.Frag} {C : Addr} : PySem.W.notFirst K C (.ref C) = true := by
  unfold PySem.W.notFirst
  rw [Bool.or_eq_true]
  exact .inl (beq_self_eq_true _)
theorem r_break {D : Ends} {σ : L2.St} {H : Hp} (h : D.bk σ H) : tBreak D σ H := h
theorem r_cont {D : Ends} {σ : L2.St} {H : Hp} (h : D.ct σ H) : tCont D σ H := h
theorem fine_30 {i : Int} (h : i.natAbs < 10 ^ 31) : Fine (.int i) 105 := by
  have f := fine_int (i := i) (Nat.lt_trans h (by decide))
  refine ⟨f.sh, f.nd, f.ls, ?_⟩
  simp only [PyData.weight]
  split
  · omega
  · by_cases z : i.natAbs = 0
    · rw [z]
      decide
    · have : i.natAbs.log2 < 104 := (Nat.log2_lt z).mpr (Nat.lt_trans h (by decide))
      omega
theorem fine_30s {ns : List Int} {n : Nat} (h : ∀ z ∈ ns, z.natAbs < 10 ^ 31) (hn : ns.length ≤ n) : Fine (PySem.W.Datum.toD ns) (n * 106) :=
  fine_list (fun d hd => by
    obtain ⟨z, hz, rfl⟩ := List.mem_map.mp hd
    exact fine_30 (h z hz)) (by rw [List.length_map]; exact hn)
theorem fine_30r {rs : List (List Int)} {n m : Nat} (h : ∀ r ∈ rs, (∀ z ∈ r, z.natAbs < 10 ^ 31) ∧ r.length ≤ n) (hm : rs.length ≤ m) : Fine (PySem.W.Datum.toD rs) (m * (n * 106 + 1)) :=
  fine_list (fun d hd => by
    obtain ⟨r, hr, rfl⟩ := List.mem_map.mp hd
    exact fine_30s (h r hr).1 (h r hr).2) (by rw [List.length_map]; exact hm)
theorem fine_bools (bs : List Bool) : Fine (PySem.W.Datum.toD bs) (bs.length * 1) :=
  fine_list (w := 0) (fun d hd => by
    obtain ⟨z, hz, rfl⟩ := List.mem_map.mp hd
    exact fine_bool z) (by rw [List.length_map]; exact Nat.le_refl _)
theorem sq_new {K : PySem.W.Frag} {H : Hp} {p : Addr} (np : H p = none) (xs : List V) : SqL K (upd H p (.lst xs)) p xs := .inl (.inl upd_same)
end Hn

/-! What is known, moved on to a later heap; piles of new lists. -/
namespace Hn
open PySem PySem.Spec PyProof.Rows L2 Evl
section
variable {K : PySem.W.Frag} {C : Addr} {fld : Str} {H H' : Hp} {v : V} {s : List Int} {a b : Addr} {xs : List V} {o : HO}
theorem mv_bag (h : Bag H b) (e : Xl H H') : Bag H' b := h.mono e
theorem mv_clk (h : Clk K C H v s) (e : Xl H H') : Clk K C H' v s := h.mono e
theorem mv_rw (h : Rw K C fld H v s) (e : Xl H H') : Rw K C fld H' v s := h.mono e
theorem mv_at (h : H a = some o) (e : Ex H H') : H' a = some o := e _ _ h
theorem mv_sqL (h : SqL K H a xs) (e : Ex H H') : SqL K H' a xs := ex_l e h
theorem mv_sqT (h : SqT K H a xs) (e : Ex H H') : SqT K H' a xs := ex_t e h
theorem at_sqL (h : H a = some (.lst xs)) : SqL K H a xs := .inl (.inl h)
theorem at_sqT (h : H a = some (.tup xs)) : SqT K H a xs := .inl (.inl h)
theorem sqL_sq (h : SqL K H a xs) : Sq K H a xs := .inl h
theorem sqT_sq (h : SqT K H a xs) : Sq K H a xs := .inr h
end
/-- a list of new lists, none of them the list itself -/
def Pile (H : Hp) (D : Addr) (rs : List (List V)) : Prop := ∃ ys : List V, H D = some (.lst ys) ∧ ys.length = rs.length ∧ ∀ (i : Nat) y, ys[i]? = some y → ∃ p, y = .ref p ∧ p ≠ D ∧ H p = some (.lst (rs.getD i []))
theorem Pile.nil {H : Hp} {D : Addr} (h : H D = some (.lst [])) : Pile H D [] := ⟨[], h, rfl, fun i y z => by simp at z⟩
theorem Pile.ex {H H' : Hp} {D : Addr} {rs : List (List V)} (e : Ex H H') (h : Pile H D rs) : Pile H' D rs :=
  let ⟨ys, h1, h2, h3⟩ := h
  ⟨ys, e _ _ h1, h2, fun i y hy => let ⟨p, hp, n, q⟩ := h3 i y hy; ⟨p, hp, n, e _ _ q⟩⟩
theorem Pile.push {H : Hp} {D q : Addr} {rs : List (List V)} {ys xs : List V} (h : Pile H D rs) (hD : H D = some (.lst ys)) (hq : H q = some (.lst xs)) (hn : q ≠ D) : Pile (upd H D (.lst (ys ++ [.ref q]))) D (rs ++ [xs]) := by
  obtain ⟨zs, h1, h2, h3⟩ := h
  rw [hD] at h1
  cases h1
  refine ⟨_, upd_same, by rw [List.length_append, List.length_append, h2]; rfl, fun i y hy => ?_⟩
  by_cases hi : i < ys.length
  · rw [List.getElem?_append_left hi] at hy
    obtain ⟨p, hp, n, e⟩ := h3 i y hy
    refine ⟨p, hp, n, ?_⟩
    rw [upd_ne n, e, List.getD_eq_getElem?_getD, List.getD_eq_getElem?_getD, List.getElem?_append_left (by omega)]
  · have hi2 : i = ys.length := by
      have := (List.getElem?_eq_some_iff.mp hy).1
      rw [List.length_append, List.length_singleton] at this
      omega
    subst hi2
    rw [List.getElem?_append_right (Nat.le_refl _), Nat.sub_self] at hy
    cases hy
    refine ⟨q, rfl, hn, ?_⟩
    rw [upd_ne hn, hq, List.getD_eq_getElem?_getD, List.getElem?_append_right (by omega), h2, Nat.sub_self]
    rfl
theorem Pile.hd {K : PySem.W.Frag} {H : Hp} {D : Addr} {us : List (List Int)} (h : Pile H D (us.map fun r => r.map V.int)) : Hd K H (.ref D) us := by
  obtain ⟨ys, h1, h2, h3⟩ := h
  rw [List.length_map] at h2
  refine hd_list (.inl (.inl h1)) (hda_ix h2 fun i v u hv hu => ?_)
  obtain ⟨p, rfl, _, hp⟩ := h3 i v hv
  rw [List.getD_eq_getElem?_getD, List.getElem?_map, hu] at hp
  exact hd_ints (.inl (.inl hp))
/-! ### a conditional expression whose two ways meet again -/
def tIfJ : TT → TE → TE → TE := tIf
theorem pe_ifJ {X : Cx} {tA : TT} {ta tb : TE} {pos : Pos} {a b c : Expr} (hc : PT X c tA) (ha : PE X a ta) (hb : PE X b tb) : PE X (.IfExp c a b pos) (tIfJ tA ta tb) := pe_ifExp hc ha hb
theorem r_ifJ {tt : TT} {ta tb : TE} {σ : L2.St} {H : Hp} {Q : VK} (P : V → Hp → Prop) (h : ∀ Q' : VK, (∀ v H', P v H' → Q' v H') → tIf tt ta tb σ H Q') (q : ∀ v H', P v H' → Q v H') : tIfJ tt ta tb σ H Q := h Q q
section
variable {K : PySem.W.Frag} {C : Addr} {fld : Str} {H H' : Hp} {v w : V} {s : List Int} {a b : Addr} {xs : List V} {Q : VK} {sp : Sp}
theorem r_ownA {t : Value} (h : Rw K C fld H v s) (ty : TyX K H w t) (nf : PySem.W.subIn K t (.ref C) = some false) (q : sp [v, w] H Q E0) : rOwnA K C sp v w H Q := by
  obtain ⟨x, dx, a, rfl, hp, _⟩ := h
  exact ⟨x, dx, _, _, rfl, hp, ty, nf_of nf, q⟩
theorem r_clkA {t : Value} (h : Clk K C H v s) (ty : TyX K H w t) (nf : PySem.W.subIn K t (.ref C) = some false) (q : sp [v, w] H Q E0) : rOwnA K C sp v w H Q := by
  obtain ⟨x, dx, fs, rfl, hp, _⟩ := r_clkG (p := True) h trivial
  exact ⟨x, dx, _, _, rfl, hp, ty, nf_of nf, q⟩
theorem ty_sqL (h : SqL K H a xs) : TyX K H (.ref a) (.type "list") := by
  rcases h with (h | ⟨o, h⟩) | ⟨o, its, n, h1, h2, _⟩
  · exact .base (.lst h)
  · exact .base (.frz h)
  · exact .kList h1 h2
theorem ty_sqT (h : SqT K H a xs) : TyX K H (.ref a) (.type "tuple") := by
  rcases h with (h | ⟨o, h⟩) | ⟨o, its, n, h1, h2, _⟩
  · exact .base (.tup h)
  · exact .fTuple h
  · exact .kTuple h1 h2
theorem ty_rw (i : IsC K C) (h : Rw K C fld H v s) : TyX K H v (.ref C) := by
  obtain ⟨x, dx, a, rfl, hp, _⟩ := h
  exact .base (.ins hp i.cl i.ha i.hn i.tk i.mr)
theorem ty_clk (i : IsC K C) (h : Clk K C H v s) : TyX K H v (.ref C) := by
  obtain ⟨x, dx, fs, rfl, hp, _⟩ := r_clkG (p := True) h trivial
  exact .base (.ins hp i.cl i.ha i.hn i.tk i.mr)
end
theorem at_row {n : Nat} {f : Int → Int} {h : Nat} (hh : h < n) : atI ((rowOf n f).map V.int) (h : Int) = some (.int (f (h : Int))) := by
  have e := at_int (ns := rowOf n f) (i := (h : Int)) (by omega) (by rw [rowOf_length]; omega)
  rw [Int.toNat_natCast, rowOf_getD _ hh] at e
  exact e
theorem row_all {n : Nat} {f : Int → Int} {P : Int → Prop} (h : ∀ j : Nat, j < n → P (f j)) : ∀ z ∈ rowOf n f, P z := fun z hz => by
  unfold rowOf at hz
  obtain ⟨j, hj, rfl⟩ := List.mem_map.mp hz
  exact h j (List.mem_range.mp hj)
theorem row_same {n h : Nat} {f : Int → Int} {z : Int} (hh : h < n) : (rowOf n f = rowOf n fun i => if i = (h : Int) then z else f i) ↔ f (h : Int) = z := by
  rw [rowOf_inj]
  constructor
  · intro e
    have := e h hh
    simp only [if_true] at this
    exact this
  · intro e j hj
    show f j = if (j : Int) = (h : Int) then z else f j
    split
    · rename_i q
      rw [q, e]
    · rfl
theorem dec_set {n h : Nat} {f : Int → Int} {z : Int} (hh : h < n) : decide (rowOf n f = rowOf n fun i => if i = (h : Int) then z else f i) = decide (f (h : Int) = z) := decide_eq_decide.mpr (row_same hh)
theorem dec_set' {n h : Nat} {f : Int → Int} {z : Int} (hh : h < n) : decide ((rowOf n fun i => if i = (h : Int) then z else f i) = rowOf n f) = decide (f (h : Int) = z) := by
  rw [← dec_set hh]
  exact decide_eq_decide.mpr ⟨Eq.symm, Eq.symm⟩
/-- row[:h] + [z] + row[h + 1:] -/
theorem set_lst {n h : Nat} {f : Int → Int} {z : Int} (hh : h < n) : ((rowOf n f).map V.int).take h ++ [.int z] ++ ((rowOf n f).map V.int).drop (h + 1) = (rowOf n fun i => if i = (h : Int) then z else f i).map V.int := by
  rw [← set_row hh, List.map_append, List.map_append, List.map_take, List.map_drop]
  rfl
theorem len_ne {α : Type} {s t : List α} (h : s.length ≠ t.length) : ¬ s = t := fun e => h (by rw [e])
theorem line_le {n : Nat} (h : n ≤ 1000) : n ≤ sizeLine := by
  have : (1000 : Nat) ≤ sizeLine := by decide
  omega
theorem sqT_back {K : PySem.W.Frag} {H : Hp} {p l : Addr} {xs ys : List V} (np : H p = none) (h : SqT K (upd H p (.lst ys)) l xs) : SqT K H l xs := by
  rcases h with (z | ⟨o, z⟩) | z
  · exact .inl (.inl (by rw [upd_ne (ne_of z upd_same (fun z => nomatch z))] at z; exact z))
  · exact .inl (.inr ⟨o, by rw [upd_ne (ne_of z upd_same (fun z => nomatch z))] at z; exact z⟩)
  · exact .inr z
theorem getD_mem' {s : List Int} {j : Nat} (h : j < s.length) : s.getD j 0 ∈ s := by
  rw [List.getD_eq_getElem?_getD, List.getElem?_eq_getElem h]
  exact List.getElem_mem h
theorem hda_rep {α : Type} [DecidableEq α] [PySem.W.Datum α] {K : PySem.W.Frag} {H : Hp} {x : V} {u : α} (h : Hd K H x u) : ∀ n : Nat, HdAll K H (List.replicate n x) (List.replicate n u)
  | 0 => .nil
  | n + 1 => .cons h (hda_rep h n)
theorem r_yesD {p A B : Prop} [Decidable p] (h : p) (q : A) : if decide p = true then A else B := by
  rw [decide_eq_true h]
  exact iteT q
theorem r_noD {p A B : Prop} [Decidable p] (h : ¬ p) (q : B) : if decide p = true then A else B := by
  rw [decide_eq_false h]
  exact iteF q
theorem r_reprB {K : PySem.W.Frag} {H : Hp} {Q : VK} {a : Addr} (bs : List Bool) (h : SqL K H a (bs.map V.bl)) (q : Q (.str (PySem.W.Datum.toD bs).shown) H) (hn : Nat.ble bs.length 1000 = true := by rfl) : rRepr K [.ref a] H Q :=
  r_reprH (hd_bools h) (fine_bools bs) (by have := Nat.le_of_ble_eq_true hn; omega) q
theorem r_repr30 {K : PySem.W.Frag} {H : Hp} {Q : VK} {a : Addr} {s : List Int} (h : SqL K H a (s.map V.int)) (hz : ∀ z ∈ s, z.natAbs < 10 ^ 31) (hl : s.length ≤ 48) (q : Q (.str (PySem.W.Datum.toD s).shown) H) : rRepr K [.ref a] H Q :=
  r_reprH (hd_ints h) (fine_30s (n := 48) hz hl) (by decide) q
theorem mv_sq {K : PySem.W.Frag} {H H' : Hp} {a : Addr} {xs : List V} (h : Sq K H a xs) (e : Ex H H') : Sq K H' a xs := h.mono e
theorem at_last_row {n : Nat} {f : Int → Int} : atI ((rowOf (n + 1) f).map V.int) (-1) = some (.int (f (n : Int))) := by
  unfold rowOf
  rw [List.range_succ, List.map_append, List.map_append]
  exact atI_last _ _
/-- a statement that changes no name, then the rest, shown once -/
theorem r_cutE {t u : TS} {D : Ends} {σ : L2.St} {H : Hp} (h1 : t { D with nx := fun σ' H' => σ' = σ ∧ Ex H H' } σ H) (h2 : ∀ H', Ex H H' → u D σ H') : tCut t u D σ H := ⟨_, h1, fun _ H' z => z.1.symm ▸ h2 H' z.2⟩
theorem r_cat {H : Hp} {Q : VK} {l b : Addr} {xs zs : List V} (h1 : H l = some (.lst xs)) (h2 : H b = some (.lst zs)) (hn : xs.length + zs.length ≤ 1000) (q : ∀ p, H p = none → Q (.ref p) (upd H p (.lst (xs ++ zs)))) : rCat (.ref l) (.ref b) H Q := ⟨l, b, xs, zs, rfl, rfl, h1, h2, line_le hn, q⟩
end Hn

/-! Slices and zips of lists or tuples; sums of begins. -/
namespace Hn
open PySem PySem.Spec PyProof.Rows L2 Evl RZ
def rSlQ (K : PySem.W.Frag) : V → Option Int → Option Int → Hp → VK → Prop := fun x lo hi H Q => ∃ a xs, x = .ref a ∧ ((SqL K H a xs ∧ ∀ p, H p = none → Q (.ref p) (upd H p (.lst (cutV xs lo hi)))) ∨
  (SqT K H a xs ∧ ¬ (HT.sIx xs.length 0 lo = 0 ∧ HT.sIx xs.length xs.length hi = xs.length) ∧ ∀ p, H p = none → Q (.ref p) (upd H p (.tup (cutV xs lo hi)))))
section
variable {X : Cx} {K : PySem.W.Frag}
theorem k_slQ (h : X.K = K) : SlR X (rSlQ K) := by
  subst h
  intro pins s σ H x v vl vu lo hi sl Q I rx hs pl pu h
  obtain ⟨a, xs, rfl, ⟨h1, q⟩ | ⟨h1, h2, q⟩⟩ := h
  · exact sl_list pins s σ H _ v vl vu lo hi sl Q I rx hs pl pu ⟨a, xs, rfl, h1, q⟩
  · exact sl_tup pins s σ H _ v vl vu lo hi sl Q I rx hs pl pu ⟨a, xs, rfl, h1, h2, q⟩
theorem k_slT (h : X.K = K) : SlR X (rSlT K) := h ▸ sl_tup
theorem k_piZA {e e2 : Expr} {ar : TA} {p pos tpos : Pos} {elts : List Expr} {kk : Nat} (h : X.K = K) (hg : Gl X "zip") (hm : X.mg "zip" = none) (ha : PA X [e, e2] ar)
    (hs : starEach [e, e2] X.env = (false, eval e X.env) :: starEach [e2] X.env := by rfl) (hpl : (backTo pos (starEach [e2] X.env)).any (·.1) = false := by rfl) :
    PI X (.Tuple elts kk tpos) (.Call (.Name "zip" p) [e, e2] [] pos) (iZipA K ar) := h ▸ pi_zipA hg hm ha hs hpl
end
theorem r_iZipA {K : PySem.W.Frag} {ar : TA} {σ : L2.St} {H : Hp} {R : It → Hp → Prop} (h : ar σ H fun vs H1 => ∃ a b xs ys, vs = [.ref a, .ref b] ∧ ((SqL K H1 a xs ∧ SqL K H1 b ys ∧ R (Itz K a b) H1) ∨ (SqT K H1 a xs ∧ SqT K H1 b ys ∧ R (ItzT K a b) H1))) : iZipA K ar σ H R := h
theorem walk_zipT {K : PySem.W.Frag} {a b : Addr} {xs ys : List V} {n : Nat} (hn : n = min xs.length ys.length) : Walk (ItzT K a b) n (fun H => SqT K H a xs ∧ SqT K H b ys) (YPair (fun i => xs[i]?) (fun i => ys[i]?)) := by
  subst hn
  refine ⟨fun i _ hi q => ?_, fun _ q => ⟨xs, ys, q.1, q.2, by omega⟩, fun i H v H' _ q y => ?_⟩
  · have h1 : i < xs.length := by omega
    have h2 : i < ys.length := by omega
    exact ⟨xs, ys, xs[i], ys[i], q.1, q.2, by simp [h1], by simp [h2]⟩
  · obtain ⟨T, x, z, h1, h2, h3, h4, h5⟩ := y
    exact ⟨T, x, z, h1, h2, h3, h4 xs q.1, h5 ys q.2⟩
/-! ### sums -/
theorem rowOf_succ (n : Nat) (f : Int → Int) : rowOf (n + 1) f = rowOf n f ++ [f (n : Int)] := by
  unfold rowOf
  rw [List.range_succ, List.map_append]
  rfl
/-- 0, the first, the first two .. -/
def sumsR (s : List Int) : List Int := rowOf (s.length + 1) fun k => (s.take k.toNat).sum
theorem sumsR_length (s : List Int) : (sumsR s).length = s.length + 1 := rowOf_length _ _
theorem take_sum {s : List Int} {j : Nat} (h : j < s.length) : (s.take (j + 1)).sum = (s.take j).sum + s.getD j 0 := by
  rw [List.take_succ, List.sum_append, List.getElem?_eq_getElem h, List.getD_eq_getElem?_getD, List.getElem?_eq_getElem h]
  simp
theorem sumsR_getD {s : List Int} {j : Nat} (h : j ≤ s.length) : (sumsR s).getD j 0 = (s.take j).sum := by
  unfold sumsR
  rw [rowOf_getD _ (by omega)]
  rfl
theorem take_row {n : Nat} {f : Int → Int} : ∀ {k : Nat}, k ≤ n → (rowOf n f).take k = rowOf k f := fun {k} h => by
  unfold rowOf
  rw [← List.map_take, List.take_range, Nat.min_eq_left h]
theorem sumsR_row (n : Nat) (f : Int → Int) : sumsR (rowOf n f) = rowOf (n + 1) fun k => Sg k.toNat f := by
  unfold sumsR
  rw [rowOf_length]
  refine rowOf_congr fun i h0 h1 => ?_
  show ((rowOf n f).take i.toNat).sum = Sg i.toNat f
  rw [take_row (by omega), sum_row]
/-- what lies between -/
def diffR (t : List Int) : List Int := rowOf (t.length - 1) fun i => t.getD (i.toNat + 1) 0 - t.getD i.toNat 0
theorem diffR_length (t : List Int) : (diffR t).length = t.length - 1 := rowOf_length _ _
theorem diff_sums (s : List Int) : diffR (sumsR s) = s := by
  unfold diffR
  rw [sumsR_length, Nat.add_sub_cancel]
  refine (row_ext _ rfl fun j hj => ?_).symm
  show s.getD j 0 = (sumsR s).getD (j + 1) 0 - (sumsR s).getD j 0
  rw [sumsR_getD (by omega), sumsR_getD (by omega), take_sum hj]
  omega
theorem diffR_row (n : Nat) (f : Int → Int) : diffR (rowOf (n + 1) f) = rowOf n fun i => f (i + 1) - f i := by
  unfold diffR
  rw [rowOf_length, Nat.add_sub_cancel]
  refine rowOf_congr fun i h0 h1 => ?_
  show (rowOf (n + 1) f).getD (i.toNat + 1) 0 - (rowOf (n + 1) f).getD i.toNat 0 = f (i + 1) - f i
  rw [rowOf_getD _ (by omega), rowOf_getD _ (by omega), show ((i.toNat + 1 : Nat) : Int) = i + 1 by omega, show ((i.toNat : Nat) : Int) = i by omega]
theorem Sg_succ (n : Nat) (f : Int → Int) : Sg (n + 1) f = Sg n f + f (n : Int) := rfl
theorem Sg_diff (n : Nat) (f : Int → Int) : Sg n (fun i => f (i + 1) - f i) = f (n : Int) - f 0 := by
  induction n with
  | zero => show (0 : Int) = f 0 - f 0; omega
  | succ n ih =>
    rw [Sg_succ, ih]
    show f n - f 0 + (f ((n : Int) + 1) - f n) = f ((n + 1 : Nat) : Int) - f 0
    rw [show ((n + 1 : Nat) : Int) = (n : Int) + 1 by omega]
    omega
/-- the sums of a row of ints that begins with 0 and never falls -/
theorem sums_diff {n : Nat} {f : Int → Int} (h0 : f 0 = 0) : sumsR (diffR (rowOf (n + 1) f)) = rowOf (n + 1) f := by
  rw [diffR_row, sumsR_row]
  refine rowOf_congr fun i i0 i1 => ?_
  show Sg i.toNat (fun i => f (i + 1) - f i) = f i
  rw [Sg_diff, h0, show ((i.toNat : Nat) : Int) = i by omega]
  omega
def okSums (t : List Int) : Bool := decide (2 ≤ t.length) && decide (t.length ≤ 49) && (t.all fun x => decide (0 ≤ x)) && decide (t.getD 0 0 = 0) && ((List.range (t.length - 1)).all fun i => decide (t.getD i 0 ≤ t.getD (i + 1) 0))
theorem Sg_nn {n : Nat} {f : Int → Int} (h : ∀ j : Nat, j < n → 0 ≤ f j) : 0 ≤ Sg n f := by
  induction n with
  | zero => exact Int.le_refl _
  | succ n ih =>
    rw [Sg_succ]
    have := ih fun j hj => h j (by omega)
    have := h n (by omega)
    omega
theorem ok_sumsR {s : List Int} (g : GoodN s) : okSums (sumsR s) = true := by
  have h1 := g.ne
  have h2 := g.le
  obtain ⟨n, hn⟩ : ∃ n, n = s.length := ⟨_, rfl⟩
  obtain ⟨f, hf⟩ : ∃ f, s = rowOf n f := ⟨cyc s, by rw [hn]; exact row_cyc s⟩
  have nn : ∀ j : Nat, j < n → 0 ≤ f j := fun j hj => by
    have := g.mem _ (getD_mem' (s := s) (j := j) (by omega))
    rw [hf, rowOf_getD f hj] at this
    exact this
  unfold okSums
  simp only [Bool.and_eq_true, List.all_eq_true, decide_eq_true_eq, sumsR_length, List.mem_range]
  refine ⟨⟨⟨⟨by omega, by omega⟩, ?_⟩, ?_⟩, ?_⟩
  · intro x hx
    rw [hf, sumsR_row] at hx
    exact row_all (P := fun z => 0 ≤ z) (fun j hj => by
      show 0 ≤ Sg (j : Int).toNat f
      exact Sg_nn fun i hi => nn i (by omega)) x hx
  · rw [sumsR_getD (by omega)]
    rfl
  · intro i hi
    rw [sumsR_getD (by omega), sumsR_getD (by omega), take_sum (by omega)]
    have := g.mem _ (getD_mem' (s := s) (j := i) (by omega))
    omega
theorem good_diff {t : List Int} (h : okSums t = true) : GoodN (diffR t) := by
  unfold okSums at h
  simp only [Bool.and_eq_true, List.all_eq_true, decide_eq_true_eq, List.mem_range] at h
  obtain ⟨⟨⟨⟨h1, h2⟩, h3⟩, h4⟩, h5⟩ := h
  refine GoodN.of (by rw [diffR_length]; omega) (by rw [diffR_length]; omega) ?_
  unfold diffR
  refine row_all (P := fun z => 0 ≤ z) fun j hj => ?_
  show 0 ≤ t.getD ((j : Int).toNat + 1) 0 - t.getD (j : Int).toNat 0
  have := h5 j hj
  rw [Int.toNat_natCast]
  omega
/-! ### one moved -/
def moveF (f : Int → Int) (h g : Int) : Int → Int := fun i => f i - (if i = h then 1 else 0) + (if i = g then 1 else 0)
theorem row_put {n h : Nat} {f : Int → Int} {z : Int} (hh : h < n) : ((rowOf n f).map V.int).set h (.int z) = (rowOf n fun i => if i = (h : Int) then z else f i).map V.int := by
  rw [← List.map_set]
  congr 1
  refine row_ext _ (by rw [List.length_set, rowOf_length]) fun j hj => ?_
  rw [List.getD_eq_getElem?_getD, List.getElem?_set]
  by_cases q : h = j
  · subst q
    rw [if_pos rfl, if_pos (by rw [rowOf_length]; exact hh)]
    show z = if (h : Int) = (h : Int) then z else f h
    rw [if_pos rfl]
  · rw [if_neg q, ← List.getD_eq_getElem?_getD, rowOf_getD f hj]
    show f j = if (j : Int) = (h : Int) then z else f j
    rw [if_neg (by omega)]
theorem ixN_nat {n j : Nat} (h : j < n) : ixN n (j : Int) = some j := by
  unfold ixN
  rw [if_pos (by omega)]
  simp [h]
theorem moved_row {n h g : Nat} {f : Int → Int} : (rowOf n fun i => if i = (g : Int) then (if (g : Int) = (h : Int) then f h - 1 else f g) + 1 else if i = (h : Int) then f h - 1 else f i) = rowOf n (moveF f h g) := by
  refine rowOf_congr fun i _ _ => ?_
  show (if i = (g : Int) then (if (g : Int) = (h : Int) then f h - 1 else f g) + 1 else if i = (h : Int) then f h - 1 else f i) = f i - (if i = (h : Int) then 1 else 0) + (if i = (g : Int) then 1 else 0)
  by_cases q1 : i = (g : Int)
  · by_cases q2 : i = (h : Int)
    · rw [if_pos q1, if_pos (by omega), if_pos q2, if_pos q1, q2]
    · rw [if_pos q1, if_neg (by omega), if_neg q2, if_pos q1, q1]
      omega
  · by_cases q2 : i = (h : Int)
    · rw [if_neg q1, if_pos q2, if_pos q2, if_neg q1, q2]
      omega
    · rw [if_neg q1, if_neg q2, if_neg q2, if_neg q1]
      omega
theorem cut_part {n : Nat} (h : 1 ≤ n) : ¬ (HT.sIx n 0 (some 1) = 0 ∧ HT.sIx n n none = n) := fun z => by
  have e : HT.sIx n 0 (some ((1 : Nat) : Int)) = min 1 n := HT.sIx_nat n 0 1
  have := z.1
  rw [show (some (1 : Int)) = some ((1 : Nat) : Int) from rfl, e] at this
  omega
theorem at_rowI {n : Nat} {f : Int → Int} {i : Int} (h0 : 0 ≤ i) (h1 : i < (n : Int)) : atI ((rowOf n f).map V.int) i = some (.int (f i)) := by
  obtain ⟨j, rfl⟩ : ∃ j : Nat, i = (j : Int) := ⟨i.toNat, by omega⟩
  exact at_row (by omega)
theorem cut_init {xs : List V} (h : 1 ≤ xs.length) : cutV xs none (some (-1)) = xs.take (xs.length - 1) := by
  unfold cutV
  have e : HT.sIx xs.length xs.length (some (-1)) = xs.length - 1 := by
    unfold HT.sIx
    simp only [Option.elim]
    first
      | omega
      | (simp; omega)
  rw [HT.sIx_none, e, List.drop_zero, Nat.sub_zero]
theorem put_last {m : Nat} {f : Int → Int} {z : Int} : ((rowOf (m + 1) f).map V.int).take m ++ [.int z] = (rowOf (m + 1) fun i => if i = (m : Int) then z else f i).map V.int := by
  have e := set_lst (n := m + 1) (h := m) (f := f) (z := z) (by omega)
  rw [← e, List.drop_of_length_le (by rw [List.length_map, rowOf_length]; omega), List.append_nil]
end Hn

/-! Plans by their sums: the lesser, the greater, both. -/
namespace Hn
open PySem PySem.Spec PyProof.Rows L2 Evl
/-- a row by its sums -/
def byS (n : Nat) (A : Int → Int) : List Int := rowOf n fun i => A (i + 1) - A i
theorem byS_length (n : Nat) (A : Int → Int) : (byS n A).length = n := rowOf_length _ _
theorem byS_diff (n : Nat) (A : Int → Int) : diffR (rowOf (n + 1) A) = byS n A := diffR_row n A
theorem sums_byS {n : Nat} {A : Int → Int} (h0 : A 0 = 0) : sumsR (byS n A) = rowOf (n + 1) A := by
  rw [← byS_diff]
  exact sums_diff h0
theorem byS_sum (n : Nat) (A : Int → Int) : (byS n A).sum = A (n : Int) - A 0 := by
  unfold byS
  rw [sum_row, Sg_diff]
theorem row_byS (n : Nat) (f : Int → Int) : rowOf n f = byS n fun k => Sg k.toNat f := by
  refine rowOf_congr fun i h0 _ => ?_
  show f i = Sg (i + 1).toNat f - Sg i.toNat f
  rw [show (i + 1).toNat = i.toNat + 1 by omega, Sg_succ, Int.toNat_of_nonneg h0]
  omega
theorem byS_inj {n : Nat} {A B : Int → Int} (ha : A 0 = 0) (hb : B 0 = 0) : byS n A = byS n B ↔ ∀ k : Nat, k ≤ n → A k = B k := by
  constructor
  · intro e k hk
    have e2 := congrArg sumsR e
    rw [sums_byS ha, sums_byS hb, rowOf_inj] at e2
    exact e2 k (by omega)
  · intro e
    refine rowOf_congr fun i h0 h1 => ?_
    have e1 := e i.toNat (by omega)
    have e2 := e (i.toNat + 1) (by omega)
    rw [show ((i.toNat + 1 : Nat) : Int) = i + 1 by omega] at e2
    rw [show ((i.toNat : Nat) : Int) = i by omega] at e1
    show A (i + 1) - A i = B (i + 1) - B i
    rw [e1, e2]
def mono (n : Nat) (A : Int → Int) : Prop := ∀ j : Nat, j < n → A j ≤ A ((j : Int) + 1)
theorem good_byS {n : Nat} {A : Int → Int} (h1 : 1 ≤ n) (h2 : n ≤ 48) (m : mono n A) : GoodN (byS n A) :=
  GoodN.of (by rw [byS_length]; exact h1) (by rw [byS_length]; exact h2) (row_all (P := fun z => 0 ≤ z) fun j hj => by
    have := m j hj
    show 0 ≤ A ((j : Int) + 1) - A j
    omega)
theorem mono_of {n : Nat} {A : Int → Int} (g : GoodN (byS n A)) : mono n A := fun j hj => by
  have := g.mem _ (getD_mem' (s := byS n A) (j := j) (by rw [byS_length]; exact hj))
  unfold byS at this
  rw [rowOf_getD _ hj] at this
  show A j ≤ A ((j : Int) + 1)
  have h : 0 ≤ A ((j : Int) + 1) - A j := this
  omega
theorem mono_le {n : Nat} {A : Int → Int} (m : mono n A) : ∀ {i j : Nat}, i ≤ j → j ≤ n → A i ≤ A j := fun {i j} h => by
  induction h with
  | refl => intro _; exact Int.le_refl _
  | step h ih =>
    intro hj
    rename_i k
    have h1 := ih (by omega)
    have h2 := m k (by omega)
    rw [show ((k + 1 : Nat) : Int) = (k : Int) + 1 by omega]
    omega
def mnF (A B : Int → Int) : Int → Int := fun k => if B k < A k then B k else A k
def mxF (A B : Int → Int) : Int → Int := fun k => if B k > A k then B k else A k
theorem mn_at {A B : Int → Int} (k : Int) : mnF A B k ≤ A k ∧ mnF A B k ≤ B k ∧ (mnF A B k = A k ∨ mnF A B k = B k) := by
  show (if B k < A k then B k else A k) ≤ A k ∧ (if B k < A k then B k else A k) ≤ B k ∧ ((if B k < A k then B k else A k) = A k ∨ (if B k < A k then B k else A k) = B k)
  split <;> omega
theorem mx_at {A B : Int → Int} (k : Int) : A k ≤ mxF A B k ∧ B k ≤ mxF A B k ∧ (mxF A B k = A k ∨ mxF A B k = B k) := by
  show A k ≤ (if B k > A k then B k else A k) ∧ B k ≤ (if B k > A k then B k else A k) ∧ ((if B k > A k then B k else A k) = A k ∨ (if B k > A k then B k else A k) = B k)
  split <;> omega
theorem mono_mn {n : Nat} {A B : Int → Int} (a : mono n A) (b : mono n B) : mono n (mnF A B) := fun j hj => by
  have := a j hj
  have := b j hj
  have := mn_at (A := A) (B := B) j
  have := mn_at (A := A) (B := B) ((j : Int) + 1)
  omega
theorem mono_mx {n : Nat} {A B : Int → Int} (a : mono n A) (b : mono n B) : mono n (mxF A B) := fun j hj => by
  have := a j hj
  have := b j hj
  have := mx_at (A := A) (B := B) j
  have := mx_at (A := A) (B := B) ((j : Int) + 1)
  omega
/-- a plan of P people, by its sums -/
def Ps (K : PySem.W.Frag) (C : Addr) (H : Hp) (v : V) (n : Nat) (P : Int) (A : Int → Int) : Prop := Rw K C "kept_begins" H v (byS n A) ∧ A 0 = 0 ∧ A (n : Int) = P
section
variable {K : PySem.W.Frag} {C : Addr} {H H' : Hp} {v w : V} {n : Nat} {P : Int} {A B : Int → Int}
theorem mv_ps (h : Ps K C H v n P A) (e : Xl H H') : Ps K C H' v n P A := ⟨h.1.mono e, h.2⟩
theorem Ps.good (h : Ps K C H v n P A) : GoodN (byS n A) := h.1.good
theorem Ps.mono (h : Ps K C H v n P A) : mono n A := mono_of h.1.good
theorem Ps.ne (h : Ps K C H v n P A) : 1 ≤ n := by
  have := h.1.good.ne
  rw [byS_length] at this
  exact this
theorem Ps.le (h : Ps K C H v n P A) : n ≤ 48 := by
  have := h.1.good.le
  rw [byS_length] at this
  exact this
theorem Ps.mn0 (h : Ps K C H v n P A) (h' : Ps K C H w n P B) : mnF A B 0 = 0 ∧ mnF A B (n : Int) = P := by
  have := mn_at (A := A) (B := B) 0
  have := mn_at (A := A) (B := B) n
  have := h.2
  have := h'.2
  omega
theorem Ps.mx0 (h : Ps K C H v n P A) (h' : Ps K C H w n P B) : mxF A B 0 = 0 ∧ mxF A B (n : Int) = P := by
  have := mx_at (A := A) (B := B) 0
  have := mx_at (A := A) (B := B) n
  have := h.2
  have := h'.2
  omega
theorem Ps.people (h : Ps K C H v n P A) : (byS n A).sum = P := by
  rw [byS_sum]
  have := h.2
  omega
end
def leS (n : Nat) (A B : Int → Int) : Bool := (List.range (n + 1)).all fun k => decide (A (k : Int) ≤ B (k : Int))
theorem leS_iff {n : Nat} {A B : Int → Int} : leS n A B = true ↔ ∀ k : Nat, k ≤ n → A k ≤ B k := by
  unfold leS
  rw [List.all_eq_true]
  constructor
  · intro h k hk
    exact of_decide_eq_true (h k (List.mem_range.mpr (by omega)))
  · intro h k hk
    exact decide_eq_true (h k (by have := List.mem_range.mp hk; omega))
theorem at_lastL {α : Type} {xs : List α} {n : Nat} {v : α} (h : xs[n]? = some v) (hl : xs.length = n + 1) : atI xs (-1) = some v := by
  have e : xs = xs.take n ++ [v] := by
    have := List.take_append_drop n xs
    conv => lhs; rw [← this]
    congr 1
    rw [List.drop_eq_getElem_cons (by omega), List.drop_of_length_le (by omega)]
    rw [List.getElem?_eq_getElem (by omega)] at h
    rw [Option.some.inj h]
  rw [e]
  exact atI_last _ _
/-- sums that are drawn and put in order -/
theorem sums_drawn {c : List Int} {P : Int} (hs : c.Pairwise (· ≤ ·)) (hc : ∀ z ∈ c, 0 ≤ z ∧ z ≤ P) (hP : 0 ≤ P) : ∃ A : Int → Int, (0 :: (c ++ [P])) = rowOf (c.length + 2) A ∧ A 0 = 0 ∧ A ((c.length + 1 : Nat) : Int) = P ∧ mono (c.length + 1) A := by
  obtain ⟨L, hL⟩ : ∃ L, L = 0 :: (c ++ [P]) := ⟨_, rfl⟩
  have hl : L.length = c.length + 2 := by rw [hL, List.length_cons, List.length_append]; rfl
  have pw : L.Pairwise (· ≤ ·) := by
    rw [hL, List.pairwise_cons]
    refine ⟨fun z hz => ?_, ?_⟩
    · rcases List.mem_append.mp hz with h | h
      · exact (hc z h).1
      · rw [List.mem_singleton.mp h]; exact hP
    · rw [List.pairwise_append]
      refine ⟨hs, List.pairwise_singleton _ _, fun a ha b hb => ?_⟩
      rw [List.mem_singleton.mp hb]
      exact (hc a ha).2
  refine ⟨fun k => L.getD k.toNat 0, ?_, ?_, ?_, ?_⟩
  · rw [← hL, ← hl]
    exact row_ext _ rfl fun j hj => rfl
  · show L.getD 0 0 = 0
    rw [hL]
    rfl
  · show L.getD (((c.length + 1 : Nat) : Int)).toNat 0 = P
    rw [Int.toNat_natCast, hL, List.getD_cons_succ, List.getD_eq_getElem?_getD, List.getElem?_append_right (Nat.le_refl _), Nat.sub_self]
    rfl
  · intro j hj
    show L.getD (j : Int).toNat 0 ≤ L.getD ((j : Int) + 1).toNat 0
    rw [Int.toNat_natCast, show ((j : Int) + 1).toNat = j + 1 by omega, List.getD_eq_getElem?_getD, List.getD_eq_getElem?_getD, List.getElem?_eq_getElem (by omega), List.getElem?_eq_getElem (by omega)]
    exact List.pairwise_iff_getElem.mp pw j (j + 1) (by omega) (by omega) (by omega)
theorem part_bd {P t p : Int} (hP : 0 ≤ P) (h0 : 0 ≤ t) (h1 : t ≤ p) (hp : 0 < p) : 0 ≤ P * t / p ∧ P * t / p ≤ P := by
  refine ⟨Int.ediv_nonneg (Int.mul_nonneg hP h0) (by omega), ?_⟩
  refine Int.ediv_le_of_le_mul hp ?_
  exact Int.mul_le_mul_of_nonneg_left h1 hP
theorem ps_rw {K : PySem.W.Frag} {C : Addr} {H : Hp} {v : V} {n : Nat} {P : Int} {A : Int → Int} (h : Ps K C H v n P A) : Rw K C "kept_begins" H v (byS n A) := h.1
theorem k_sorted {X : Cx} {K : PySem.W.Frag} (h : X.K = K) : CallR X (.builtin "sorted") (rSorted K) := h ▸ cr_sorted
/-! ### pairs made, pairs gone through with a test -/
section
variable {J : It} {n : Nat} {G : Hp → Prop} {Y : Nat → Hp → V → Hp → Prop}
theorem lc_prsN (w : Walk J n G Y) {g : TG} {te : TE} {vs : List Nat} {σ : L2.St} {H1 : Hp} {Q : VK} (ns ms : List Int) (hl : ns.length = n) (hG : ∀ H, Ex H1 H → G H) (hn : n ≤ 100000)
    (turn : ∀ i x H H', i < n → Ex H1 H → Y i H x H' → ∀ k : VK, (∀ T H4, Ex H H4 → H4 T = some (.tup [.int (ns.getD i 0), .int (ms.getD i 0)]) → k (.ref T) H4) → g x (wipe σ vs) H' fun σ2 H2 => wipe σ2 vs = wipe σ vs ∧ te σ2 H2 k)
    (fin : ∀ D H, H1 D = none → Ex H1 H → Prs H D ns ms → Q (.ref D) H) : LcTail J H1 g tYes te vs σ Q :=
  lc_map w (fun D i v H => ∃ T, v = .ref T ∧ H T = some (.tup [.int (ns.getD i 0), .int (ms.getD i 0)])) (fun _ _ H' e _ _ _ => hG H' e) (fun D i v H H' e ⟨T, h1, h2⟩ => ⟨T, h1, e _ _ h2⟩)
    (fun D i v H xs ys hD ⟨T, h1, h2⟩ => ⟨T, h1, by rw [upd_ne (ne_of h2 hD (fun z => nomatch z))]; exact h2⟩) hn
    (fun D i x H H' hi e hD _ y k h => turn i x H H' hi e y k fun T H4 e4 hT => h _ _ e4 ⟨T, rfl, hT⟩)
    fun D H ys hD e hy hyl hr => by
      have ex : ∃ ts : List Addr, ys = ts.map V.ref := by
        have : ∀ zs : List V, (∀ z ∈ zs, ∃ T, z = V.ref T) → ∃ ts : List Addr, zs = ts.map V.ref := fun zs => by
          induction zs with
          | nil => exact fun _ => ⟨[], rfl⟩
          | cons z zs ih =>
            intro h
            obtain ⟨T, rfl⟩ := h z List.mem_cons_self
            obtain ⟨ts, rfl⟩ := ih fun y hy => h y (List.mem_cons_of_mem _ hy)
            exact ⟨T :: ts, rfl⟩
        refine this ys fun z hz => ?_
        obtain ⟨i, hi, rfl⟩ := List.mem_iff_getElem.mp hz
        obtain ⟨T, hT, _⟩ := hr i _ (List.getElem?_eq_getElem hi)
        exact ⟨T, hT⟩
      obtain ⟨ts, rfl⟩ := ex
      rw [List.length_map] at hyl
      refine fin D H hD e ⟨ts, hy, by omega, fun j t ht => ?_⟩
      obtain ⟨T, hT, h2⟩ := hr j (.ref t) (by rw [List.getElem?_map, ht]; rfl)
      cases hT
      exact h2
end
theorem lc_prsF {K : PySem.W.Frag} {g : TG} {tt : TT} {te : TE} {vs : List Nat} {σ : L2.St} {H1 : Hp} {Q : VK} {p : Addr} {ns ms : List Int} (hP : Prs H1 p ns ms) (t : Nat → Bool) (f : Nat → V) (hn : ns.length ≤ 100000)
    (turn : ∀ i T H, i < ns.length → Ex H1 H → H T = some (.tup [.int (ns.getD i 0), .int (ms.getD i 0)]) → ∀ k : Bool → Hp → Prop, ∀ kk : VK, (∀ H4, t i = true → Ex H H4 → kk (f i) H4) → (∀ H3, t i = false → Ex H H3 → k false H3) →
      g (.ref T) (wipe σ vs) H fun σ2 H2 => wipe σ2 vs = wipe σ vs ∧ tt σ2 H2 fun b H3 => if b = true then te σ2 H3 kk else k false H3)
    (fin : ∀ D H, H1 D = none → Ex H1 H → H D = some (.lst (((List.range ns.length).filter t).map f)) → Q (.ref D) H) : ∃ a, V.ref p = .ref a ∧ (∃ xs, SqL K H1 a xs) ∧ LcTail (Itl K a) H1 g tt te vs σ Q := by
  obtain ⟨ts, h1, h2, h3⟩ := hP
  refine ⟨p, rfl, ⟨_, .inl (.inl h1)⟩, lc_filf (walk_list (xs := ts.map V.ref)) t f (fun H e => .inl (.inl (e _ _ h1))) (by rw [List.length_map]; omega) ?_ ?_⟩
  · rintro i x H H' hi e ⟨rfl, hx⟩ k kk hk hk2
    rw [List.length_map] at hi
    rw [List.getElem?_map] at hx
    cases ht : ts[i]? with
    | none => rw [ht] at hx; cases hx
    | some T =>
      rw [ht] at hx
      obtain rfl := Option.some.inj hx
      exact turn i T _ (by omega) e (e _ _ (h3 i T ht)) k kk hk hk2
  · intro D H hD e hd
    rw [List.length_map, h2] at hd
    exact fin D H hD e hd
/-! ### one moved, its sums -/
theorem Sg_sub {n : Nat} {f g : Int → Int} : Sg n (fun i => f i - g i) = Sg n f - Sg n g := by
  induction n with
  | zero => rfl
  | succ n ih => rw [Sg_succ, Sg_succ, Sg_succ, ih]; omega
theorem Sg_move {n h g : Nat} {f : Int → Int} (hh : h < n) (hg : g < n) : Sg n (moveF f h g) = Sg n f := by
  have e : Sg n (moveF f h g) = Sg n (fun i => f i - (if i = (h : Int) then 1 else 0)) + Sg n (fun i => if i = (g : Int) then 1 else 0) := Sg_add
  rw [e, Sg_sub, Sg_one hh (fun _ => 1), Sg_one hg (fun _ => 1)]
  omega
theorem nn_move {n h g : Nat} {f : Int → Int} (nn : ∀ j : Nat, j < n → 0 ≤ f j) (h0 : 1 ≤ f h) : ∀ j : Nat, j < n → 0 ≤ moveF f h g j := fun j hj => by
  have := nn j hj
  show 0 ≤ f j - (if (j : Int) = (h : Int) then 1 else 0) + (if (j : Int) = (g : Int) then 1 else 0)
  by_cases q1 : (j : Int) = (h : Int)
  · rw [if_pos q1, q1]
    split <;> omega
  · rw [if_neg q1]
    split <;> omega
theorem mono_Sg {n : Nat} {f : Int → Int} (nn : ∀ j : Nat, j < n → 0 ≤ f j) : mono n fun k => Sg k.toNat f := fun j hj => by
  show Sg (j : Int).toNat f ≤ Sg ((j : Int) + 1).toNat f
  rw [Int.toNat_natCast, show ((j : Int) + 1).toNat = j + 1 by omega, Sg_succ]
  have := nn j hj
  omega
theorem step_of {n : Nat} {A : Int → Int} (m : mono n A) (h : A 0 < A (n : Int)) : ∃ j : Nat, j < n ∧ 0 < A ((j : Int) + 1) - A j := by
  induction n with
  | zero => exact absurd h (by show ¬ A 0 < A 0; omega)
  | succ n ih =>
    by_cases q : A 0 < A (n : Int)
    · obtain ⟨j, hj, e⟩ := ih (fun j hj => m j (by omega)) q
      exact ⟨j, by omega, e⟩
    · refine ⟨n, by omega, ?_⟩
      rw [show ((n + 1 : Nat) : Int) = (n : Int) + 1 by omega] at h
      have := mono_le m (i := 0) (j := n) (by omega) (by omega)
      have h0 : ((0 : Nat) : Int) = 0 := rfl
      rw [h0] at this
      omega
theorem fil_nil {n : Nat} {t : Nat → Bool} : ((List.range n).filter t = []) ↔ ∀ i, i < n → t i = false := by
  rw [List.filter_eq_nil_iff]
  constructor
  · intro h i hi
    exact Bool.eq_false_iff.mpr (h i (List.mem_range.mpr hi))
  · intro h i hi
    exact Bool.eq_false_iff.mp (h i (List.mem_range.mp hi))
theorem mn_comm {A B : Int → Int} : mnF B A = mnF A B := funext fun k => by
  show (if A k < B k then A k else B k) = if B k < A k then B k else A k
  split <;> split <;> omega
theorem mx_comm {A B : Int → Int} : mxF B A = mxF A B := funext fun k => by
  show (if A k > B k then A k else B k) = if B k > A k then B k else A k
  split <;> split <;> omega
theorem dep2 (s : List Int) (P : Int) : (PyData.list [PySem.W.Datum.toD s, .int P]).depth ≤ 64 := by
  have h : (PySem.W.Datum.toD s).depth ≤ PySem.W.Datum.depth (List Int) := PySem.W.Datum.depth_le s
  have h2 : PySem.W.Datum.depth (List Int) ≤ 10 := by decide
  simp only [PyData.depth, PyData.depthAll]
  omega
end Hn

/-! Who is there. -/
namespace Hn
open PySem PySem.Spec PyProof.Rows L2 Evl
/-- how many of F are there at h -/
def thF (n : Nat) (s : List Int) (F : Int → Int) (h : Int) : Int := Sg n (fun b => if b < cyc s (h - b) then F (h - b) else 0)
theorem fil_sum (p : Nat → Bool) (f : Int → Int) (n : Nat) : (((List.range n).filter p).map fun (i : Nat) => f (i : Int)).sum = Sg n (fun i => if p i.toNat = true then f i else 0) := by
  induction n with
  | zero => rfl
  | succ n ih =>
    rw [List.range_succ, List.filter_append, List.map_append, List.sum_append, ih, Sg_succ, Int.toNat_natCast]
    congr 1
    by_cases q : p n = true
    · rw [List.filter_cons, if_pos q, if_pos q]
      simp
    · rw [List.filter_cons, if_neg q, if_neg q]
      rfl
theorem sum_rev (l : List Int) : l.reverse.sum = l.sum := by
  induction l with
  | nil => rfl
  | cons x l ih => rw [List.reverse_cons, List.sum_append, ih, List.sum_cons]; simp; omega
theorem serving_sum {s : List Int} (g : Good s) {F : Int → Int} (hF : ∀ i, F (i % (s.length : Int)) = F i) (h : Int) : ((servingOf s h).map F).sum = thF s.length s F h := by
  rw [← serving_filter g h, List.map_reverse, sum_rev, List.map_map]
  have e := fil_sum (fun (b : Nat) => decide ((b : Int) < cyc s (h - (b : Int)))) (fun b => F (h - b)) s.length
  have e2 : (F ∘ fun (b : Nat) => (h - (b : Int)) % (s.length : Int)) = fun (b : Nat) => F (h - (b : Int)) := funext fun b => hF _
  rw [e2, e]
  refine Sg_congr fun i h0 _ => ?_
  rw [show ((i.toNat : Nat) : Int) = i by omega]
  by_cases q : i < cyc s (h - i)
  · rw [if_pos (decide_eq_true q), if_pos q]
  · rw [if_neg (by rw [decide_eq_false q]; decide), if_neg q]
theorem th_congr {n : Nat} {s : List Int} {F G : Int → Int} (h : ∀ i, F i = G i) (t : Int) : thF n s F t = thF n s G t := by
  rw [show F = G from funext h]
theorem th_add {n : Nat} {s : List Int} {F G : Int → Int} (t : Int) : thF n s (fun i => F i + G i) t = thF n s F t + thF n s G t := by
  unfold thF
  rw [← Sg_add]
  refine Sg_congr fun i _ _ => ?_
  show (if i < cyc s (t - i) then F (t - i) + G (t - i) else 0) = (if i < cyc s (t - i) then F (t - i) else 0) + (if i < cyc s (t - i) then G (t - i) else 0)
  split <;> omega
theorem th_sub {n : Nat} {s : List Int} {F G : Int → Int} (t : Int) : thF n s (fun i => F i - G i) t = thF n s F t - thF n s G t := by
  unfold thF
  rw [← Sg_sub]
  refine Sg_congr fun i _ _ => ?_
  show (if i < cyc s (t - i) then F (t - i) - G (t - i) else 0) = (if i < cyc s (t - i) then F (t - i) else 0) - (if i < cyc s (t - i) then G (t - i) else 0)
  split <;> omega
theorem th_nn {n : Nat} {s : List Int} {F : Int → Int} (h : ∀ i, 0 ≤ F i) (t : Int) : 0 ≤ thF n s F t := Sg_nn fun j _ => by
  show 0 ≤ if (j : Int) < cyc s (t - j) then F (t - j) else 0
  split
  · exact h _
  · omega
theorem th_per {s : List Int} {F : Int → Int} (p : ∀ i, F (i + (s.length : Int)) = F i) (t : Int) : thF s.length s F (t + (s.length : Int)) = thF s.length s F t := by
  unfold thF
  refine Sg_congr fun i _ _ => ?_
  rw [show t + (s.length : Int) - i = t - i + (s.length : Int) by omega, cyc_per, p]
theorem th_turn {s : List Int} (hn : 1 ≤ s.length) {F : Int → Int} (c t : Int) : thF s.length (turnS s c) (fun i => F (i + c)) t = thF s.length s F (t + c) := by
  unfold thF
  refine Sg_congr fun i _ _ => ?_
  show (if i < cyc (turnS s c) (t - i) then F (t - i + c) else 0) = _
  rw [cyc_turn hn, show t - i + c = t + c - i by omega]
theorem th_sum {s : List Int} (g : Good s) {F : Int → Int} (p : ∀ i, F (i + (s.length : Int)) = F i) : Sg s.length (thF s.length s F) = Sg s.length (fun i => F i * cyc s i) := by
  unfold thF
  rw [Sg_swap]
  have e : ∀ b : Int, Sg s.length (fun h => if b < cyc s (h - b) then F (h - b) else 0) = Sg s.length (fun i => if b < cyc s i then F i else 0) := fun b => by
    have := Sg_turn (n := s.length) (f := fun i => if b < cyc s i then F i else 0) (fun i => by rw [cyc_per, p]) (-b)
    rw [← this]
    refine Sg_congr fun i _ _ => ?_
    rw [show i + -b = i - b by omega]
  rw [show (fun b => Sg s.length (fun h => if b < cyc s (h - b) then F (h - b) else 0)) = fun b => Sg s.length (fun i => if b < cyc s i then F i else 0) from funext e, Sg_swap]
  refine Sg_congr fun i _ _ => ?_
  have c := cnt_below (n := s.length) (c := cyc s i) (by have := g.lo i; omega) (g.hi i)
  have m := Sg_mul (n := s.length) (F i) (fun b => if b < cyc s i then 1 else 0)
  rw [c] at m
  rw [← m]
  refine Sg_congr fun b _ _ => ?_
  split <;> omega
theorem th_all {n : Nat} {F : Int → Int} (hn : 1 ≤ n) (p : ∀ i, F (i + (n : Int)) = F i) (t : Int) : thF n (List.replicate n (n : Int)) F t = Sg n F := by
  unfold thF
  have e : Sg n (fun b => if b < cyc (List.replicate n (n : Int)) (t - b) then F (t - b) else 0) = Sg n (fun b => F (t - b)) := Sg_congr fun b _ h1 => by
    rw [cyc_rep hn, if_pos h1]
  rw [e]
  have r := Sg_rev (n := n) (fun b => F (t - b))
  rw [← r]
  have q := Sg_turn (n := n) (f := F) p (t - n + 1)
  rw [← q]
  refine Sg_congr fun i _ _ => ?_
  rw [show t - ((n : Int) - 1 - i) = i + (t - n + 1) by omega]
theorem th_one {n : Nat} {F : Int → Int} (hn : 1 ≤ n) (t : Int) : thF n (List.replicate n 1) F t = F t := by
  unfold thF
  obtain ⟨m, rfl⟩ : ∃ m, n = m + 1 := ⟨n - 1, by omega⟩
  rw [Sg_first]
  have e : Sg m (fun i => if i + 1 < cyc (List.replicate (m + 1) 1) (t - (i + 1)) then F (t - (i + 1)) else 0) = Sg m (fun _ => 0) := Sg_congr fun i h0 _ => by
    rw [cyc_rep hn, if_neg (by omega)]
  rw [e, Sg_zero, cyc_rep hn, if_pos (by omega), show t - 0 = t by omega]
  omega
/-- one who begins at h -/
theorem th_delta {s : List Int} (g : Good s) {h : Nat} (hh : h < s.length) (t : Int) : thF s.length s (fun i => if i % (s.length : Int) = (h : Int) then 1 else 0) t = if (t - (h : Int)) % (s.length : Int) < cyc s (h : Int) then 1 else 0 := by
  unfold thF
  have hm := mod_bd g.ne (t - (h : Int))
  obtain ⟨c, hc⟩ : ∃ c : Nat, (t - (h : Int)) % (s.length : Int) = (c : Int) := ⟨((t - (h : Int)) % (s.length : Int)).toNat, (Int.toNat_of_nonneg hm.1).symm⟩
  have e : Sg s.length (fun b => if b < cyc s (t - b) then (if (t - b) % (s.length : Int) = (h : Int) then 1 else 0) else 0) = Sg s.length (fun b => if b = (c : Int) then (if b < cyc s (t - b) then 1 else 0) else 0) := Sg_congr fun b b0 b1 => by
    have iff : (t - b) % (s.length : Int) = (h : Int) ↔ b = (c : Int) := by
      constructor
      · intro q
        rw [← hc, ← q, Int.sub_emod_emod, show t - (t - b) = b by omega, Int.emod_eq_of_lt b0 b1]
      · intro q
        rw [q, ← hc, Int.sub_emod_emod, show t - (t - (h : Int)) = h by omega, Int.emod_eq_of_lt (by omega) (by omega)]
    by_cases q1 : b = (c : Int)
    · rw [if_pos q1, if_pos (iff.mpr q1)]
    · rw [if_neg q1, if_neg (fun z => q1 (iff.mp z))]
      split <;> rfl
  rw [e, Sg_one (by omega) (fun b => if b < cyc s (t - b) then 1 else 0), hc]
  have ec : cyc s (t - (c : Int)) = cyc s (h : Int) := cyc_congr (by rw [← hc, Int.sub_emod_emod, show t - (t - (h : Int)) = h by omega])
  rw [ec]
theorem per_mod {n : Nat} (hn : 1 ≤ n) {F : Int → Int} (p : ∀ i, F (i + (n : Int)) = F i) (i : Int) : F (i % (n : Int)) = F i := by
  have up : ∀ (k : Nat) (x : Int), F (x + (k : Int) * (n : Int)) = F x := fun k => by
    induction k with
    | zero => intro x; simp
    | succ k ih =>
      intro x
      rw [show x + ((k + 1 : Nat) : Int) * (n : Int) = x + (k : Int) * (n : Int) + (n : Int) by rw [show ((k + 1 : Nat) : Int) = (k : Int) + 1 by omega, Int.add_mul]; omega, p, ih]
  have e := Int.emod_add_mul_ediv i (n : Int)
  rcases Int.le_total 0 (i / (n : Int)) with q | q
  · have := up (i / (n : Int)).toNat (i % (n : Int))
    rw [Int.toNat_of_nonneg q, Int.mul_comm, e] at this
    exact this.symm
  · have := up (-(i / (n : Int))).toNat i
    rw [Int.toNat_of_nonneg (by omega)] at this
    rw [← this]
    congr 1
    rw [Int.neg_mul, Int.mul_comm]
    omega
def thR (s t : List Int) : List Int := rowOf s.length (thF s.length s (cyc t))
theorem thR_length (s t : List Int) : (thR s t).length = s.length := rowOf_length _ _
/-- the hours at which there are too few -/
def lackL (n : Nat) (a b : Int → Int) : List Int := ((List.range n).filter fun (h : Nat) => decide (a (h : Int) < b (h : Int))).map fun (h : Nat) => (h : Int)
def enough (n : Nat) (a b : Int → Int) : Bool := (List.range n).all fun (h : Nat) => decide (b (h : Int) ≤ a (h : Int))
theorem enough_iff {n : Nat} {a b : Int → Int} : enough n a b = true ↔ ∀ h : Nat, h < n → b h ≤ a h := by
  unfold enough
  rw [List.all_eq_true]
  exact ⟨fun q h hh => of_decide_eq_true (q h (List.mem_range.mpr hh)), fun q h hh => decide_eq_true (q h (List.mem_range.mp hh))⟩
theorem lack_nil {n : Nat} {a b : Int → Int} : decide (lackL n a b = []) = enough n a b := by
  rw [Bool.eq_iff_iff, decide_eq_true_iff, enough_iff]
  unfold lackL
  rw [List.map_eq_nil_iff, fil_nil]
  constructor
  · intro q h hh
    have := of_decide_eq_false (q h hh)
    omega
  · intro q h hh
    have := q h hh
    exact decide_eq_false (by omega)
theorem mem_lack {n : Nat} {a b : Int → Int} {h : Int} : h ∈ lackL n a b ↔ 0 ≤ h ∧ h < (n : Int) ∧ a h < b h := by
  unfold lackL
  rw [List.mem_map]
  constructor
  · rintro ⟨j, hj, rfl⟩
    obtain ⟨h1, h2⟩ := List.mem_filter.mp hj
    exact ⟨by omega, by have := List.mem_range.mp h1; omega, of_decide_eq_true h2⟩
  · rintro ⟨h0, h1, h2⟩
    refine ⟨h.toNat, List.mem_filter.mpr ⟨List.mem_range.mpr (by omega), ?_⟩, by omega⟩
    rw [Int.toNat_of_nonneg h0]
    exact decide_eq_true h2
/-! ### hour, (x, y) -/
theorem r_pairP {K : PySem.W.Frag} {σ : L2.St} {H : Hp} {T t : Addr} {x y z : V} {n m l : Nat} {q : L2.St → Hp → Prop} (ht : (upd H T (.tup [x, .ref t])) t = some (.tup [y, z])) (h : q (((σ.set n (some x)).set m (some y)).set l (some z)) (upd H T (.tup [x, .ref t]))) :
    gTup K 2 (gCons (gName n) (gCons (gTup K 2 (gCons (gName m) (gCons (gName l) gNil))) gNil)) (.ref T) σ (upd H T (.tup [x, .ref t])) q :=
  ⟨T, [x, .ref t], rfl, .inl (.inl upd_same), rfl, x, [.ref t], rfl, .ref t, [], rfl, t, [y, z], rfl, .inl (.inl ht), rfl, y, [z], rfl, z, [], rfl, rfl, rfl, h⟩
/-- list(zip(a, b)) of ints -/
theorem r_zipI {K : PySem.W.Frag} {H : Hp} {Q : VK} {a b : Addr} {ns ms : List Int} (hA : Sq K H a (ns.map V.int)) (hB : Sq K H b (ms.map V.int)) (hl : ms.length = ns.length) (h1 : 1 ≤ ns.length) (k : ∀ p H', H p = none → Ex H H' → Prs H' p ns ms → Q (.ref p) H') : rListZip K [.ref a, .ref b] H Q := by
  refine ⟨a, b, _, _, rfl, hA, hB, by rw [List.length_map, List.length_map, hl], by rw [List.length_map]; exact h1, fun H' p ts e np nt npt hp tl ht => ?_⟩
  refine k p H' np e ⟨ts, hp, by rw [tl, List.length_map], fun j t hj => ?_⟩
  have hj' : j < ns.length := by
    have := (List.getElem?_eq_some_iff.mp hj).1
    rw [tl, List.length_map] at this
    exact this
  refine ht j t _ _ hj ?_ ?_
  · rw [List.getElem?_map, List.getElem?_eq_getElem hj', List.getD_eq_getElem?_getD, List.getElem?_eq_getElem hj']
    rfl
  · rw [List.getElem?_map, List.getElem?_eq_getElem (by omega), List.getD_eq_getElem?_getD, List.getElem?_eq_getElem (by omega)]
    rfl
theorem fil_ix (l : List Int) (p : Int → Bool) : ((List.range l.length).filter (fun j => p (l.getD j 0))).map (fun j => l.getD j 0) = l.filter p := by
  have e : (List.range l.length).map (fun j => l.getD j 0) = l := by
    have := map_range_int l V.int
    refine List.ext_getElem? fun i => ?_
    rcases Nat.lt_or_ge i l.length with h | h
    · rw [List.getElem?_map, List.getElem?_range h, List.getElem?_eq_getElem h]
      show some (l.getD i 0) = _
      rw [List.getD_eq_getElem?_getD, List.getElem?_eq_getElem h]
      rfl
    · rw [List.getElem?_eq_none (by rw [List.length_map, List.length_range]; exact h), List.getElem?_eq_none h]
  conv => rhs; rw [← e]
  rw [List.filter_map]
  rfl
theorem thR_add {s t1 t2 : List Int} (h1 : t1.length = s.length) (h2 : t2.length = s.length) (hn : 1 ≤ s.length) : thR s (zipR (fun a b => a + b) t1 t2) = rowOf s.length fun h => thF s.length s (cyc t1) h + thF s.length s (cyc t2) h := by
  unfold thR
  refine rowOf_congr fun i _ _ => ?_
  rw [← th_add]
  exact th_congr (fun i => cyc_zipR (by omega) (by omega) i) _
theorem lack_or {n : Nat} {a b c m : Int → Int} (hm : ∀ h : Nat, h < n → (a h < m h ↔ (a h < b h ∨ a h < c h))) : ((List.range n).filter fun (h : Nat) => decide ((h : Int) ∈ lackL n a b ++ lackL n a c)).map (fun (h : Nat) => (h : Int)) = lackL n a m := by
  unfold lackL
  congr 1
  refine List.filter_congr fun h hh => ?_
  have h1 := List.mem_range.mp hh
  refine decide_eq_decide.mpr ?_
  rw [List.mem_append, hm h h1]
  have e1 := mem_lack (n := n) (a := a) (b := b) (h := (h : Int))
  have e2 := mem_lack (n := n) (a := a) (b := c) (h := (h : Int))
  unfold lackL at e1 e2
  rw [e1, e2]
  omega
theorem lack_and {n : Nat} {a b c m : Int → Int} (hm : ∀ h : Nat, h < n → (a h < m h ↔ (a h < b h ∧ a h < c h))) : (lackL n a b).filter (fun h => decide (h ∈ lackL n a c)) = lackL n a m := by
  have e2 : ∀ h : Int, h ∈ lackL n a c ↔ 0 ≤ h ∧ h < (n : Int) ∧ a h < c h := fun h => mem_lack
  rw [show (fun h => decide (h ∈ lackL n a c)) = fun h => decide (0 ≤ h ∧ h < (n : Int) ∧ a h < c h) from funext fun h => decide_eq_decide.mpr (e2 h)]
  unfold lackL
  rw [List.filter_map]
  congr 1
  rw [List.filter_filter]
  refine List.filter_congr fun h hh => ?_
  have h1 := List.mem_range.mp hh
  rw [Bool.eq_iff_iff, Bool.and_eq_true, decide_eq_true_iff, decide_eq_true_iff, hm h h1]
  show decide (0 ≤ (h : Int) ∧ (h : Int) < (n : Int) ∧ a (h : Int) < c (h : Int)) = true ∧ a (h : Int) < b (h : Int) ↔ _
  rw [decide_eq_true_iff]
  omega
theorem cat_nil {n : Nat} {a b c m : Int → Int} (hm : ∀ h : Nat, h < n → (a h < m h ↔ (a h < b h ∨ a h < c h))) : decide (lackL n a b ++ lackL n a c = []) = enough n a m := by
  rw [← lack_nil, ← lack_or hm]
  refine decide_eq_decide.mpr ?_
  rw [List.map_eq_nil_iff, fil_nil]
  constructor
  · intro e i hi
    rw [e]
    exact decide_eq_false (by simp)
  · intro e
    refine List.eq_nil_iff_forall_not_mem.mpr fun x hx => ?_
    have hb : 0 ≤ x ∧ x < (n : Int) := by
      rcases List.mem_append.mp hx with q | q
      · have := mem_lack.mp q; omega
      · have := mem_lack.mp q; omega
    have := of_decide_eq_false (e x.toNat (by omega))
    rw [Int.toNat_of_nonneg hb.1] at this
    exact this hx
theorem good_thR {s t : List Int} (g : Good s) (gt : GoodN t) (hl : t.length = s.length) : GoodN (thR s t) :=
  GoodN.of (by rw [thR_length]; exact g.ne) (by rw [thR_length, ← hl]; exact gt.le) (row_all (P := fun z => 0 ≤ z) fun j _ => th_nn (fun i => gt.nn i) _)
theorem cyc_thR {s t : List Int} {h : Nat} (hh : h < s.length) : cyc (thR s t) (h : Int) = thF s.length s (cyc t) (h : Int) := by
  rw [cyc_at (by rw [thR_length]; exact hh)]
  unfold thR
  rw [rowOf_getD _ hh]
theorem per_cyc {s t : List Int} (hl : t.length = s.length) (i : Int) : cyc t (i + (s.length : Int)) = cyc t i := by rw [← hl]; exact cyc_per t i
theorem thR_turn {s t : List Int} (g : Good s) (hl : t.length = s.length) (c : Int) : thR (turnS s c) (turnS t c) = turnS (thR s t) c := by
  have hn := g.ne
  unfold thR
  rw [turnS_length]
  conv => rhs; unfold turnS
  rw [rowOf_length]
  refine rowOf_congr fun i _ _ => ?_
  rw [cyc_rowOf _ hn]
  have e : thF s.length (turnS s c) (cyc (turnS t c)) i = thF s.length (turnS s c) (fun j => cyc t (j + c)) i := th_congr (fun j => cyc_turn (by omega) c j) _
  rw [e, th_turn hn]
  have per := fun x => th_per (s := s) (F := cyc t) (per_cyc hl) x
  exact (per_mod hn per _).symm
theorem lack_dom {n : Nat} {a : Int → Int} {r1 r2 : List Int} (h1 : 1 ≤ r1.length) (hl : r2.length = r1.length) :
    (∀ h : Nat, h < n → (a h < cyc (zipR (fun a b => if b > a then b else a) r1 r2) h ↔ (a h < cyc r1 h ∨ a h < cyc r2 h))) ∧ (∀ h : Nat, h < n → (a h < cyc (zipR (fun a b => if b < a then b else a) r1 r2) h ↔ (a h < cyc r1 h ∧ a h < cyc r2 h))) := by
  refine ⟨fun h _ => ?_, fun h _ => ?_⟩
  · rw [cyc_zipR h1 hl]
    show a h < (if cyc r2 h > cyc r1 h then cyc r2 h else cyc r1 h) ↔ _
    split <;> omega
  · rw [cyc_zipR h1 hl]
    show a h < (if cyc r2 h < cyc r1 h then cyc r2 h else cyc r1 h) ↔ _
    split <;> omega
theorem sum_turn {t : List Int} (h1 : 1 ≤ t.length) (c : Int) : (turnS t c).sum = t.sum := by
  unfold turnS
  rw [sum_row, Sg_turn (fun i => cyc_per t i), ← sum_cyc]
theorem enough_turn {s t r : List Int} (g : Good s) (hl : t.length = s.length) (hr : r.length = s.length) (c : Int) :
    enough s.length (thF s.length (turnS s c) (cyc (turnS t c))) (cyc (turnS r c)) = enough s.length (thF s.length s (cyc t)) (cyc r) := by
  have hn := g.ne
  have e : ∀ i, thF s.length (turnS s c) (cyc (turnS t c)) i = thF s.length s (cyc t) (i + c) := fun i => by
    rw [← th_turn hn]
    exact th_congr (fun j => cyc_turn (by omega) c j) _
  have per : ∀ i, thF s.length s (cyc t) (i + (s.length : Int)) = thF s.length s (cyc t) i := fun i => th_per (per_cyc hl) i
  have perr : ∀ i, cyc r (i + (s.length : Int)) = cyc r i := per_cyc hr
  rw [Bool.eq_iff_iff, enough_iff, enough_iff]
  constructor
  · intro q h hh
    have hm := mod_bd hn ((h : Int) - c)
    have := q ((((h : Int) - c) % (s.length : Int)).toNat) (by omega)
    rw [Int.toNat_of_nonneg hm.1, e, cyc_turn (by omega)] at this
    have e1 := per_mod hn per (((h : Int) - c) % (s.length : Int) + c)
    have e2 := per_mod hn perr (((h : Int) - c) % (s.length : Int) + c)
    rw [Int.emod_add_emod, show (h : Int) - c + c = h by omega, Int.emod_eq_of_lt (by omega) (by omega)] at e1 e2
    rw [← e1, ← e2] at this
    exact this
  · intro q h hh
    have hm := mod_bd hn ((h : Int) + c)
    have := q ((((h : Int) + c) % (s.length : Int)).toNat) (by omega)
    rw [Int.toNat_of_nonneg hm.1, per_mod hn per, per_mod hn perr] at this
    rw [e, cyc_turn (by omega)]
    exact this
/-- one moved, who is there -/
theorem th_move {s : List Int} (g : Good s) {n h k : Nat} {f : Int → Int} (hn : n = s.length) (hh : h < n) (hk : k < n) (t : Int) : thF s.length s (cyc (rowOf n (moveF f h k))) t = thF s.length s (cyc (rowOf n f)) t - (if (t - (h : Int)) % (s.length : Int) < cyc s (h : Int) then 1 else 0) + (if (t - (k : Int)) % (s.length : Int) < cyc s (k : Int) then 1 else 0) := by
  rw [← th_delta g (by omega : h < s.length), ← th_delta g (by omega : k < s.length), ← th_sub, ← th_add]
  refine th_congr (fun i => ?_) t
  rw [cyc_rowOf _ (by omega), cyc_rowOf _ (by omega), hn]
  rfl
theorem move_back {n h k : Nat} {f : Int → Int} : moveF (moveF f h k) k h = f := funext fun i => by
  show f i - (if i = (h : Int) then 1 else 0) + (if i = (k : Int) then 1 else 0) - (if i = (k : Int) then 1 else 0) + (if i = (h : Int) then 1 else 0) = f i
  omega
theorem thR_all {n : Nat} {t : List Int} (hn : 1 ≤ n) (hl : t.length = n) : thR (List.replicate n (n : Int)) t = List.replicate n t.sum := by
  unfold thR
  rw [List.length_replicate]
  have e : rowOf n (thF n (List.replicate n (n : Int)) (cyc t)) = rowOf n fun _ => t.sum := rowOf_congr fun i _ _ => by
    rw [th_all hn (fun i => by rw [← hl]; exact cyc_per t i), sum_cyc, hl]
  rw [e]
  unfold rowOf
  rw [List.map_const', List.length_range]
theorem thR_one {n : Nat} {t : List Int} (hn : 1 ≤ n) (hl : t.length = n) : thR (List.replicate n 1) t = t := by
  unfold thR
  rw [List.length_replicate]
  have e : rowOf n (thF n (List.replicate n 1) (cyc t)) = rowOf n (cyc t) := rowOf_congr fun i _ _ => th_one hn i
  rw [e, ← hl]
  exact (row_cyc t).symm
theorem two_of {α : Type} {l : List α} (h : l.length = 2) : ∃ a b, l = [a, b] := by
  match l, h with
  | [a, b], _ => exact ⟨a, b, rfl⟩
theorem RowsP.two {H : Hp} {D : Addr} {P : Nat → List V → Prop} (h : RowsP H D 2 P) : ∃ p q xs ys, H D = some (.lst [.ref p, .ref q]) ∧ H p = some (.lst xs) ∧ H q = some (.lst ys) ∧ P 0 xs ∧ P 1 ys := by
  obtain ⟨zs, h1, h2, h3⟩ := h
  obtain ⟨a, b, rfl⟩ := two_of h2
  obtain ⟨p, xs, rfl, hp, px⟩ := h3 0 a rfl
  obtain ⟨q, ys, rfl, hq, py⟩ := h3 1 b rfl
  exact ⟨p, q, xs, ys, h1, hp, hq, px, py⟩
end Hn

/-! Windows by sums: plans that are enough, closed. -/
namespace Hn
open PySem PySem.Spec PyProof.Rows L2 Evl
/-- sums that go on over the days -/
def ext (n : Nat) (P : Int) (A : Int → Int) (k : Int) : Int := A (k % (n : Int)) + k / (n : Int) * P
theorem ext_step {n : Nat} {P : Int} {A : Int → Int} (hn : 1 ≤ n) (h0 : A 0 = 0) (hP : A (n : Int) = P) (i : Int) : cyc (byS n A) i = ext n P A (i + 1) - ext n P A i := by
  unfold byS ext
  rw [cyc_rowOf _ hn]
  show A (i % (n : Int) + 1) - A (i % (n : Int)) = _
  have hm := mod_bd hn i
  have e := Int.emod_add_mul_ediv i (n : Int)
  generalize hq : i / (n : Int) = q at e
  generalize hr : i % (n : Int) = r at e hm
  by_cases c : r + 1 = (n : Int)
  · have e1 : i + 1 = (n : Int) * (q + 1) := by rw [Int.mul_add, Int.mul_one]; omega
    have e2 : (i + 1) % (n : Int) = 0 := by rw [e1]; exact Int.mul_emod_right _ _
    have e3 : (i + 1) / (n : Int) = q + 1 := by rw [e1]; exact Int.mul_ediv_cancel_left _ (by omega)
    rw [e2, e3, h0, c, hP, Int.add_mul, Int.one_mul]
    omega
  · have e1 : i + 1 = r + 1 + (n : Int) * q := by omega
    have e2 : (i + 1) % (n : Int) = r + 1 := by rw [e1, Int.add_mul_emod_self_left, Int.emod_eq_of_lt (by omega) (by omega)]
    have e3 : (i + 1) / (n : Int) = q := by rw [e1, Int.add_mul_ediv_left _ _ (by omega), Int.ediv_eq_zero_of_lt (by omega) (by omega)]; omega
    rw [e2, e3]
    omega
theorem Sg_cut {n : Nat} {f : Int → Int} : ∀ {w : Nat}, w ≤ n → Sg n (fun b => if b < (w : Int) then f b else 0) = Sg w f := by
  induction n with
  | zero => intro w h; obtain rfl : w = 0 := by omega
            rfl
  | succ n ih =>
    intro w h
    rw [Sg_succ]
    by_cases q : w = n + 1
    · subst q
      rw [if_pos (by omega), Sg_succ]
      congr 1
      exact Sg_congr fun i _ h1 => if_pos (by omega)
    · rw [ih (by omega), if_neg (by omega)]
      omega
theorem th_win {s : List Int} (g : Good s) {P : Int} {A : Int → Int} (h0 : A 0 = 0) (hP : A (s.length : Int) = P) (h : Int) : thF s.length s (cyc (byS s.length A)) h = ext s.length P A (h + 1) - ext s.length P A (h + 1 - wd s h) := by
  have hw0 := wd_nn (s := s) h
  have hw1 := wd_le (s := s) h
  obtain ⟨w, hw⟩ : ∃ w : Nat, wd s h = (w : Int) := ⟨(wd s h).toNat, (Int.toNat_of_nonneg hw0).symm⟩
  unfold thF
  have e : Sg s.length (fun b => if b < cyc s (h - b) then cyc (byS s.length A) (h - b) else 0) = Sg s.length (fun b => if b < (w : Int) then cyc (byS s.length A) (h - b) else 0) := Sg_congr fun b b0 b1 => by
    have := wd_iff g h (b := b.toNat) (by omega)
    rw [show ((b.toNat : Nat) : Int) = b by omega, hw] at this
    by_cases q : b < cyc s (h - b)
    · rw [if_pos q, if_pos (this.mpr q)]
    · rw [if_neg q, if_neg (fun z => q (this.mp z))]
  rw [e, Sg_cut (by omega)]
  have d := Sg_diff w (fun b => -ext s.length P A (h - b + 1))
  have e2 : Sg w (fun b => cyc (byS s.length A) (h - b)) = Sg w (fun i => -ext s.length P A (h - (i + 1) + 1) - -ext s.length P A (h - i + 1)) := Sg_congr fun i _ _ => by
    rw [ext_step g.ne h0 hP, show h - (i + 1) + 1 = h - i by omega]
    omega
  rw [e2, d, hw, show h - 0 + 1 = h + 1 by omega, show h - (w : Int) + 1 = h + 1 - w by omega]
  omega
theorem ext_mn {n : Nat} {P : Int} {A B : Int → Int} (k : Int) : ext n P (mnF A B) k ≤ ext n P A k ∧ ext n P (mnF A B) k ≤ ext n P B k ∧ (ext n P (mnF A B) k = ext n P A k ∨ ext n P (mnF A B) k = ext n P B k) := by
  have := mn_at (A := A) (B := B) (k % (n : Int))
  unfold ext
  omega
theorem ext_mx {n : Nat} {P : Int} {A B : Int → Int} (k : Int) : ext n P A k ≤ ext n P (mxF A B) k ∧ ext n P B k ≤ ext n P (mxF A B) k ∧ (ext n P (mxF A B) k = ext n P A k ∨ ext n P (mxF A B) k = ext n P B k) := by
  have := mx_at (A := A) (B := B) (k % (n : Int))
  unfold ext
  omega
section
variable {s : List Int} {P : Int} {A B : Int → Int} {r : Int → Int}
theorem enough_mn (g : Good s) (a0 : A 0 = 0) (aP : A (s.length : Int) = P) (b0 : B 0 = 0) (bP : B (s.length : Int) = P) (h1 : enough s.length (thF s.length s (cyc (byS s.length A))) r = true) (h2 : enough s.length (thF s.length s (cyc (byS s.length B))) r = true) :
    enough s.length (thF s.length s (cyc (byS s.length (mnF A B)))) r = true := by
  rw [enough_iff] at h1 h2 ⊢
  intro h hh
  have q1 := h1 h hh
  have q2 := h2 h hh
  have m0 := mn_at (A := A) (B := B) 0
  have mn := mn_at (A := A) (B := B) (s.length : Int)
  rw [th_win g a0 aP] at q1
  rw [th_win g b0 bP] at q2
  rw [th_win (P := P) g (by omega) (by omega)]
  have x1 := ext_mn (n := s.length) (P := P) (A := A) (B := B) ((h : Int) + 1)
  have x2 := ext_mn (n := s.length) (P := P) (A := A) (B := B) ((h : Int) + 1 - wd s h)
  omega
theorem enough_mx (g : Good s) (a0 : A 0 = 0) (aP : A (s.length : Int) = P) (b0 : B 0 = 0) (bP : B (s.length : Int) = P) (h1 : enough s.length (thF s.length s (cyc (byS s.length A))) r = true) (h2 : enough s.length (thF s.length s (cyc (byS s.length B))) r = true) :
    enough s.length (thF s.length s (cyc (byS s.length (mxF A B)))) r = true := by
  rw [enough_iff] at h1 h2 ⊢
  intro h hh
  have q1 := h1 h hh
  have q2 := h2 h hh
  have m0 := mx_at (A := A) (B := B) 0
  have mn := mx_at (A := A) (B := B) (s.length : Int)
  rw [th_win g a0 aP] at q1
  rw [th_win g b0 bP] at q2
  rw [th_win (P := P) g (by omega) (by omega)]
  have x1 := ext_mx (n := s.length) (P := P) (A := A) (B := B) ((h : Int) + 1)
  have x2 := ext_mx (n := s.length) (P := P) (A := A) (B := B) ((h : Int) + 1 - wd s h)
  omega
end
theorem byS_congr {n : Nat} {A B : Int → Int} (h : ∀ k : Int, A k = B k) : byS n A = byS n B := by rw [show A = B from funext h]
theorem byS_eq {n : Nat} {A B : Int → Int} (h : ∀ k : Nat, k ≤ n → A k = B k) (a : A 0 = 0) (b : B 0 = 0) : byS n A = byS n B := (byS_inj a b).mpr h
theorem zip_byS {n : Nat} {A B : Int → Int} : zipR (fun a b => a + b) (byS n A) (byS n B) = byS n (fun k => A k + B k) := by
  unfold byS
  rw [zipR_row]
  refine rowOf_congr fun i _ _ => ?_
  show A (i + 1) - A i + (B (i + 1) - B i) = A (i + 1) + B (i + 1) - (A i + B i)
  omega
theorem leS_all {n : Nat} {A B : Int → Int} (h : ∀ k : Int, A k ≤ B k) : leS n A B = true := leS_iff.mpr fun k _ => h k
theorem leS_dec {n : Nat} {A B X Y : Int → Int} (hx : X 0 = 0) (hy : Y 0 = 0) (h : ∀ k : Int, A k ≤ B k ↔ X k = Y k) : leS n A B = decide (byS n X = byS n Y) := by
  rw [Bool.eq_iff_iff, leS_iff, decide_eq_true_iff, byS_inj hx hy]
  exact ⟨fun q k hk => (h k).mp (q k hk), fun q k hk => (h k).mpr (q k hk)⟩
/-! ### a list taken apart -/
theorem k_glst {X : Cx} {K : PySem.W.Frag} {es : List Expr} {k : Nat} {t : TGs} {n : Nat} {pos : Pos} (h : X.K = K) (hc : X.calm = true) (hh : PGs X es t)
    (hn : (assignEach es X.env).length = n := by rfl) (hst : (assignEach es X.env).findIdx? (·.1) = none := by rfl) : PG X (.Tuple es k pos) (gLst K n t) := h ▸ pg_lst hc hh hn hst
theorem r_lst3 {K : PySem.W.Frag} {σ : L2.St} {H : Hp} {D : Addr} {x y z : V} {n m l : Nat} {q : L2.St → Hp → Prop} (hD : SqL K H D [x, y, z]) (h : q (((σ.set n (some x)).set m (some y)).set l (some z)) H) : gLst K 3 (gCons (gName n) (gCons (gName m) (gCons (gName l) gNil))) (.ref D) σ H q :=
  ⟨D, [x, y, z], rfl, hD, rfl, x, [y, z], rfl, y, [z], rfl, z, [], rfl, rfl, h⟩
theorem three_of {α : Type} {l : List α} (h : l.length = 3) : ∃ a b c, l = [a, b, c] := by
  match l, h with
  | [a, b, c], _ => exact ⟨a, b, c, rfl⟩
end Hn

/-! Texts: rows shown, joined. -/
namespace Hn
open PySem PySem.Spec PyProof.Rows L2 Evl
/-- the text of an int -/
def txI (i : Int) : Str := Str.ofString (toString i)
/-- a text of at most n signs, each of them small -/
def Sml (x : Str) (n : Nat) : Prop := x.length ≤ n ∧ ∀ c ∈ x.cps.toList, c < 1114112
theorem Sml.mono {x : Str} {n m : Nat} (h : Sml x n) (e : n ≤ m) : Sml x m := ⟨Nat.le_trans h.1 e, h.2⟩
theorem sml_of (s : String) : ∀ c ∈ (Str.ofString s).cps.toList, c < 1114112 := fun c hc => by
  rw [Str.ofString_eq_toList] at hc
  obtain ⟨z, _, rfl⟩ := List.mem_map.mp hc
  have h : z.val.toNat < 0xd800 ∨ (0xdfff < z.val.toNat ∧ z.val.toNat < 0x110000) := z.valid
  show z.val.toNat < 1114112
  omega
theorem sml_str (s : String) {n : Nat} (h : (Str.ofString s).length ≤ n) : Sml (Str.ofString s) n := ⟨h, sml_of s⟩
theorem sml_int {i : Int} (h : i.natAbs < 10 ^ 40) : Sml (txI i) 41 := by
  refine ⟨?_, sml_of _⟩
  unfold txI
  rw [PySem.ofString_length]
  exact int_text_length_le10 (k := 40) (by decide) h
theorem sml_app {x y : Str} {n m : Nat} (a : Sml x n) (b : Sml y m) : Sml (x ++ y) (n + m) := by
  refine ⟨by rw [strLen_append]; exact Nat.add_le_add a.1 b.1, fun c hc => ?_⟩
  have e : (x ++ y).cps.toList = x.cps.toList ++ y.cps.toList := by
    show (x.cps ++ y.cps).toList = _
    exact Array.toList_append
  rw [e] at hc
  rcases List.mem_append.mp hc with h | h
  · exact a.2 c h
  · exact b.2 c h
theorem join_cons (y a : Str) (r : List Str) (h : r ≠ []) : Str.join y (a :: r) = a ++ y ++ Str.join y r := by
  cases r with
  | nil => exact absurd rfl h
  | cons b r => rfl
theorem sml_join {y : Str} {n L : Nat} (hy : Sml y L) : ∀ (ys : List Str), (∀ x ∈ ys, Sml x n) → Sml (Txt.join y ys) (ys.length * (n + L)) := fun ys => by
  rw [TL.join_eq]
  induction ys with
  | nil => exact fun _ => ⟨Nat.zero_le _, fun c hc => by exact absurd hc (List.not_mem_nil)⟩
  | cons a r ih =>
    intro h
    by_cases q : r = []
    · subst q
      refine (h a List.mem_cons_self).mono ?_
      show n ≤ 1 * (n + L)
      omega
    · rw [join_cons _ _ _ q]
      refine (sml_app (sml_app (h a List.mem_cons_self) hy) (ih fun x hx => h x (List.mem_cons_of_mem _ hx))).mono ?_
      rw [List.length_cons, Nat.add_mul, Nat.one_mul]
      omega
theorem sum_len {n : Nat} : ∀ (ys : List Str), (∀ x ∈ ys, Sml x n) → (ys.map (·.length)).sum ≤ ys.length * n
  | [], _ => Nat.zero_le _
  | a :: r, h => by
    have := sum_len r fun x hx => h x (List.mem_cons_of_mem _ hx)
    have := (h a List.mem_cons_self).1
    rw [List.map_cons, List.sum_cons, List.length_cons, Nat.add_mul, Nat.one_mul]
    omega
theorem app_assoc (x y z : Str) : x ++ y ++ z = x ++ (y ++ z) := by
  show (⟨x.cps ++ y.cps ++ z.cps⟩ : Str) = ⟨x.cps ++ (y.cps ++ z.cps)⟩
  rw [Array.append_assoc]
theorem app_nil (x : Str) : x ++ Str.empty = x := Str.append_right_empty rfl
/-- joined by a sign: each behind that sign -/
theorem join_each (y w : Str) : ∀ ys : List Str, Txt.join y (w :: ys) = w ++ Txt.join Str.empty (ys.map fun x => y ++ x) := fun ys => by
  rw [TL.join_eq, TL.join_eq]
  induction ys generalizing w with
  | nil => show w = w ++ Str.empty; rw [app_nil]
  | cons a r ih =>
    rw [join_cons _ _ _ (by simp), ih a]
    cases r with
    | nil =>
      show w ++ y ++ (a ++ Str.empty) = w ++ (y ++ a)
      rw [app_nil, app_assoc]
    | cons b r =>
      show w ++ y ++ (a ++ Str.join Str.empty ((b :: r).map fun x => y ++ x)) = w ++ Str.join Str.empty ((y ++ a) :: ((b :: r).map fun x => y ++ x))
      rw [join_cons (Str.empty) (y ++ a) _ (by simp), app_nil, app_assoc, app_assoc]
/-! ### repr of texts -/
theorem fine_txt {x : Str} {n : Nat} (h : Sml x n) : Fine (.str x) n :=
  ⟨rfl, rfl, by simp only [PyData.leavesShort]; exact List.all_eq_true.mpr fun c hc => decide_eq_true (Nat.lt_of_lt_of_le (h.2 c hc) (by decide)), by simp only [PyData.weight]; exact h.1⟩
theorem dpa_strs {K : PySem.W.Frag} {H : Hp} : ∀ ys : List Str, DpAll K H (ys.map V.str) (ys.map PyData.str)
  | [] => .nil
  | y :: ys => .cons (.str y) (dpa_strs ys)
theorem strs_of {P : Str → Prop} : ∀ {vs : List V}, (∀ v ∈ vs, ∃ z : Str, P z ∧ v = .str z) → ∃ ns : List Str, (∀ z ∈ ns, P z) ∧ vs = ns.map V.str
  | [], _ => ⟨[], fun _ h => (nomatch h), rfl⟩
  | v :: vs, h => by
    obtain ⟨z, hz, rfl⟩ := h v (List.mem_cons_self ..)
    obtain ⟨ns, hns, rfl⟩ := strs_of (vs := vs) fun w hw => h w (List.mem_cons_of_mem _ hw)
    refine ⟨z :: ns, fun y hy => ?_, rfl⟩
    rcases List.mem_cons.mp hy with rfl | hy
    · exact hz
    · exact hns y hy
def rJoin (K : PySem.W.Frag) : V → List V → Hp → VK → Prop := fun x xs H Q => ∃ a p, ∃ ys : List Str, x = .str a ∧ xs = [.ref p] ∧ (SqL K H p (ys.map V.str) ∨ SqT K H p (ys.map V.str)) ∧ (ys.map (·.length)).sum + ys.length * a.length ≤ 16777216 ∧ Q (.str (Txt.join a ys)) H
theorem k_join {X : Cx} {K : PySem.W.Frag} {o e : Expr} {to te : TE} {apos pos : Pos} (h : X.K = K) (ho : PE X o to) (he : PE X e te) (hs : starEach [e] X.env = [(false, eval e X.env)] := by rfl) (hbase : attributeBase o "join" X.env (eval o X.env) = eval o X.env := by rfl) (hline : (apos.endLine == pos.line) = true := by rfl) :
    PE X (.Call (.Attribute o "join" apos) [e] [] pos) (tM1 (rJoin K) to te) := h ▸ pe_join ho he hs hbase hline
theorem r_m1 {r : V → List V → Hp → VK → Prop} {to te : TE} {σ : L2.St} {H : Hp} {Q : VK} (h : to σ H fun x H1 => (∃ a, x = .str a) ∧ te σ H1 fun y H2 => r x [y] H2 Q) : tM1 r to te σ H Q := h
theorem r_isS {a : Str} {p : Prop} (h : p) : (∃ b, V.str a = .str b) ∧ p := ⟨⟨a, rfl⟩, h⟩
theorem r_join {K : PySem.W.Frag} {H : Hp} {Q : VK} {a : Str} {p : Addr} {n : Nat} (ys : List Str) (hp : SqL K H p (ys.map V.str)) (hs : ∀ y ∈ ys, Sml y n) (ha : a.length ≤ 10) (hn : n ≤ 1000) (hl : ys.length ≤ 1000) (q : Q (.str (Txt.join a ys)) H) : rJoin K (.str a) [.ref p] H Q := by
  refine ⟨a, p, ys, rfl, rfl, .inl hp, ?_, q⟩
  have h1 := sum_len ys hs
  have h2 : ys.length * n ≤ 1000 * 1000 := Nat.mul_le_mul hl hn
  have h3 : ys.length * a.length ≤ 1000 * 10 := Nat.mul_le_mul hl ha
  omega
def rStrI : List V → Hp → VK → Prop := fun xs H Q => ∃ i, xs = [.int i] ∧ i.natAbs.log2 < 1920 ∧ Q (.str (txI i)) H
theorem k_strI {X : Cx} : CallR X (.type "str") rStrI := call_str_int
theorem r_strI {H : Hp} {Q : VK} {i : Int} (h : i.natAbs < 10 ^ 40) (q : Q (.str (txI i)) H) : rStrI [.int i] H Q := ⟨i, rfl, by have := log_40 h; omega, q⟩
theorem r_addS {H : Hp} {Q : VK} {a b : Str} (h : a.length + b.length ≤ 100000) (q : Q (.str (a ++ b)) H) : rAddS (.str a) (.str b) H Q := ⟨a, b, rfl, rfl, by have : (100000 : Nat) ≤ sizeLine := (by decide); omega, q⟩
theorem pe_gstr {X : Cx} {x : Str} {i : Str} {pos : Pos} (hg : Gl X x) (hm : ∃ t : Tok, X.mg x = some (.str i t)) (hd : (x == ("__debug__" : Str)) = false := by decide) : PE X (.Name x pos) (tC (.str i)) :=
  let ⟨t, h⟩ := hm
  pe_glob hg h ⟨t, rfl⟩ hd
/-- a row, shown -/
def shw (w : Str) (ns : List Int) : Str := Txt.join (Str.ofString " ") (w :: ns.map txI)
theorem shw_each (w : Str) (ns : List Int) : w ++ Txt.join Str.empty (ns.map fun i => Str.ofString " " ++ txI i) = shw w ns := by
  unfold shw
  rw [join_each, List.map_map]
  rfl
theorem sml_shw {w : Str} {ns : List Int} (hw : Sml w 10) (hn : ns.length ≤ 48) (h : ∀ z ∈ ns, z.natAbs < 10 ^ 40) : Sml (shw w ns) (49 * 42) := by
  refine (sml_join (n := 41) (L := 1) (sml_str " " (by decide)) (w :: ns.map txI) fun x hx => ?_).mono ?_
  · rcases List.mem_cons.mp hx with rfl | hx
    · exact hw.mono (by decide)
    · obtain ⟨z, hz, rfl⟩ := List.mem_map.mp hx
      exact sml_int (h z hz)
  · rw [List.length_cons, List.length_map]
    exact Nat.mul_le_mul (by omega) (Nat.le_refl 42)
/-- steps: words and hours -/
def Wy (H : Hp) (l : Addr) (ws : List (Str × Int)) : Prop := ∃ ts : List Addr, H l = some (.lst (ts.map V.ref)) ∧ ts.length = ws.length ∧ ∀ (j : Nat) t, ts[j]? = some t → ∃ w, ws[j]? = some w ∧ H t = some (.tup [.str w.1, .int w.2])
theorem Wy.ex {H H' : Hp} {l : Addr} {ws : List (Str × Int)} (e : Ex H H') (h : Wy H l ws) : Wy H' l ws :=
  let ⟨ts, h1, h2, h3⟩ := h
  ⟨ts, e _ _ h1, h2, fun j t ht => let ⟨w, a, b⟩ := h3 j t ht; ⟨w, a, e _ _ b⟩⟩
def stpT (w : Str × Int) : Str := w.1 ++ Str.ofString " " ++ txI w.2
def wayT (ws : List (Str × Int)) : Str := Txt.join (Str.ofString ", ") (ws.map stpT)
def Okw (ws : List (Str × Int)) : Prop := ws.length ≤ 60 ∧ ∀ p ∈ ws, Sml p.1 4 ∧ 0 ≤ p.2 ∧ p.2 < 48
theorem sml_stp {w : Str × Int} (h : Sml w.1 4 ∧ 0 ≤ w.2 ∧ w.2 < 48) : Sml (stpT w) 46 := sml_app (sml_app h.1 (sml_str " " (n := 1) (by decide))) (sml_int (by omega))
theorem sml_way {ws : List (Str × Int)} (h : Okw ws) : Sml (wayT ws) (60 * 48) := by
  refine (sml_join (n := 46) (L := 2) (sml_str ", " (by decide)) (ws.map stpT) fun x hx => ?_).mono ?_
  · obtain ⟨z, hz, rfl⟩ := List.mem_map.mp hx
    exact sml_stp (h.2 z hz)
  · rw [List.length_map]
    exact Nat.mul_le_mul h.1 (Nat.le_refl 48)
/-- a comprehension over steps -/
theorem lc_way {K : PySem.W.Frag} {g : TG} {te : TE} {vs : List Nat} {σ : L2.St} {H1 : Hp} {Q : VK} {p : Addr} {ws : List (Str × Int)} (hP : Wy H1 p ws) (f : Str × Int → Str) (hn : ws.length ≤ 1000)
    (turn : ∀ T w H, w ∈ ws → Ex H1 H → H T = some (.tup [.str w.1, .int w.2]) → ∀ k : VK, (∀ H4, Ex H H4 → k (.str (f w)) H4) → g (.ref T) (wipe σ vs) H fun σ2 H2 => wipe σ2 vs = wipe σ vs ∧ te σ2 H2 k)
    (fin : ∀ D H, H1 D = none → Ex H1 H → H D = some (.lst ((ws.map f).map V.str)) → Q (.ref D) H) : ∃ a, V.ref p = .ref a ∧ (∃ xs, SqL K H1 a xs) ∧ LcTail (Itl K a) H1 g tYes te vs σ Q := by
  obtain ⟨ts, h1, h2, h3⟩ := hP
  refine ⟨p, rfl, ⟨_, .inl (.inl h1)⟩, lc_fun (walk_list (xs := ts.map V.ref)) (fun i => .str (f (ws.getD i (Str.empty, 0)))) (fun H e => .inl (.inl (e _ _ h1))) (by rw [List.length_map]; omega) ?_ ?_⟩
  · rintro i x H H' hi e ⟨rfl, hx⟩ k hk
    rw [List.length_map] at hi
    rw [List.getElem?_map, List.getElem?_eq_getElem hi] at hx
    cases hx
    obtain ⟨w, hw, ht⟩ := h3 i _ (List.getElem?_eq_getElem hi)
    rw [List.getD_eq_getElem?_getD, hw] at hk
    exact turn _ w _ (List.mem_of_getElem? hw) e (e _ _ ht) k hk
  · intro D H hD e hd
    refine fin D H hD e ?_
    rw [hd, List.length_map, h2, List.map_map]
    congr 2
    refine List.ext_getElem? fun i => ?_
    rcases Nat.lt_or_ge i ws.length with h | h
    · rw [List.getElem?_map, List.getElem?_map, List.getElem?_range h, List.getElem?_eq_getElem h]
      show some (V.str (f (ws.getD i (Str.empty, 0)))) = some (V.str (f ws[i]))
      rw [List.getD_eq_getElem?_getD, List.getElem?_eq_getElem h]
      rfl
    · rw [List.getElem?_eq_none (by rw [List.length_map, List.length_range]; exact h), List.getElem?_eq_none (by rw [List.length_map]; exact h)]
def wayD (ws : List (Str × Int)) : PyData := .list (ws.map fun w => .tuple [.str w.1, .int w.2])
theorem dp_way {K : PySem.W.Frag} {H : Hp} {l : Addr} {ws : List (Str × Int)} (h : Wy H l ws) : Dp K H (.ref l) (wayD ws) := by
  obtain ⟨ts, h1, h2, h3⟩ := h
  refine .lst (.inl (.inl h1)) ?_
  clear h1
  induction ts generalizing ws with
  | nil =>
    obtain rfl : ws = [] := List.eq_nil_of_length_eq_zero h2.symm
    exact .nil
  | cons t ts ih =>
    match ws, h2 with
    | w :: ws, h2 =>
      obtain ⟨w', e, ht⟩ := h3 0 t rfl
      cases e
      exact .cons (.tup (.inl (.inl ht)) (.cons (.str _) (.cons (.int _) .nil))) (ih (by simpa using h2) fun j t' hj => h3 (j + 1) t' hj)
theorem fine_way {ws : List (Str × Int)} (h : Okw ws) : Fine (wayD ws) (60 * (2 * 201 + 1)) :=
  fine_list (fun d hd => by
    obtain ⟨w, hw, rfl⟩ := List.mem_map.mp hd
    have := h.2 w hw
    exact fine_tuple (n := 2) (w := 200) (fun x hx => by
      simp only [List.mem_cons, List.not_mem_nil, or_false] at hx
      rcases hx with rfl | rfl
      · exact (fine_txt this.1).mono (by decide)
      · exact fine_int (by omega)) (Nat.le_refl 2)) (by rw [List.length_map]; exact h.1)
theorem stay_mem {s : List Int} (g : Good s) {z : Int} (h : z ∈ s) : 1 ≤ z ∧ z ≤ (s.length : Int) := by
  obtain ⟨j, hj, rfl⟩ := List.mem_iff_getElem.mp h
  have e : cyc s (j : Int) = s[j] := by rw [cyc_at hj, List.getD_eq_getElem?_getD, List.getElem?_eq_getElem hj]; rfl
  rw [← e]
  exact ⟨g.lo _, g.hi _⟩
theorem str_nil : Str.ofString "" = Str.empty := by decide +kernel
theorem dep_all {n : Nat} : ∀ {ds : List PyData}, (∀ d ∈ ds, d.depth ≤ n) → PyData.depthAll ds ≤ n
  | [], _ => Nat.zero_le _
  | d :: ds, h => by
    have h1 := h d List.mem_cons_self
    have h2 := dep_all (ds := ds) fun x hx => h x (List.mem_cons_of_mem _ hx)
    simp only [PyData.depthAll]
    omega
theorem dep_way (x y : Int) (ws : List (Str × Int)) : (PyData.list [.tuple [.int x, .int y], wayD ws]).depth ≤ 64 := by
  have h : (wayD ws).depth ≤ 10 := by
    unfold wayD
    simp only [PyData.depth]
    have := dep_all (n := 5) (ds := ws.map fun w => PyData.tuple [.str w.1, .int w.2]) fun d hd => by
      obtain ⟨w, _, rfl⟩ := List.mem_map.mp hd
      simp only [PyData.depth, PyData.depthAll]
      omega
    omega
  simp only [PyData.depth, PyData.depthAll] at h ⊢
  omega
theorem shaped_strs {n : Nat} {ys : List Str} (h : ∀ y ∈ ys, Sml y n) : SeqAt.shaped (.list (ys.map PyData.str)) = true := by
  have h1 : ∀ ys : List Str, (∀ y ∈ ys, Sml y n) → PyData.canLayAll0 (ys.map PyData.str) = true := fun ys => by
    induction ys with
    | nil => exact fun _ => rfl
    | cons y ys ih =>
      intro h
      simp only [List.map_cons, PyData.canLayAll0, Bool.and_eq_true]
      refine ⟨?_, ih fun z hz => h z (List.mem_cons_of_mem _ hz)⟩
      simp only [PyData.canLay0, PyData.strOk]
      rw [Array.all_eq_true]
      intro i hi
      exact decide_eq_true ((h y List.mem_cons_self).2 _ (by rw [Array.mem_toList_iff]; exact Array.getElem_mem hi))
  unfold SeqAt.shaped
  rw [Bool.and_eq_true]
  refine ⟨by simp only [PyData.canLay0]; exact h1 ys h, decide_eq_true ?_⟩
  simp only [PyData.depth]
  have := dep_all (n := 5) (ds := ys.map PyData.str) fun d hd => by
    obtain ⟨w, _, rfl⟩ := List.mem_map.mp hd
    simp only [PyData.depth]
    omega
  omega
end Hn

namespace Pf
open PySem PySem.Spec PyProof.Rows L2 Evl Hn
local macro_rules | `(tactic| walk_at "rd") => `(tactic| repeat (first
  | with_reducible refine r_m1 ?_
  | with_reducible refine r_isS ?_
  | with_reducible refine r_break ?_
  | with_reducible refine r_cont ?_
  | with_reducible refine r_listZip ?_
  | with_reducible refine r_smeth ?_
  | with_reducible refine r_isC ?_
  | with_reducible refine r_lstRg ?_
  | with_reducible refine r_rg1 ?_
  | with_reducible refine r_seq ?_
  | with_reducible refine r_next ?_
  | with_reducible refine r_asg ?_
  | with_reducible refine r_name ?_
  | with_reducible refine r_ret ?_
  | with_reducible refine r_retN ?_
  | with_reducible refine r_drop ?_
  | with_reducible refine r_ifS ?_
  | with_reducible refine r_test ?_
  | with_reducible refine r_B ?_
  | with_reducible refine r_and ?_
  | with_reducible refine r_or ?_
  | with_reducible refine r_not ?_
  | with_reducible refine r_andV ?_
  | with_reducible refine r_orV ?_
  | with_reducible refine r_notV ?_
  | with_reducible refine r_if ?_
  | with_reducible refine r_c ?_
  | with_reducible refine r_op ?_
  | with_reducible refine r_un ?_
  | with_reducible refine r_chain ?_
  | with_reducible refine r_lst ?_
  | with_reducible refine r_tup ?_
  | with_reducible refine r_nil ?_
  | with_reducible refine r_cons ?_
  | with_reducible refine r_call ?_
  | with_reducible refine r_meth ?_
  | with_reducible refine r_make ?_
  | with_reducible refine r_prop ?_
  | with_reducible refine r_cb ?_
  | with_reducible refine r_bm ?_
  | with_reducible refine r_bm0 ?_
  | with_reducible refine r_sl ?_
  | with_reducible refine r_noPart ?_
  | with_reducible refine r_part ?_
  | with_reducible refine r_int1 ?_
  | with_reducible refine r_bl1 ?_
  | with_reducible refine r_revL ?_
  | with_reducible refine r_lc ?_
  | with_reducible refine r_par ?_
  | with_reducible refine r_par3 ?_
  | with_reducible refine r_two ?_
  | with_reducible refine r_three ?_
  | with_reducible refine r_augS ?_
  | with_reducible refine r_sub ?_
  | with_reducible refine r_fld ?_
  | with_reducible refine r_sfld ?_
  | with_reducible refine r_iList ?_
  | with_reducible refine r_iTup ?_
  | with_reducible refine r_iRng1 ?_
  | with_reducible refine r_iRng2 ?_
  | with_reducible refine r_iEnum ?_
  | with_reducible refine r_iZip ?_
  | with_reducible refine r_iZipA ?_
  | with_reducible refine r_iSeq ?_
  | with_reducible refine r_iOwn ?_
  | with_reducible refine r_iEnumS ?_
  | with_reducible refine r_revT ?_
  | with_reducible refine r_ixO ?_
  | with_reducible refine r_yes ?_
  | with_reducible refine r_for ?_
  | with_reducible refine r_I0 ?_
  | with_reducible refine r_U ?_
  | with_reducible refine r_eqI ?_
  | with_reducible refine r_neI ?_
  | with_reducible refine r_eqB ?_
  | with_reducible refine r_neB ?_
  | with_reducible refine r_eqS ?_
  | with_reducible refine r_neS ?_
  | with_reducible refine r_ipI ?_
  | with_reducible refine r_abs ?_
  | with_reducible refine r_intP ?_
  | with_reducible refine r_intB ?_
  | with_reducible refine r_min2 ?_
  | with_reducible refine r_max2 ?_
  | with_reducible refine r_isNi ?_
  | with_reducible refine r_isNr ?_
  | with_reducible refine r_isNn ?_
  | with_reducible refine r_notNi ?_
  | with_reducible refine r_notNr ?_
  | with_reducible refine r_notNn ?_
  | with_reducible refine r_call1 ?_
  | (with_reducible refine' r_var ?hv ?_); (case hv => exact rfl)
  | (with_reducible refine' r_aug ?hv ?_); (case hv => exact rfl)
  | (with_reducible refine r_wipe ?hv ?_); (case hv => exact rfl)
  | (with_reducible refine r_I ?hv ?_); (case hv => (first | (show (0 : Int) < _; omega) | exact Or.inl ⟨by omega, by omega⟩ | exact Or.inr ⟨by omega, by omega⟩ | exact ⟨by omega, by omega⟩ | exact ⟨by omega, by omega, by decide⟩))
  | (with_reducible refine r_range1 ?hv ?hw ?_); (case hv => omega); (case hw => omega)))
local macro_rules | `(tactic| walk_at "ex") => `(tactic| first
  | assumption
  | exact Ex.refl _
  | exact Ex.new (by assumption)
  | (refine Ex.trans ?_ (Ex.new (by assumption)); walk_at "ex")
  | (refine Ex.mut ?_ (by walk_at "fr"); walk_at "ex")
  | (refine Ex.trans ?_ (by assumption); walk_at "ex"))
local macro_rules | `(tactic| walk_at "xl") => `(tactic| first
  | exact Xl.refl _
  | (refine Xl.trans ?_ (Xl.of (by assumption)); walk_at "xl")
  | (refine Xl.trans ?_ (Xl.of (Ex.new (by assumption))); walk_at "xl")
  | (refine Xl.trans ?_ (Xl.set (by assumption)); walk_at "xl")
  | (refine Xl.trans ?_ (Xl.set (by walk_at "kn")); walk_at "xl"))
local macro_rules | `(tactic| walk_at "fr") => `(tactic| first
  | assumption
  | (refine fresh_back ?_ (by assumption); walk_at "ex"))
local macro_rules | `(tactic| walk_at "kn") => `(tactic| first
  | assumption
  | exact upd_same
  | (refine mv_bag (by assumption) ?_; walk_at "xl")
  | (refine mv_rw (by assumption) ?_; walk_at "xl")
  | (refine mv_ps (by assumption) ?_; walk_at "xl")
  | (refine mv_clk (by assumption) ?_; walk_at "xl")
  | (refine mv_sqL (by assumption) ?_; walk_at "ex")
  | (refine mv_sqT (by assumption) ?_; walk_at "ex")
  | (refine mv_at (by assumption) ?_; walk_at "ex")
  | (refine' mv_at upd_same ?hk; (case hk => walk_at "ex"))
  | (refine' at_sqL ?hk; (case hk => walk_at "kn"))
  | (refine' at_sqT ?hk; (case hk => walk_at "kn"))
  | (refine mv_sq (by assumption) ?_; walk_at "ex")
  | (refine' sqL_sq ?hk; (case hk => walk_at "kn"))
  | (refine' sqT_sq ?hk; (case hk => walk_at "kn"))
  | (refine' ps_rw ?hk; (case hk => walk_at "kn")))

def top (i : Nat) : Stmt := PySem.Challenge.pw_hourneeds_k90_texts_told.main.body.getD i (.Pass ⟨0, 0, 0, 0⟩)
abbrev s__law_bag : Stmt := top 39
abbrev s__law_take : Stmt := top 40
abbrev s__law_number : Stmt := top 42
abbrev s__law_stays : Stmt := top 43
abbrev s__law_one : Stmt := top 41
abbrev s__law_some_way : Stmt := top 48
abbrev s__law_common : Stmt := top 45
abbrev s__law_some_fraction : Stmt := top 49
abbrev s__law_text_of : Stmt := top 46
abbrev s__law_way_text : Stmt := top 47
abbrev s_show_limit : Stmt := top 3
abbrev s_show_row : Stmt := top 4
abbrev s_Plan___len__ : Stmt := inClass (top 37) 13
abbrev s_Plan___iter__ : Stmt := inClass (top 37) 14
abbrev s_show_plan : Stmt := top 7
abbrev s_is_integer : Stmt := top 19
abbrev s_is_count : Stmt := top 20
abbrev s_are_counts : Stmt := top 22
abbrev s_is_row : Stmt := top 30
abbrev s_Plan___init__ : Stmt := inClass (top 37) 0
abbrev s_Needs___len__ : Stmt := inClass (top 32) 6
abbrev s_Needs___iter__ : Stmt := inClass (top 32) 7
abbrev s_show_needs : Stmt := top 6
abbrev s_Needs___init__ : Stmt := inClass (top 32) 0
abbrev s_Clock_stays : Stmt := inClass (top 28) 3
abbrev s_show_clock : Stmt := top 5
abbrev s_are_stays : Stmt := top 25
abbrev s_need_order : Stmt := top 26
abbrev s_width_of : Stmt := top 27
abbrev s_Clock___init__ : Stmt := inClass (top 28) 0
abbrev s_show_step : Stmt := top 9
abbrev s_show_way : Stmt := top 10
abbrev s_show_fraction : Stmt := top 8
abbrev s__law_alike : Stmt := top 44
abbrev s_law : Stmt := top 50
/-- where the defs and classes stand -/
structure Ads where
  c_Clock : Addr
  c_Needs : Addr
  c_Plan : Addr
  f__law_bag : Addr
  f__law_take : Addr
  f__law_number : Addr
  f__law_stays : Addr
  f__law_one : Addr
  f__law_some_way : Addr
  f__law_common : Addr
  f__law_some_fraction : Addr
  f__law_text_of : Addr
  f__law_way_text : Addr
  f_show_limit : Addr
  f_show_row : Addr
  f_Plan___len__ : Addr
  f_Plan___iter__ : Addr
  f_show_plan : Addr
  f_is_integer : Addr
  f_is_count : Addr
  f_are_counts : Addr
  f_is_row : Addr
  f_Plan___init__ : Addr
  f_Needs___len__ : Addr
  f_Needs___iter__ : Addr
  f_show_needs : Addr
  f_Needs___init__ : Addr
  f_Clock_stays : Addr
  f_show_clock : Addr
  f_are_stays : Addr
  f_need_order : Addr
  f_width_of : Addr
  f_Clock___init__ : Addr
  f_show_step : Addr
  f_show_way : Addr
  f_show_fraction : Addr
  f__law_alike : Addr
  f_law : Addr
/-- what the top has left -/
structure Tx (K : PySem.W.Frag) (mg : Str → Option Value) (d : Ads) : Prop where
  g_Clock : mg "Clock" = some (.ref d.c_Clock)
  cl_Clock : Cls K d.c_Clock
  sf_Clock : PySem.W.selfFirst K d.c_Clock = true
  g_Needs : mg "Needs" = some (.ref d.c_Needs)
  cl_Needs : Cls K d.c_Needs
  sf_Needs : PySem.W.selfFirst K d.c_Needs = true
  g_Plan : mg "Plan" = some (.ref d.c_Plan)
  cl_Plan : Cls K d.c_Plan
  sf_Plan : PySem.W.selfFirst K d.c_Plan = true
  n_Clock_kept_stays : NoAttr K d.c_Clock "kept_stays"
  n_Clock_kept_widths : NoAttr K d.c_Clock "kept_widths"
  n_Needs_kept_row : NoAttr K d.c_Needs "kept_row"
  n_Plan_kept_begins : NoAttr K d.c_Plan "kept_begins"
  g__law_bag : mg "_law_bag" = some (.ref d.f__law_bag)
  d__law_bag : Df K "_law_bag" "_law_bag" s__law_bag d.f__law_bag ["_law_script"]
  g__law_take : mg "_law_take" = some (.ref d.f__law_take)
  d__law_take : Df K "_law_take" "_law_take" s__law_take d.f__law_take ["_law_bag_here", "_law_upto"]
  g__law_number : mg "_law_number" = some (.ref d.f__law_number)
  d__law_number : Df K "_law_number" "_law_number" s__law_number d.f__law_number ["_law_bag_here"]
  g__law_stays : mg "_law_stays" = some (.ref d.f__law_stays)
  d__law_stays : Df K "_law_stays" "_law_stays" s__law_stays d.f__law_stays ["_law_bag_here", "_law_many"]
  g__law_one : mg "_law_one" = some (.ref d.f__law_one)
  d__law_one : Df K "_law_one" "_law_one" s__law_one d.f__law_one ["_law_bag_here", "_law_some"]
  g__law_some_way : mg "_law_some_way" = some (.ref d.f__law_some_way)
  d__law_some_way : Df K "_law_some_way" "_law_some_way" s__law_some_way d.f__law_some_way ["_law_bag_here"]
  g__law_common : mg "_law_common" = some (.ref d.f__law_common)
  d__law_common : Df K "_law_common" "_law_common" s__law_common d.f__law_common ["_law_one_here", "_law_other"]
  g__law_some_fraction : mg "_law_some_fraction" = some (.ref d.f__law_some_fraction)
  d__law_some_fraction : Df K "_law_some_fraction" "_law_some_fraction" s__law_some_fraction d.f__law_some_fraction ["_law_bag_here"]
  g__law_text_of : mg "_law_text_of" = some (.ref d.f__law_text_of)
  d__law_text_of : Df K "_law_text_of" "_law_text_of" s__law_text_of d.f__law_text_of ["_law_word", "_law_row"]
  g__law_way_text : mg "_law_way_text" = some (.ref d.f__law_way_text)
  d__law_way_text : Df K "_law_way_text" "_law_way_text" s__law_way_text d.f__law_way_text ["_law_way"]
  g_show_limit : mg "show_limit" = some (.ref d.f_show_limit)
  d_show_limit : Df K "show_limit" "show_limit" s_show_limit d.f_show_limit ["limit"]
  g_show_row : mg "show_row" = some (.ref d.f_show_row)
  d_show_row : Df K "show_row" "show_row" s_show_row d.f_show_row ["word", "row"]
  m_Plan___len__ : Meth K d.c_Plan "__len__" d.f_Plan___len__
  d_Plan___len__ : Df K "__len__" "Plan.__len__" s_Plan___len__ d.f_Plan___len__ ["self"]
  m_Plan___iter__ : Meth K d.c_Plan "__iter__" d.f_Plan___iter__
  d_Plan___iter__ : Df K "__iter__" "Plan.__iter__" s_Plan___iter__ d.f_Plan___iter__ ["self"]
  g_show_plan : mg "show_plan" = some (.ref d.f_show_plan)
  d_show_plan : Df K "show_plan" "show_plan" s_show_plan d.f_show_plan ["plan"]
  g_is_integer : mg "is_integer" = some (.ref d.f_is_integer)
  d_is_integer : Df K "is_integer" "is_integer" s_is_integer d.f_is_integer ["thing"]
  g_is_count : mg "is_count" = some (.ref d.f_is_count)
  d_is_count : Df K "is_count" "is_count" s_is_count d.f_is_count ["thing"]
  g_are_counts : mg "are_counts" = some (.ref d.f_are_counts)
  d_are_counts : Df K "are_counts" "are_counts" s_are_counts d.f_are_counts ["hours", "thing"]
  g_is_row : mg "is_row" = some (.ref d.f_is_row)
  d_is_row : Df K "is_row" "is_row" s_is_row d.f_is_row ["thing"]
  mk_Plan : Mk K d.c_Plan d.f_Plan___init__
  d_Plan___init__ : Df K "__init__" "Plan.__init__" s_Plan___init__ d.f_Plan___init__ ["self", "begins"]
  m_Needs___len__ : Meth K d.c_Needs "__len__" d.f_Needs___len__
  d_Needs___len__ : Df K "__len__" "Needs.__len__" s_Needs___len__ d.f_Needs___len__ ["self"]
  m_Needs___iter__ : Meth K d.c_Needs "__iter__" d.f_Needs___iter__
  d_Needs___iter__ : Df K "__iter__" "Needs.__iter__" s_Needs___iter__ d.f_Needs___iter__ ["self"]
  g_show_needs : mg "show_needs" = some (.ref d.f_show_needs)
  d_show_needs : Df K "show_needs" "show_needs" s_show_needs d.f_show_needs ["needs"]
  mk_Needs : Mk K d.c_Needs d.f_Needs___init__
  d_Needs___init__ : Df K "__init__" "Needs.__init__" s_Needs___init__ d.f_Needs___init__ ["self", "row"]
  m_Clock_stays : Meth K d.c_Clock "stays" d.f_Clock_stays
  d_Clock_stays : Df K "stays" "Clock.stays" s_Clock_stays d.f_Clock_stays ["self"]
  g_show_clock : mg "show_clock" = some (.ref d.f_show_clock)
  d_show_clock : Df K "show_clock" "show_clock" s_show_clock d.f_show_clock ["clock"]
  g_are_stays : mg "are_stays" = some (.ref d.f_are_stays)
  d_are_stays : Df K "are_stays" "are_stays" s_are_stays d.f_are_stays ["thing"]
  g_need_order : mg "need_order" = some (.ref d.f_need_order)
  d_need_order : Df K "need_order" "need_order" s_need_order d.f_need_order ["stays"]
  g_width_of : mg "width_of" = some (.ref d.f_width_of)
  d_width_of : Df K "width_of" "width_of" s_width_of d.f_width_of ["stays", "hour"]
  mk_Clock : Mk K d.c_Clock d.f_Clock___init__
  d_Clock___init__ : Df K "__init__" "Clock.__init__" s_Clock___init__ d.f_Clock___init__ ["self", "stays"]
  g_show_step : mg "show_step" = some (.ref d.f_show_step)
  d_show_step : Df K "show_step" "show_step" s_show_step d.f_show_step ["step"]
  g_show_way : mg "show_way" = some (.ref d.f_show_way)
  d_show_way : Df K "show_way" "show_way" s_show_way d.f_show_way ["way"]
  g_show_fraction : mg "show_fraction" = some (.ref d.f_show_fraction)
  d_show_fraction : Df K "show_fraction" "show_fraction" s_show_fraction d.f_show_fraction ["fraction"]
  g__law_alike : mg "_law_alike" = some (.ref d.f__law_alike)
  d__law_alike : Df K "_law_alike" "_law_alike" s__law_alike d.f__law_alike ["_law_found", "_law_due"]
  d_law : Df K "law" "law" s_law d.f_law ["_law_script"]
  z_abs : mg "abs" = none
  z_all : mg "all" = none
  z_bool : mg "bool" = none
  z_enumerate : mg "enumerate" = none
  z_int : mg "int" = none
  z_isinstance : mg "isinstance" = none
  z_iter : mg "iter" = none
  z_len : mg "len" = none
  z_list : mg "list" = none
  z_min : mg "min" = none
  z_range : mg "range" = none
  z_repr : mg "repr" = none
  z_str : mg "str" = none
  z_tuple : mg "tuple" = none
  k_MOST_HOURS : ∃ t : Tok, mg "MOST_HOURS" = some (.int 48 t)
  k_NONE : ∃ t : Tok, mg "NONE" = some (.str "-" t)
section
variable {P : Program} {w : World} {K : PySem.W.Frag} {mg : Str → Option Value} {base : Heap} {d : Ads}
abbrev Pn (K : PySem.W.Frag) (d : Ads) (H : Hp) (v : V) (s : List Int) : Prop := Rw K d.c_Plan "kept_begins" H v s
abbrev Nd (K : PySem.W.Frag) (d : Ads) (H : Hp) (v : V) (s : List Int) : Prop := Rw K d.c_Needs "kept_row" H v s

/-! ### _law_bag -/
theorem sc__law_bag : FnScope ["_law_script", "_law_cell"] ["_law_script"] (defScope s__law_bag) := ⟨rfl, rfl, rfl, by decide +kernel, rfl, by decide +kernel, by decide +kernel⟩

theorem absI (i : Int) : 0 ≤ (if i < 0 then -i else i) := by split <;> omega
theorem cut_some (xs : List V) (h : xs.length ≤ 63) : cutV xs none (some 63) = xs := by
  unfold cutV
  rw [HT.sIx_none, show HT.sIx xs.length xs.length (some 63) = min 63 xs.length from HT.sIx_nat xs.length xs.length 63]
  rw [List.drop_zero, Nat.sub_zero, Nat.min_eq_right h, List.take_length]
def sp__law_bag (K : PySem.W.Frag) (d : Ads) : Sp := spBag K
def spBagL0 (K : PySem.W.Frag) (d : Ads) : Sp := spBagL K
set_option maxHeartbeats 4000000 in
theorem ok0__law_bag (T : Tx K mg d) : Okf P w K mg base 1 d.f__law_bag ["_law_script"] (spBagL0 K d) := by
  refine okf_of T.d__law_bag sc__law_bag (fun vs H Q E h => ?_) (fun cdv A outer s H vs Q E hr h => ?_)
  · obtain ⟨a, ns, rfl, hS, hl, k⟩ := h
    rfl
  · obtain ⟨a, ns, rfl, hS, hl, k⟩ := h
    refine ⟨_, (pss_one (ps_ret (pe_lst (pa_cons pe_int (pa_cons pe_int (pa_cons pe_int (pa_cons (pe_lc (own := [("_law_cell", 1)]) rfl sc__law_bag.nd (k_piL (K := K) rfl (pe_slice (k_slL (K := K) rfl) (pv 0) po_none (po_some pe_int))) (blkOk_by (by kernel_rfl)) (fun _ _ _ _ _ => (pg_name (i := 1) sc__law_bag.nd rfl (by first | exact Or.inl rfl | exact Or.inr rfl))) (fun _ _ _ _ _ => pts_nil) (fun _ _ _ _ _ => (pe_callB k_abs (by rfl) T.z_abs (by decide +kernel) (pa_cons (pv 1) pa_nil)))) pa_nil))))))), ?_⟩
    walk_at "rd"
    refine ⟨a, _, rfl, hS, fun c nc => ?_⟩
    rw [cut_some _ (by rw [List.length_map]; exact hl)]
    refine ⟨c, rfl, ⟨_, .inl (.inl upd_same)⟩, lc_fun (walk_list (xs := ns.map V.int)) (fun i => .int (if ns.getD i 0 < 0 then - ns.getD i 0 else ns.getD i 0)) (fun H' e => .inl (.inl (e _ _ upd_same))) (by rw [List.length_map]; omega) ?_ ?_⟩
    · rintro i x H1 H2 hi e ⟨rfl, hx⟩ kk hk
      obtain rfl := int_at hx
      walk_at "rd"
      exact hk _ (Ex.refl _)
    · intro D H' nD e hD
      rw [List.length_map] at hD
      walk_at "rd"
      refine ⟨by show 4 ≤ sizeLine; decide, fun b nb => ?_⟩
      have e1 : Ex H H' := (Ex.new nc).trans e
      have nH : H D = none := fresh_back (Ex.new nc) nD
      refine k b D ((List.range ns.length).map fun i => if ns.getD i 0 < 0 then - ns.getD i 0 else ns.getD i 0) _ (e1.trans (Ex.new nb)) (fresh_back e1 nb) nH upd_same ?_ ?_ ?_
      · rw [upd_ne (ne_of_none hD nb), hD, List.map_map]
        rfl
      · intro c hc
        obtain ⟨i, _, rfl⟩ := List.mem_map.mp hc
        exact absI _
      · rw [List.length_map, List.length_range]
        exact hl

theorem ok__law_bag (T : Tx K mg d) : Okf P w K mg base 1 d.f__law_bag ["_law_script"] (sp__law_bag K d) := bag_ok (ok0__law_bag T)

/-! ### _law_take -/
theorem sc__law_take : FnScope ["_law_bag_here", "_law_upto", "_law_cell", "_law_mixed", "_law_drawn", "_law_early", "_law_second"] ["_law_bag_here", "_law_upto"] (defScope s__law_take) := ⟨rfl, rfl, rfl, by decide +kernel, rfl, by decide +kernel, by decide +kernel⟩

def sp__law_take (K : PySem.W.Frag) (d : Ads) : Sp := spTake
def spTakeL0 (K : PySem.W.Frag) (d : Ads) : Sp := spTakeL
set_option maxHeartbeats 4000000 in
theorem ok0__law_take (T : Tx K mg d) : Okf P w K mg base 1 d.f__law_take ["_law_bag_here", "_law_upto"] (spTakeL0 K d) := by
  refine okf_of T.d__law_take sc__law_take (fun vs H Q E h => ?_) (fun cdv A outer s H vs Q E hr h => ?_)
  · obtain ⟨b, l, u, o, cs, xs, rfl, hb, ⟨c0, c1, c2, rfl, h0, h1, h1u, h2⟩, hL, hc, hcl, hu0, hu1, k⟩ := h
    rfl
  · obtain ⟨b, l, u, o, cs, xs, rfl, hb, ⟨c0, c1, c2, rfl, h0, h1, h1u, h2⟩, hL, hc, hcl, hu0, hu1, k⟩ := h
    refine ⟨_, (Evl.pss_cut (ps_if (pt_cmpR op_eq (pe_ix (k_ixL (K := K) rfl) (pv 0) pe_int (fun _ _ => rfl)) pe_int (nomark _)) (pss_cons (ps_set (i := 2) sc__law_take.nd rfl (by first | exact Or.inl rfl | exact Or.inr rfl) pe_int)
      (Evl.pss_cut (ps_if (pt_cmpR op_lt (pe_ix (k_ixL (K := K) rfl) (pv 0) pe_int (fun _ _ => rfl)) (pe_callB (k_len (K := K) rfl) (by rfl) T.z_len (by decide +kernel) (pa_cons (pe_ix (k_ixL (K := K) rfl) (pv 0) pe_int (fun _ _ => rfl)) pa_nil)) (nomark _)) (pss_one (ps_set (i := 2) sc__law_take.nd rfl (by first | exact Or.inl rfl | exact Or.inr rfl) (pe_ix (k_ixL (K := K) rfl) (pe_ix (k_ixL (K := K) rfl) (pv 0) pe_int (fun _ _ => rfl)) (pe_ix (k_ixL (K := K) rfl) (pv 0) pe_int (fun _ _ => rfl)) (fun _ _ => rfl)))) pss_nil)
      (pss_cons (ps_augS (pv 0) pe_int (k_getL (K := K) rfl) pe_int ip_add set_list)
      (Evl.pss_cut (ps_if (pt_cmpR op_ge (pv 2) pe_int (nomark _)) (pss_one (ps_asg (pv 2) (pg_sub (pv 0) pe_int set_list))) pss_nil)
      (pss_cons (ps_set (i := 3) sc__law_take.nd rfl (by first | exact Or.inl rfl | exact Or.inr rfl) (pe_op op_add (pe_op op_add (pe_op op_mul (pe_ix (k_ixL (K := K) rfl) (pv 0) pe_int (fun _ _ => rfl)) pe_int) (pe_op op_mod (pe_callTy k_int1 (by rfl) T.z_int (by decide +kernel) (pa_cons (pv 2) pa_nil)) pe_int)) (pe_op op_mul pe_int (pe_ix (k_ixL (K := K) rfl) (pv 0) pe_int (fun _ _ => rfl)))))
      (pss_one (ps_asg (pe_op op_mod (pe_callTy k_int1 (by rfl) T.z_int (by decide +kernel) (pa_cons (pv 3) pa_nil)) pe_int) (pg_sub (pv 0) pe_int set_list)))))))) pss_nil)
      (pss_cons (ps_if (pt_cmpR op_gt (pe_ix (k_ixL (K := K) rfl) (pv 0) pe_int (fun _ _ => rfl)) pe_int (nomark _)) (pss_cons (ps_set (i := 4) sc__law_take.nd rfl (by first | exact Or.inl rfl | exact Or.inr rfl) (pe_op op_mod (pe_callTy k_int1 (by rfl) T.z_int (by decide +kernel) (pa_cons (pe_ix (k_ixL (K := K) rfl) (pv 0) pe_int (fun _ _ => rfl)) pa_nil)) (pv 1)))
      (pss_cons (ps_asg (pe_op op_fdiv (pe_callTy k_int1 (by rfl) T.z_int (by decide +kernel) (pa_cons (pe_ix (k_ixL (K := K) rfl) (pv 0) pe_int (fun _ _ => rfl)) pa_nil)) (pv 1)) (pg_sub (pv 0) pe_int set_list))
      (pss_one (ps_ret (pv 4))))) pss_nil)
      (pss_cons (ps_set (i := 5) sc__law_take.nd rfl (by first | exact Or.inl rfl | exact Or.inr rfl) (pe_op op_mod (pe_callTy k_int1 (by rfl) T.z_int (by decide +kernel) (pa_cons (pe_op op_mul (pe_op op_add (pe_ix (k_ixL (K := K) rfl) (pv 0) pe_int (fun _ _ => rfl)) pe_int) pe_int) pa_nil)) pe_int))
      (pss_cons (ps_set (i := 6) sc__law_take.nd rfl (by first | exact Or.inl rfl | exact Or.inr rfl) (pe_op op_mod (pe_callTy k_int1 (by rfl) T.z_int (by decide +kernel) (pa_cons (pe_op op_mul (pe_op op_mod (pe_callTy k_int1 (by rfl) T.z_int (by decide +kernel) (pa_cons (pe_op op_mul (pv 5) (pv 5)) pa_nil)) pe_int) pe_int) pa_nil)) pe_int))
      (pss_one (ps_ret (pe_op op_mod (pe_callTy k_int1 (by rfl) T.z_int (by decide +kernel) (pa_cons (pe_op op_fdiv (pv 6) pe_int) pa_nil)) (pv 1)))))))), ?_⟩
    have lb : l ≠ b := ne_of hL hb (by intro z; cases z)
    refine ⟨fun σ H' => ∃ (d0 d1 d2 : Int) (y2 y3 : Option V), σ = [some (.ref b), some (.int u), y2, y3, none, none, none] ∧ H' = upd H b (.lst [.int d0, .int d1, .int d2, .ref l]) ∧ 0 ≤ d0 ∧ 0 ≤ d1 ∧ d1 < 2147483647 ∧ 0 ≤ d2, ?_, ?_⟩
    · refine ⟨_, rfl, b, _, 0, _, rfl, rfl, SqL.of hb, rfl, rfl, _, rfl, ite2 (fun _ => ?_) (fun _ => ?_)⟩
      · -- _law_cell = 0; then the cell
        refine ⟨fun σ H' => ∃ cell : Int, 0 ≤ cell ∧ σ = [some (.ref b), some (.int u), some (.int cell), none, none, none, none] ∧ H' = H, ?_, ?_⟩
        · refine ⟨_, rfl, b, _, 2, _, rfl, rfl, SqL.of hb, rfl, _, rfl, b, _, 3, _, rfl, rfl, SqL.of hb, rfl, l, _, rfl, .inl (.inl (.inr ⟨o, hL⟩)), _, _, rfl, rfl, _, rfl, ite2 (fun hlt => ?_) (fun _ => ?_)⟩
          · have hlt' : c2 < ((cs.map V.int).length : Int) := of_decide_eq_true hlt
            rw [List.length_map] at hlt'
            have hx := at_int (ns := cs) h2 hlt'
            refine ⟨_, rfl, b, _, 3, _, rfl, rfl, SqL.of hb, rfl, _, rfl, b, _, 2, _, rfl, rfl, SqL.of hb, rfl, l, _, c2, _, rfl, rfl, .inl (.inr ⟨o, hL⟩), hx, _, hc _ (gD_mem (by omega)), rfl, rfl⟩
          · exact ⟨0, Int.le_refl 0, rfl, rfl⟩
        · rintro σ' H' ⟨cell, hcell, rfl, hH⟩
          rw [hH]
          -- bag[2] += 1
          refine ⟨_, rfl, b, _, 2, _, rfl, rfl, SqL.of hb, rfl, _, _, rfl, rfl, b, _, 2, 2, rfl, rfl, hb, rfl, ?_⟩
          -- if cell >= 10 ** 18: bag[0] = cell
          refine ⟨fun σ H' => ∃ d0 : Int, 0 ≤ d0 ∧ σ = [some (.ref b), some (.int u), some (.int cell), none, none, none, none] ∧ H' = upd H b (.lst [.int d0, .int c1, .int (c2 + 1), .ref l]), ?_, ?_⟩
          · refine ⟨_, rfl, _, _, rfl, rfl, _, rfl, ite2 (fun _ => ?_) (fun _ => ?_)⟩
            · refine ⟨_, rfl, _, rfl, b, _, 0, 0, rfl, rfl, upd_same, rfl, cell, hcell, rfl, ?_⟩
              rw [upd_upd]
              rfl
            · exact ⟨c0, h0, rfl, rfl⟩
          · rintro σ' H' ⟨d0, hd0, rfl, rfl⟩
            -- _law_mixed; bag[1] = int(_law_mixed) % 2147483647
            refine ⟨_, rfl, b, _, 1, _, rfl, rfl, SqL.of upd_same, rfl, c1, _, rfl, rfl, .inl ⟨by omega, by omega⟩, _, rfl, .inl ⟨_, rfl, _, _, rfl, rfl, (by show (0 : Int) < 2147483647; decide), _, _, rfl, rfl, _, rfl, b, _, 2, _, rfl, rfl, SqL.of upd_same, rfl, _, _, rfl, rfl, .inl ⟨by decide, by decide⟩, _, _, rfl, rfl, ?_⟩⟩
            refine ⟨_, rfl, .inl ⟨_, rfl, _, _, rfl, rfl, (by show (0 : Int) < 2147483647; decide), _, rfl, b, _, 1, 1, rfl, rfl, upd_same, rfl, ?_⟩⟩
            refine ⟨d0, _, c2 + 1, _, _, rfl, by rw [upd_upd]; rfl, hd0, Int.emod_nonneg _ (by decide), Int.emod_lt_of_pos _ (by decide), by omega⟩
      · refine ⟨c0, c1, c2, none, none, rfl, ?_, h0, h1, h1u, h2⟩
        funext a
        by_cases ha : a = b
        · subst ha
          rw [upd_same, hb]
        · rw [upd_ne ha]
    · rintro σ' H' ⟨d0, d1, d2, y2, y3, rfl, rfl, g0, g1, g1u, g2⟩
      have kk : ∀ (n : Int) (ys : List V), 0 ≤ n → n < u → BagV l ys → Q (.int n) (upd (upd H b (.lst [.int d0, .int d1, .int d2, .ref l])) b (.lst ys)) := fun n ys a1 a2 a3 => by
        rw [upd_upd]
        exact k n ys a1 a2 a3
      refine ⟨_, rfl, b, _, 0, _, rfl, rfl, SqL.of upd_same, rfl, _, _, rfl, rfl, _, rfl, ite2 (fun hp => ?_) (fun _ => ?_)⟩
      · have hp' : 0 < d0 := of_decide_eq_true hp
        refine ⟨_, rfl, b, _, 0, _, rfl, rfl, SqL.of upd_same, rfl, .inl ⟨_, rfl, _, rfl, _, _, rfl, rfl, hu0, ?_⟩⟩
        refine ⟨_, rfl, b, _, 0, _, rfl, rfl, SqL.of upd_same, rfl, .inl ⟨_, rfl, _, rfl, _, _, rfl, rfl, ⟨hu0, hu1⟩, _, rfl, b, _, 0, 0, rfl, rfl, upd_same, rfl, _, rfl, ?_⟩⟩
        exact kk _ _ (Int.emod_nonneg _ (by omega)) (Int.emod_lt_of_pos _ hu0) ⟨_, d1, d2, rfl, Int.ediv_nonneg (by omega) (by omega), g1, g1u, g2⟩
      · refine ⟨_, rfl, b, _, 1, _, rfl, rfl, SqL.of upd_same, rfl, _, _, rfl, rfl, _, _, rfl, rfl, .inr ⟨by decide, by decide⟩, .inl ⟨_, rfl, _, _, rfl, rfl, (by show (0 : Int) < 1000000007; decide), ?_⟩⟩
        have e0 : 0 ≤ (d1 + 1) * 39373 % 1000000007 := Int.emod_nonneg _ (by decide)
        have e1 : (d1 + 1) * 39373 % 1000000007 < 1000000007 := Int.emod_lt_of_pos _ (by decide)
        refine ⟨_, rfl, _, rfl, _, _, rfl, rfl, .inl ⟨by omega, by omega⟩, .inl ⟨_, rfl, _, _, rfl, rfl, (by show (0 : Int) < 998244353; decide), _, _, rfl, rfl, .inr ⟨by decide, by decide⟩, .inl ⟨_, rfl, _, _, rfl, rfl, (by show (0 : Int) < 998244353; decide), ?_⟩⟩⟩
        refine ⟨_, rfl, _, _, rfl, rfl, ⟨by decide, by decide⟩, .inl ⟨_, rfl, _, rfl, _, _, rfl, rfl, hu0, ?_⟩⟩
        exact k _ _ (Int.emod_nonneg _ (by omega)) (Int.emod_lt_of_pos _ hu0) ⟨d0, d1, d2, rfl, g0, g1, g1u, g2⟩

theorem ok__law_take (T : Tx K mg d) : Okf P w K mg base 1 d.f__law_take ["_law_bag_here", "_law_upto"] (sp__law_take K d) := take_ok (ok0__law_take T) rfl

/-! ### _law_number -/
theorem sc__law_number : FnScope ["_law_bag_here", "_law_way"] ["_law_bag_here"] (defScope s__law_number) := ⟨rfl, rfl, rfl, by decide +kernel, rfl, by decide +kernel, by decide +kernel⟩

def sp__law_number (K : PySem.W.Frag) (d : Ads) : Sp := fun vs H Q _ => ∃ (b : Addr), vs = [.ref b] ∧ Bag H b ∧ ∀ n : Int, 0 ≤ n → n < 10 ^ 30 → Q (.int n) H
set_option maxHeartbeats 4000000 in
theorem ok__law_number (T : Tx K mg d) : Okf P w K mg base 2 d.f__law_number ["_law_bag_here"] (sp__law_number K d) := by
  refine okf_of T.d__law_number sc__law_number (fun vs H Q E h => ?_) (fun cdv A outer s H vs Q E hr h => ?_)
  · obtain ⟨b, rfl, hB, k⟩ := h
    rfl
  · obtain ⟨b, rfl, hB, k⟩ := h
    refine ⟨_, (pss_cons (ps_set (i := 1) sc__law_number.nd rfl (by first | exact Or.inl rfl | exact Or.inr rfl) (pf_call (ok__law_take T) (hr.mono (by decide)) (by rfl) T.g__law_take T.d__law_take.kp (pa_cons (pv 0) (pa_cons pe_int pa_nil))))
      (pss_cons (ps_if (pt_cmpR op_lt (pv 1) pe_int (nomark _)) (pss_one (ps_ret (pf_call (ok__law_take T) (hr.mono (by decide)) (by rfl) T.g__law_take T.d__law_take.kp (pa_cons (pv 0) (pa_cons pe_int pa_nil))))) pss_nil)
      (pss_one (ps_ret (pe_ifExp (pt_cmpR op_eq (pv 1) pe_int (nomark _)) (pf_call (ok__law_take T) (hr.mono (by decide)) (by rfl) T.g__law_take T.d__law_take.kp (pa_cons (pv 0) (pa_cons pe_int pa_nil))) (pe_op op_sub (pe_op op_sub (pe_op op_pow pe_int pe_int) pe_int) (pf_call (ok__law_take T) (hr.mono (by decide)) (by rfl) T.g__law_take T.d__law_take.kp (pa_cons (pv 0) (pa_cons pe_int pa_nil))))))))), ?_⟩
    walk_at "rd"
    refine ⟨b, _, rfl, hB, by omega, by omega, fun c c0 c1 => ?_⟩
    walk_at "rd"
    refine r_ite (fun _ => ?_) (fun _ => ?_)
    · walk_at "rd"
      exact ⟨b, _, rfl, hB, by omega, by omega, fun z z0 z1 => k z z0 (by omega)⟩
    · walk_at "rd"
      refine r_ite (fun _ => ?_) (fun _ => ?_)
      · walk_at "rd"
        exact ⟨b, _, rfl, hB, by omega, by omega, fun z z0 z1 => k z z0 (by omega)⟩
      · walk_at "rd"
        refine ⟨b, _, rfl, hB, by omega, by omega, fun z z0 z1 => ?_⟩
        walk_at "rd"
        exact k _ (by show 0 ≤ (10 : Int) ^ 30 - 1 - z; omega) (by show (10 : Int) ^ 30 - 1 - z < 10 ^ 30; omega)

/-! ### _law_stays -/
theorem sc__law_stays : FnScope ["_law_bag_here", "_law_many", "_law_most", "_law_drawn", "_law_hour", "_law_ahead"] ["_law_bag_here", "_law_many"] (defScope s__law_stays) := ⟨rfl, rfl, rfl, by decide +kernel, rfl, by decide +kernel, by decide +kernel⟩

def sp__law_stays (K : PySem.W.Frag) (d : Ads) : Sp := fun vs H Q _ => ∃ (b : Addr) (n : Nat), vs = [.ref b, .int (n : Int)] ∧ Bag H b ∧ 1 ≤ n ∧ n ≤ 48 ∧ ∀ s : List Int, s.length = n → Good s → RetN (s.map V.int) H Q
set_option maxHeartbeats 4000000 in
theorem ok__law_stays (T : Tx K mg d) : Okf P w K mg base 2 d.f__law_stays ["_law_bag_here", "_law_many"] (sp__law_stays K d) := by
  refine okf_of T.d__law_stays sc__law_stays (fun vs H Q E h => ?_) (fun cdv A outer s H vs Q E hr h => ?_)
  · obtain ⟨b, n, rfl, hB, hn, hn2, k⟩ := h
    rfl
  · obtain ⟨b, n, rfl, hB, hn, hn2, k⟩ := h
    refine ⟨_, (pss_cons (ps_if (pt_cmpR op_eq (pf_call (ok__law_take T) (hr.mono (by decide)) (by rfl) T.g__law_take T.d__law_take.kp (pa_cons (pv 0) (pa_cons pe_int pa_nil))) pe_int (nomark _)) (pss_one (ps_ret (pe_op op_rep (pe_lst (pa_cons (pe_op op_add pe_int (pf_call (ok__law_take T) (hr.mono (by decide)) (by rfl) T.g__law_take T.d__law_take.kp (pa_cons (pv 0) (pa_cons (pv 1) pa_nil)))) pa_nil)) (pv 1)))) pss_nil)
      (pss_cons (ps_set (i := 2) sc__law_stays.nd rfl (by first | exact Or.inl rfl | exact Or.inr rfl) (pe_op op_add pe_int (pf_call (ok__law_take T) (hr.mono (by decide)) (by rfl) T.g__law_take T.d__law_take.kp (pa_cons (pv 0) (pa_cons (pv 1) pa_nil)))))
      (pss_cons (ps_set (i := 3) sc__law_stays.nd rfl (by first | exact Or.inl rfl | exact Or.inr rfl) (pe_lc (own := [("_law_hour", 4)]) rfl sc__law_stays.nd (pi_range1 (by rfl) T.z_range (pa_cons (pv 1) pa_nil)) (blkOk_by (by kernel_rfl)) (fun _ _ _ _ _ => (pg_name (i := 4) sc__law_stays.nd rfl (by first | exact Or.inl rfl | exact Or.inr rfl))) (fun _ _ _ _ _ => pts_nil) (fun _ _ _ _ _ => (pe_op op_add pe_int (pf_call (ok__law_take T) (hr.mono (by decide)) (by rfl) T.g__law_take T.d__law_take.kp (pa_cons (pv 0) (pa_cons (pv 2) pa_nil)))))))
      (pss_one (ps_ret (pe_lc (own := [("_law_hour", 4)]) rfl sc__law_stays.nd (pi_range1 (by rfl) T.z_range (pa_cons (pv 1) pa_nil)) (blkOk_by (by kernel_rfl)) (fun _ _ _ _ _ => (pg_name (i := 4) sc__law_stays.nd rfl (by first | exact Or.inl rfl | exact Or.inr rfl))) (fun _ _ _ _ _ => pts_nil) (fun _ _ _ _ _ => (pe_callB (k_min (K := K) rfl rfl) (by rfl) T.z_min (by decide +kernel) (pa_cons (pe_lc (own := [("_law_ahead", 5)]) rfl sc__law_stays.nd (pi_range1 (by rfl) T.z_range (pa_cons (pv 1) pa_nil)) (blkOk_by (by kernel_rfl)) (fun _ _ _ _ _ => (pg_name (i := 5) sc__law_stays.nd rfl (by first | exact Or.inl rfl | exact Or.inr rfl))) (fun _ _ _ _ _ => pts_nil) (fun _ _ _ _ _ => (pe_op op_add (pe_ix (k_ixL (K := K) rfl) (pv 3) (pe_op op_mod (pe_callTy k_int1 (by rfl) T.z_int (by decide +kernel) (pa_cons (pe_op op_add (pv 4) (pv 5)) pa_nil)) (pv 1)) (fun _ _ => rfl)) (pv 5)))) pa_nil))))))))), ?_⟩
    walk_at "rd"
    refine ⟨b, _, rfl, hB, by omega, by omega, fun c0 _ _ => ?_⟩
    walk_at "rd"
    refine r_ite (fun _ => ?_) (fun _ => ?_)
    · walk_at "rd"
      refine ⟨b, _, rfl, hB, by omega, by omega, fun c c1 c2 => ?_⟩
      walk_at "rd"
      refine ⟨szc rfl, fun p np => ?_⟩
      walk_at "rd"
      refine ⟨p, _, _, rfl, rfl, upd_same, by omega, by omega, ?_, fun q nq => ?_⟩
      · rw [Int.toNat_natCast]
        show 1 * n ≤ sizeLine
        have : (48 : Nat) ≤ sizeLine := by decide
        omega
      · refine k (List.replicate n (1 + c)) List.length_replicate (Good.const hn hn2 (by omega) (by omega)) q _ ?_ ((Ex.new np).trans (Ex.new nq)) ?_
        · exact fresh_back (Ex.new np) nq
        · rw [upd_same, Int.toNat_natCast, flat_rep, List.map_replicate]
    · walk_at "rd"
      refine ⟨b, _, rfl, hB, by omega, by omega, fun c c1 c2 => ?_⟩
      walk_at "rd"
      refine lc_val walk_r0 (fun _ v => ∃ z : Int, 0 ≤ z ∧ z < 1 + c ∧ v = .int (1 + z)) (fun _ _ => trivial) (by omega) ?_ ?_
      · rintro i x H1 H2 hi e ⟨rfl, rfl⟩ kk hk
        walk_at "rd"
        refine ⟨b, _, rfl, hB.mono (.of e), by omega, by omega, fun z z1 z2 => ?_⟩
        walk_at "rd"
        exact hk _ _ (Ex.refl _) ⟨z, z1, z2, rfl⟩
      · intro D H1 ys nD e1 hD yl yv
        rw [Int.toNat_natCast] at yl
        obtain ⟨dr, hdr, rfl⟩ : ∃ dr : List Int, (∀ z ∈ dr, 1 ≤ z ∧ z ≤ 1 + c) ∧ ys = dr.map V.int := ints_of fun v hv => by
          obtain ⟨i, hi, rfl⟩ := List.mem_iff_getElem.mp hv
          obtain ⟨z, z0, z1, ez⟩ := yv i _ (List.getElem?_eq_getElem hi)
          exact ⟨1 + z, by omega, ez⟩
        rw [List.length_map] at yl
        have hcy : ∀ i, 1 ≤ cyc dr i ∧ cyc dr i ≤ 1 + c := fun i => hdr _ (cyc_mem (by omega) i)
        walk_at "rd"
        refine lc_val walk_r0 (fun i v => ∃ m : Int, v = .int m ∧ (∃ a : Nat, a < n ∧ m = cyc dr ((i : Int) + a) + a) ∧ ∀ a : Nat, a < n → m ≤ cyc dr ((i : Int) + a) + a) (fun _ _ => trivial) (by omega) ?_ ?_
        · rintro i x H2 H3 hi e ⟨rfl, rfl⟩ kk hk
          walk_at "rd"
          refine lc_fun walk_r0 (fun a => .int (cyc dr ((i : Int) + a) + a)) (fun _ _ => trivial) (by omega) ?_ ?_
          · rintro a x H4 H5 ha e' ⟨rfl, rfl⟩ kk' hk'
            walk_at "rd"
            have ea := at_cyc (ns := dr) (by omega) ((i : Int) + a)
            rw [yl] at ea
            refine r_ixL (.inl (.inl (e' _ _ (e _ _ hD)))) ea ?_
            walk_at "rd"
            exact hk' _ (Ex.refl _)
          · intro D2 H4 nD2 e4 hD2
            walk_at "rd"
            refine ⟨D2, (List.range n).map (fun a : Nat => cyc dr ((i : Int) + a) + a), rfl, .inl (.inl ?_), ?_, fun m hm hle => ?_⟩
            · rw [hD2, List.map_map, Int.toNat_natCast]
              rfl
            · rw [List.length_map, List.length_range]
              omega
            · refine hk _ _ e4 ⟨m, rfl, ?_, fun a ha => hle _ (List.mem_map.mpr ⟨a, List.mem_range.mpr ha, rfl⟩)⟩
              obtain ⟨a, ha, ea⟩ := List.mem_map.mp hm
              exact ⟨a, List.mem_range.mp ha, ea.symm⟩
        · intro D2 H2 zs nD2 e2 hD2 zl zv
          rw [Int.toNat_natCast] at zl
          obtain ⟨m, _, rfl⟩ : ∃ m : List Int, (∀ z ∈ m, True) ∧ zs = m.map V.int := ints_of fun v hv => by
            obtain ⟨i, hi, rfl⟩ := List.mem_iff_getElem.mp hv
            obtain ⟨z, ez, _⟩ := zv i _ (List.getElem?_eq_getElem hi)
            exact ⟨z, trivial, ez⟩
          rw [List.length_map] at zl
          refine k m zl (Good.least (dr := dr) (top := 1 + c) hn hn2 zl yl (by omega) hcy fun j hj => ?_) D2 H2 (fresh_back e1 nD2) (e1.trans e2) hD2
          obtain ⟨z, ez, h1, h2⟩ := zv j _ (by rw [List.getElem?_map, List.getElem?_eq_getElem (by omega)]; rfl)
          have ez' : m.getD j 0 = z := by
            rw [List.getD_eq_getElem?_getD, List.getElem?_eq_getElem (by omega)]
            exact V.int.inj ez
          rw [ez']
          exact ⟨h1, h2⟩

/-! ### _law_one -/
theorem sc__law_one : FnScope ["_law_bag_here", "_law_some"] ["_law_bag_here", "_law_some"] (defScope s__law_one) := ⟨rfl, rfl, rfl, by decide +kernel, rfl, by decide +kernel, by decide +kernel⟩

def sp__law_one (K : PySem.W.Frag) (d : Ads) : Sp := fun vs H Q _ => ∃ (b l : Addr) (xs : List V), vs = [.ref b, .ref l] ∧ Bag H b ∧ SqL K H l xs ∧ 1 ≤ xs.length ∧ xs.length ≤ 1000 ∧ ∀ x ∈ xs, Q x H
set_option maxHeartbeats 4000000 in
theorem ok__law_one (T : Tx K mg d) : Okf P w K mg base 2 d.f__law_one ["_law_bag_here", "_law_some"] (sp__law_one K d) := by
  refine okf_of T.d__law_one sc__law_one (fun vs H Q E h => ?_) (fun cdv A outer s H vs Q E hr h => ?_)
  · obtain ⟨b, l, xs, rfl, hB, hL, h1, h2, k⟩ := h
    rfl
  · obtain ⟨b, l, xs, rfl, hB, hL, h1, h2, k⟩ := h
    refine ⟨_, (pss_one (ps_ret (pe_ix (k_ixL (K := K) rfl) (pv 1) (pf_call (ok__law_take T) (hr.mono (by decide)) (by rfl) T.g__law_take T.d__law_take.kp (pa_cons (pv 0) (pa_cons (pe_callB (k_len (K := K) rfl) (by rfl) T.z_len (by decide +kernel) (pa_cons (pv 1) pa_nil)) pa_nil))) (fun _ _ => rfl)))), ?_⟩
    walk_at "rd"
    refine r_len (by walk_at "kn") ?_
    refine ⟨b, _, rfl, hB, by omega, by omega, fun c c0 c1 => ?_⟩
    have hc : c.toNat < xs.length := by omega
    obtain ⟨j, rfl⟩ : ∃ j : Nat, c = (j : Int) := ⟨c.toNat, by omega⟩
    rw [Int.toNat_natCast] at hc
    refine r_ixL hL (atI_nat (List.getElem?_eq_getElem hc)) ?_
    exact k _ (List.getElem_mem hc)

/-! ### _law_some_way -/
theorem sc__law_some_way : FnScope ["_law_bag_here", "_law_words", "_law_k"] ["_law_bag_here"] (defScope s__law_some_way) := ⟨rfl, rfl, rfl, by decide +kernel, rfl, by decide +kernel, by decide +kernel⟩

def sp__law_some_way (K : PySem.W.Frag) (d : Ads) : Sp := fun vs H Q _ => ∃ (b : Addr), vs = [.ref b] ∧ Bag H b ∧ ∀ ws : List (Str × Int), Okw ws → ∀ l H', H l = none → Ex H H' → Wy H' l ws → Q (.ref l) H'
set_option maxHeartbeats 4000000 in
theorem ok__law_some_way (T : Tx K mg d) : Okf P w K mg base 3 d.f__law_some_way ["_law_bag_here"] (sp__law_some_way K d) := by
  refine okf_of T.d__law_some_way sc__law_some_way (fun vs H Q E h => ?_) (fun cdv A outer s H vs Q E hr h => ?_)
  · obtain ⟨b, rfl, hB, k⟩ := h
    rfl
  · obtain ⟨b, rfl, hB, k⟩ := h
    refine ⟨_, (pss_cons (ps_set (i := 1) sc__law_some_way.nd rfl (by first | exact Or.inl rfl | exact Or.inr rfl) (pe_lst (pa_cons pe_str (pa_cons pe_str (pa_cons pe_str (pa_cons pe_str pa_nil))))))
      (pss_one (ps_ret (pe_lc (own := [("_law_k", 2)]) rfl sc__law_some_way.nd (pi_range1 (by rfl) T.z_range (pa_cons (pe_op op_add pe_int (pf_call (ok__law_take T) (hr.mono (by decide)) (by rfl) T.g__law_take T.d__law_take.kp (pa_cons (pv 0) (pa_cons (pf_call (ok__law_one T) (hr.mono (by decide)) (by rfl) T.g__law_one T.d__law_one.kp (pa_cons (pv 0) (pa_cons (pe_lst (pa_cons pe_int (pa_cons pe_int (pa_cons pe_int pa_nil)))) pa_nil))) pa_nil)))) pa_nil)) (blkOk_by (by kernel_rfl)) (fun _ _ _ _ _ => (pg_name (i := 2) sc__law_some_way.nd rfl (by first | exact Or.inl rfl | exact Or.inr rfl))) (fun _ _ _ _ _ => pts_nil) (fun _ _ _ _ _ => (pe_tup (pa_cons (pf_call (ok__law_one T) (hr.mono (by decide)) (by rfl) T.g__law_one T.d__law_one.kp (pa_cons (pv 0) (pa_cons (pv 1) pa_nil))) (pa_cons (pf_call (ok__law_take T) (hr.mono (by decide)) (by rfl) T.g__law_take T.d__law_take.kp (pa_cons (pv 0) (pa_cons pe_int pa_nil))) pa_nil)))))))), ?_⟩
    walk_at "rd"
    refine ⟨szc rfl, fun p np => ?_⟩
    walk_at "rd"
    refine ⟨szc rfl, fun p2 np2 => ?_⟩
    walk_at "rd"
    refine ⟨b, p2, _, rfl, (by walk_at "kn"), (by walk_at "kn"), (by show 1 ≤ 3; decide), (by show 3 ≤ 1000; decide), fun x hx => ?_⟩
    obtain ⟨m, rfl, m0, m1⟩ : ∃ m : Int, x = .int m ∧ 1 ≤ m ∧ m ≤ 60 := by
      simp only [List.mem_cons, List.not_mem_nil, or_false] at hx
      rcases hx with rfl | rfl | rfl
      · exact ⟨6, rfl, by omega, by omega⟩
      · exact ⟨6, rfl, by omega, by omega⟩
      · exact ⟨60, rfl, by omega, by omega⟩
    walk_at "rd"
    refine ⟨b, _, rfl, (by walk_at "kn"), by omega, by omega, fun c c0 c1 => ?_⟩
    walk_at "rd"
    refine lc_map walk_r0 (fun D i v H => ∃ (T : Addr) (w : Str × Int), v = .ref T ∧ H T = some (.tup [.str w.1, .int w.2]) ∧ Sml w.1 4 ∧ 0 ≤ w.2 ∧ w.2 < 48) (fun _ _ _ _ _ _ _ => trivial) (fun D i v H H' e ⟨T, w, h1, h2, h3⟩ => ⟨T, w, h1, e _ _ h2, h3⟩) (fun D i v H xs ys hD ⟨T, w, h1, h2, h3⟩ => ⟨T, w, h1, by rw [upd_ne (ne_of h2 hD (fun z => nomatch z))]; exact h2, h3⟩) (by omega) ?_ ?_
    · rintro D j x G1 G2 hj e nD _ ⟨rfl, rfl⟩ kk hk
      walk_at "rd"
      refine ⟨b, p, _, rfl, (by walk_at "kn"), (by walk_at "kn"), (by show 1 ≤ 4; decide), (by show 4 ≤ 1000; decide), fun x hx => ?_⟩
      obtain ⟨w, rfl, hw⟩ : ∃ w : Str, x = .str w ∧ Sml w 4 := by
        simp only [List.mem_cons, List.not_mem_nil, or_false] at hx
        rcases hx with rfl | rfl | rfl | rfl <;> exact ⟨_, rfl, sml_str _ (by decide)⟩
      walk_at "rd"
      refine ⟨b, _, rfl, (by walk_at "kn"), by omega, by omega, fun h h0 h1 => ?_⟩
      walk_at "rd"
      refine ⟨szc rfl, fun t nt => ?_⟩
      exact hk _ _ (by walk_at "ex") ⟨t, (w, h), rfl, upd_same, hw, h0, by omega⟩
    intro l H1 ys nl e1 hl yl yr
    have ex : ∀ zs : List V, (∀ z ∈ zs, ∃ (T : Addr) (w : Str × Int), z = .ref T ∧ H1 T = some (.tup [.str w.1, .int w.2]) ∧ Sml w.1 4 ∧ 0 ≤ w.2 ∧ w.2 < 48) → ∃ (ts : List Addr) (ws : List (Str × Int)), zs = ts.map V.ref ∧ ts.length = ws.length ∧ (∀ (j : Nat) t, ts[j]? = some t → ∃ w, ws[j]? = some w ∧ H1 t = some (.tup [.str w.1, .int w.2])) ∧ ∀ p ∈ ws, Sml p.1 4 ∧ 0 ≤ p.2 ∧ p.2 < 48 := fun zs => by
      induction zs with
      | nil => exact fun _ => ⟨[], [], rfl, rfl, fun j t h => by simp at h, fun p h => by cases h⟩
      | cons z zs ih =>
        intro h
        obtain ⟨T, w, rfl, hT, hw⟩ := h z List.mem_cons_self
        obtain ⟨ts, ws, rfl, hl, ht, ho⟩ := ih fun y hy => h y (List.mem_cons_of_mem _ hy)
        refine ⟨T :: ts, w :: ws, rfl, by rw [List.length_cons, List.length_cons, hl], fun j t hj => ?_, fun p hp => ?_⟩
        · cases j with
          | zero => cases hj; exact ⟨w, rfl, hT⟩
          | succ j => exact ht j t hj
        · rcases List.mem_cons.mp hp with rfl | hp
          · exact hw
          · exact ho p hp
    obtain ⟨ts, ws, rfl, hl2, ht, ho⟩ := ex ys fun z hz => by
      obtain ⟨i, hi, rfl⟩ := List.mem_iff_getElem.mp hz
      exact yr i _ (List.getElem?_eq_getElem hi)
    rw [List.length_map] at yl
    exact k ws ⟨by omega, ho⟩ l H1 (by walk_at "fr") (by walk_at "ex") ⟨ts, hl, hl2, ht⟩

/-! ### _law_common -/
theorem sc__law_common : FnScope ["_law_one_here", "_law_other"] ["_law_one_here", "_law_other"] (defScope s__law_common) := ⟨rfl, rfl, rfl, by decide +kernel, rfl, by decide +kernel, by decide +kernel⟩

def sp__law_common (K : PySem.W.Frag) (d : Ads) : Sp := fun vs H Q _ => ∃ (x y : Int), vs = [.int x, .int y] ∧ 0 ≤ x ∧ 1 ≤ y ∧ x < 10 ^ 35 ∧ y < 10 ^ 35 ∧ ∀ z : Int, 1 ≤ z → z < 10 ^ 35 → Q (.int z) H
set_option maxHeartbeats 4000000 in
theorem ok__law_common (T : Tx K mg d) : Okf P w K mg base 1 d.f__law_common ["_law_one_here", "_law_other"] (sp__law_common K d) := by
  refine okf_of T.d__law_common sc__law_common (fun vs H Q E h => ?_) (fun cdv A outer s H vs Q E hr h => ?_)
  · obtain ⟨x, y, rfl, x0, y0, x1, y1, k⟩ := h
    rfl
  · obtain ⟨x, y, rfl, x0, y0, x1, y1, k⟩ := h
    refine ⟨_, (pss_cons (ps_par (i := 0) (j := 1) (by rfl) sc__law_common.nd rfl rfl (by decide) rfl rfl (pa_cons (pe_callB k_abs (by rfl) T.z_abs (by decide +kernel) (pa_cons (pv 0) pa_nil)) (pa_cons (pe_callB k_abs (by rfl) T.z_abs (by decide +kernel) (pa_cons (pv 1) pa_nil)) pa_nil)) (by rfl))
      (pss_cons (ps_while PassesOwn.never (pt_cmpR op_gt (pv 1) pe_int (nomark _)) (pss_one (ps_par (i := 0) (j := 1) (by rfl) sc__law_common.nd rfl rfl (by decide) rfl rfl (pa_cons (pv 1) (pa_cons (pe_op op_mod (pe_callTy k_int1 (by rfl) T.z_int (by decide +kernel) (pa_cons (pv 0) pa_nil)) (pv 1)) pa_nil)) (by rfl))))
      (pss_one (ps_ret (pv 0))))), ?_⟩
    walk_at "rd"
    rw [if_neg (by omega), if_neg (by omega)]
    refine while_by (fun σ' H' => ∃ a b : Int, σ' = [some (.int a), some (.int b)] ∧ H' = H ∧ 0 ≤ a ∧ 0 ≤ b ∧ 1 ≤ a + b ∧ a < 10 ^ 35 ∧ b < 10 ^ 35) (fun σ' _ => match σ'.getD 1 none with | some (.int b) => b.toNat | _ => 0) ⟨x, y, rfl, rfl, by omega, by omega, by omega, x1, y1⟩ ?_ ?_
    · rintro σ' H' ⟨a, b, rfl, rfl, a0, b0, ab, a1, b1⟩
      walk_at "rd"
      refine r_ite (fun q => ?_) fun q => ?_
      · have m0 := Int.emod_nonneg a (b := b) (by omega)
        have m1 := Int.emod_lt_of_pos a (b := b) (by omega)
        walk_at "rd"
        refine ⟨⟨_, _, rfl, rfl, by omega, m0, by omega, by omega, by omega⟩, ?_⟩
        show (a % b).toNat < b.toNat
        omega
      · walk_at "rd"
        exact k _ (by omega) (by omega)
    · intro σ' H' Q1 Q2 hq h
      obtain ⟨v, hv, i, j, e1, e2, c, e3, q⟩ := h
      exact ⟨v, hv, i, j, e1, e2, c, e3, hq _ _ q⟩

/-! ### _law_some_fraction -/
theorem sc__law_some_fraction : FnScope ["_law_bag_here", "_law_one_here", "_law_other", "_law_by"] ["_law_bag_here"] (defScope s__law_some_fraction) := ⟨rfl, rfl, rfl, by decide +kernel, rfl, by decide +kernel, by decide +kernel⟩

def sp__law_some_fraction (K : PySem.W.Frag) (d : Ads) : Sp := fun vs H Q _ => ∃ (b : Addr), vs = [.ref b] ∧ Bag H b ∧ ∀ x y : Int, x.natAbs < 10 ^ 40 → y.natAbs < 10 ^ 40 → ∀ p, H p = none → Q (.ref p) (upd H p (.tup [.int x, .int y]))
set_option maxHeartbeats 4000000 in
theorem ok__law_some_fraction (T : Tx K mg d) : Okf P w K mg base 3 d.f__law_some_fraction ["_law_bag_here"] (sp__law_some_fraction K d) := by
  refine okf_of T.d__law_some_fraction sc__law_some_fraction (fun vs H Q E h => ?_) (fun cdv A outer s H vs Q E hr h => ?_)
  · obtain ⟨b, rfl, hB, k⟩ := h
    rfl
  · obtain ⟨b, rfl, hB, k⟩ := h
    refine ⟨_, (pss_cons (ps_par (i := 1) (j := 2) (by rfl) sc__law_some_fraction.nd rfl rfl (by decide) rfl rfl (pa_cons (pf_call (ok__law_number T) (hr.mono (by decide)) (by rfl) T.g__law_number T.d__law_number.kp (pa_cons (pv 0) pa_nil)) (pa_cons (pe_op op_add pe_int (pf_call (ok__law_number T) (hr.mono (by decide)) (by rfl) T.g__law_number T.d__law_number.kp (pa_cons (pv 0) pa_nil))) pa_nil)) (by rfl))
      (pss_cons (ps_set (i := 3) sc__law_some_fraction.nd rfl (by first | exact Or.inl rfl | exact Or.inr rfl) (pf_call (ok__law_common T) (hr.mono (by decide)) (by rfl) T.g__law_common T.d__law_common.kp (pa_cons (pv 1) (pa_cons (pv 2) pa_nil))))
      (pss_one (ps_ret (pe_tup (pa_cons (pe_op op_fdivW (pv 1) (pv 3)) (pa_cons (pe_op op_fdivW (pv 2) (pv 3)) pa_nil))))))), ?_⟩
    walk_at "rd"
    refine ⟨b, rfl, hB, fun x x0 x1 => ?_⟩
    walk_at "rd"
    refine ⟨b, rfl, hB, fun y y0 y1 => ?_⟩
    walk_at "rd"
    refine ⟨x, 1 + y, rfl, x0, by omega, by omega, by omega, fun z z0 z1 => ?_⟩
    have q1 : 0 ≤ x / z ∧ x / z ≤ x := ⟨Int.ediv_nonneg x0 (by omega), Int.ediv_le_self _ x0⟩
    have q2 : 0 ≤ (1 + y) / z ∧ (1 + y) / z ≤ 1 + y := ⟨Int.ediv_nonneg (by omega) (by omega), Int.ediv_le_self _ (by omega)⟩
    have zl : z.natAbs.log2 < 9000 := by have := log_40 (i := z) (by omega); omega
    walk_at "rd"
    refine ⟨szc rfl, fun p np => ?_⟩
    exact k _ _ (by omega) (by omega) p np

/-! ### _law_text_of -/
theorem sc__law_text_of : FnScope ["_law_word", "_law_row", "_law_one_here"] ["_law_word", "_law_row"] (defScope s__law_text_of) := ⟨rfl, rfl, rfl, by decide +kernel, rfl, by decide +kernel, by decide +kernel⟩

def sp__law_text_of (K : PySem.W.Frag) (d : Ads) : Sp := fun vs H Q _ => ∃ (w : Str) (l : Addr) (ns : List Int), vs = [.str w, .ref l] ∧ SqL K H l (ns.map V.int) ∧ Sml w 10 ∧ ns.length ≤ 48 ∧ (∀ z ∈ ns, z.natAbs < 10 ^ 40) ∧ ∀ H', Ex H H' → Q (.str (shw w ns)) H'
set_option maxHeartbeats 4000000 in
theorem ok__law_text_of (T : Tx K mg d) : Okf P w K mg base 1 d.f__law_text_of ["_law_word", "_law_row"] (sp__law_text_of K d) := by
  refine okf_of T.d__law_text_of sc__law_text_of (fun vs H Q E h => ?_) (fun cdv A outer s H vs Q E hr h => ?_)
  · obtain ⟨w, l, ns, rfl, hL, hw, hn, hz, k⟩ := h
    rfl
  · obtain ⟨w, l, ns, rfl, hL, hw, hn, hz, k⟩ := h
    refine ⟨_, (pss_one (ps_ret (pe_op k_addS (pv 0) (k_join (K := K) rfl pe_str (pe_lc (own := [("_law_one_here", 2)]) rfl sc__law_text_of.nd (k_piL (K := K) rfl (pv 1)) (blkOk_by (by kernel_rfl)) (fun _ _ _ _ _ => (pg_name (i := 2) sc__law_text_of.nd rfl (by first | exact Or.inl rfl | exact Or.inr rfl))) (fun _ _ _ _ _ => pts_nil) (fun _ _ _ _ _ => (pe_op k_addS pe_str (pe_ifExp (pt_cmpR k_isN (pv 2) pe_non (nomark _)) pe_str (pe_callTy k_strI (by rfl) T.z_str (by decide +kernel) (pa_cons (pv 2) pa_nil)))))))))), ?_⟩
    walk_at "rd"
    refine ⟨l, rfl, ⟨_, (by walk_at "kn")⟩, lc_fun (walk_list (xs := ns.map V.int)) (fun i => .str (Str.ofString " " ++ txI (ns.getD i 0))) (fun H' e => (by walk_at "kn")) (by rw [List.length_map]; omega) ?_ ?_⟩
    · rintro i x H1 H2 hi e ⟨rfl, hx⟩ kk hk
      obtain rfl := int_at hx
      rw [List.length_map] at hi
      have hb := hz _ (getD_mem' hi)
      have sb := sml_int hb
      walk_at "rd"
      refine iteF ?_
      walk_at "rd"
      refine r_strI hb ?_
      refine r_addS (by have := sb.1; show 1 + _ ≤ 100000; omega) ?_
      exact hk _ (Ex.refl _)
    intro q H1 nq e1 hq
    rw [List.length_map, map_range_int ns (fun z => V.str (Str.ofString " " ++ txI z))] at hq
    walk_at "rd"
    have hs : ∀ y ∈ ns.map (fun i => Str.ofString " " ++ txI i), Sml y 42 := fun y hy => by
      obtain ⟨z, hz', rfl⟩ := List.mem_map.mp hy
      exact (sml_app (sml_str " " (n := 1) (by decide)) (sml_int (hz z hz'))).mono (by decide)
    have hj := sml_join (y := Str.empty) (n := 42) (L := 0) ⟨Nat.le_refl 0, fun c hc => by cases hc⟩ _ hs
    refine r_join (n := 42) (ns.map fun i => Str.ofString " " ++ txI i) (at_sqL (by rw [hq, List.map_map]; rfl)) hs (by decide) (by decide) (by rw [List.length_map]; omega) ?_
    rw [List.length_map] at hj
    rw [str_nil]
    refine r_addS (by have := hj.1; have := hw.1; have : ns.length * 42 ≤ 48 * 42 := Nat.mul_le_mul_right _ hn; omega) ?_
    rw [shw_each]
    exact k _ (by walk_at "ex")

/-! ### _law_way_text -/
theorem sc__law_way_text : FnScope ["_law_way", "_law_word", "_law_hour"] ["_law_way"] (defScope s__law_way_text) := ⟨rfl, rfl, rfl, by decide +kernel, rfl, by decide +kernel, by decide +kernel⟩

def sp__law_way_text (K : PySem.W.Frag) (d : Ads) : Sp := fun vs H Q _ => ∃ (l : Addr) (ws : List (Str × Int)), vs = [.ref l] ∧ Wy H l ws ∧ Okw ws ∧ ∀ H', Ex H H' → Q (.str (wayT ws)) H'
set_option maxHeartbeats 4000000 in
theorem ok__law_way_text (T : Tx K mg d) : Okf P w K mg base 1 d.f__law_way_text ["_law_way"] (sp__law_way_text K d) := by
  refine okf_of T.d__law_way_text sc__law_way_text (fun vs H Q E h => ?_) (fun cdv A outer s H vs Q E hr h => ?_)
  · obtain ⟨l, ws, rfl, hW, hO, k⟩ := h
    rfl
  · obtain ⟨l, ws, rfl, hW, hO, k⟩ := h
    refine ⟨_, (pss_one (ps_ret (k_join (K := K) rfl pe_str (pe_lc (own := [("_law_word", 1), ("_law_hour", 2)]) rfl sc__law_way_text.nd (k_piL (K := K) rfl (pv 0)) (blkOk_by (by kernel_rfl)) (fun _ _ _ _ _ => (k_gtup (K := K) (n := 2) rfl rfl (pgs_cons (pg_name (i := 1) sc__law_way_text.nd rfl (by first | exact Or.inl rfl | exact Or.inr rfl)) (pgs_cons (pg_name (i := 2) sc__law_way_text.nd rfl (by first | exact Or.inl rfl | exact Or.inr rfl)) pgs_nil)))) (fun _ _ _ _ _ => pts_nil) (fun _ _ _ _ _ => (pe_op k_addS (pe_op k_addS (pv 1) pe_str) (pe_callTy k_strI (by rfl) T.z_str (by decide +kernel) (pa_cons (pv 2) pa_nil)))))))), ?_⟩
    walk_at "rd"
    refine lc_way hW stpT (by have := hO.1; omega) ?_ ?_
    · rintro T' w H1 hw e hT kk hk
      have ho := hO.2 w hw
      have sh : Sml (txI w.2) 41 := sml_int (by omega)
      refine r_pairT hT ?_
      walk_at "rd"
      refine r_addS (by have := ho.1.1; show _ + 1 ≤ 100000; omega) ?_
      walk_at "rd"
      refine r_strI (by omega) ?_
      refine r_addS (by have := ho.1.1; have := sh.1; rw [strLen_append]; show _ + 1 + _ ≤ 100000; omega) ?_
      exact hk _ (Ex.refl _)

    intro D1 H1 nD1 e1 hD1
    walk_at "rd"
    refine r_join (n := 46) (ws.map stpT) (by walk_at "kn") ?_ (by decide) (by decide) (by rw [List.length_map]; have := hO.1; omega) (k _ (by walk_at "ex"))
    intro y hy
    obtain ⟨z, hz, rfl⟩ := List.mem_map.mp hy
    exact sml_stp (hO.2 z hz)

/-! ### show_limit -/
theorem sc_show_limit : FnScope ["limit"] ["limit"] (defScope s_show_limit) := ⟨rfl, rfl, rfl, by decide +kernel, rfl, by decide +kernel, by decide +kernel⟩

def sp_show_limit (K : PySem.W.Frag) (d : Ads) : Sp := fun vs H Q _ => ∃ i : Int, vs = [.int i] ∧ i.natAbs < 10 ^ 40 ∧ Q (.str (txI i)) H
set_option maxHeartbeats 4000000 in
theorem ok_show_limit (T : Tx K mg d) : Okf P w K mg base 1 d.f_show_limit ["limit"] (sp_show_limit K d) := by
  refine okf_of T.d_show_limit sc_show_limit (fun vs H Q E h => ?_) (fun cdv A outer s H vs Q E hr h => ?_)
  · obtain ⟨i, rfl, hi, k⟩ := h
    rfl
  · obtain ⟨i, rfl, hi, k⟩ := h
    refine ⟨_, (pss_one (ps_ret (pe_ifExp (pt_cmpR k_isN (pv 0) pe_non (nomark _)) (pe_gstr (by rfl) T.k_NONE) (pe_callTy k_strI (by rfl) T.z_str (by decide +kernel) (pa_cons (pv 0) pa_nil))))), ?_⟩
    walk_at "rd"
    refine iteF ?_
    walk_at "rd"
    exact r_strI hi k

/-! ### show_row -/
theorem sc_show_row : FnScope ["word", "row", "limit"] ["word", "row"] (defScope s_show_row) := ⟨rfl, rfl, rfl, by decide +kernel, rfl, by decide +kernel, by decide +kernel⟩

def sp_show_row (K : PySem.W.Frag) (d : Ads) : Sp := fun vs H Q _ => ∃ (w : Str) (l : Addr) (ns : List Int), vs = [.str w, .ref l] ∧ SqL K H l (ns.map V.int) ∧ Sml w 10 ∧ ns.length ≤ 48 ∧ (∀ z ∈ ns, z.natAbs < 10 ^ 40) ∧ ∀ H', Ex H H' → Q (.str (shw w ns)) H'
set_option maxHeartbeats 4000000 in
theorem ok_show_row (T : Tx K mg d) : Okf P w K mg base 2 d.f_show_row ["word", "row"] (sp_show_row K d) := by
  refine okf_of T.d_show_row sc_show_row (fun vs H Q E h => ?_) (fun cdv A outer s H vs Q E hr h => ?_)
  · obtain ⟨w, l, ns, rfl, hL, hw, hn, hz, k⟩ := h
    rfl
  · obtain ⟨w, l, ns, rfl, hL, hw, hn, hz, k⟩ := h
    refine ⟨_, (pss_one (ps_ret (k_join (K := K) rfl pe_str (pe_op op_cat (pe_lst (pa_cons (pv 0) pa_nil)) (pe_lc (own := [("limit", 2)]) rfl sc_show_row.nd (k_piL (K := K) rfl (pv 1)) (blkOk_by (by kernel_rfl)) (fun _ _ _ _ _ => (pg_name (i := 2) sc_show_row.nd rfl (by first | exact Or.inl rfl | exact Or.inr rfl))) (fun _ _ _ _ _ => pts_nil) (fun _ _ _ _ _ => (pf_call (ok_show_limit T) (hr.mono (by decide)) (by rfl) T.g_show_limit T.d_show_limit.kp (pa_cons (pv 2) pa_nil)))))))), ?_⟩
    walk_at "rd"
    refine ⟨szc rfl, fun p np => ?_⟩
    walk_at "rd"
    refine ⟨l, rfl, ⟨_, (by walk_at "kn")⟩, lc_fun (walk_list (xs := ns.map V.int)) (fun i => .str (txI (ns.getD i 0))) (fun H' e => (by walk_at "kn")) (by rw [List.length_map]; omega) ?_ ?_⟩
    · rintro i x H1 H2 hi e ⟨rfl, hx⟩ kk hk
      obtain rfl := int_at hx
      rw [List.length_map] at hi
      walk_at "rd"
      exact ⟨_, rfl, hz _ (getD_mem' hi), hk _ (Ex.refl _)⟩
    intro q H1 nq e1 hq
    rw [List.length_map, map_range_int ns (fun z => V.str (txI z))] at hq
    walk_at "rd"
    refine r_cat (xs := [.str w]) (zs := ns.map fun z => V.str (txI z)) (by walk_at "kn") (by walk_at "kn") (by rw [List.length_map]; show 1 + ns.length ≤ 1000; omega) fun r nr => ?_
    walk_at "rd"
    refine r_join (n := 41) (w :: ns.map txI) (at_sqL (by rw [upd_same, List.map_cons, List.map_map]; rfl)) ?_ (by decide) (by decide) (by rw [List.length_cons, List.length_map]; omega) (k _ (by walk_at "ex"))
    intro y hy
    rcases List.mem_cons.mp hy with rfl | hy
    · exact hw.mono (by decide)
    · obtain ⟨z, hz', rfl⟩ := List.mem_map.mp hy
      exact sml_int (hz z hz')

/-! ### Plan.__len__ -/
theorem sc_Plan___len__ : FnScope ["self"] ["self"] (defScope s_Plan___len__) := ⟨rfl, rfl, rfl, by decide +kernel, rfl, by decide +kernel, by decide +kernel⟩

def sp_Plan___len__ (K : PySem.W.Frag) (d : Ads) : Sp := fun vs H Q _ => ∃ (v : V) (s : List Int), vs = [v] ∧ Pn K d H v s ∧ Q (.int (s.length : Int)) H
set_option maxHeartbeats 4000000 in
theorem ok_Plan___len__ (T : Tx K mg d) : Okf P w K mg base 1 d.f_Plan___len__ ["self"] (sp_Plan___len__ K d) := by
  refine okf_of T.d_Plan___len__ sc_Plan___len__ (fun vs H Q E h => ?_) (fun cdv A outer s H vs Q E hr h => ?_)
  · obtain ⟨v, s, rfl, hN, k⟩ := h
    rfl
  · obtain ⟨v, s, rfl, hN, k⟩ := h
    refine ⟨_, (pss_one (ps_ret (pe_callB (k_len (K := K) rfl) (by rfl) T.z_len (by decide +kernel) (pa_cons (k_fld (K := K) rfl (pv 0)) pa_nil)))), ?_⟩
    walk_at "rd"
    refine r_rwF hN T.cl_Plan T.n_Plan_kept_begins fun a ha => ?_
    walk_at "rd"
    refine r_len (.inr ha) ?_
    rw [List.length_map]
    exact k

/-! ### Plan.__iter__ -/
theorem sc_Plan___iter__ : FnScope ["self"] ["self"] (defScope s_Plan___iter__) := ⟨rfl, rfl, rfl, by decide +kernel, rfl, by decide +kernel, by decide +kernel⟩

def sp_Plan___iter__ (K : PySem.W.Frag) (d : Ads) (n : Nat) : Sp := fun vs H Q _ => ∃ (v : V) (s : List Int), vs = [v] ∧ Pn K d H v s ∧ ∀ l it, SqT K H l (s.map V.int) → H it = none → n ≤ it → Q (.ref it) (upd H it (ItT l it))
set_option maxHeartbeats 4000000 in
theorem ok_Plan___iter__ (T : Tx K mg d) (n : Nat) : OkP (fun _ s => n ≤ s.heap.objs.size) P w K mg base 1 d.f_Plan___iter__ ["self"] (sp_Plan___iter__ K d n) := by
  refine okP_of T.d_Plan___iter__ sc_Plan___iter__ (fun vs H Q E h => ?_) (fun cdv A outer s H vs Q E hn hr h => ?_)
  · obtain ⟨v, s, rfl, hN, k⟩ := h
    rfl
  · obtain ⟨v, s, rfl, hN, k⟩ := h
    refine ⟨_, (pss_one (ps_ret (pe_callB (k_iterT (K := K) (n := n) rfl hn) (by rfl) T.z_iter (by decide +kernel) (pa_cons (k_fld (K := K) rfl (pv 0)) pa_nil)))), ?_⟩
    walk_at "rd"
    refine r_rwF hN T.cl_Plan T.n_Plan_kept_begins fun a ha => ?_
    walk_at "rd"
    exact ⟨a, _, rfl, ha, fun it n1 n2 => k a it ha n1 n2⟩

theorem r_list_Plan {H : Hp} {Q : VK} {v : V} {s : List Int} (hN : Pn K d H v s) (q : ∀ l, H l = none → Q (.ref l) (upd H l (.lst (s.map V.int)))) : rListO K d.c_Plan (sp_Plan___iter__ K d) (sp_Plan___len__ K d) [v] H Q := by
  obtain ⟨p, dx, a, rfl, hp, ha, g⟩ := id hN
  have hle := g.le
  exact ⟨p, dx, _, _, rfl, hp, by rw [List.length_map]; omega, fun n H' Q' e h => ⟨_, s, rfl, hN.ex e, h⟩, fun H' Q' e h => ⟨_, s, rfl, hN.ex e, h _ (by omega) (by omega)⟩, q⟩

/-! ### show_plan -/
theorem sc_show_plan : FnScope ["plan"] ["plan"] (defScope s_show_plan) := ⟨rfl, rfl, rfl, by decide +kernel, rfl, by decide +kernel, by decide +kernel⟩

def sp_show_plan (K : PySem.W.Frag) (d : Ads) : Sp := fun vs H Q _ => ∃ (v : V) (s : List Int), vs = [v] ∧ Pn K d H v s ∧ (∀ z ∈ s, z.natAbs < 10 ^ 40) ∧ ∀ H', Ex H H' → Q (.str (shw "plan" s)) H'
set_option maxHeartbeats 4000000 in
theorem ok_show_plan (T : Tx K mg d) : Okf P w K mg base 5 d.f_show_plan ["plan"] (sp_show_plan K d) := by
  refine okf_of T.d_show_plan sc_show_plan (fun vs H Q E h => ?_) (fun cdv A outer s H vs Q E hr h => ?_)
  · obtain ⟨v, s, rfl, hN, hz, k⟩ := h
    rfl
  · obtain ⟨v, s, rfl, hN, hz, k⟩ := h
    refine ⟨_, (pss_one (ps_ret (pf_call (ok_show_row T) (hr.mono (by decide)) (by rfl) T.g_show_row T.d_show_row.kp (pa_cons pe_str (pa_cons (pe_callTy (k_listO (K := K) rfl rfl ⟨T.m_Plan___iter__.at_, T.m_Plan___iter__.fn, T.m_Plan___len__.at_, T.m_Plan___len__.fn⟩ (ok_Plan___iter__ T) (ok_Plan___len__ T) (hr.mono (by decide))) (by rfl) T.z_list (by decide +kernel) (pa_cons (pv 0) pa_nil)) pa_nil))))), ?_⟩
    have g := hN.good
    walk_at "rd"
    refine r_list_Plan hN fun p np => ?_
    walk_at "rd"
    exact ⟨_, p, s, rfl, (by walk_at "kn"), sml_str "plan" (by decide), g.le, hz, fun H2 e2 => k _ (by walk_at "ex")⟩

/-! ### is_integer -/
theorem sc_is_integer : FnScope ["thing"] ["thing"] (defScope s_is_integer) := ⟨rfl, rfl, rfl, by decide +kernel, rfl, by decide +kernel, by decide +kernel⟩

def sp_is_integer (K : PySem.W.Frag) (d : Ads) : Sp := fun vs H Q _ => ∃ i : Int, vs = [.int i] ∧ Q (.bl true) H
set_option maxHeartbeats 4000000 in
theorem ok_is_integer (T : Tx K mg d) : Okf P w K mg base 1 d.f_is_integer ["thing"] (sp_is_integer K d) := by
  refine okf_of T.d_is_integer sc_is_integer (fun vs H Q E h => ?_) (fun cdv A outer s H vs Q E hr h => ?_)
  · obtain ⟨i, rfl, k⟩ := h
    rfl
  · obtain ⟨i, rfl, k⟩ := h
    refine ⟨_, (pss_one (ps_ret (pe_and (pe_callB (k_isi (K := K) rfl) (by rfl) T.z_isinstance (by decide +kernel) (pa_cons (pv 0) (pa_cons (pe_bty (n := "int") (by rfl) T.z_int (by decide +kernel)) pa_nil))) (pe_one (pe_not (pe_callB (k_isi (K := K) rfl) (by rfl) T.z_isinstance (by decide +kernel) (pa_cons (pv 0) (pa_cons (pe_bty (n := "bool") (by rfl) T.z_bool (by decide +kernel)) pa_nil)))))))), ?_⟩
    walk_at "rd"
    refine r_isiInt ?_
    walk_at "rd"
    refine iteT ?_
    walk_at "rd"
    refine r_isiIntB ?_
    walk_at "rd"
    exact k

/-! ### is_count -/
theorem sc_is_count : FnScope ["thing"] ["thing"] (defScope s_is_count) := ⟨rfl, rfl, rfl, by decide +kernel, rfl, by decide +kernel, by decide +kernel⟩

def sp_is_count (K : PySem.W.Frag) (d : Ads) : Sp := fun vs H Q _ => ∃ i : Int, vs = [.int i] ∧ Q (.bl (decide (0 ≤ i))) H
set_option maxHeartbeats 4000000 in
theorem ok_is_count (T : Tx K mg d) : Okf P w K mg base 2 d.f_is_count ["thing"] (sp_is_count K d) := by
  refine okf_of T.d_is_count sc_is_count (fun vs H Q E h => ?_) (fun cdv A outer s H vs Q E hr h => ?_)
  · obtain ⟨i, rfl, k⟩ := h
    rfl
  · obtain ⟨i, rfl, k⟩ := h
    refine ⟨_, (pss_one (ps_ret (pe_and (pf_call (ok_is_integer T) (hr.mono (by decide)) (by rfl) T.g_is_integer T.d_is_integer.kp (pa_cons (pv 0) pa_nil)) (pe_one (pe_cmpR op_ge (pv 0) pe_int (nomark _)))))), ?_⟩
    walk_at "rd"
    refine ⟨i, rfl, ?_⟩
    walk_at "rd"
    refine iteT ?_
    walk_at "rd"
    exact k

/-! ### are_counts -/
theorem sc_are_counts : FnScope ["hours", "thing", "one"] ["hours", "thing"] (defScope s_are_counts) := ⟨rfl, rfl, rfl, by decide +kernel, rfl, by decide +kernel, by decide +kernel⟩

def sp_are_counts (K : PySem.W.Frag) (d : Ads) : Sp := fun vs H Q _ => ∃ (a : Addr) (ns : List Int), vs = [.int (ns.length : Int), .ref a] ∧ Sq K H a (ns.map V.int) ∧ ns.length ≤ 1000 ∧ ∀ H', Ex H H' → Q (.bl (ns.all fun x => decide (0 ≤ x))) H'
set_option maxHeartbeats 4000000 in
theorem ok_are_counts (T : Tx K mg d) : Okf P w K mg base 3 d.f_are_counts ["hours", "thing"] (sp_are_counts K d) := by
  refine okf_of T.d_are_counts sc_are_counts (fun vs H Q E h => ?_) (fun cdv A outer s H vs Q E hr h => ?_)
  · obtain ⟨a, ns, rfl, hS, hl, k⟩ := h
    rfl
  · obtain ⟨a, ns, rfl, hS, hl, k⟩ := h
    refine ⟨_, (pss_cons (ps_if (PW.pt (pw_or (pt_not (pt_val (pe_callB (k_isiT (K := K) rfl) (by rfl) T.z_isinstance (by decide +kernel) (pa_cons (pv 1) (pa_cons (pe_tup (pa_cons (pe_bty (n := "list") (by rfl) T.z_list (by decide +kernel)) (pa_cons (pe_bty (n := "tuple") (by rfl) T.z_tuple (by decide +kernel)) pa_nil))) pa_nil))))) (pw_or1 (pt_cmpR op_ne (pe_callB (k_len (K := K) rfl) (by rfl) T.z_len (by decide +kernel) (pa_cons (pv 1) pa_nil)) (pv 0) (nomark _))))) (pss_one (ps_ret pe_bl)) pss_nil)
      (pss_one (ps_ret (pe_callB (k_all (K := K) rfl rfl) (by rfl) T.z_all (by decide +kernel) (pa_cons (pe_lc (own := [("one", 2)]) rfl sc_are_counts.nd (k_piS (K := K) rfl (pv 1)) (blkOk_by (by kernel_rfl)) (fun _ _ _ _ _ => (pg_name (i := 2) sc_are_counts.nd rfl (by first | exact Or.inl rfl | exact Or.inr rfl))) (fun _ _ _ _ _ => pts_nil) (fun _ _ _ _ _ => (pf_call (ok_is_count T) (hr.mono (by decide)) (by rfl) T.g_is_count T.d_is_count.kp (pa_cons (pv 2) pa_nil)))) pa_nil))))), ?_⟩
    walk_at "rd"
    refine ⟨szc rfl, fun tp np => ?_⟩
    have e1 : Ex H (upd H tp (.tup [.ty "list", .ty "tuple"])) := Ex.new np
    walk_at "rd"
    refine r_isiSeq (hS.mono e1) upd_same ?_
    walk_at "rd"
    refine iteF ?_
    walk_at "rd"
    refine r_len (hS.mono e1) ?_
    rw [List.length_map]
    walk_at "rd"
    refine r_itn (fun h => absurd rfl h) (fun _ => ?_)
    walk_at "rd"
    refine ⟨a, _, _, rfl, hS.mono e1, Ex.refl _, fun J ⟨G, wk, hG⟩ => lc_fun wk (fun i => .bl (decide (0 ≤ ns.getD i 0))) hG (by rw [List.length_map]; omega) ?_ ?_⟩
    · rintro i x H1 H2 hi e ⟨rfl, hx⟩ kk hk
      obtain rfl := int_at hx
      walk_at "rd"
      exact ⟨_, rfl, hk _ (Ex.refl _)⟩
    · intro D H' nD e hD
      walk_at "rd"
      rw [List.length_map, map_range_int ns (fun x => V.bl (decide (0 ≤ x)))] at hD
      refine r_all (bs := ns.map fun x => decide (0 ≤ x)) (.inl (.inl (by rw [List.map_map]; exact hD))) ?_
      have := k _ (e1.trans e)
      rw [List.all_map]
      exact this

/-! ### is_row -/
theorem sc_is_row : FnScope ["thing"] ["thing"] (defScope s_is_row) := ⟨rfl, rfl, rfl, by decide +kernel, rfl, by decide +kernel, by decide +kernel⟩

def sp_is_row (K : PySem.W.Frag) (d : Ads) : Sp := fun vs H Q _ => ∃ (a : Addr) (ns : List Int), vs = [.ref a] ∧ Sq K H a (ns.map V.int) ∧ ns.length ≤ 1000 ∧ ∀ H', Ex H H' → Q (.bl (okRow ns)) H'
set_option maxHeartbeats 4000000 in
theorem ok_is_row (T : Tx K mg d) : Okf P w K mg base 4 d.f_is_row ["thing"] (sp_is_row K d) := by
  refine okf_of T.d_is_row sc_is_row (fun vs H Q E h => ?_) (fun cdv A outer s H vs Q E hr h => ?_)
  · obtain ⟨a, ns, rfl, hS, hl, k⟩ := h
    rfl
  · obtain ⟨a, ns, rfl, hS, hl, k⟩ := h
    refine ⟨_, (pss_cons (ps_if (PW.pt (pw_or (pt_not (pt_val (pe_callB (k_isiT (K := K) rfl) (by rfl) T.z_isinstance (by decide +kernel) (pa_cons (pv 0) (pa_cons (pe_tup (pa_cons (pe_bty (n := "list") (by rfl) T.z_list (by decide +kernel)) (pa_cons (pe_bty (n := "tuple") (by rfl) T.z_tuple (by decide +kernel)) pa_nil))) pa_nil))))) (pw_or1 (pt_not (pt_chain op_le op_le pe_int (pe_callB (k_len (K := K) rfl) (by rfl) T.z_len (by decide +kernel) (pa_cons (pv 0) pa_nil)) (pe_gint (by rfl) T.k_MOST_HOURS)))))) (pss_one (ps_ret pe_bl)) pss_nil)
      (pss_one (ps_ret (pf_call (ok_are_counts T) (hr.mono (by decide)) (by rfl) T.g_are_counts T.d_are_counts.kp (pa_cons (pe_callB (k_len (K := K) rfl) (by rfl) T.z_len (by decide +kernel) (pa_cons (pv 0) pa_nil)) (pa_cons (pv 0) pa_nil)))))), ?_⟩
    walk_at "rd"
    refine ⟨szc rfl, fun tp np => ?_⟩
    have e1 : Ex H (upd H tp (.tup [.ty "list", .ty "tuple"])) := Ex.new np
    walk_at "rd"
    refine r_isiSeq (hS.mono e1) upd_same ?_
    walk_at "rd"
    refine iteF ?_
    walk_at "rd"
    refine r_len (hS.mono e1) ?_
    walk_at "rd"
    rw [List.length_map]
    have fls : ¬ (1 ≤ ns.length ∧ ns.length ≤ 48) → Q (.bl false) (upd H tp (.tup [.ty "list", .ty "tuple"])) := fun h => by
      have z : okRow ns = false := by
        rw [Bool.eq_false_iff]
        intro z
        have := okRow_iff.mp z
        exact h ⟨this.ne, this.le⟩
      have := k _ e1
      rw [z] at this
      exact this
    refine r_ite (fun h1 => ?_) (fun h1 => ?_)
    · walk_at "rd"
      refine r_itn (fun h2 => ?_) (fun h2 => ?_)
      · walk_at "rd"
        exact fls (by omega)
      · walk_at "rd"
        refine r_len (hS.mono e1) ?_
        rw [List.length_map]
        walk_at "rd"
        refine ⟨a, ns, rfl, hS.mono e1, hl, fun H' e => ?_⟩
        have := k _ (e1.trans e)
        unfold okRow at this
        rw [decide_eq_true (by omega : 1 ≤ ns.length), decide_eq_true (by omega : ns.length ≤ 48)] at this
        exact this
    · walk_at "rd"
      refine iteT ?_
      walk_at "rd"
      exact fls (by omega)

/-! ### Plan.__init__ -/
theorem sc_Plan___init__ : FnScope ["self", "begins"] ["self", "begins"] (defScope s_Plan___init__) := ⟨rfl, rfl, rfl, by decide +kernel, rfl, by decide +kernel, by decide +kernel⟩

def sp_Plan___init__ (K : PySem.W.Frag) (d : Ads) : Sp := spRwInit K d.c_Plan "kept_begins"
set_option maxHeartbeats 4000000 in
theorem ok_Plan___init__ (T : Tx K mg d) : Okf P w K mg base 5 d.f_Plan___init__ ["self", "begins"] (sp_Plan___init__ K d) := by
  refine okf_of T.d_Plan___init__ sc_Plan___init__ (fun vs H Q E h => ?_) (fun cdv A outer s H vs Q E hr h => ?_)
  · obtain ⟨H0, x, dx, a, s, rfl, rfl, nx, ndx, ne, hS, g, k⟩ := h
    rfl
  · obtain ⟨H0, x, dx, a, s, rfl, rfl, nx, ndx, ne, hS, g, k⟩ := h
    refine ⟨_, (pss_cons (ps_if (pt_not (pt_val (pf_call (ok_is_row T) (hr.mono (by decide)) (by rfl) T.g_is_row T.d_is_row.kp (pa_cons (pv 1) pa_nil)))) (pss_one ps_never) pss_nil)
      (pss_one (k_sfld (K := K) rfl (pv 0) (pe_callTy (k_tupOf (K := K) rfl) (by rfl) T.z_tuple (by decide +kernel) (pa_cons (pv 1) pa_nil))))), ?_⟩
    have e0 : Ex H0 (upd (upd H0 dx (.own x)) x (.ins d.c_Plan dx [])) := Ex.mut (Ex.new ndx) nx
    have hl := g.le
    walk_at "rd"
    refine ⟨a, s, rfl, hS.mono e0, by omega, fun H1 e1 => ?_⟩
    rw [okRow_iff.mpr g]
    walk_at "rd"
    refine iteF ?_
    have x1 : H1 x = some (.ins d.c_Plan dx []) := e1 _ _ upd_same
    have e01 : Ex H0 H1 := e0.trans e1
    walk_at "rd"
    refine r_tupOf (hS.mono e01) fun p H3 e3 hp => ?_
    walk_at "rd"
    refine ⟨x, _, dx, _, rfl, e3 _ _ x1, T.cl_Plan, T.n_Plan_kept_begins, by show 0 < 1000; decide, ?_⟩
    exact k _ (Ex.mut (e01.trans e3) nx) ⟨x, dx, p, rfl, upd_same, tup_ins (e3 _ _ x1) hp, g⟩

/-! ### Needs.__len__ -/
theorem sc_Needs___len__ : FnScope ["self"] ["self"] (defScope s_Needs___len__) := ⟨rfl, rfl, rfl, by decide +kernel, rfl, by decide +kernel, by decide +kernel⟩

def sp_Needs___len__ (K : PySem.W.Frag) (d : Ads) : Sp := fun vs H Q _ => ∃ (v : V) (s : List Int), vs = [v] ∧ Nd K d H v s ∧ Q (.int (s.length : Int)) H
set_option maxHeartbeats 4000000 in
theorem ok_Needs___len__ (T : Tx K mg d) : Okf P w K mg base 1 d.f_Needs___len__ ["self"] (sp_Needs___len__ K d) := by
  refine okf_of T.d_Needs___len__ sc_Needs___len__ (fun vs H Q E h => ?_) (fun cdv A outer s H vs Q E hr h => ?_)
  · obtain ⟨v, s, rfl, hN, k⟩ := h
    rfl
  · obtain ⟨v, s, rfl, hN, k⟩ := h
    refine ⟨_, (pss_one (ps_ret (pe_callB (k_len (K := K) rfl) (by rfl) T.z_len (by decide +kernel) (pa_cons (k_fld (K := K) rfl (pv 0)) pa_nil)))), ?_⟩
    walk_at "rd"
    refine r_rwF hN T.cl_Needs T.n_Needs_kept_row fun a ha => ?_
    walk_at "rd"
    refine r_len (.inr ha) ?_
    rw [List.length_map]
    exact k

/-! ### Needs.__iter__ -/
theorem sc_Needs___iter__ : FnScope ["self"] ["self"] (defScope s_Needs___iter__) := ⟨rfl, rfl, rfl, by decide +kernel, rfl, by decide +kernel, by decide +kernel⟩

def sp_Needs___iter__ (K : PySem.W.Frag) (d : Ads) (n : Nat) : Sp := fun vs H Q _ => ∃ (v : V) (s : List Int), vs = [v] ∧ Nd K d H v s ∧ ∀ l it, SqT K H l (s.map V.int) → H it = none → n ≤ it → Q (.ref it) (upd H it (ItT l it))
set_option maxHeartbeats 4000000 in
theorem ok_Needs___iter__ (T : Tx K mg d) (n : Nat) : OkP (fun _ s => n ≤ s.heap.objs.size) P w K mg base 1 d.f_Needs___iter__ ["self"] (sp_Needs___iter__ K d n) := by
  refine okP_of T.d_Needs___iter__ sc_Needs___iter__ (fun vs H Q E h => ?_) (fun cdv A outer s H vs Q E hn hr h => ?_)
  · obtain ⟨v, s, rfl, hN, k⟩ := h
    rfl
  · obtain ⟨v, s, rfl, hN, k⟩ := h
    refine ⟨_, (pss_one (ps_ret (pe_callB (k_iterT (K := K) (n := n) rfl hn) (by rfl) T.z_iter (by decide +kernel) (pa_cons (k_fld (K := K) rfl (pv 0)) pa_nil)))), ?_⟩
    walk_at "rd"
    refine r_rwF hN T.cl_Needs T.n_Needs_kept_row fun a ha => ?_
    walk_at "rd"
    exact ⟨a, _, rfl, ha, fun it n1 n2 => k a it ha n1 n2⟩

theorem r_list_Needs {H : Hp} {Q : VK} {v : V} {s : List Int} (hN : Nd K d H v s) (q : ∀ l, H l = none → Q (.ref l) (upd H l (.lst (s.map V.int)))) : rListO K d.c_Needs (sp_Needs___iter__ K d) (sp_Needs___len__ K d) [v] H Q := by
  obtain ⟨p, dx, a, rfl, hp, ha, g⟩ := id hN
  have hle := g.le
  exact ⟨p, dx, _, _, rfl, hp, by rw [List.length_map]; omega, fun n H' Q' e h => ⟨_, s, rfl, hN.ex e, h⟩, fun H' Q' e h => ⟨_, s, rfl, hN.ex e, h _ (by omega) (by omega)⟩, q⟩

/-! ### show_needs -/
theorem sc_show_needs : FnScope ["needs"] ["needs"] (defScope s_show_needs) := ⟨rfl, rfl, rfl, by decide +kernel, rfl, by decide +kernel, by decide +kernel⟩

def sp_show_needs (K : PySem.W.Frag) (d : Ads) : Sp := fun vs H Q _ => ∃ (v : V) (s : List Int), vs = [v] ∧ Nd K d H v s ∧ (∀ z ∈ s, z.natAbs < 10 ^ 40) ∧ ∀ H', Ex H H' → Q (.str (shw "needs" s)) H'
set_option maxHeartbeats 4000000 in
theorem ok_show_needs (T : Tx K mg d) : Okf P w K mg base 5 d.f_show_needs ["needs"] (sp_show_needs K d) := by
  refine okf_of T.d_show_needs sc_show_needs (fun vs H Q E h => ?_) (fun cdv A outer s H vs Q E hr h => ?_)
  · obtain ⟨v, s, rfl, hN, hz, k⟩ := h
    rfl
  · obtain ⟨v, s, rfl, hN, hz, k⟩ := h
    refine ⟨_, (pss_one (ps_ret (pf_call (ok_show_row T) (hr.mono (by decide)) (by rfl) T.g_show_row T.d_show_row.kp (pa_cons pe_str (pa_cons (pe_callTy (k_listO (K := K) rfl rfl ⟨T.m_Needs___iter__.at_, T.m_Needs___iter__.fn, T.m_Needs___len__.at_, T.m_Needs___len__.fn⟩ (ok_Needs___iter__ T) (ok_Needs___len__ T) (hr.mono (by decide))) (by rfl) T.z_list (by decide +kernel) (pa_cons (pv 0) pa_nil)) pa_nil))))), ?_⟩
    have g := hN.good
    walk_at "rd"
    refine r_list_Needs hN fun p np => ?_
    walk_at "rd"
    exact ⟨_, p, s, rfl, (by walk_at "kn"), sml_str "needs" (by decide), g.le, hz, fun H2 e2 => k _ (by walk_at "ex")⟩

/-! ### Needs.__init__ -/
theorem sc_Needs___init__ : FnScope ["self", "row"] ["self", "row"] (defScope s_Needs___init__) := ⟨rfl, rfl, rfl, by decide +kernel, rfl, by decide +kernel, by decide +kernel⟩

def sp_Needs___init__ (K : PySem.W.Frag) (d : Ads) : Sp := spRwInit K d.c_Needs "kept_row"
set_option maxHeartbeats 4000000 in
theorem ok_Needs___init__ (T : Tx K mg d) : Okf P w K mg base 5 d.f_Needs___init__ ["self", "row"] (sp_Needs___init__ K d) := by
  refine okf_of T.d_Needs___init__ sc_Needs___init__ (fun vs H Q E h => ?_) (fun cdv A outer s H vs Q E hr h => ?_)
  · obtain ⟨H0, x, dx, a, s, rfl, rfl, nx, ndx, ne, hS, g, k⟩ := h
    rfl
  · obtain ⟨H0, x, dx, a, s, rfl, rfl, nx, ndx, ne, hS, g, k⟩ := h
    refine ⟨_, (pss_cons (ps_if (pt_not (pt_val (pf_call (ok_is_row T) (hr.mono (by decide)) (by rfl) T.g_is_row T.d_is_row.kp (pa_cons (pv 1) pa_nil)))) (pss_one ps_never) pss_nil)
      (pss_one (k_sfld (K := K) rfl (pv 0) (pe_callTy (k_tupOf (K := K) rfl) (by rfl) T.z_tuple (by decide +kernel) (pa_cons (pv 1) pa_nil))))), ?_⟩
    have e0 : Ex H0 (upd (upd H0 dx (.own x)) x (.ins d.c_Needs dx [])) := Ex.mut (Ex.new ndx) nx
    have hl := g.le
    walk_at "rd"
    refine ⟨a, s, rfl, hS.mono e0, by omega, fun H1 e1 => ?_⟩
    rw [okRow_iff.mpr g]
    walk_at "rd"
    refine iteF ?_
    have x1 : H1 x = some (.ins d.c_Needs dx []) := e1 _ _ upd_same
    have e01 : Ex H0 H1 := e0.trans e1
    walk_at "rd"
    refine r_tupOf (hS.mono e01) fun p H3 e3 hp => ?_
    walk_at "rd"
    refine ⟨x, _, dx, _, rfl, e3 _ _ x1, T.cl_Needs, T.n_Needs_kept_row, by show 0 < 1000; decide, ?_⟩
    exact k _ (Ex.mut (e01.trans e3) nx) ⟨x, dx, p, rfl, upd_same, tup_ins (e3 _ _ x1) hp, g⟩

/-! ### Clock.stays -/
theorem sc_Clock_stays : FnScope ["self"] ["self"] (defScope s_Clock_stays) := ⟨rfl, rfl, rfl, by decide +kernel, rfl, by decide +kernel, by decide +kernel⟩

def sp_Clock_stays (K : PySem.W.Frag) (d : Ads) : Sp := fun vs H Q _ => ∃ (v : V) (s : List Int), vs = [v] ∧ Clk K d.c_Clock H v s ∧ RetN (s.map V.int) H Q
set_option maxHeartbeats 4000000 in
theorem ok_Clock_stays (T : Tx K mg d) : Okf P w K mg base 1 d.f_Clock_stays ["self"] (sp_Clock_stays K d) := by
  refine okf_of T.d_Clock_stays sc_Clock_stays (fun vs H Q E h => ?_) (fun cdv A outer s H vs Q E hr h => ?_)
  · obtain ⟨v, s, rfl, ⟨p, dx, a, b, rfl, hp, ha, hb, g⟩, k⟩ := h
    rfl
  · obtain ⟨v, s, rfl, ⟨p, dx, a, b, rfl, hp, ha, hb, g⟩, k⟩ := h
    refine ⟨_, (pss_one (ps_ret (pe_callTy (k_listOf (K := K) rfl) (by rfl) T.z_list (by decide +kernel) (pa_cons (k_fld (K := K) rfl (pv 0)) pa_nil)))), ?_⟩
    walk_at "rd"
    refine ⟨p, _, dx, _, _, rfl, hp, T.cl_Clock, T.n_Clock_kept_stays, clkF_stays _ _, ?_⟩
    walk_at "rd"
    refine r_listOf (.inr ha) fun l nl => ?_
    exact k l _ nl (Ex.new nl) upd_same

/-! ### show_clock -/
theorem sc_show_clock : FnScope ["clock"] ["clock"] (defScope s_show_clock) := ⟨rfl, rfl, rfl, by decide +kernel, rfl, by decide +kernel, by decide +kernel⟩

def sp_show_clock (K : PySem.W.Frag) (d : Ads) : Sp := fun vs H Q _ => ∃ (v : V) (s : List Int), vs = [v] ∧ Clk K d.c_Clock H v s ∧ ∀ H', Ex H H' → Q (.str (shw "clock" s)) H'
set_option maxHeartbeats 4000000 in
theorem ok_show_clock (T : Tx K mg d) : Okf P w K mg base 3 d.f_show_clock ["clock"] (sp_show_clock K d) := by
  refine okf_of T.d_show_clock sc_show_clock (fun vs H Q E h => ?_) (fun cdv A outer s H vs Q E hr h => ?_)
  · obtain ⟨v, s, rfl, hC, k⟩ := h
    rfl
  · obtain ⟨v, s, rfl, hC, k⟩ := h
    refine ⟨_, (pss_one (ps_ret (pf_call (ok_show_row T) (hr.mono (by decide)) (by rfl) T.g_show_row T.d_show_row.kp (pa_cons pe_str (pa_cons (pf_meth0 (ok_Clock_stays T) (hr.mono (by decide)) T.cl_Clock T.m_Clock_stays (pv 0)) pa_nil))))), ?_⟩
    have g := hC.good
    walk_at "rd"
    refine r_clkM hC ?_
    walk_at "rd"
    refine ⟨_, s, rfl, hC, fun p H1 np e1 hp => ?_⟩
    walk_at "rd"
    exact ⟨_, p, s, rfl, (by walk_at "kn"), sml_str "clock" (by decide), g.le, fun z hz => by have := stay_mem g hz; have := g.le; omega, fun H2 e2 => k _ (by walk_at "ex")⟩

/-! ### are_stays -/
theorem sc_are_stays : FnScope ["thing", "stay"] ["thing"] (defScope s_are_stays) := ⟨rfl, rfl, rfl, by decide +kernel, rfl, by decide +kernel, by decide +kernel⟩

def sp_are_stays (K : PySem.W.Frag) (d : Ads) : Sp := fun vs H Q _ => ∃ (a : Addr) (ns : List Int), vs = [.ref a] ∧ Sq K H a (ns.map V.int) ∧ ns.length ≤ 1000 ∧ ∀ H', Ex H H' → Q (.bl (okStays ns)) H'
set_option maxHeartbeats 4000000 in
theorem ok_are_stays (T : Tx K mg d) : Okf P w K mg base 2 d.f_are_stays ["thing"] (sp_are_stays K d) := by
  refine okf_of T.d_are_stays sc_are_stays (fun vs H Q E h => ?_) (fun cdv A outer s H vs Q E hr h => ?_)
  · obtain ⟨a, ns, rfl, hS, hl, k⟩ := h
    rfl
  · obtain ⟨a, ns, rfl, hS, hl, k⟩ := h
    refine ⟨_, (pss_cons (ps_if (PW.pt (pw_or (pt_not (pt_val (pe_callB (k_isiT (K := K) rfl) (by rfl) T.z_isinstance (by decide +kernel) (pa_cons (pv 0) (pa_cons (pe_tup (pa_cons (pe_bty (n := "list") (by rfl) T.z_list (by decide +kernel)) (pa_cons (pe_bty (n := "tuple") (by rfl) T.z_tuple (by decide +kernel)) pa_nil))) pa_nil))))) (pw_or1 (pt_not (pt_chain op_le op_le pe_int (pe_callB (k_len (K := K) rfl) (by rfl) T.z_len (by decide +kernel) (pa_cons (pv 0) pa_nil)) (pe_gint (by rfl) T.k_MOST_HOURS)))))) (pss_one (ps_ret pe_bl)) pss_nil)
      (pss_one (ps_ret (pe_callB (k_all (K := K) rfl rfl) (by rfl) T.z_all (by decide +kernel) (pa_cons (pe_lc (own := [("stay", 1)]) rfl sc_are_stays.nd (k_piS (K := K) rfl (pv 0)) (blkOk_by (by kernel_rfl)) (fun _ _ _ _ _ => (pg_name (i := 1) sc_are_stays.nd rfl (by first | exact Or.inl rfl | exact Or.inr rfl))) (fun _ _ _ _ _ => pts_nil) (fun _ _ _ _ _ => (pe_and (pf_call (ok_is_integer T) (hr.mono (by decide)) (by rfl) T.g_is_integer T.d_is_integer.kp (pa_cons (pv 1) pa_nil)) (pe_one (pe_chain op_le op_le pe_int (pv 1) (pe_callB (k_len (K := K) rfl) (by rfl) T.z_len (by decide +kernel) (pa_cons (pv 0) pa_nil))))))) pa_nil))))), ?_⟩
    walk_at "rd"
    refine ⟨szc rfl, fun tp np => ?_⟩
    have e1 : Ex H (upd H tp (.tup [.ty "list", .ty "tuple"])) := Ex.new np
    walk_at "rd"
    refine r_isiSeq (hS.mono e1) upd_same ?_
    walk_at "rd"
    refine iteF ?_
    walk_at "rd"
    refine r_len (hS.mono e1) ?_
    walk_at "rd"
    rw [List.length_map]
    have fls : ¬ (1 ≤ ns.length ∧ ns.length ≤ 48) → Q (.bl false) (upd H tp (.tup [.ty "list", .ty "tuple"])) := fun h => by
      have z : okStays ns = false := by
        rw [Bool.eq_false_iff]
        intro z
        have := okStays_iff.mp z
        exact h ⟨this.1, this.2.1⟩
      have := k _ e1
      rw [z] at this
      exact this
    refine r_ite (fun h1 => ?_) (fun h1 => ?_)
    · walk_at "rd"
      refine r_itn (fun h2 => ?_) (fun h2 => ?_)
      · walk_at "rd"
        exact fls (by omega)
      · walk_at "rd"
        refine ⟨a, _, _, rfl, hS.mono e1, Ex.refl _, fun J ⟨G, wk, hG⟩ => lc_fun wk (fun i => .bl (decide (1 ≤ ns.getD i 0) && decide (ns.getD i 0 ≤ (ns.length : Int)))) hG (by rw [List.length_map]; omega) ?_ ?_⟩
        · rintro i x H1 H2 hi e ⟨rfl, hx⟩ kk hk
          obtain rfl := int_at hx
          walk_at "rd"
          refine ⟨_, rfl, ?_⟩
          walk_at "rd"
          refine iteT ?_
          walk_at "rd"
          cases h0 : decide (1 ≤ ns.getD i 0) with
          | true =>
            refine iteT ?_
            walk_at "rd"
            refine r_len (hS.mono (e1.trans e)) ?_
            walk_at "rd"
            rw [List.length_map]
            have := hk _ (Ex.refl _)
            rw [h0] at this
            exact this
          | false =>
            refine iteF ?_
            have := hk _ (Ex.refl _)
            rw [h0] at this
            exact this
        · intro D H' nD e hD
          walk_at "rd"
          rw [List.length_map, map_range_int ns (fun x => V.bl (decide (1 ≤ x) && decide (x ≤ (ns.length : Int))))] at hD
          refine r_all (bs := ns.map fun x => decide (1 ≤ x) && decide (x ≤ (ns.length : Int))) (.inl (.inl (by rw [List.map_map]; exact hD))) ?_
          have := k _ (e1.trans e)
          unfold okStays at this
          rw [decide_eq_true (by omega : 1 ≤ ns.length), decide_eq_true (by omega : ns.length ≤ 48)] at this
          rw [List.all_map]
          exact this
    · walk_at "rd"
      refine iteT ?_
      walk_at "rd"
      exact fls (by omega)

/-! ### need_order -/
theorem sc_need_order : FnScope ["stays", "hour", "stay"] ["stays"] (defScope s_need_order) := ⟨rfl, rfl, rfl, by decide +kernel, rfl, by decide +kernel, by decide +kernel⟩

def sp_need_order (K : PySem.W.Frag) (d : Ads) : Sp := fun vs H Q _ => ∃ (a : Addr) (ns : List Int), vs = [.ref a] ∧ Sq K H a (ns.map V.int) ∧ Good ns ∧ ∀ H', Ex H H' → Q .non H'
set_option maxHeartbeats 4000000 in
theorem ok_need_order (T : Tx K mg d) : Okf P w K mg base 1 d.f_need_order ["stays"] (sp_need_order K d) := by
  refine okf_of T.d_need_order sc_need_order (fun vs H Q E h => ?_) (fun cdv A outer s H vs Q E hr h => ?_)
  · obtain ⟨a, ns, rfl, hS, g, k⟩ := h
    rfl
  · obtain ⟨a, ns, rfl, hS, g, k⟩ := h
    refine ⟨_, (pss_one (ps_for PassesOwn.never rfl (k_piE (K := K) rfl (by rfl) T.z_enumerate (pa_cons (pv 0) pa_nil)) (k_gtup (K := K) (n := 2) rfl rfl (pgs_cons (pg_name (i := 1) sc_need_order.nd rfl (by first | exact Or.inl rfl | exact Or.inr rfl)) (pgs_cons (pg_name (i := 2) sc_need_order.nd rfl (by first | exact Or.inl rfl | exact Or.inr rfl)) pgs_nil))) (pss_one (ps_if (pt_cmpR op_gt (pv 2) (pe_op op_add pe_int (pe_ix (k_ixS (K := K) rfl) (pv 0) (pe_op op_mod (pe_op op_add (pv 1) pe_int) (pe_callB (k_len (K := K) rfl) (by rfl) T.z_len (by decide +kernel) (pa_cons (pv 0) pa_nil))) (fun _ _ => rfl))) (nomark _)) (pss_one ps_never) pss_nil)))), ?_⟩
    walk_at "rd"
    refine ⟨a, _, _, rfl, hS, Ex.refl _, fun J ⟨G, wk, hG⟩ => for_w wk (fun i σ H' => ∃ y1 y2, σ = [some (.ref a), y1, y2] ∧ Ex H H') ⟨none, none, rfl, Ex.refl H⟩ (fun i σ H' _ ⟨_, _, _, e⟩ => hG _ e) ?_ ?_⟩
    · rintro i x σ H1 H2 hi ⟨y1, y2, rfl, e⟩ ⟨T', x1, x2, rfl, nT, rfl, hx1, hx2⟩
      cases hx1
      obtain rfl := int_at hx2
      rw [List.length_map] at hi
      refine r_pair ?_
      have e2 := e.trans (Ex.new nT (o := .tup [.int (i : Nat), .int (ns.getD i 0)]))
      walk_at "rd"
      refine r_len (hS.mono e2) ?_
      rw [List.length_map]
      have hn := g.ne
      walk_at "rd"
      refine r_ixS (hS.mono e2) (at_cyc g.ne _) ?_
      walk_at "rd"
      refine r_ite (fun hc => ?_) (fun hc => ?_)
      · have := g.od (i : Int)
        rw [cyc_at hi] at this
        exact absurd this (by omega)
      · walk_at "rd"
        exact ⟨_, _, rfl, e2⟩
    · rintro σ H' ⟨y1, y2, rfl, e⟩
      exact k _ e

/-! ### width_of -/
theorem sc_width_of : FnScope ["stays", "hour", "back"] ["stays", "hour"] (defScope s_width_of) := ⟨rfl, rfl, rfl, by decide +kernel, rfl, by decide +kernel, by decide +kernel⟩

def sp_width_of (K : PySem.W.Frag) (d : Ads) : Sp := fun vs H Q _ => ∃ (a : Addr) (ns : List Int) (h : Int), vs = [.ref a, .int h] ∧ Sq K H a (ns.map V.int) ∧ 1 ≤ ns.length ∧ ns.length ≤ 48 ∧ ∀ H', Ex H H' → Q (.int (wd ns h)) H'
set_option maxHeartbeats 4000000 in
theorem ok_width_of (T : Tx K mg d) : Okf P w K mg base 1 d.f_width_of ["stays", "hour"] (sp_width_of K d) := by
  refine okf_of T.d_width_of sc_width_of (fun vs H Q E h => ?_) (fun cdv A outer s H vs Q E hr h => ?_)
  · obtain ⟨a, ns, h, rfl, hS, h1, h2, k⟩ := h
    rfl
  · obtain ⟨a, ns, h, rfl, hS, h1, h2, k⟩ := h
    refine ⟨_, (pss_one (ps_ret (pe_callB (k_len (K := K) rfl) (by rfl) T.z_len (by decide +kernel) (pa_cons (pe_lc (own := [("back", 2)]) rfl sc_width_of.nd (pi_range1 (by rfl) T.z_range (pa_cons (pe_callB (k_len (K := K) rfl) (by rfl) T.z_len (by decide +kernel) (pa_cons (pv 0) pa_nil)) pa_nil)) (blkOk_by (by kernel_rfl)) (fun _ _ _ _ _ => (pg_name (i := 2) sc_width_of.nd rfl (by first | exact Or.inl rfl | exact Or.inr rfl))) (fun _ _ _ _ _ => (pts_one (pt_cmpR op_gt (pe_ix (k_ixS (K := K) rfl) (pv 0) (pe_op op_mod (pe_op op_sub (pv 1) (pv 2)) (pe_callB (k_len (K := K) rfl) (by rfl) T.z_len (by decide +kernel) (pa_cons (pv 0) pa_nil))) (fun _ _ => rfl)) (pv 2) (nomark _)))) (fun _ _ _ _ _ => (pv 2))) pa_nil)))), ?_⟩
    walk_at "rd"
    refine r_len hS ?_
    rw [List.length_map]
    walk_at "rd"
    refine lc_filf walk_r0 (fun b => decide ((b : Int) < cyc ns (h - (b : Int)))) (fun b => .int (b : Int)) (fun _ _ => trivial) (by omega) ?_ ?_
    · rintro i x H1 H2 hi e ⟨rfl, rfl⟩ kb kk hk1 hk2
      walk_at "rd"
      refine r_len (hS.mono e) ?_
      rw [List.length_map]
      walk_at "rd"
      refine r_ixS (hS.mono e) (at_cyc h1 _) ?_
      walk_at "rd"
      refine r_ite (fun hc => ?_) (fun hc => ?_)
      · walk_at "rd"
        exact hk1 _ (decide_eq_true hc) (Ex.refl _)
      · exact hk2 _ (decide_eq_false hc) (Ex.refl _)
    · intro D H' nD e hD
      walk_at "rd"
      refine r_len (.inl (.inl (.inl hD))) ?_
      rw [List.length_map, Int.toNat_natCast]
      exact k _ e

/-! ### Clock.__init__ -/
theorem sc_Clock___init__ : FnScope ["self", "stays", "hour"] ["self", "stays"] (defScope s_Clock___init__) := ⟨rfl, rfl, rfl, by decide +kernel, rfl, by decide +kernel, by decide +kernel⟩

def sp_Clock___init__ (K : PySem.W.Frag) (d : Ads) : Sp := spClkInit K d.c_Clock
set_option maxHeartbeats 4000000 in
theorem ok_Clock___init__ (T : Tx K mg d) : Okf P w K mg base 3 d.f_Clock___init__ ["self", "stays"] (sp_Clock___init__ K d) := by
  refine okf_of T.d_Clock___init__ sc_Clock___init__ (fun vs H Q E h => ?_) (fun cdv A outer s H vs Q E hr h => ?_)
  · obtain ⟨H0, x, dx, a, s, rfl, rfl, nx, ndx, ne, hS, g, k⟩ := h
    rfl
  · obtain ⟨H0, x, dx, a, s, rfl, rfl, nx, ndx, ne, hS, g, k⟩ := h
    refine ⟨_, (pss_cons (ps_if (pt_not (pt_val (pf_call (ok_are_stays T) (hr.mono (by decide)) (by rfl) T.g_are_stays T.d_are_stays.kp (pa_cons (pv 1) pa_nil)))) (pss_one ps_never) pss_nil)
      (pss_cons (ps_expr (pf_call (ok_need_order T) (hr.mono (by decide)) (by rfl) T.g_need_order T.d_need_order.kp (pa_cons (pv 1) pa_nil)))
      (pss_cons (k_sfld (K := K) rfl (pv 0) (pe_callTy (k_tupOf (K := K) rfl) (by rfl) T.z_tuple (by decide +kernel) (pa_cons (pv 1) pa_nil)))
      (pss_one (k_sfld (K := K) rfl (pv 0) (pe_callTy (k_tupOf (K := K) rfl) (by rfl) T.z_tuple (by decide +kernel) (pa_cons (pe_lc (own := [("hour", 2)]) rfl sc_Clock___init__.nd (pi_range1 (by rfl) T.z_range (pa_cons (pe_callB (k_len (K := K) rfl) (by rfl) T.z_len (by decide +kernel) (pa_cons (pv 1) pa_nil)) pa_nil)) (blkOk_by (by kernel_rfl)) (fun _ _ _ _ _ => (pg_name (i := 2) sc_Clock___init__.nd rfl (by first | exact Or.inl rfl | exact Or.inr rfl))) (fun _ _ _ _ _ => pts_nil) (fun _ _ _ _ _ => (pf_call (ok_width_of T) (hr.mono (by decide)) (by rfl) T.g_width_of T.d_width_of.kp (pa_cons (pv 1) (pa_cons (pv 2) pa_nil))))) pa_nil))))))), ?_⟩
    have e0 : Ex H0 (upd (upd H0 dx (.own x)) x (.ins d.c_Clock dx [])) := Ex.mut (Ex.new ndx) nx
    have hn := g.ne
    have hl := g.le
    walk_at "rd"
    refine ⟨a, s, rfl, hS.mono e0, by omega, fun H1 e1 => ?_⟩
    rw [g.ok]
    walk_at "rd"
    refine iteF ?_
    walk_at "rd"
    refine ⟨a, s, rfl, hS.mono (e0.trans e1), g, fun H2 e2 => ?_⟩
    have x2 : H2 x = some (.ins d.c_Clock dx []) := e2 _ _ (e1 _ _ upd_same)
    have e02 : Ex H0 H2 := (e0.trans e1).trans e2
    walk_at "rd"
    refine r_tupOf (hS.mono e02) fun p H3 e3 hp => ?_
    walk_at "rd"
    refine ⟨x, _, dx, _, rfl, e3 _ _ x2, T.cl_Clock, T.n_Clock_kept_stays, by show 0 < 1000; decide, ?_⟩
    have e04 : Ex H0 (upd H3 x (.ins d.c_Clock dx (putF "kept_stays" (.ref p) []))) := Ex.mut (e02.trans e3) nx
    have hp4 : SqT K (upd H3 x (.ins d.c_Clock dx (putF "kept_stays" (.ref p) []))) p (s.map V.int) := tup_ins (e3 _ _ x2) hp
    walk_at "rd"
    refine r_len (hS.mono e04) ?_
    rw [List.length_map]
    walk_at "rd"
    refine lc_fun walk_r0 (fun i => .int (wd s (i : Int))) (fun _ _ => trivial) (by omega) ?_ ?_
    · rintro i y H5 H6 hi e ⟨rfl, rfl⟩ kk hk
      walk_at "rd"
      refine ⟨a, s, _, rfl, hS.mono (e04.trans e), hn, hl, fun H7 e7 => ?_⟩
      exact hk _ e7
    · intro D H5 nD e5 hD
      have x5 : H5 x = some (.ins d.c_Clock dx (putF "kept_stays" (.ref p) [])) := e5 _ _ upd_same
      walk_at "rd"
      refine r_tupOf (.inl (.inl (.inl hD))) fun q H6 e6 hq => ?_
      walk_at "rd"
      refine ⟨x, _, dx, _, rfl, e6 _ _ x5, T.cl_Clock, T.n_Clock_kept_widths, by show 1 < 1000; decide, ?_⟩
      refine k _ (Ex.mut ((e04.trans e5).trans e6) nx) ⟨x, dx, p, q, rfl, upd_same, tup_ins (e6 _ _ x5) (ex_t (e5.trans e6) hp4), tup_ins (e6 _ _ x5) ?_, g⟩
      unfold wds
      rw [List.map_map]
      rw [Int.toNat_natCast] at hq
      exact hq

/-! ### show_step -/
theorem sc_show_step : FnScope ["step"] ["step"] (defScope s_show_step) := ⟨rfl, rfl, rfl, by decide +kernel, rfl, by decide +kernel, by decide +kernel⟩

def sp_show_step (K : PySem.W.Frag) (d : Ads) : Sp := fun vs H Q _ => ∃ (t : Addr) (w : Str) (h : Int), vs = [.ref t] ∧ SqT K H t [.str w, .int h] ∧ Sml w 4 ∧ 0 ≤ h ∧ h < 48 ∧ Q (.str (stpT (w, h))) H
set_option maxHeartbeats 4000000 in
theorem ok_show_step (T : Tx K mg d) : Okf P w K mg base 1 d.f_show_step ["step"] (sp_show_step K d) := by
  refine okf_of T.d_show_step sc_show_step (fun vs H Q E h => ?_) (fun cdv A outer s H vs Q E hr h => ?_)
  · obtain ⟨t, w, h, rfl, hT, hw, h0, h1, k⟩ := h
    rfl
  · obtain ⟨t, w, h, rfl, hT, hw, h0, h1, k⟩ := h
    refine ⟨_, (pss_one (ps_ret (pe_op k_addS (pe_op k_addS (pe_ix (k_ixT (K := K) rfl) (pv 0) pe_int (fun _ _ => rfl)) pe_str) (pe_callTy k_strI (by rfl) T.z_str (by decide +kernel) (pa_cons (pe_ix (k_ixT (K := K) rfl) (pv 0) pe_int (fun _ _ => rfl)) pa_nil))))), ?_⟩
    have sh : Sml (txI h) 41 := sml_int (by omega)
    walk_at "rd"
    refine r_ixT (v := .str w) hT rfl ?_
    walk_at "rd"
    refine r_addS (by have := hw.1; show _ + 1 ≤ 100000; omega) ?_
    walk_at "rd"
    refine r_ixT (v := .int h) hT rfl ?_
    walk_at "rd"
    refine r_strI (by omega) ?_
    refine r_addS (by have := hw.1; have := sh.1; rw [strLen_append]; show _ + 1 + _ ≤ 100000; omega) ?_
    exact k

/-! ### show_way -/
theorem sc_show_way : FnScope ["way", "step"] ["way"] (defScope s_show_way) := ⟨rfl, rfl, rfl, by decide +kernel, rfl, by decide +kernel, by decide +kernel⟩

def sp_show_way (K : PySem.W.Frag) (d : Ads) : Sp := fun vs H Q _ => ∃ (l : Addr) (ws : List (Str × Int)), vs = [.ref l] ∧ Wy H l ws ∧ Okw ws ∧ ∀ H', Ex H H' → Q (.str (wayT ws)) H'
set_option maxHeartbeats 4000000 in
theorem ok_show_way (T : Tx K mg d) : Okf P w K mg base 2 d.f_show_way ["way"] (sp_show_way K d) := by
  refine okf_of T.d_show_way sc_show_way (fun vs H Q E h => ?_) (fun cdv A outer s H vs Q E hr h => ?_)
  · obtain ⟨l, ws, rfl, hW, hO, k⟩ := h
    rfl
  · obtain ⟨l, ws, rfl, hW, hO, k⟩ := h
    refine ⟨_, (pss_one (ps_ret (k_join (K := K) rfl pe_str (pe_lc (own := [("step", 1)]) rfl sc_show_way.nd (k_piL (K := K) rfl (pv 0)) (blkOk_by (by kernel_rfl)) (fun _ _ _ _ _ => (pg_name (i := 1) sc_show_way.nd rfl (by first | exact Or.inl rfl | exact Or.inr rfl))) (fun _ _ _ _ _ => pts_nil) (fun _ _ _ _ _ => (pf_call (ok_show_step T) (hr.mono (by decide)) (by rfl) T.g_show_step T.d_show_step.kp (pa_cons (pv 1) pa_nil))))))), ?_⟩
    walk_at "rd"
    refine lc_way hW stpT (by have := hO.1; omega) ?_ ?_
    · rintro T' w H1 hw e hT kk hk
      have := hO.2 w hw
      walk_at "rd"
      exact ⟨T', w.1, w.2, rfl, at_sqT hT, this.1, this.2.1, this.2.2, hk _ (Ex.refl _)⟩

    intro D1 H1 nD1 e1 hD1
    walk_at "rd"
    refine r_join (n := 46) (ws.map stpT) (by walk_at "kn") ?_ (by decide) (by decide) (by rw [List.length_map]; have := hO.1; omega) (k _ (by walk_at "ex"))
    intro y hy
    obtain ⟨z, hz, rfl⟩ := List.mem_map.mp hy
    exact sml_stp (hO.2 z hz)

/-! ### show_fraction -/
theorem sc_show_fraction : FnScope ["fraction"] ["fraction"] (defScope s_show_fraction) := ⟨rfl, rfl, rfl, by decide +kernel, rfl, by decide +kernel, by decide +kernel⟩

def frT (x y : Int) : Str := txI x ++ Str.ofString "/" ++ txI y
theorem sml_fr {x y : Int} (hx : x.natAbs < 10 ^ 40) (hy : y.natAbs < 10 ^ 40) : Sml (frT x y) 83 := sml_app (sml_app (sml_int hx) (sml_str "/" (n := 1) (by decide))) (sml_int hy)
def sp_show_fraction (K : PySem.W.Frag) (d : Ads) : Sp := fun vs H Q _ => ∃ (t : Addr) (x y : Int), vs = [.ref t] ∧ SqT K H t [.int x, .int y] ∧ x.natAbs < 10 ^ 40 ∧ y.natAbs < 10 ^ 40 ∧ Q (.str (frT x y)) H
set_option maxHeartbeats 4000000 in
theorem ok_show_fraction (T : Tx K mg d) : Okf P w K mg base 1 d.f_show_fraction ["fraction"] (sp_show_fraction K d) := by
  refine okf_of T.d_show_fraction sc_show_fraction (fun vs H Q E h => ?_) (fun cdv A outer s H vs Q E hr h => ?_)
  · obtain ⟨t, x, y, rfl, hT, hx, hy, k⟩ := h
    rfl
  · obtain ⟨t, x, y, rfl, hT, hx, hy, k⟩ := h
    refine ⟨_, (pss_one (ps_ret (pe_op k_addS (pe_op k_addS (pe_callTy k_strI (by rfl) T.z_str (by decide +kernel) (pa_cons (pe_ix (k_ixT (K := K) rfl) (pv 0) pe_int (fun _ _ => rfl)) pa_nil)) pe_str) (pe_callTy k_strI (by rfl) T.z_str (by decide +kernel) (pa_cons (pe_ix (k_ixT (K := K) rfl) (pv 0) pe_int (fun _ _ => rfl)) pa_nil))))), ?_⟩
    have sx := sml_int hx
    have sy := sml_int hy
    walk_at "rd"
    refine r_ixT (v := .int x) hT rfl ?_
    walk_at "rd"
    refine r_strI hx ?_
    walk_at "rd"
    refine r_addS (by have := sx.1; show _ + 1 ≤ 100000; omega) ?_
    walk_at "rd"
    refine r_ixT (v := .int y) hT rfl ?_
    walk_at "rd"
    refine r_strI hy ?_
    refine r_addS (by have := sx.1; have := sy.1; rw [strLen_append]; show _ + 1 + _ ≤ 100000; omega) ?_
    exact k

/-! ### _law_alike -/
theorem sc__law_alike : FnScope ["_law_found", "_law_due"] ["_law_found", "_law_due"] (defScope s__law_alike) := ⟨rfl, rfl, rfl, by decide +kernel, rfl, by decide +kernel, by decide +kernel⟩

def sp__law_alike (K : PySem.W.Frag) (d : Ads) : Sp := fun vs H Q _ => ∃ (x y : V) (a : PyData) (n : Nat), vs = [x, y] ∧ Dp K H x a ∧ Dp K H y a ∧ SeqAt.shaped a = true ∧ Fine a n ∧ n ≤ 300000 ∧ Q (.bl true) H
set_option maxHeartbeats 4000000 in
theorem ok__law_alike (T : Tx K mg d) : OkP NoG P w K mg base 1 d.f__law_alike ["_law_found", "_law_due"] (sp__law_alike K d) := by
  refine okP_of T.d__law_alike sc__law_alike (fun vs H Q E h => ?_) (fun cdv A outer s H vs Q E hg hr h => ?_)
  · obtain ⟨x, y, a, n, rfl, hx, hy, hs, hf, hn, k⟩ := h
    rfl
  · obtain ⟨x, y, a, n, rfl, hx, hy, hs, hf, hn, k⟩ := h
    refine ⟨_, (pss_one (ps_ret (pe_and (pe_cmpR (k_eqD (K := K) rfl hr.units) (pv 0) (pv 1) (nomark _)) (pe_one (pe_cmpR op_eq (pe_callB (k_repr (K := K) (k := 0) rfl hg (hr.mono (by decide))) (by rfl) T.z_repr (by decide +kernel) (pa_cons (pv 0) pa_nil)) (pe_callB (k_repr (K := K) (k := 0) rfl hg (hr.mono (by decide))) (by rfl) T.z_repr (by decide +kernel) (pa_cons (pv 1) pa_nil)) (nomark _)))))), ?_⟩
    have hd := SeqAt.depth_of_shaped hs
    walk_at "rd"
    refine ⟨a, a, hx, hy, hs, hs, ?_⟩
    rw [SeqAt.eqv_refl a (SeqAt.canLay_of_shaped hs)]
    walk_at "rd"
    refine iteT ?_
    walk_at "rd"
    refine r_repr hx hf hn hd ?_
    walk_at "rd"
    refine r_repr hy hf hn hd ?_
    walk_at "rd"
    rw [decide_eq_true rfl]
    exact k

/-! ### law -/
theorem sc_law : FnScope ["_law_script", "_law_bag_here", "_law_turn", "_law_many", "_law_stays_here", "_law_row", "_law_hour", "_law_pair", "_law_way", "_law_text", "_law_due", "_law_again", "_law_found"] ["_law_script"] (defScope s_law) := ⟨rfl, rfl, rfl, by decide +kernel, rfl, by decide +kernel, by decide +kernel⟩

theorem fine_strs {ys : List Str} {n : Nat} (h : ∀ y ∈ ys, Sml y n) : Fine (.list (ys.map PyData.str)) (ys.length * (n + 1)) :=
  fine_list (fun d hd => by
    obtain ⟨z, hz, rfl⟩ := List.mem_map.mp hd
    exact fine_txt (h z hz)) (by rw [List.length_map]; exact Nat.le_refl _)
def sp_law (K : PySem.W.Frag) (d : Ads) : Sp := spLaw K
set_option maxHeartbeats 4000000 in
theorem ok_law (T : Tx K mg d) : OkP NoG P w K mg base 7 d.f_law ["_law_script"] (sp_law K d) := by
  refine okP_of T.d_law sc_law (fun vs H Q E h => ?_) (fun cdv A outer s H vs Q E hg hr h => ?_)
  · obtain ⟨a, ns, rfl, hS, hl, k⟩ := h
    rfl
  · obtain ⟨a, ns, rfl, hS, hl, k⟩ := h
    refine ⟨_, (pss_cons (ps_set (i := 1) sc_law.nd rfl (by first | exact Or.inl rfl | exact Or.inr rfl) (pf_call (ok__law_bag T) (hr.mono (by decide)) (by rfl) T.g__law_bag T.d__law_bag.kp (pa_cons (pv 0) pa_nil)))
      (pss_cons (ps_for PassesOwn.never rfl (pi_range1 (by rfl) T.z_range (pa_cons pe_int pa_nil)) (pg_name (i := 2) sc_law.nd rfl (by first | exact Or.inl rfl | exact Or.inr rfl)) (pss_cons (ps_set (i := 3) sc_law.nd rfl (by first | exact Or.inl rfl | exact Or.inr rfl) (pe_op op_add pe_int (pf_call (ok__law_take T) (hr.mono (by decide)) (by rfl) T.g__law_take T.d__law_take.kp (pa_cons (pv 1) (pa_cons (pe_ix (k_ixL (K := K) rfl) (pe_lst (pa_cons pe_int (pa_cons pe_int pa_nil))) (pe_op op_mod (pe_callTy k_int1 (by rfl) T.z_int (by decide +kernel) (pa_cons (pv 2) pa_nil)) pe_int) (fun _ _ => rfl)) pa_nil)))))
      (pss_cons (ps_par (i := 4) (j := 5) (by rfl) sc_law.nd rfl rfl (by decide) rfl rfl (pa_cons (pf_call (ok__law_stays T) (hr.mono (by decide)) (by rfl) T.g__law_stays T.d__law_stays.kp (pa_cons (pv 1) (pa_cons (pv 3) pa_nil))) (pa_cons (pe_lc (own := [("_law_hour", 6)]) rfl sc_law.nd (pi_range1 (by rfl) T.z_range (pa_cons (pv 3) pa_nil)) (blkOk_by (by kernel_rfl)) (fun _ _ _ _ _ => (pg_name (i := 6) sc_law.nd rfl (by first | exact Or.inl rfl | exact Or.inr rfl))) (fun _ _ _ _ _ => pts_nil) (fun _ _ _ _ _ => (pf_call (ok__law_number T) (hr.mono (by decide)) (by rfl) T.g__law_number T.d__law_number.kp (pa_cons (pv 1) pa_nil)))) pa_nil)) (by rfl))
      (pss_cons (ps_par (i := 7) (j := 8) (by rfl) sc_law.nd rfl rfl (by decide) rfl rfl (pa_cons (pf_call (ok__law_some_fraction T) (hr.mono (by decide)) (by rfl) T.g__law_some_fraction T.d__law_some_fraction.kp (pa_cons (pv 1) pa_nil)) (pa_cons (pf_call (ok__law_some_way T) (hr.mono (by decide)) (by rfl) T.g__law_some_way T.d__law_some_way.kp (pa_cons (pv 1) pa_nil)) pa_nil)) (by rfl))
      (pss_cons (ps_set (i := 9) sc_law.nd rfl (by first | exact Or.inl rfl | exact Or.inr rfl) (pe_callB (k_repr (K := K) (k := 0) rfl hg (hr.mono (by decide))) (by rfl) T.z_repr (by decide +kernel) (pa_cons (pe_lst (pa_cons (pv 7) (pa_cons (pv 8) pa_nil))) pa_nil)))
      (pss_cons (ps_set (i := 10) sc_law.nd rfl (by first | exact Or.inl rfl | exact Or.inr rfl) (pe_lst (pa_cons (pf_call (ok__law_text_of T) (hr.mono (by decide)) (by rfl) T.g__law_text_of T.d__law_text_of.kp (pa_cons pe_str (pa_cons (pv 4) pa_nil))) (pa_cons (pf_call (ok__law_text_of T) (hr.mono (by decide)) (by rfl) T.g__law_text_of T.d__law_text_of.kp (pa_cons pe_str (pa_cons (pv 5) pa_nil))) (pa_cons (pf_call (ok__law_text_of T) (hr.mono (by decide)) (by rfl) T.g__law_text_of T.d__law_text_of.kp (pa_cons pe_str (pa_cons (pv 5) pa_nil))) pa_nil)))))
      (pss_cons (ps_set (i := 10) sc_law.nd rfl (by first | exact Or.inl rfl | exact Or.inr rfl) (pe_op op_cat (pv 10) (pe_lst (pa_cons (pe_op k_addS (pe_op k_addS (pe_callTy k_strI (by rfl) T.z_str (by decide +kernel) (pa_cons (pe_ix (k_ixT (K := K) rfl) (pv 7) pe_int (fun _ _ => rfl)) pa_nil)) pe_str) (pe_callTy k_strI (by rfl) T.z_str (by decide +kernel) (pa_cons (pe_ix (k_ixT (K := K) rfl) (pv 7) pe_int (fun _ _ => rfl)) pa_nil))) (pa_cons (pf_call (ok__law_way_text T) (hr.mono (by decide)) (by rfl) T.g__law_way_text T.d__law_way_text.kp (pa_cons (pv 8) pa_nil)) pa_nil)))))
      (pss_one (ps_for PassesOwn.never rfl (pi_range1 (by rfl) T.z_range (pa_cons pe_int pa_nil)) (pg_name (i := 11) sc_law.nd rfl (by first | exact Or.inl rfl | exact Or.inr rfl)) (pss_cons (ps_set (i := 12) sc_law.nd rfl (by first | exact Or.inl rfl | exact Or.inr rfl) (pe_lst (pa_cons (pf_call (ok_show_clock T) (hr.mono (by decide)) (by rfl) T.g_show_clock T.d_show_clock.kp (pa_cons (pf_make (ok_Clock___init__ T) (hr.mono (by decide)) T.mk_Clock (by rfl) T.g_Clock (pa_cons (pv 4) pa_nil)) pa_nil)) (pa_cons (pf_call (ok_show_needs T) (hr.mono (by decide)) (by rfl) T.g_show_needs T.d_show_needs.kp (pa_cons (pf_make (ok_Needs___init__ T) (hr.mono (by decide)) T.mk_Needs (by rfl) T.g_Needs (pa_cons (pv 5) pa_nil)) pa_nil)) (pa_cons (pf_call (ok_show_plan T) (hr.mono (by decide)) (by rfl) T.g_show_plan T.d_show_plan.kp (pa_cons (pf_make (ok_Plan___init__ T) (hr.mono (by decide)) T.mk_Plan (by rfl) T.g_Plan (pa_cons (pv 5) pa_nil)) pa_nil)) pa_nil)))))
      (pss_cons (ps_set (i := 12) sc_law.nd rfl (by first | exact Or.inl rfl | exact Or.inr rfl) (pe_op op_cat (pv 12) (pe_lst (pa_cons (pf_call (ok_show_fraction T) (hr.mono (by decide)) (by rfl) T.g_show_fraction T.d_show_fraction.kp (pa_cons (pv 7) pa_nil)) (pa_cons (pf_call (ok_show_way T) (hr.mono (by decide)) (by rfl) T.g_show_way T.d_show_way.kp (pa_cons (pv 8) pa_nil)) pa_nil)))))
      (pss_one (ps_if (PW.pt (pw_or (pt_not (pt_val (pg_call (ok__law_alike T) (fun _ => hg) (hr.mono (by decide)) (by rfl) T.g__law_alike T.d__law_alike.kp (pa_cons (pv 12) (pa_cons (pv 10) pa_nil))))) (pw_or1 (pt_cmpR op_ne (pe_callB (k_repr (K := K) (k := 0) rfl hg (hr.mono (by decide))) (by rfl) T.z_repr (by decide +kernel) (pa_cons (pe_lst (pa_cons (pv 7) (pa_cons (pv 8) pa_nil))) pa_nil)) (pv 9) (nomark _))))) (pss_one (ps_ret pe_bl)) pss_nil)))))))))))))
      (pss_cons (ps_set (i := 12) sc_law.nd rfl (by first | exact Or.inl rfl | exact Or.inr rfl) (pe_lst (pa_cons (pf_call (ok_show_clock T) (hr.mono (by decide)) (by rfl) T.g_show_clock T.d_show_clock.kp (pa_cons (pf_make (ok_Clock___init__ T) (hr.mono (by decide)) T.mk_Clock (by rfl) T.g_Clock (pa_cons (pe_lst (pa_cons pe_int pa_nil)) pa_nil)) pa_nil)) (pa_cons (pf_call (ok_show_needs T) (hr.mono (by decide)) (by rfl) T.g_show_needs T.d_show_needs.kp (pa_cons (pf_make (ok_Needs___init__ T) (hr.mono (by decide)) T.mk_Needs (by rfl) T.g_Needs (pa_cons (pe_lst (pa_cons pe_int pa_nil)) pa_nil)) pa_nil)) (pa_cons (pf_call (ok_show_fraction T) (hr.mono (by decide)) (by rfl) T.g_show_fraction T.d_show_fraction.kp (pa_cons (pe_tup (pa_cons pe_int (pa_cons pe_int pa_nil))) pa_nil)) (pa_cons (pf_call (ok_show_way T) (hr.mono (by decide)) (by rfl) T.g_show_way T.d_show_way.kp (pa_cons (pe_lst (pa_cons (pe_tup (pa_cons pe_str (pa_cons pe_int pa_nil))) pa_nil)) pa_nil)) pa_nil))))))
      (pss_one (ps_ret (pe_cmpR (k_eqD (K := K) rfl hr.units) (pv 12) (pe_lst (pa_cons pe_str (pa_cons pe_str (pa_cons pe_str (pa_cons pe_str pa_nil))))) (nomark _))))))), ?_⟩
    walk_at "rd"
    refine ⟨a, ns, rfl, hS, hl, fun b H1 e1 hB1 => ?_⟩
    walk_at "rd"
    refine for_w walk_r0 (fun i σ H' => (∃ y2 y3 y4 y5 y6 y7 y8 y9 y10 y11 y12, σ = [some (.ref a), some (.ref b), y2, y3, y4, y5, y6, y7, y8, y9, y10, y11, y12]) ∧ Bag H' b) ⟨⟨_, _, _, _, _, _, _, _, _, _, _, rfl⟩, hB1⟩ (fun _ _ _ _ _ => trivial) ?_ ?_
    · rintro i x σ H2 H3 hi ⟨⟨y2, y3, y4, y5, y6, y7, y8, y9, y10, y11, y12, rfl⟩, hB⟩ ⟨rfl, rfl⟩
      have ht : 1 ≤ ([24, 6] : List Int).getD ((i : Int) % 2).toNat 0 ∧ ([24, 6] : List Int).getD ((i : Int) % 2).toNat 0 ≤ 24 := by
        have h1 := Int.emod_nonneg (i : Int) (b := 2) (by decide)
        have h2 := Int.emod_lt_of_pos (i : Int) (b := 2) (by decide)
        have : ((i : Int) % 2).toNat = 0 ∨ ((i : Int) % 2).toNat = 1 := by omega
        rcases this with e | e <;> rw [e] <;> decide
      walk_at "rd"
      refine ⟨szc rfl, fun p0 np0 => ?_⟩
      walk_at "rd"
      refine r_ixL (.inl (.inl upd_same)) (at_int (ns := [24, 6]) (Int.emod_nonneg _ (by decide)) (by show (i : Int) % 2 < 2; exact Int.emod_lt_of_pos _ (by decide))) ?_
      walk_at "rd"
      refine ⟨b, _, rfl, (by walk_at "kn"), by omega, by omega, fun c c0 c1 => ?_⟩
      obtain ⟨n, hn⟩ : ∃ n : Nat, 1 + c = (n : Int) := ⟨(1 + c).toNat, by omega⟩
      have n1 : 1 ≤ n := by omega
      have n8 : n ≤ 24 := by omega
      walk_at "rd"
      rw [hn]
      refine ⟨b, n, rfl, (by walk_at "kn"), n1, by omega, fun s sl g D1 H4 nD1 e4 hD1 => ?_⟩
      walk_at "rd"
      refine lc_val walk_r0 (fun _ v => ∃ z : Int, (0 ≤ z ∧ z < 10 ^ 30) ∧ v = .int z) (fun _ _ => trivial) (by omega) ?_ ?_
      · rintro j x G3 G4 hj2 e2 ⟨rfl, rfl⟩ kk2 hk2
        walk_at "rd"
        exact ⟨b, rfl, (by walk_at "kn"), fun z z0 z1 => hk2 _ _ (Ex.refl _) ⟨z, ⟨z0, z1⟩, rfl⟩⟩
      intro D2 H5 ys nD2 e5 hD2 yl yv
      obtain ⟨bs, hbs, rfl⟩ : ∃ ms : List Int, (∀ z ∈ ms, 0 ≤ z ∧ z < 10 ^ 30) ∧ ys = ms.map V.int := ints_of fun v hv => by
        obtain ⟨i, hi, rfl⟩ := List.mem_iff_getElem.mp hv
        exact yv i _ (List.getElem?_eq_getElem hi)
      rw [List.length_map, Int.toNat_natCast] at yl
      have hbs4 : ∀ z ∈ bs, z.natAbs < 10 ^ 40 := fun z hz => by have := hbs z hz; omega
      have hs4 : ∀ z ∈ s, z.natAbs < 10 ^ 40 := fun z hz => by have := stay_mem g hz; omega
      have gN : GoodN bs := GoodN.of (by omega) (by omega) fun z hz => (hbs z hz).1
      walk_at "rd"
      refine ⟨b, rfl, (by walk_at "kn"), fun x y hx hy tp ntp => ?_⟩
      walk_at "rd"
      refine ⟨b, rfl, (by walk_at "kn"), fun ws hO wl H6 nwl e6 hW => ?_⟩
      walk_at "rd"
      refine ⟨szc rfl, fun p1 np1 => ?_⟩
      have fD : Fine (.list [.tuple [.int x, .int y], wayD ws]) (2 * (60 * (2 * 201 + 1) + 1)) := fine_list (fun dd hd => by
        simp only [List.mem_cons, List.not_mem_nil, or_false] at hd
        rcases hd with rfl | rfl
        · exact (fine_tuple (ds := [.int x, .int y]) (n := 2) (w := 200) (fun z hz => by
            simp only [List.mem_cons, List.not_mem_nil, or_false] at hz
            rcases hz with rfl | rfl
            · exact fine_int hx
            · exact fine_int hy) (Nat.le_refl 2)).mono (by decide)
        · exact fine_way hO) (Nat.le_refl 2)
      walk_at "rd"
      refine r_repr (d := .list [.tuple [.int x, .int y], wayD ws]) (.lst (xs := [.ref tp, .ref wl]) (by walk_at "kn") (.cons (.tup (xs := [.int x, .int y]) (by walk_at "kn") (.cons (.int _) (.cons (.int _) .nil))) (.cons (dp_way (hW.ex (by walk_at "ex"))) .nil))) fD (by decide) (dep_way _ _ _) ?_
      have c1 : Sml (shw "clock" s) (49 * 42) := sml_shw (sml_str "clock" (by decide)) (by omega) hs4
      have c2 : Sml (shw "needs" bs) (49 * 42) := sml_shw (sml_str "needs" (by decide)) (by omega) hbs4
      have c3 : Sml (shw "plan" bs) (49 * 42) := sml_shw (sml_str "plan" (by decide)) (by omega) hbs4
      have c4 := sml_fr hx hy
      have c5 := sml_way hO
      have sS : ∀ y' ∈ [shw "clock" s, shw "needs" bs, shw "plan" bs, frT x y, wayT ws], Sml y' (60 * 48) := fun y' hy' => by
        simp only [List.mem_cons, List.not_mem_nil, or_false] at hy'
        rcases hy' with rfl | rfl | rfl | rfl | rfl
        · exact c1.mono (by decide)
        · exact c2.mono (by decide)
        · exact c3.mono (by decide)
        · exact c4.mono (by decide)
        · exact c5
      have fS : Fine (.list ([shw "clock" s, shw "needs" bs, shw "plan" bs, frT x y, wayT ws].map PyData.str)) (5 * (60 * 48 + 1)) := fine_strs sS
      walk_at "rd"
      refine ⟨_, D1, s, rfl, (by walk_at "kn"), sml_str "clock" (by decide), by omega, hs4, fun H7 e7 => ?_⟩
      walk_at "rd"
      refine ⟨_, D2, bs, rfl, (by walk_at "kn"), sml_str "needs" (by decide), by omega, hbs4, fun H8 e8 => ?_⟩
      walk_at "rd"
      refine ⟨_, D2, bs, rfl, (by walk_at "kn"), sml_str "plan" (by decide), by omega, hbs4, fun H9 e9 => ?_⟩
      walk_at "rd"
      refine ⟨szc rfl, fun p2 np2 => ?_⟩
      walk_at "rd"
      refine r_ixT (v := .int x) (xs := [.int x, .int y]) (by walk_at "kn") rfl ?_
      walk_at "rd"
      refine r_strI hx ?_
      walk_at "rd"
      refine r_addS (by have := (sml_int hx).1; show _ + 1 ≤ 100000; omega) ?_
      walk_at "rd"
      refine r_ixT (v := .int y) (xs := [.int x, .int y]) (by walk_at "kn") rfl ?_
      walk_at "rd"
      refine r_strI hy ?_
      refine r_addS (by have := (sml_int hx).1; have := (sml_int hy).1; rw [strLen_append]; show _ + 1 + _ ≤ 100000; omega) ?_
      walk_at "rd"
      refine ⟨wl, ws, rfl, hW.ex (by walk_at "ex"), hO, fun H10 e10 => ?_⟩
      walk_at "rd"
      refine ⟨szc rfl, fun p3 np3 => ?_⟩
      walk_at "rd"
      refine r_cat (xs := [.str (shw "clock" s), .str (shw "needs" bs), .str (shw "plan" bs)]) (zs := [.str (frT x y), .str (wayT ws)]) (by walk_at "kn") (by walk_at "kn") (Nat.le_of_ble_eq_true rfl) fun du ndu => ?_
      walk_at "rd"
      refine for_w walk_r0 (fun jj σ H' => (∃ z6 z11 z12, σ = [some (.ref a), some (.ref b), some (.int (i : Int)), some (.int (n : Int)), some (.ref D1), some (.ref D2), z6, some (.ref tp), some (.ref wl), some (.str (PyData.list [.tuple [.int x, .int y], wayD ws]).shown), some (.ref du), z11, z12]) ∧ Ex (upd (upd H10 p3 (HO.lst [V.str (frT x y), V.str (wayT ws)])) du (HO.lst [V.str (shw "clock" s), V.str (shw "needs" bs), V.str (shw "plan" bs), V.str (frT x y), V.str (wayT ws)])) H') ⟨⟨_, _, _, rfl⟩, Ex.refl _⟩ (fun _ _ _ _ _ => trivial) ?_ ?_
      · rintro jj x σ G1 G2 hjj ⟨⟨z6, z11, z12, rfl⟩, ef⟩ ⟨rfl, rfl⟩
        walk_at "rd"
        refine mkClk ⟨D1, s, rfl, (by walk_at "kn"), g, fun cv G3 g3 hC => ?_⟩
        walk_at "rd"
        refine ⟨_, s, rfl, (by walk_at "kn"), fun G4 g4 => ?_⟩
        walk_at "rd"
        refine mkRw ⟨D2, bs, rfl, (by walk_at "kn"), gN, fun nv G5 g5 hN => ?_⟩
        walk_at "rd"
        refine ⟨_, bs, rfl, (by walk_at "kn"), hbs4, fun G6 g6 => ?_⟩
        walk_at "rd"
        refine mkRw ⟨D2, bs, rfl, (by walk_at "kn"), gN, fun pv G7 g7 hP => ?_⟩
        walk_at "rd"
        refine ⟨_, bs, rfl, (by walk_at "kn"), hbs4, fun G8 g8 => ?_⟩
        walk_at "rd"
        refine ⟨szc rfl, fun q1 nq1 => ?_⟩
        walk_at "rd"
        refine ⟨tp, x, y, rfl, (by walk_at "kn"), hx, hy, ?_⟩
        walk_at "rd"
        refine ⟨wl, ws, rfl, hW.ex (by walk_at "ex"), hO, fun G9 g9 => ?_⟩
        walk_at "rd"
        refine ⟨szc rfl, fun q2 nq2 => ?_⟩
        walk_at "rd"
        refine r_cat (xs := [.str (shw "clock" s), .str (shw "needs" bs), .str (shw "plan" bs)]) (zs := [.str (frT x y), .str (wayT ws)]) (by walk_at "kn") (by walk_at "kn") (Nat.le_of_ble_eq_true rfl) fun fo nfo => ?_
        walk_at "rd"
        refine ⟨_, _, .list ([shw "clock" s, shw "needs" bs, shw "plan" bs, frT x y, wayT ws].map PyData.str), _, rfl, .lst (xs := [shw "clock" s, shw "needs" bs, shw "plan" bs, frT x y, wayT ws].map V.str) (by walk_at "kn") (dpa_strs _), .lst (xs := [shw "clock" s, shw "needs" bs, shw "plan" bs, frT x y, wayT ws].map V.str) (by walk_at "kn") (dpa_strs _), shaped_strs sS, fS, by decide, ?_⟩
        walk_at "rd"
        refine iteF ?_
        walk_at "rd"
        refine ⟨szc rfl, fun p5 np5 => ?_⟩
        walk_at "rd"
        refine r_repr (d := .list [.tuple [.int x, .int y], wayD ws]) (.lst (xs := [.ref tp, .ref wl]) (by walk_at "kn") (.cons (.tup (xs := [.int x, .int y]) (by walk_at "kn") (.cons (.int _) (.cons (.int _) .nil))) (.cons (dp_way (hW.ex (by walk_at "ex"))) .nil))) fD (by decide) (dep_way _ _ _) ?_
        walk_at "rd"
        refine r_same rfl ?_
        walk_at "rd"
        exact ⟨⟨_, _, _, rfl⟩, (by walk_at "ex")⟩
      rintro σ H11 ⟨⟨z6, z11, z12, rfl⟩, ef⟩
      walk_at "rd"
      exact ⟨⟨_, _, _, _, _, _, _, _, _, _, _, rfl⟩, (by walk_at "kn")⟩
    · rintro σ H' ⟨⟨y2, y3, y4, y5, y6, y7, y8, y9, y10, y11, y12, rfl⟩, hB⟩
      walk_at "rd"
      refine ⟨szc rfl, fun p1 np1 => ?_⟩
      walk_at "rd"
      refine mkClk ⟨p1, [1], rfl, (by walk_at "kn"), Good.const (n := 1) (c := 1) (by decide) (by decide) (by decide) (by decide), fun cv G3 g3 hC => ?_⟩
      walk_at "rd"
      refine ⟨_, [1], rfl, (by walk_at "kn"), fun G4 g4 => ?_⟩
      walk_at "rd"
      refine ⟨szc rfl, fun p2 np2 => ?_⟩
      walk_at "rd"
      refine mkRw ⟨p2, [0], rfl, (by walk_at "kn"), GoodN.of (by decide) (by decide) (by decide), fun nv G5 g5 hN => ?_⟩
      walk_at "rd"
      refine ⟨_, [0], rfl, (by walk_at "kn"), by decide, fun G6 g6 => ?_⟩
      walk_at "rd"
      refine ⟨szc rfl, fun p3 np3 => ?_⟩
      walk_at "rd"
      refine ⟨p3, 0, 1, rfl, (by walk_at "kn"), by decide, by decide, ?_⟩
      walk_at "rd"
      refine ⟨szc rfl, fun p4 np4 => ?_⟩
      walk_at "rd"
      refine ⟨szc rfl, fun p5 np5 => ?_⟩
      walk_at "rd"
      refine ⟨p5, [("keep", 47)], rfl, ⟨[p4], (by walk_at "kn"), rfl, fun j t hj => ?_⟩, ⟨(by show 1 ≤ 60; decide), fun p hp => ?_⟩, fun G7 g7 => ?_⟩
      · cases j with
        | zero => cases hj; exact ⟨("keep", 47), rfl, (by walk_at "kn")⟩
        | succ j => simp at hj
      · rw [List.mem_singleton.mp hp]
        exact ⟨sml_str "keep" (by decide), by decide, by decide⟩
      walk_at "rd"
      refine ⟨szc rfl, fun p6 np6 => ?_⟩
      walk_at "rd"
      refine ⟨szc rfl, fun p7 np7 => ?_⟩
      have e1 : shw "clock" [1] = Str.ofString "clock 1" := by decide +kernel
      have e2 : shw "needs" [0] = Str.ofString "needs 0" := by decide +kernel
      have e3 : frT 0 1 = Str.ofString "0/1" := by decide +kernel
      have e4 : wayT [("keep", 47)] = Str.ofString "keep 47" := by decide +kernel
      rw [e1, e2, e3, e4]
      have s4 : SeqAt.shaped (.list ([Str.ofString "clock 1", Str.ofString "needs 0", Str.ofString "0/1", Str.ofString "keep 47"].map PyData.str)) = true := shaped_strs (n := 10) fun y hy => by
        simp only [List.mem_cons, List.not_mem_nil, or_false] at hy
        rcases hy with rfl | rfl | rfl | rfl <;> exact sml_str _ (by decide)
      walk_at "rd"
      refine ⟨.list ([Str.ofString "clock 1", Str.ofString "needs 0", Str.ofString "0/1", Str.ofString "keep 47"].map PyData.str), .list ([Str.ofString "clock 1", Str.ofString "needs 0", Str.ofString "0/1", Str.ofString "keep 47"].map PyData.str), .lst (xs := [Str.ofString "clock 1", Str.ofString "needs 0", Str.ofString "0/1", Str.ofString "keep 47"].map V.str) (by walk_at "kn") (dpa_strs _), .lst (xs := [Str.ofString "clock 1", Str.ofString "needs 0", Str.ofString "0/1", Str.ofString "keep 47"].map V.str) (by walk_at "kn") (dpa_strs _), s4, s4, ?_⟩
      rw [SeqAt.eqv_refl _ (SeqAt.canLay_of_shaped s4)]
      walk_at "rd"
      exact k _
end

theorem all_mk {P : Program} {w : World} {K : PySem.W.Frag} {h : Heap} {mg : Str → Option Value} {fa : Addr} (X : K.In h) (G : h.Ns mainGlobals mg) (hfa : mg "law" = some (.ref fa))
    {c_Clock c_Needs c_Plan f__law_bag f__law_take f__law_number f__law_stays f__law_one f__law_some_way f__law_common f__law_some_fraction f__law_text_of f__law_way_text f_show_limit f_show_row f_Plan___len__ f_Plan___iter__ f_show_plan f_is_integer f_is_count f_are_counts f_is_row f_Plan___init__ f_Needs___len__ f_Needs___iter__ f_show_needs f_Needs___init__ f_Clock_stays f_show_clock f_are_stays f_need_order f_width_of f_Clock___init__ f_show_step f_show_way f_show_fraction f__law_alike f_law : Addr}
    {od__law_bag an__law_bag : Option Addr} {sl__law_bag : Array (Option Value)} {oc__law_bag kV__law_bag dc__law_bag pm__law_bag cd__law_bag ct__law_bag : Value}
    {od__law_take an__law_take : Option Addr} {sl__law_take : Array (Option Value)} {oc__law_take kV__law_take dc__law_take pm__law_take cd__law_take ct__law_take : Value}
    {od__law_number an__law_number : Option Addr} {sl__law_number : Array (Option Value)} {oc__law_number kV__law_number dc__law_number pm__law_number cd__law_number ct__law_number : Value}
    {od__law_stays an__law_stays : Option Addr} {sl__law_stays : Array (Option Value)} {oc__law_stays kV__law_stays dc__law_stays pm__law_stays cd__law_stays ct__law_stays : Value}
    {od__law_one an__law_one : Option Addr} {sl__law_one : Array (Option Value)} {oc__law_one kV__law_one dc__law_one pm__law_one cd__law_one ct__law_one : Value}
    {od__law_some_way an__law_some_way : Option Addr} {sl__law_some_way : Array (Option Value)} {oc__law_some_way kV__law_some_way dc__law_some_way pm__law_some_way cd__law_some_way ct__law_some_way : Value}
    {od__law_common an__law_common : Option Addr} {sl__law_common : Array (Option Value)} {oc__law_common kV__law_common dc__law_common pm__law_common cd__law_common ct__law_common : Value}
    {od__law_some_fraction an__law_some_fraction : Option Addr} {sl__law_some_fraction : Array (Option Value)} {oc__law_some_fraction kV__law_some_fraction dc__law_some_fraction pm__law_some_fraction cd__law_some_fraction ct__law_some_fraction : Value}
    {od__law_text_of an__law_text_of : Option Addr} {sl__law_text_of : Array (Option Value)} {oc__law_text_of kV__law_text_of dc__law_text_of pm__law_text_of cd__law_text_of ct__law_text_of : Value}
    {od__law_way_text an__law_way_text : Option Addr} {sl__law_way_text : Array (Option Value)} {oc__law_way_text kV__law_way_text dc__law_way_text pm__law_way_text cd__law_way_text ct__law_way_text : Value}
    {od_show_limit an_show_limit : Option Addr} {sl_show_limit : Array (Option Value)} {oc_show_limit kV_show_limit dc_show_limit pm_show_limit cd_show_limit ct_show_limit : Value}
    {od_show_row an_show_row : Option Addr} {sl_show_row : Array (Option Value)} {oc_show_row kV_show_row dc_show_row pm_show_row cd_show_row ct_show_row : Value}
    {od_Plan___len__ an_Plan___len__ : Option Addr} {sl_Plan___len__ : Array (Option Value)} {oc_Plan___len__ kV_Plan___len__ dc_Plan___len__ pm_Plan___len__ cd_Plan___len__ ct_Plan___len__ : Value}
    {od_Plan___iter__ an_Plan___iter__ : Option Addr} {sl_Plan___iter__ : Array (Option Value)} {oc_Plan___iter__ kV_Plan___iter__ dc_Plan___iter__ pm_Plan___iter__ cd_Plan___iter__ ct_Plan___iter__ : Value}
    {od_show_plan an_show_plan : Option Addr} {sl_show_plan : Array (Option Value)} {oc_show_plan kV_show_plan dc_show_plan pm_show_plan cd_show_plan ct_show_plan : Value}
    {od_is_integer an_is_integer : Option Addr} {sl_is_integer : Array (Option Value)} {oc_is_integer kV_is_integer dc_is_integer pm_is_integer cd_is_integer ct_is_integer : Value}
    {od_is_count an_is_count : Option Addr} {sl_is_count : Array (Option Value)} {oc_is_count kV_is_count dc_is_count pm_is_count cd_is_count ct_is_count : Value}
    {od_are_counts an_are_counts : Option Addr} {sl_are_counts : Array (Option Value)} {oc_are_counts kV_are_counts dc_are_counts pm_are_counts cd_are_counts ct_are_counts : Value}
    {od_is_row an_is_row : Option Addr} {sl_is_row : Array (Option Value)} {oc_is_row kV_is_row dc_is_row pm_is_row cd_is_row ct_is_row : Value}
    {od_Plan___init__ an_Plan___init__ : Option Addr} {sl_Plan___init__ : Array (Option Value)} {oc_Plan___init__ kV_Plan___init__ dc_Plan___init__ pm_Plan___init__ cd_Plan___init__ ct_Plan___init__ : Value}
    {od_Needs___len__ an_Needs___len__ : Option Addr} {sl_Needs___len__ : Array (Option Value)} {oc_Needs___len__ kV_Needs___len__ dc_Needs___len__ pm_Needs___len__ cd_Needs___len__ ct_Needs___len__ : Value}
    {od_Needs___iter__ an_Needs___iter__ : Option Addr} {sl_Needs___iter__ : Array (Option Value)} {oc_Needs___iter__ kV_Needs___iter__ dc_Needs___iter__ pm_Needs___iter__ cd_Needs___iter__ ct_Needs___iter__ : Value}
    {od_show_needs an_show_needs : Option Addr} {sl_show_needs : Array (Option Value)} {oc_show_needs kV_show_needs dc_show_needs pm_show_needs cd_show_needs ct_show_needs : Value}
    {od_Needs___init__ an_Needs___init__ : Option Addr} {sl_Needs___init__ : Array (Option Value)} {oc_Needs___init__ kV_Needs___init__ dc_Needs___init__ pm_Needs___init__ cd_Needs___init__ ct_Needs___init__ : Value}
    {od_Clock_stays an_Clock_stays : Option Addr} {sl_Clock_stays : Array (Option Value)} {oc_Clock_stays kV_Clock_stays dc_Clock_stays pm_Clock_stays cd_Clock_stays ct_Clock_stays : Value}
    {od_show_clock an_show_clock : Option Addr} {sl_show_clock : Array (Option Value)} {oc_show_clock kV_show_clock dc_show_clock pm_show_clock cd_show_clock ct_show_clock : Value}
    {od_are_stays an_are_stays : Option Addr} {sl_are_stays : Array (Option Value)} {oc_are_stays kV_are_stays dc_are_stays pm_are_stays cd_are_stays ct_are_stays : Value}
    {od_need_order an_need_order : Option Addr} {sl_need_order : Array (Option Value)} {oc_need_order kV_need_order dc_need_order pm_need_order cd_need_order ct_need_order : Value}
    {od_width_of an_width_of : Option Addr} {sl_width_of : Array (Option Value)} {oc_width_of kV_width_of dc_width_of pm_width_of cd_width_of ct_width_of : Value}
    {od_Clock___init__ an_Clock___init__ : Option Addr} {sl_Clock___init__ : Array (Option Value)} {oc_Clock___init__ kV_Clock___init__ dc_Clock___init__ pm_Clock___init__ cd_Clock___init__ ct_Clock___init__ : Value}
    {od_show_step an_show_step : Option Addr} {sl_show_step : Array (Option Value)} {oc_show_step kV_show_step dc_show_step pm_show_step cd_show_step ct_show_step : Value}
    {od_show_way an_show_way : Option Addr} {sl_show_way : Array (Option Value)} {oc_show_way kV_show_way dc_show_way pm_show_way cd_show_way ct_show_way : Value}
    {od_show_fraction an_show_fraction : Option Addr} {sl_show_fraction : Array (Option Value)} {oc_show_fraction kV_show_fraction dc_show_fraction pm_show_fraction cd_show_fraction ct_show_fraction : Value}
    {od__law_alike an__law_alike : Option Addr} {sl__law_alike : Array (Option Value)} {oc__law_alike kV__law_alike dc__law_alike pm__law_alike cd__law_alike ct__law_alike : Value}
    {od_law an_law : Option Addr} {sl_law : Array (Option Value)} {oc_law kV_law dc_law pm_law cd_law ct_law : Value}
    {t_MOST_HOURS : Tok}
    {t_NONE : Tok}
    (a_Clock : PySem.W.nsIn K mainGlobals "Clock" = some (some (.ref c_Clock)))
    (pg_Clock : PySem.W.plainGet K c_Clock Str.empty = true)
    (hd_Clock : PySem.W.hasDictIn K c_Clock = true)
    (po_Clock : PySem.W.plainOver K c_Clock = true)
    (sa_Clock : PySem.W.findIn K (.ref c_Clock) "__setattr__" = some (some (.builtin "object.__setattr__")))
    (sf_Clock : PySem.W.selfFirst K c_Clock = true)
    (a_Needs : PySem.W.nsIn K mainGlobals "Needs" = some (some (.ref c_Needs)))
    (pg_Needs : PySem.W.plainGet K c_Needs Str.empty = true)
    (hd_Needs : PySem.W.hasDictIn K c_Needs = true)
    (po_Needs : PySem.W.plainOver K c_Needs = true)
    (sa_Needs : PySem.W.findIn K (.ref c_Needs) "__setattr__" = some (some (.builtin "object.__setattr__")))
    (sf_Needs : PySem.W.selfFirst K c_Needs = true)
    (a_Plan : PySem.W.nsIn K mainGlobals "Plan" = some (some (.ref c_Plan)))
    (pg_Plan : PySem.W.plainGet K c_Plan Str.empty = true)
    (hd_Plan : PySem.W.hasDictIn K c_Plan = true)
    (po_Plan : PySem.W.plainOver K c_Plan = true)
    (sa_Plan : PySem.W.findIn K (.ref c_Plan) "__setattr__" = some (some (.builtin "object.__setattr__")))
    (sf_Plan : PySem.W.selfFirst K c_Plan = true)
    (n_Clock_kept_stays : PySem.W.findIn K (.ref c_Clock) "kept_stays" = some none)
    (n_Clock_kept_widths : PySem.W.findIn K (.ref c_Clock) "kept_widths" = some none)
    (n_Needs_kept_row : PySem.W.findIn K (.ref c_Needs) "kept_row" = some none)
    (n_Plan_kept_begins : PySem.W.findIn K (.ref c_Plan) "kept_begins" = some none)
    (a__law_bag : PySem.W.nsIn K mainGlobals "_law_bag" = some (some (.ref f__law_bag)))
    (l__law_bag : K.lookup f__law_bag = some ⟨oc__law_bag, od__law_bag, .func (PySem.W.fnOf "_law_bag" "_law_bag" (defArgs s__law_bag) (defBody s__law_bag) (defScope s__law_bag) .none kV__law_bag dc__law_bag pm__law_bag an__law_bag cd__law_bag ct__law_bag), sl__law_bag⟩)
    (c__law_bag : PySem.W.codeIn K cd__law_bag "_law_bag" = true)
    (k__law_bag : PySem.W.keepIn K (.ref f__law_bag) = true)
    (a__law_take : PySem.W.nsIn K mainGlobals "_law_take" = some (some (.ref f__law_take)))
    (l__law_take : K.lookup f__law_take = some ⟨oc__law_take, od__law_take, .func (PySem.W.fnOf "_law_take" "_law_take" (defArgs s__law_take) (defBody s__law_take) (defScope s__law_take) .none kV__law_take dc__law_take pm__law_take an__law_take cd__law_take ct__law_take), sl__law_take⟩)
    (c__law_take : PySem.W.codeIn K cd__law_take "_law_take" = true)
    (k__law_take : PySem.W.keepIn K (.ref f__law_take) = true)
    (a__law_number : PySem.W.nsIn K mainGlobals "_law_number" = some (some (.ref f__law_number)))
    (l__law_number : K.lookup f__law_number = some ⟨oc__law_number, od__law_number, .func (PySem.W.fnOf "_law_number" "_law_number" (defArgs s__law_number) (defBody s__law_number) (defScope s__law_number) .none kV__law_number dc__law_number pm__law_number an__law_number cd__law_number ct__law_number), sl__law_number⟩)
    (c__law_number : PySem.W.codeIn K cd__law_number "_law_number" = true)
    (k__law_number : PySem.W.keepIn K (.ref f__law_number) = true)
    (a__law_stays : PySem.W.nsIn K mainGlobals "_law_stays" = some (some (.ref f__law_stays)))
    (l__law_stays : K.lookup f__law_stays = some ⟨oc__law_stays, od__law_stays, .func (PySem.W.fnOf "_law_stays" "_law_stays" (defArgs s__law_stays) (defBody s__law_stays) (defScope s__law_stays) .none kV__law_stays dc__law_stays pm__law_stays an__law_stays cd__law_stays ct__law_stays), sl__law_stays⟩)
    (c__law_stays : PySem.W.codeIn K cd__law_stays "_law_stays" = true)
    (k__law_stays : PySem.W.keepIn K (.ref f__law_stays) = true)
    (a__law_one : PySem.W.nsIn K mainGlobals "_law_one" = some (some (.ref f__law_one)))
    (l__law_one : K.lookup f__law_one = some ⟨oc__law_one, od__law_one, .func (PySem.W.fnOf "_law_one" "_law_one" (defArgs s__law_one) (defBody s__law_one) (defScope s__law_one) .none kV__law_one dc__law_one pm__law_one an__law_one cd__law_one ct__law_one), sl__law_one⟩)
    (c__law_one : PySem.W.codeIn K cd__law_one "_law_one" = true)
    (k__law_one : PySem.W.keepIn K (.ref f__law_one) = true)
    (a__law_some_way : PySem.W.nsIn K mainGlobals "_law_some_way" = some (some (.ref f__law_some_way)))
    (l__law_some_way : K.lookup f__law_some_way = some ⟨oc__law_some_way, od__law_some_way, .func (PySem.W.fnOf "_law_some_way" "_law_some_way" (defArgs s__law_some_way) (defBody s__law_some_way) (defScope s__law_some_way) .none kV__law_some_way dc__law_some_way pm__law_some_way an__law_some_way cd__law_some_way ct__law_some_way), sl__law_some_way⟩)
    (c__law_some_way : PySem.W.codeIn K cd__law_some_way "_law_some_way" = true)
    (k__law_some_way : PySem.W.keepIn K (.ref f__law_some_way) = true)
    (a__law_common : PySem.W.nsIn K mainGlobals "_law_common" = some (some (.ref f__law_common)))
    (l__law_common : K.lookup f__law_common = some ⟨oc__law_common, od__law_common, .func (PySem.W.fnOf "_law_common" "_law_common" (defArgs s__law_common) (defBody s__law_common) (defScope s__law_common) .none kV__law_common dc__law_common pm__law_common an__law_common cd__law_common ct__law_common), sl__law_common⟩)
    (c__law_common : PySem.W.codeIn K cd__law_common "_law_common" = true)
    (k__law_common : PySem.W.keepIn K (.ref f__law_common) = true)
    (a__law_some_fraction : PySem.W.nsIn K mainGlobals "_law_some_fraction" = some (some (.ref f__law_some_fraction)))
    (l__law_some_fraction : K.lookup f__law_some_fraction = some ⟨oc__law_some_fraction, od__law_some_fraction, .func (PySem.W.fnOf "_law_some_fraction" "_law_some_fraction" (defArgs s__law_some_fraction) (defBody s__law_some_fraction) (defScope s__law_some_fraction) .none kV__law_some_fraction dc__law_some_fraction pm__law_some_fraction an__law_some_fraction cd__law_some_fraction ct__law_some_fraction), sl__law_some_fraction⟩)
    (c__law_some_fraction : PySem.W.codeIn K cd__law_some_fraction "_law_some_fraction" = true)
    (k__law_some_fraction : PySem.W.keepIn K (.ref f__law_some_fraction) = true)
    (a__law_text_of : PySem.W.nsIn K mainGlobals "_law_text_of" = some (some (.ref f__law_text_of)))
    (l__law_text_of : K.lookup f__law_text_of = some ⟨oc__law_text_of, od__law_text_of, .func (PySem.W.fnOf "_law_text_of" "_law_text_of" (defArgs s__law_text_of) (defBody s__law_text_of) (defScope s__law_text_of) .none kV__law_text_of dc__law_text_of pm__law_text_of an__law_text_of cd__law_text_of ct__law_text_of), sl__law_text_of⟩)
    (c__law_text_of : PySem.W.codeIn K cd__law_text_of "_law_text_of" = true)
    (k__law_text_of : PySem.W.keepIn K (.ref f__law_text_of) = true)
    (a__law_way_text : PySem.W.nsIn K mainGlobals "_law_way_text" = some (some (.ref f__law_way_text)))
    (l__law_way_text : K.lookup f__law_way_text = some ⟨oc__law_way_text, od__law_way_text, .func (PySem.W.fnOf "_law_way_text" "_law_way_text" (defArgs s__law_way_text) (defBody s__law_way_text) (defScope s__law_way_text) .none kV__law_way_text dc__law_way_text pm__law_way_text an__law_way_text cd__law_way_text ct__law_way_text), sl__law_way_text⟩)
    (c__law_way_text : PySem.W.codeIn K cd__law_way_text "_law_way_text" = true)
    (k__law_way_text : PySem.W.keepIn K (.ref f__law_way_text) = true)
    (a_show_limit : PySem.W.nsIn K mainGlobals "show_limit" = some (some (.ref f_show_limit)))
    (l_show_limit : K.lookup f_show_limit = some ⟨oc_show_limit, od_show_limit, .func (PySem.W.fnOf "show_limit" "show_limit" (defArgs s_show_limit) (defBody s_show_limit) (defScope s_show_limit) .none kV_show_limit dc_show_limit pm_show_limit an_show_limit cd_show_limit ct_show_limit), sl_show_limit⟩)
    (c_show_limit : PySem.W.codeIn K cd_show_limit "show_limit" = true)
    (k_show_limit : PySem.W.keepIn K (.ref f_show_limit) = true)
    (a_show_row : PySem.W.nsIn K mainGlobals "show_row" = some (some (.ref f_show_row)))
    (l_show_row : K.lookup f_show_row = some ⟨oc_show_row, od_show_row, .func (PySem.W.fnOf "show_row" "show_row" (defArgs s_show_row) (defBody s_show_row) (defScope s_show_row) .none kV_show_row dc_show_row pm_show_row an_show_row cd_show_row ct_show_row), sl_show_row⟩)
    (c_show_row : PySem.W.codeIn K cd_show_row "show_row" = true)
    (k_show_row : PySem.W.keepIn K (.ref f_show_row) = true)
    (a_Plan___len__ : PySem.W.findIn K (.ref c_Plan) "__len__" = some (some (.ref f_Plan___len__)))
    (i_Plan___len__ : PySem.W.isFn K (.ref f_Plan___len__) = true)
    (l_Plan___len__ : K.lookup f_Plan___len__ = some ⟨oc_Plan___len__, od_Plan___len__, .func (PySem.W.fnOf "__len__" "Plan.__len__" (defArgs s_Plan___len__) (defBody s_Plan___len__) (defScope s_Plan___len__) .none kV_Plan___len__ dc_Plan___len__ pm_Plan___len__ an_Plan___len__ cd_Plan___len__ ct_Plan___len__), sl_Plan___len__⟩)
    (c_Plan___len__ : PySem.W.codeIn K cd_Plan___len__ "Plan.__len__" = true)
    (k_Plan___len__ : PySem.W.keepIn K (.ref f_Plan___len__) = true)
    (a_Plan___iter__ : PySem.W.findIn K (.ref c_Plan) "__iter__" = some (some (.ref f_Plan___iter__)))
    (i_Plan___iter__ : PySem.W.isFn K (.ref f_Plan___iter__) = true)
    (l_Plan___iter__ : K.lookup f_Plan___iter__ = some ⟨oc_Plan___iter__, od_Plan___iter__, .func (PySem.W.fnOf "__iter__" "Plan.__iter__" (defArgs s_Plan___iter__) (defBody s_Plan___iter__) (defScope s_Plan___iter__) .none kV_Plan___iter__ dc_Plan___iter__ pm_Plan___iter__ an_Plan___iter__ cd_Plan___iter__ ct_Plan___iter__), sl_Plan___iter__⟩)
    (c_Plan___iter__ : PySem.W.codeIn K cd_Plan___iter__ "Plan.__iter__" = true)
    (k_Plan___iter__ : PySem.W.keepIn K (.ref f_Plan___iter__) = true)
    (a_show_plan : PySem.W.nsIn K mainGlobals "show_plan" = some (some (.ref f_show_plan)))
    (l_show_plan : K.lookup f_show_plan = some ⟨oc_show_plan, od_show_plan, .func (PySem.W.fnOf "show_plan" "show_plan" (defArgs s_show_plan) (defBody s_show_plan) (defScope s_show_plan) .none kV_show_plan dc_show_plan pm_show_plan an_show_plan cd_show_plan ct_show_plan), sl_show_plan⟩)
    (c_show_plan : PySem.W.codeIn K cd_show_plan "show_plan" = true)
    (k_show_plan : PySem.W.keepIn K (.ref f_show_plan) = true)
    (a_is_integer : PySem.W.nsIn K mainGlobals "is_integer" = some (some (.ref f_is_integer)))
    (l_is_integer : K.lookup f_is_integer = some ⟨oc_is_integer, od_is_integer, .func (PySem.W.fnOf "is_integer" "is_integer" (defArgs s_is_integer) (defBody s_is_integer) (defScope s_is_integer) .none kV_is_integer dc_is_integer pm_is_integer an_is_integer cd_is_integer ct_is_integer), sl_is_integer⟩)
    (c_is_integer : PySem.W.codeIn K cd_is_integer "is_integer" = true)
    (k_is_integer : PySem.W.keepIn K (.ref f_is_integer) = true)
    (a_is_count : PySem.W.nsIn K mainGlobals "is_count" = some (some (.ref f_is_count)))
    (l_is_count : K.lookup f_is_count = some ⟨oc_is_count, od_is_count, .func (PySem.W.fnOf "is_count" "is_count" (defArgs s_is_count) (defBody s_is_count) (defScope s_is_count) .none kV_is_count dc_is_count pm_is_count an_is_count cd_is_count ct_is_count), sl_is_count⟩)
    (c_is_count : PySem.W.codeIn K cd_is_count "is_count" = true)
    (k_is_count : PySem.W.keepIn K (.ref f_is_count) = true)
    (a_are_counts : PySem.W.nsIn K mainGlobals "are_counts" = some (some (.ref f_are_counts)))
    (l_are_counts : K.lookup f_are_counts = some ⟨oc_are_counts, od_are_counts, .func (PySem.W.fnOf "are_counts" "are_counts" (defArgs s_are_counts) (defBody s_are_counts) (defScope s_are_counts) .none kV_are_counts dc_are_counts pm_are_counts an_are_counts cd_are_counts ct_are_counts), sl_are_counts⟩)
    (c_are_counts : PySem.W.codeIn K cd_are_counts "are_counts" = true)
    (k_are_counts : PySem.W.keepIn K (.ref f_are_counts) = true)
    (a_is_row : PySem.W.nsIn K mainGlobals "is_row" = some (some (.ref f_is_row)))
    (l_is_row : K.lookup f_is_row = some ⟨oc_is_row, od_is_row, .func (PySem.W.fnOf "is_row" "is_row" (defArgs s_is_row) (defBody s_is_row) (defScope s_is_row) .none kV_is_row dc_is_row pm_is_row an_is_row cd_is_row ct_is_row), sl_is_row⟩)
    (c_is_row : PySem.W.codeIn K cd_is_row "is_row" = true)
    (k_is_row : PySem.W.keepIn K (.ref f_is_row) = true)
    (a_Plan___init__ : PySem.W.findIn K (.ref c_Plan) "__init__" = some (some (.ref f_Plan___init__)))
    (i_Plan___init__ : PySem.W.isFn K (.ref f_Plan___init__) = true)
    (mm_Plan : PySem.W.makesIn K c_Plan = true)
    (mc_Plan : PySem.W.keepIn K (.ref c_Plan) = true)
    (l_Plan___init__ : K.lookup f_Plan___init__ = some ⟨oc_Plan___init__, od_Plan___init__, .func (PySem.W.fnOf "__init__" "Plan.__init__" (defArgs s_Plan___init__) (defBody s_Plan___init__) (defScope s_Plan___init__) .none kV_Plan___init__ dc_Plan___init__ pm_Plan___init__ an_Plan___init__ cd_Plan___init__ ct_Plan___init__), sl_Plan___init__⟩)
    (c_Plan___init__ : PySem.W.codeIn K cd_Plan___init__ "Plan.__init__" = true)
    (k_Plan___init__ : PySem.W.keepIn K (.ref f_Plan___init__) = true)
    (a_Needs___len__ : PySem.W.findIn K (.ref c_Needs) "__len__" = some (some (.ref f_Needs___len__)))
    (i_Needs___len__ : PySem.W.isFn K (.ref f_Needs___len__) = true)
    (l_Needs___len__ : K.lookup f_Needs___len__ = some ⟨oc_Needs___len__, od_Needs___len__, .func (PySem.W.fnOf "__len__" "Needs.__len__" (defArgs s_Needs___len__) (defBody s_Needs___len__) (defScope s_Needs___len__) .none kV_Needs___len__ dc_Needs___len__ pm_Needs___len__ an_Needs___len__ cd_Needs___len__ ct_Needs___len__), sl_Needs___len__⟩)
    (c_Needs___len__ : PySem.W.codeIn K cd_Needs___len__ "Needs.__len__" = true)
    (k_Needs___len__ : PySem.W.keepIn K (.ref f_Needs___len__) = true)
    (a_Needs___iter__ : PySem.W.findIn K (.ref c_Needs) "__iter__" = some (some (.ref f_Needs___iter__)))
    (i_Needs___iter__ : PySem.W.isFn K (.ref f_Needs___iter__) = true)
    (l_Needs___iter__ : K.lookup f_Needs___iter__ = some ⟨oc_Needs___iter__, od_Needs___iter__, .func (PySem.W.fnOf "__iter__" "Needs.__iter__" (defArgs s_Needs___iter__) (defBody s_Needs___iter__) (defScope s_Needs___iter__) .none kV_Needs___iter__ dc_Needs___iter__ pm_Needs___iter__ an_Needs___iter__ cd_Needs___iter__ ct_Needs___iter__), sl_Needs___iter__⟩)
    (c_Needs___iter__ : PySem.W.codeIn K cd_Needs___iter__ "Needs.__iter__" = true)
    (k_Needs___iter__ : PySem.W.keepIn K (.ref f_Needs___iter__) = true)
    (a_show_needs : PySem.W.nsIn K mainGlobals "show_needs" = some (some (.ref f_show_needs)))
    (l_show_needs : K.lookup f_show_needs = some ⟨oc_show_needs, od_show_needs, .func (PySem.W.fnOf "show_needs" "show_needs" (defArgs s_show_needs) (defBody s_show_needs) (defScope s_show_needs) .none kV_show_needs dc_show_needs pm_show_needs an_show_needs cd_show_needs ct_show_needs), sl_show_needs⟩)
    (c_show_needs : PySem.W.codeIn K cd_show_needs "show_needs" = true)
    (k_show_needs : PySem.W.keepIn K (.ref f_show_needs) = true)
    (a_Needs___init__ : PySem.W.findIn K (.ref c_Needs) "__init__" = some (some (.ref f_Needs___init__)))
    (i_Needs___init__ : PySem.W.isFn K (.ref f_Needs___init__) = true)
    (mm_Needs : PySem.W.makesIn K c_Needs = true)
    (mc_Needs : PySem.W.keepIn K (.ref c_Needs) = true)
    (l_Needs___init__ : K.lookup f_Needs___init__ = some ⟨oc_Needs___init__, od_Needs___init__, .func (PySem.W.fnOf "__init__" "Needs.__init__" (defArgs s_Needs___init__) (defBody s_Needs___init__) (defScope s_Needs___init__) .none kV_Needs___init__ dc_Needs___init__ pm_Needs___init__ an_Needs___init__ cd_Needs___init__ ct_Needs___init__), sl_Needs___init__⟩)
    (c_Needs___init__ : PySem.W.codeIn K cd_Needs___init__ "Needs.__init__" = true)
    (k_Needs___init__ : PySem.W.keepIn K (.ref f_Needs___init__) = true)
    (a_Clock_stays : PySem.W.findIn K (.ref c_Clock) "stays" = some (some (.ref f_Clock_stays)))
    (i_Clock_stays : PySem.W.isFn K (.ref f_Clock_stays) = true)
    (l_Clock_stays : K.lookup f_Clock_stays = some ⟨oc_Clock_stays, od_Clock_stays, .func (PySem.W.fnOf "stays" "Clock.stays" (defArgs s_Clock_stays) (defBody s_Clock_stays) (defScope s_Clock_stays) .none kV_Clock_stays dc_Clock_stays pm_Clock_stays an_Clock_stays cd_Clock_stays ct_Clock_stays), sl_Clock_stays⟩)
    (c_Clock_stays : PySem.W.codeIn K cd_Clock_stays "Clock.stays" = true)
    (k_Clock_stays : PySem.W.keepIn K (.ref f_Clock_stays) = true)
    (a_show_clock : PySem.W.nsIn K mainGlobals "show_clock" = some (some (.ref f_show_clock)))
    (l_show_clock : K.lookup f_show_clock = some ⟨oc_show_clock, od_show_clock, .func (PySem.W.fnOf "show_clock" "show_clock" (defArgs s_show_clock) (defBody s_show_clock) (defScope s_show_clock) .none kV_show_clock dc_show_clock pm_show_clock an_show_clock cd_show_clock ct_show_clock), sl_show_clock⟩)
    (c_show_clock : PySem.W.codeIn K cd_show_clock "show_clock" = true)
    (k_show_clock : PySem.W.keepIn K (.ref f_show_clock) = true)
    (a_are_stays : PySem.W.nsIn K mainGlobals "are_stays" = some (some (.ref f_are_stays)))
    (l_are_stays : K.lookup f_are_stays = some ⟨oc_are_stays, od_are_stays, .func (PySem.W.fnOf "are_stays" "are_stays" (defArgs s_are_stays) (defBody s_are_stays) (defScope s_are_stays) .none kV_are_stays dc_are_stays pm_are_stays an_are_stays cd_are_stays ct_are_stays), sl_are_stays⟩)
    (c_are_stays : PySem.W.codeIn K cd_are_stays "are_stays" = true)
    (k_are_stays : PySem.W.keepIn K (.ref f_are_stays) = true)
    (a_need_order : PySem.W.nsIn K mainGlobals "need_order" = some (some (.ref f_need_order)))
    (l_need_order : K.lookup f_need_order = some ⟨oc_need_order, od_need_order, .func (PySem.W.fnOf "need_order" "need_order" (defArgs s_need_order) (defBody s_need_order) (defScope s_need_order) .none kV_need_order dc_need_order pm_need_order an_need_order cd_need_order ct_need_order), sl_need_order⟩)
    (c_need_order : PySem.W.codeIn K cd_need_order "need_order" = true)
    (k_need_order : PySem.W.keepIn K (.ref f_need_order) = true)
    (a_width_of : PySem.W.nsIn K mainGlobals "width_of" = some (some (.ref f_width_of)))
    (l_width_of : K.lookup f_width_of = some ⟨oc_width_of, od_width_of, .func (PySem.W.fnOf "width_of" "width_of" (defArgs s_width_of) (defBody s_width_of) (defScope s_width_of) .none kV_width_of dc_width_of pm_width_of an_width_of cd_width_of ct_width_of), sl_width_of⟩)
    (c_width_of : PySem.W.codeIn K cd_width_of "width_of" = true)
    (k_width_of : PySem.W.keepIn K (.ref f_width_of) = true)
    (a_Clock___init__ : PySem.W.findIn K (.ref c_Clock) "__init__" = some (some (.ref f_Clock___init__)))
    (i_Clock___init__ : PySem.W.isFn K (.ref f_Clock___init__) = true)
    (mm_Clock : PySem.W.makesIn K c_Clock = true)
    (mc_Clock : PySem.W.keepIn K (.ref c_Clock) = true)
    (l_Clock___init__ : K.lookup f_Clock___init__ = some ⟨oc_Clock___init__, od_Clock___init__, .func (PySem.W.fnOf "__init__" "Clock.__init__" (defArgs s_Clock___init__) (defBody s_Clock___init__) (defScope s_Clock___init__) .none kV_Clock___init__ dc_Clock___init__ pm_Clock___init__ an_Clock___init__ cd_Clock___init__ ct_Clock___init__), sl_Clock___init__⟩)
    (c_Clock___init__ : PySem.W.codeIn K cd_Clock___init__ "Clock.__init__" = true)
    (k_Clock___init__ : PySem.W.keepIn K (.ref f_Clock___init__) = true)
    (a_show_step : PySem.W.nsIn K mainGlobals "show_step" = some (some (.ref f_show_step)))
    (l_show_step : K.lookup f_show_step = some ⟨oc_show_step, od_show_step, .func (PySem.W.fnOf "show_step" "show_step" (defArgs s_show_step) (defBody s_show_step) (defScope s_show_step) .none kV_show_step dc_show_step pm_show_step an_show_step cd_show_step ct_show_step), sl_show_step⟩)
    (c_show_step : PySem.W.codeIn K cd_show_step "show_step" = true)
    (k_show_step : PySem.W.keepIn K (.ref f_show_step) = true)
    (a_show_way : PySem.W.nsIn K mainGlobals "show_way" = some (some (.ref f_show_way)))
    (l_show_way : K.lookup f_show_way = some ⟨oc_show_way, od_show_way, .func (PySem.W.fnOf "show_way" "show_way" (defArgs s_show_way) (defBody s_show_way) (defScope s_show_way) .none kV_show_way dc_show_way pm_show_way an_show_way cd_show_way ct_show_way), sl_show_way⟩)
    (c_show_way : PySem.W.codeIn K cd_show_way "show_way" = true)
    (k_show_way : PySem.W.keepIn K (.ref f_show_way) = true)
    (a_show_fraction : PySem.W.nsIn K mainGlobals "show_fraction" = some (some (.ref f_show_fraction)))
    (l_show_fraction : K.lookup f_show_fraction = some ⟨oc_show_fraction, od_show_fraction, .func (PySem.W.fnOf "show_fraction" "show_fraction" (defArgs s_show_fraction) (defBody s_show_fraction) (defScope s_show_fraction) .none kV_show_fraction dc_show_fraction pm_show_fraction an_show_fraction cd_show_fraction ct_show_fraction), sl_show_fraction⟩)
    (c_show_fraction : PySem.W.codeIn K cd_show_fraction "show_fraction" = true)
    (k_show_fraction : PySem.W.keepIn K (.ref f_show_fraction) = true)
    (a__law_alike : PySem.W.nsIn K mainGlobals "_law_alike" = some (some (.ref f__law_alike)))
    (l__law_alike : K.lookup f__law_alike = some ⟨oc__law_alike, od__law_alike, .func (PySem.W.fnOf "_law_alike" "_law_alike" (defArgs s__law_alike) (defBody s__law_alike) (defScope s__law_alike) .none kV__law_alike dc__law_alike pm__law_alike an__law_alike cd__law_alike ct__law_alike), sl__law_alike⟩)
    (c__law_alike : PySem.W.codeIn K cd__law_alike "_law_alike" = true)
    (k__law_alike : PySem.W.keepIn K (.ref f__law_alike) = true)
    (a_law : PySem.W.nsIn K mainGlobals "law" = some (some (.ref f_law)))
    (l_law : K.lookup f_law = some ⟨oc_law, od_law, .func (PySem.W.fnOf "law" "law" (defArgs s_law) (defBody s_law) (defScope s_law) .none kV_law dc_law pm_law an_law cd_law ct_law), sl_law⟩)
    (c_law : PySem.W.codeIn K cd_law "law" = true)
    (k_law : PySem.W.keepIn K (.ref f_law) = true)
    (z_abs : PySem.W.nsIn K mainGlobals "abs" = some none)
    (z_all : PySem.W.nsIn K mainGlobals "all" = some none)
    (z_bool : PySem.W.nsIn K mainGlobals "bool" = some none)
    (z_enumerate : PySem.W.nsIn K mainGlobals "enumerate" = some none)
    (z_int : PySem.W.nsIn K mainGlobals "int" = some none)
    (z_isinstance : PySem.W.nsIn K mainGlobals "isinstance" = some none)
    (z_iter : PySem.W.nsIn K mainGlobals "iter" = some none)
    (z_len : PySem.W.nsIn K mainGlobals "len" = some none)
    (z_list : PySem.W.nsIn K mainGlobals "list" = some none)
    (z_min : PySem.W.nsIn K mainGlobals "min" = some none)
    (z_range : PySem.W.nsIn K mainGlobals "range" = some none)
    (z_repr : PySem.W.nsIn K mainGlobals "repr" = some none)
    (z_str : PySem.W.nsIn K mainGlobals "str" = some none)
    (z_tuple : PySem.W.nsIn K mainGlobals "tuple" = some none)
    (k_MOST_HOURS : PySem.W.nsIn K mainGlobals "MOST_HOURS" = some (some (.int 48 t_MOST_HOURS)))
    (k_NONE : PySem.W.nsIn K mainGlobals "NONE" = some (some (.str "-" t_NONE))) :
    ∀ base : Heap, K.In base → base.Ns mainGlobals mg → OkP NoG P w K mg base 7 fa ["_law_script"] (fun vs H Q E => spLaw K vs H Q E) := by
  have e := hfa.symm.trans (PySem.W.mg_of X G a_law)
  cases e
  have T : Tx K mg ⟨c_Clock, c_Needs, c_Plan, f__law_bag, f__law_take, f__law_number, f__law_stays, f__law_one, f__law_some_way, f__law_common, f__law_some_fraction, f__law_text_of, f__law_way_text, f_show_limit, f_show_row, f_Plan___len__, f_Plan___iter__, f_show_plan, f_is_integer, f_is_count, f_are_counts, f_is_row, f_Plan___init__, f_Needs___len__, f_Needs___iter__, f_show_needs, f_Needs___init__, f_Clock_stays, f_show_clock, f_are_stays, f_need_order, f_width_of, f_Clock___init__, f_show_step, f_show_way, f_show_fraction, f__law_alike, fa⟩ := {
    g_Clock := PySem.W.mg_of X G a_Clock,
    cl_Clock := ⟨pg_Clock, hd_Clock, po_Clock, sa_Clock⟩,
    sf_Clock := sf_Clock,
    g_Needs := PySem.W.mg_of X G a_Needs,
    cl_Needs := ⟨pg_Needs, hd_Needs, po_Needs, sa_Needs⟩,
    sf_Needs := sf_Needs,
    g_Plan := PySem.W.mg_of X G a_Plan,
    cl_Plan := ⟨pg_Plan, hd_Plan, po_Plan, sa_Plan⟩,
    sf_Plan := sf_Plan,
    n_Clock_kept_stays := n_Clock_kept_stays,
    n_Clock_kept_widths := n_Clock_kept_widths,
    n_Needs_kept_row := n_Needs_kept_row,
    n_Plan_kept_begins := n_Plan_kept_begins,
    g__law_bag := PySem.W.mg_of X G a__law_bag,
    d__law_bag := ⟨_, fun_mk l__law_bag c__law_bag k__law_bag, (fun_mk (st := s__law_bag) l__law_bag c__law_bag k__law_bag).binds (ps := ["_law_script"]) fun _ _ _ _ _ _ us hl => match us, hl with | [_], _ => rfl⟩,
    g__law_take := PySem.W.mg_of X G a__law_take,
    d__law_take := ⟨_, fun_mk l__law_take c__law_take k__law_take, (fun_mk (st := s__law_take) l__law_take c__law_take k__law_take).binds (ps := ["_law_bag_here", "_law_upto"]) fun _ _ _ _ _ _ us hl => match us, hl with | [_, _], _ => rfl⟩,
    g__law_number := PySem.W.mg_of X G a__law_number,
    d__law_number := ⟨_, fun_mk l__law_number c__law_number k__law_number, (fun_mk (st := s__law_number) l__law_number c__law_number k__law_number).binds (ps := ["_law_bag_here"]) fun _ _ _ _ _ _ us hl => match us, hl with | [_], _ => rfl⟩,
    g__law_stays := PySem.W.mg_of X G a__law_stays,
    d__law_stays := ⟨_, fun_mk l__law_stays c__law_stays k__law_stays, (fun_mk (st := s__law_stays) l__law_stays c__law_stays k__law_stays).binds (ps := ["_law_bag_here", "_law_many"]) fun _ _ _ _ _ _ us hl => match us, hl with | [_, _], _ => rfl⟩,
    g__law_one := PySem.W.mg_of X G a__law_one,
    d__law_one := ⟨_, fun_mk l__law_one c__law_one k__law_one, (fun_mk (st := s__law_one) l__law_one c__law_one k__law_one).binds (ps := ["_law_bag_here", "_law_some"]) fun _ _ _ _ _ _ us hl => match us, hl with | [_, _], _ => rfl⟩,
    g__law_some_way := PySem.W.mg_of X G a__law_some_way,
    d__law_some_way := ⟨_, fun_mk l__law_some_way c__law_some_way k__law_some_way, (fun_mk (st := s__law_some_way) l__law_some_way c__law_some_way k__law_some_way).binds (ps := ["_law_bag_here"]) fun _ _ _ _ _ _ us hl => match us, hl with | [_], _ => rfl⟩,
    g__law_common := PySem.W.mg_of X G a__law_common,
    d__law_common := ⟨_, fun_mk l__law_common c__law_common k__law_common, (fun_mk (st := s__law_common) l__law_common c__law_common k__law_common).binds (ps := ["_law_one_here", "_law_other"]) fun _ _ _ _ _ _ us hl => match us, hl with | [_, _], _ => rfl⟩,
    g__law_some_fraction := PySem.W.mg_of X G a__law_some_fraction,
    d__law_some_fraction := ⟨_, fun_mk l__law_some_fraction c__law_some_fraction k__law_some_fraction, (fun_mk (st := s__law_some_fraction) l__law_some_fraction c__law_some_fraction k__law_some_fraction).binds (ps := ["_law_bag_here"]) fun _ _ _ _ _ _ us hl => match us, hl with | [_], _ => rfl⟩,
    g__law_text_of := PySem.W.mg_of X G a__law_text_of,
    d__law_text_of := ⟨_, fun_mk l__law_text_of c__law_text_of k__law_text_of, (fun_mk (st := s__law_text_of) l__law_text_of c__law_text_of k__law_text_of).binds (ps := ["_law_word", "_law_row"]) fun _ _ _ _ _ _ us hl => match us, hl with | [_, _], _ => rfl⟩,
    g__law_way_text := PySem.W.mg_of X G a__law_way_text,
    d__law_way_text := ⟨_, fun_mk l__law_way_text c__law_way_text k__law_way_text, (fun_mk (st := s__law_way_text) l__law_way_text c__law_way_text k__law_way_text).binds (ps := ["_law_way"]) fun _ _ _ _ _ _ us hl => match us, hl with | [_], _ => rfl⟩,
    g_show_limit := PySem.W.mg_of X G a_show_limit,
    d_show_limit := ⟨_, fun_mk l_show_limit c_show_limit k_show_limit, (fun_mk (st := s_show_limit) l_show_limit c_show_limit k_show_limit).binds (ps := ["limit"]) fun _ _ _ _ _ _ us hl => match us, hl with | [_], _ => rfl⟩,
    g_show_row := PySem.W.mg_of X G a_show_row,
    d_show_row := ⟨_, fun_mk l_show_row c_show_row k_show_row, (fun_mk (st := s_show_row) l_show_row c_show_row k_show_row).binds (ps := ["word", "row"]) fun _ _ _ _ _ _ us hl => match us, hl with | [_, _], _ => rfl⟩,
    m_Plan___len__ := ⟨a_Plan___len__, i_Plan___len__, k_Plan___len__⟩,
    d_Plan___len__ := ⟨_, fun_mk l_Plan___len__ c_Plan___len__ k_Plan___len__, (fun_mk (st := s_Plan___len__) l_Plan___len__ c_Plan___len__ k_Plan___len__).binds (ps := ["self"]) fun _ _ _ _ _ _ us hl => match us, hl with | [_], _ => rfl⟩,
    m_Plan___iter__ := ⟨a_Plan___iter__, i_Plan___iter__, k_Plan___iter__⟩,
    d_Plan___iter__ := ⟨_, fun_mk l_Plan___iter__ c_Plan___iter__ k_Plan___iter__, (fun_mk (st := s_Plan___iter__) l_Plan___iter__ c_Plan___iter__ k_Plan___iter__).binds (ps := ["self"]) fun _ _ _ _ _ _ us hl => match us, hl with | [_], _ => rfl⟩,
    g_show_plan := PySem.W.mg_of X G a_show_plan,
    d_show_plan := ⟨_, fun_mk l_show_plan c_show_plan k_show_plan, (fun_mk (st := s_show_plan) l_show_plan c_show_plan k_show_plan).binds (ps := ["plan"]) fun _ _ _ _ _ _ us hl => match us, hl with | [_], _ => rfl⟩,
    g_is_integer := PySem.W.mg_of X G a_is_integer,
    d_is_integer := ⟨_, fun_mk l_is_integer c_is_integer k_is_integer, (fun_mk (st := s_is_integer) l_is_integer c_is_integer k_is_integer).binds (ps := ["thing"]) fun _ _ _ _ _ _ us hl => match us, hl with | [_], _ => rfl⟩,
    g_is_count := PySem.W.mg_of X G a_is_count,
    d_is_count := ⟨_, fun_mk l_is_count c_is_count k_is_count, (fun_mk (st := s_is_count) l_is_count c_is_count k_is_count).binds (ps := ["thing"]) fun _ _ _ _ _ _ us hl => match us, hl with | [_], _ => rfl⟩,
    g_are_counts := PySem.W.mg_of X G a_are_counts,
    d_are_counts := ⟨_, fun_mk l_are_counts c_are_counts k_are_counts, (fun_mk (st := s_are_counts) l_are_counts c_are_counts k_are_counts).binds (ps := ["hours", "thing"]) fun _ _ _ _ _ _ us hl => match us, hl with | [_, _], _ => rfl⟩,
    g_is_row := PySem.W.mg_of X G a_is_row,
    d_is_row := ⟨_, fun_mk l_is_row c_is_row k_is_row, (fun_mk (st := s_is_row) l_is_row c_is_row k_is_row).binds (ps := ["thing"]) fun _ _ _ _ _ _ us hl => match us, hl with | [_], _ => rfl⟩,
    mk_Plan := ⟨mm_Plan, a_Plan___init__, i_Plan___init__, mc_Plan⟩,
    d_Plan___init__ := ⟨_, fun_mk l_Plan___init__ c_Plan___init__ k_Plan___init__, (fun_mk (st := s_Plan___init__) l_Plan___init__ c_Plan___init__ k_Plan___init__).binds (ps := ["self", "begins"]) fun _ _ _ _ _ _ us hl => match us, hl with | [_, _], _ => rfl⟩,
    m_Needs___len__ := ⟨a_Needs___len__, i_Needs___len__, k_Needs___len__⟩,
    d_Needs___len__ := ⟨_, fun_mk l_Needs___len__ c_Needs___len__ k_Needs___len__, (fun_mk (st := s_Needs___len__) l_Needs___len__ c_Needs___len__ k_Needs___len__).binds (ps := ["self"]) fun _ _ _ _ _ _ us hl => match us, hl with | [_], _ => rfl⟩,
    m_Needs___iter__ := ⟨a_Needs___iter__, i_Needs___iter__, k_Needs___iter__⟩,
    d_Needs___iter__ := ⟨_, fun_mk l_Needs___iter__ c_Needs___iter__ k_Needs___iter__, (fun_mk (st := s_Needs___iter__) l_Needs___iter__ c_Needs___iter__ k_Needs___iter__).binds (ps := ["self"]) fun _ _ _ _ _ _ us hl => match us, hl with | [_], _ => rfl⟩,
    g_show_needs := PySem.W.mg_of X G a_show_needs,
    d_show_needs := ⟨_, fun_mk l_show_needs c_show_needs k_show_needs, (fun_mk (st := s_show_needs) l_show_needs c_show_needs k_show_needs).binds (ps := ["needs"]) fun _ _ _ _ _ _ us hl => match us, hl with | [_], _ => rfl⟩,
    mk_Needs := ⟨mm_Needs, a_Needs___init__, i_Needs___init__, mc_Needs⟩,
    d_Needs___init__ := ⟨_, fun_mk l_Needs___init__ c_Needs___init__ k_Needs___init__, (fun_mk (st := s_Needs___init__) l_Needs___init__ c_Needs___init__ k_Needs___init__).binds (ps := ["self", "row"]) fun _ _ _ _ _ _ us hl => match us, hl with | [_, _], _ => rfl⟩,
    m_Clock_stays := ⟨a_Clock_stays, i_Clock_stays, k_Clock_stays⟩,
    d_Clock_stays := ⟨_, fun_mk l_Clock_stays c_Clock_stays k_Clock_stays, (fun_mk (st := s_Clock_stays) l_Clock_stays c_Clock_stays k_Clock_stays).binds (ps := ["self"]) fun _ _ _ _ _ _ us hl => match us, hl with | [_], _ => rfl⟩,
    g_show_clock := PySem.W.mg_of X G a_show_clock,
    d_show_clock := ⟨_, fun_mk l_show_clock c_show_clock k_show_clock, (fun_mk (st := s_show_clock) l_show_clock c_show_clock k_show_clock).binds (ps := ["clock"]) fun _ _ _ _ _ _ us hl => match us, hl with | [_], _ => rfl⟩,
    g_are_stays := PySem.W.mg_of X G a_are_stays,
    d_are_stays := ⟨_, fun_mk l_are_stays c_are_stays k_are_stays, (fun_mk (st := s_are_stays) l_are_stays c_are_stays k_are_stays).binds (ps := ["thing"]) fun _ _ _ _ _ _ us hl => match us, hl with | [_], _ => rfl⟩,
    g_need_order := PySem.W.mg_of X G a_need_order,
    d_need_order := ⟨_, fun_mk l_need_order c_need_order k_need_order, (fun_mk (st := s_need_order) l_need_order c_need_order k_need_order).binds (ps := ["stays"]) fun _ _ _ _ _ _ us hl => match us, hl with | [_], _ => rfl⟩,
    g_width_of := PySem.W.mg_of X G a_width_of,
    d_width_of := ⟨_, fun_mk l_width_of c_width_of k_width_of, (fun_mk (st := s_width_of) l_width_of c_width_of k_width_of).binds (ps := ["stays", "hour"]) fun _ _ _ _ _ _ us hl => match us, hl with | [_, _], _ => rfl⟩,
    mk_Clock := ⟨mm_Clock, a_Clock___init__, i_Clock___init__, mc_Clock⟩,
    d_Clock___init__ := ⟨_, fun_mk l_Clock___init__ c_Clock___init__ k_Clock___init__, (fun_mk (st := s_Clock___init__) l_Clock___init__ c_Clock___init__ k_Clock___init__).binds (ps := ["self", "stays"]) fun _ _ _ _ _ _ us hl => match us, hl with | [_, _], _ => rfl⟩,
    g_show_step := PySem.W.mg_of X G a_show_step,
    d_show_step := ⟨_, fun_mk l_show_step c_show_step k_show_step, (fun_mk (st := s_show_step) l_show_step c_show_step k_show_step).binds (ps := ["step"]) fun _ _ _ _ _ _ us hl => match us, hl with | [_], _ => rfl⟩,
    g_show_way := PySem.W.mg_of X G a_show_way,
    d_show_way := ⟨_, fun_mk l_show_way c_show_way k_show_way, (fun_mk (st := s_show_way) l_show_way c_show_way k_show_way).binds (ps := ["way"]) fun _ _ _ _ _ _ us hl => match us, hl with | [_], _ => rfl⟩,
    g_show_fraction := PySem.W.mg_of X G a_show_fraction,
    d_show_fraction := ⟨_, fun_mk l_show_fraction c_show_fraction k_show_fraction, (fun_mk (st := s_show_fraction) l_show_fraction c_show_fraction k_show_fraction).binds (ps := ["fraction"]) fun _ _ _ _ _ _ us hl => match us, hl with | [_], _ => rfl⟩,
    g__law_alike := PySem.W.mg_of X G a__law_alike,
    d__law_alike := ⟨_, fun_mk l__law_alike c__law_alike k__law_alike, (fun_mk (st := s__law_alike) l__law_alike c__law_alike k__law_alike).binds (ps := ["_law_found", "_law_due"]) fun _ _ _ _ _ _ us hl => match us, hl with | [_, _], _ => rfl⟩,
    d_law := ⟨_, fun_mk l_law c_law k_law, (fun_mk (st := s_law) l_law c_law k_law).binds (ps := ["_law_script"]) fun _ _ _ _ _ _ us hl => match us, hl with | [_], _ => rfl⟩,
    z_abs := PySem.W.mg_none_of X G z_abs,
    z_all := PySem.W.mg_none_of X G z_all,
    z_bool := PySem.W.mg_none_of X G z_bool,
    z_enumerate := PySem.W.mg_none_of X G z_enumerate,
    z_int := PySem.W.mg_none_of X G z_int,
    z_isinstance := PySem.W.mg_none_of X G z_isinstance,
    z_iter := PySem.W.mg_none_of X G z_iter,
    z_len := PySem.W.mg_none_of X G z_len,
    z_list := PySem.W.mg_none_of X G z_list,
    z_min := PySem.W.mg_none_of X G z_min,
    z_range := PySem.W.mg_none_of X G z_range,
    z_repr := PySem.W.mg_none_of X G z_repr,
    z_str := PySem.W.mg_none_of X G z_str,
    z_tuple := PySem.W.mg_none_of X G z_tuple,
    k_MOST_HOURS := ⟨_, PySem.W.mg_of X G k_MOST_HOURS⟩,
    k_NONE := ⟨_, PySem.W.mg_of X G k_NONE⟩ }
  intro base _ _
  exact ok_law (d := ⟨c_Clock, c_Needs, c_Plan, f__law_bag, f__law_take, f__law_number, f__law_stays, f__law_one, f__law_some_way, f__law_common, f__law_some_fraction, f__law_text_of, f__law_way_text, f_show_limit, f_show_row, f_Plan___len__, f_Plan___iter__, f_show_plan, f_is_integer, f_is_count, f_are_counts, f_is_row, f_Plan___init__, f_Needs___len__, f_Needs___iter__, f_show_needs, f_Needs___init__, f_Clock_stays, f_show_clock, f_are_stays, f_need_order, f_width_of, f_Clock___init__, f_show_step, f_show_way, f_show_fraction, f__law_alike, fa⟩) T
theorem walk {l : PySem.W.OpenLaw} {q : Program} {loose : List Str} {XP : (Str → Option Value) → Heap → Prop} {YP : World → Heap → Prop} {dr : DefRec} {K : Params → PySem.W.Frag} (hn : l.most = some 63) (hdf : dr.params.defaults = [])
    (hY : ∀ (w : World) (h : Heap), YP w h → (K w.params).In h)
    (F : ∀ (w : World) (mg : Str → Option Value) (fa : Addr) (h : Heap), (K w.params).In h → h.Ns mainGlobals mg → mg dr.name = some (.ref fa) → ∀ base : Heap, (K w.params).In base → base.Ns mainGlobals mg → OkP NoG l.prog w (K w.params) mg base 7 fa ["_law_script"] (fun vs H Q E => spLaw (K w.params) vs H Q E)) :
    PySem.W.WalkO q loose XP YP l.row.toRowW dr [] (fun f vs => PySem.call f vs) :=
  walkG (n := 63) (k := 7) (x := "_law_script") (sp := fun w => spLaw (K w.params)) hn (by decide) hdf ⟨rfl, by decide, by decide⟩ hY F fun _ _ a ns hl hS => ⟨a, ns, rfl, hS, hl, fun _ => rfl⟩
end Pf
open PySem PySem.W PyProof.Rows in
set_option maxRecDepth 100000 in
set_option maxHeartbeats 0 in
theorem PySem.Challenge.cw_hourneeds_k90_texts_told_holds : PySem.Challenge.rw_hourneeds_k90_texts_told.Holds := by
  w_on; o_law; k_head; (case hw => w_witness2)
  k_fill
  refine Pf.walk (l := PySem.Challenge.rw_hourneeds_k90_texts_told) rfl rfl (fun w h Y => PySem.W.kIn_of Y) ?F
  case F =>
    intro w mg fa h KX G hmg
    refine' Pf.all_mk KX G hmg ?a_Clock ?pg_Clock ?hd_Clock ?po_Clock ?sa_Clock ?sf_Clock ?a_Needs ?pg_Needs ?hd_Needs ?po_Needs ?sa_Needs ?sf_Needs ?a_Plan ?pg_Plan ?hd_Plan ?po_Plan ?sa_Plan ?sf_Plan ?n_Clock_kept_stays ?n_Clock_kept_widths ?n_Needs_kept_row ?n_Plan_kept_begins ?a__law_bag ?l__law_bag ?c__law_bag ?k__law_bag ?a__law_take ?l__law_take ?c__law_take ?k__law_take ?a__law_number ?l__law_number ?c__law_number ?k__law_number ?a__law_stays ?l__law_stays ?c__law_stays ?k__law_stays ?a__law_one ?l__law_one ?c__law_one ?k__law_one ?a__law_some_way ?l__law_some_way ?c__law_some_way ?k__law_some_way ?a__law_common ?l__law_common ?c__law_common ?k__law_common ?a__law_some_fraction ?l__law_some_fraction ?c__law_some_fraction ?k__law_some_fraction ?a__law_text_of ?l__law_text_of ?c__law_text_of ?k__law_text_of ?a__law_way_text ?l__law_way_text ?c__law_way_text ?k__law_way_text ?a_show_limit ?l_show_limit ?c_show_limit ?k_show_limit ?a_show_row ?l_show_row ?c_show_row ?k_show_row ?a_Plan___len__ ?i_Plan___len__ ?l_Plan___len__ ?c_Plan___len__ ?k_Plan___len__ ?a_Plan___iter__ ?i_Plan___iter__ ?l_Plan___iter__ ?c_Plan___iter__ ?k_Plan___iter__ ?a_show_plan ?l_show_plan ?c_show_plan ?k_show_plan ?a_is_integer ?l_is_integer ?c_is_integer ?k_is_integer ?a_is_count ?l_is_count ?c_is_count ?k_is_count ?a_are_counts ?l_are_counts ?c_are_counts ?k_are_counts ?a_is_row ?l_is_row ?c_is_row ?k_is_row ?a_Plan___init__ ?i_Plan___init__ ?mm_Plan ?mc_Plan ?l_Plan___init__ ?c_Plan___init__ ?k_Plan___init__ ?a_Needs___len__ ?i_Needs___len__ ?l_Needs___len__ ?c_Needs___len__ ?k_Needs___len__ ?a_Needs___iter__ ?i_Needs___iter__ ?l_Needs___iter__ ?c_Needs___iter__ ?k_Needs___iter__ ?a_show_needs ?l_show_needs ?c_show_needs ?k_show_needs ?a_Needs___init__ ?i_Needs___init__ ?mm_Needs ?mc_Needs ?l_Needs___init__ ?c_Needs___init__ ?k_Needs___init__ ?a_Clock_stays ?i_Clock_stays ?l_Clock_stays ?c_Clock_stays ?k_Clock_stays ?a_show_clock ?l_show_clock ?c_show_clock ?k_show_clock ?a_are_stays ?l_are_stays ?c_are_stays ?k_are_stays ?a_need_order ?l_need_order ?c_need_order ?k_need_order ?a_width_of ?l_width_of ?c_width_of ?k_width_of ?a_Clock___init__ ?i_Clock___init__ ?mm_Clock ?mc_Clock ?l_Clock___init__ ?c_Clock___init__ ?k_Clock___init__ ?a_show_step ?l_show_step ?c_show_step ?k_show_step ?a_show_way ?l_show_way ?c_show_way ?k_show_way ?a_show_fraction ?l_show_fraction ?c_show_fraction ?k_show_fraction ?a__law_alike ?l__law_alike ?c__law_alike ?k__law_alike ?a_law ?l_law ?c_law ?k_law ?z_abs ?z_all ?z_bool ?z_enumerate ?z_int ?z_isinstance ?z_iter ?z_len ?z_list ?z_min ?z_range ?z_repr ?z_str ?z_tuple ?k_MOST_HOURS ?k_NONE
    (case a_Clock => k_is)
    (case pg_Clock => k_is)
    (case hd_Clock => k_is)
    (case po_Clock => k_is)
    (case sa_Clock => k_is)
    (case sf_Clock => k_is)
    (case a_Needs => k_is)
    (case pg_Needs => k_is)
    (case hd_Needs => k_is)
    (case po_Needs => k_is)
    (case sa_Needs => k_is)
    (case sf_Needs => k_is)
    (case a_Plan => k_is)
    (case pg_Plan => k_is)
    (case hd_Plan => k_is)
    (case po_Plan => k_is)
    (case sa_Plan => k_is)
    (case sf_Plan => k_is)
    (case n_Clock_kept_stays => k_is)
    (case n_Clock_kept_widths => k_is)
    (case n_Needs_kept_row => k_is)
    (case n_Plan_kept_begins => k_is)
    (case a__law_bag => k_is)
    (case l__law_bag => k_is)
    (case c__law_bag => k_is)
    (case k__law_bag => k_is)
    (case a__law_take => k_is)
    (case l__law_take => k_is)
    (case c__law_take => k_is)
    (case k__law_take => k_is)
    (case a__law_number => k_is)
    (case l__law_number => k_is)
    (case c__law_number => k_is)
    (case k__law_number => k_is)
    (case a__law_stays => k_is)
    (case l__law_stays => k_is)
    (case c__law_stays => k_is)
    (case k__law_stays => k_is)
    (case a__law_one => k_is)
    (case l__law_one => k_is)
    (case c__law_one => k_is)
    (case k__law_one => k_is)
    (case a__law_some_way => k_is)
    (case l__law_some_way => k_is)
    (case c__law_some_way => k_is)
    (case k__law_some_way => k_is)
    (case a__law_common => k_is)
    (case l__law_common => k_is)
    (case c__law_common => k_is)
    (case k__law_common => k_is)
    (case a__law_some_fraction => k_is)
    (case l__law_some_fraction => k_is)
    (case c__law_some_fraction => k_is)
    (case k__law_some_fraction => k_is)
    (case a__law_text_of => k_is)
    (case l__law_text_of => k_is)
    (case c__law_text_of => k_is)
    (case k__law_text_of => k_is)
    (case a__law_way_text => k_is)
    (case l__law_way_text => k_is)
    (case c__law_way_text => k_is)
    (case k__law_way_text => k_is)
    (case a_show_limit => k_is)
    (case l_show_limit => k_is)
    (case c_show_limit => k_is)
    (case k_show_limit => k_is)
    (case a_show_row => k_is)
    (case l_show_row => k_is)
    (case c_show_row => k_is)
    (case k_show_row => k_is)
    (case a_Plan___len__ => k_is)
    (case i_Plan___len__ => k_is)
    (case l_Plan___len__ => k_is)
    (case c_Plan___len__ => k_is)
    (case k_Plan___len__ => k_is)
    (case a_Plan___iter__ => k_is)
    (case i_Plan___iter__ => k_is)
    (case l_Plan___iter__ => k_is)
    (case c_Plan___iter__ => k_is)
    (case k_Plan___iter__ => k_is)
    (case a_show_plan => k_is)
    (case l_show_plan => k_is)
    (case c_show_plan => k_is)
    (case k_show_plan => k_is)
    (case a_is_integer => k_is)
    (case l_is_integer => k_is)
    (case c_is_integer => k_is)
    (case k_is_integer => k_is)
    (case a_is_count => k_is)
    (case l_is_count => k_is)
    (case c_is_count => k_is)
    (case k_is_count => k_is)
    (case a_are_counts => k_is)
    (case l_are_counts => k_is)
    (case c_are_counts => k_is)
    (case k_are_counts => k_is)
    (case a_is_row => k_is)
    (case l_is_row => k_is)
    (case c_is_row => k_is)
    (case k_is_row => k_is)
    (case a_Plan___init__ => k_is)
    (case i_Plan___init__ => k_is)
    (case mm_Plan => k_is)
    (case mc_Plan => k_is)
    (case l_Plan___init__ => k_is)
    (case c_Plan___init__ => k_is)
    (case k_Plan___init__ => k_is)
    (case a_Needs___len__ => k_is)
    (case i_Needs___len__ => k_is)
    (case l_Needs___len__ => k_is)
    (case c_Needs___len__ => k_is)
    (case k_Needs___len__ => k_is)
    (case a_Needs___iter__ => k_is)
    (case i_Needs___iter__ => k_is)
    (case l_Needs___iter__ => k_is)
    (case c_Needs___iter__ => k_is)
    (case k_Needs___iter__ => k_is)
    (case a_show_needs => k_is)
    (case l_show_needs => k_is)
    (case c_show_needs => k_is)
    (case k_show_needs => k_is)
    (case a_Needs___init__ => k_is)
    (case i_Needs___init__ => k_is)
    (case mm_Needs => k_is)
    (case mc_Needs => k_is)
    (case l_Needs___init__ => k_is)
    (case c_Needs___init__ => k_is)
    (case k_Needs___init__ => k_is)
    (case a_Clock_stays => k_is)
    (case i_Clock_stays => k_is)
    (case l_Clock_stays => k_is)
    (case c_Clock_stays => k_is)
    (case k_Clock_stays => k_is)
    (case a_show_clock => k_is)
    (case l_show_clock => k_is)
    (case c_show_clock => k_is)
    (case k_show_clock => k_is)
    (case a_are_stays => k_is)
    (case l_are_stays => k_is)
    (case c_are_stays => k_is)
    (case k_are_stays => k_is)
    (case a_need_order => k_is)
    (case l_need_order => k_is)
    (case c_need_order => k_is)
    (case k_need_order => k_is)
    (case a_width_of => k_is)
    (case l_width_of => k_is)
    (case c_width_of => k_is)
    (case k_width_of => k_is)
    (case a_Clock___init__ => k_is)
    (case i_Clock___init__ => k_is)
    (case mm_Clock => k_is)
    (case mc_Clock => k_is)
    (case l_Clock___init__ => k_is)
    (case c_Clock___init__ => k_is)
    (case k_Clock___init__ => k_is)
    (case a_show_step => k_is)
    (case l_show_step => k_is)
    (case c_show_step => k_is)
    (case k_show_step => k_is)
    (case a_show_way => k_is)
    (case l_show_way => k_is)
    (case c_show_way => k_is)
    (case k_show_way => k_is)
    (case a_show_fraction => k_is)
    (case l_show_fraction => k_is)
    (case c_show_fraction => k_is)
    (case k_show_fraction => k_is)
    (case a__law_alike => k_is)
    (case l__law_alike => k_is)
    (case c__law_alike => k_is)
    (case k__law_alike => k_is)
    (case a_law => k_is)
    (case l_law => k_is)
    (case c_law => k_is)
    (case k_law => k_is)
    (case z_abs => k_is)
    (case z_all => k_is)
    (case z_bool => k_is)
    (case z_enumerate => k_is)
    (case z_int => k_is)
    (case z_isinstance => k_is)
    (case z_iter => k_is)
    (case z_len => k_is)
    (case z_list => k_is)
    (case z_min => k_is)
    (case z_range => k_is)
    (case z_repr => k_is)
    (case z_str => k_is)
    (case z_tuple => k_is)
    (case k_MOST_HOURS => k_is)
    (case k_NONE => k_is)
#print axioms PySem.Challenge.cw_hourneeds_k90_texts_told_holds
