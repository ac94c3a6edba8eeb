import PyProof.Rows.All
import Wide.All
import OpenK.AllK
import Wide.FinOn
import HandS.ForMost
import HandS.ForExc
import HandS.Evl
import HandS.Walk
import HandS.Property
import HandS.IsInst
import HandS.Style
import HandS.More
import HandS.SetFor
import HandS.Zip
import HandS.TupAny
import HandS.Wide
import HandS.Deep
import KE.KOpsOwn
import KE.KDictZip
import KE.RegKIsAll
import KE.GoesEnum
import KE.Datum
import KE.IntTextLaws
import PyProof.StrBlock2
import KE.GoesMore
import KE.KItemsList
import HandS.ListItems
import KE.KTupSum
import OpenK.KOps
import HandS.OwnIter
import HandS.IterVal
import PyProof.ReprRoads
import PyProof.ReprLen
import PyProof.CallFns
import HandS.Conv
import HandS.ClsMeth
import HandS.TryOnly
import HandS.Text
import HandS.MakeKwOnly
import HandS.TupMul
import HandS.Dict
import PyProof.P3Eq
import HandS.HeadHook2
import HandS.Head2
import HandS.HeadEnd
import PySem.Challenge.RW_hourneeds_k45_ways_of_rings
set_option Elab.async false
set_option linter.all false
set_option maxRecDepth 100000
set_option maxHeartbeats 2000000
/-! Rules of our own over the hand layer: items of lists by +=, operators, comparisons and subscripts of own classes. -/
namespace Hn
open PySem PySem.Spec PyProof.Rows L2

/-- xs[i] by getItem (for xs[i] += e) -/
theorem get_list {X : Cx} : PGet X (rIxL X.K) := by
  intro pins s σ H x y v u Q I rx ry h
  obtain ⟨p, xs, i, z, rfl, rfl, hq, he, q⟩ := h
  cases rx
  obtain ⟨t, rfl⟩ := ry
  obtain ⟨its, r, pl, hz⟩ := I.list hq
  obtain ⟨j, h1, h2, h3, h4, h5⟩ := atI_get he
  obtain ⟨w, ew, rw'⟩ := r.get h2
  have hl := r.length
  have hn := line63
  have fin : EP X pins σ Q w s := ⟨z, H, I, rw', q⟩
  by_cases h0 : 0 ≤ i
  · have hj : i.toNat = j := by
      rw [seqIndex_of h0 h5] at h1
      exact Option.some.inj h1
    exact wpAny_getItem_list pl.isList h0 (by omega) (by rw [hj]; simpa using ew) fin
  · have hj : (i + (its.toArray.size : Int)).toNat = j := by
      rw [seqIndex_neg (by omega) h4] at h1
      rw [List.size_toArray, ← hl]
      exact Option.some.inj h1
    exact wpAny_getItem_list_neg pl.isList (by omega) (by rw [List.size_toArray] <;> omega) (by omega) (by rw [hj]; simpa using ew) fin

section
variable {X : Cx} {CX : CXT} {k : Nat} {f C : Addr} {fd : FuncData} {ps : List Str} {sp : Sp} {E : XK}

/-- a promise whose answers are never NotImplemented: nothing to ask, values V have none -/
theorem back_ne {pins : List (Addr × Obj)} {σ : L2.St} {Q : VK} {v : Value} {s' : Shared} (h : EP X pins σ Q v s') : PySem.W.CmpBack (EP X pins σ Q) v s' := by
  obtain ⟨z, H', I', r, q⟩ := id h
  cases z with
  | non => cases r; exact h
  | bl b => cases r; exact h
  | int i => obtain ⟨t, rfl⟩ := r; exact h
  | str i => obtain ⟨t, rfl⟩ := r; exact h
  | byt i => obtain ⟨t, rfl⟩ := r; exact h
  | flt i => obtain ⟨t, rfl⟩ := r; exact h
  | ref a => cases r; exact h
  | ty n => cases r; exact h

/-- x op y by the class's own method, both of one class -/
def rOwn (C : Addr) (sp : Sp) (E : XK) : R2 := fun x y H Q => ∃ a b dx dy fs gs, x = .ref a ∧ y = .ref b ∧ H a = some (.ins C dx fs) ∧ H b = some (.ins C dy gs) ∧ sp [x, y] H Q E
theorem op_own {op : Operator} (F : FnOk X.prog X.w X.K X.mg X.base CX k f fd ps sp) (hr : Room k X.A) (hb : Binds X.K fd ps []) (hx : Passes CX X E)
    (hc : PySem.W.selfFirst X.K C = true) (hs : PySem.W.findIn X.K (.ref C) (PySem.dunder op.info.2) = some (some (.ref f))) (hf : PySem.W.isFn X.K (.ref f) = true) :
    OpR X (binaryOp op) (rOwn C sp E) := by
  intro pins s σ H x y v u Q I rx ry h
  obtain ⟨a, b, dx, dy, fs, gs, rfl, rfl, ha, hbb, q⟩ := h
  cases rx
  cases ry
  obtain ⟨mA, J, _⟩ := ins_get I.hok ha
  obtain ⟨mB, J', _⟩ := ins_get I.hok hbb
  obtain ⟨od, J, _⟩ := J.look
  obtain ⟨od', J', _⟩ := J'.look
  obtain ⟨m, hF⟩ := I.fr
  refine PySem.W.binop_K hF I.ok.mod.kin J J'.type hc hs hf ?_
  exact wpAny_mono (run_fn (us := [.ref a, .ref b]) (vs := [.ref a, .ref b]) F hr hb .nil hx I (.cons rfl (.cons rfl .nil)) q) (fun v s' hv => back_ne hv) fun _ _ e => e

/-- x op n, n an int -/
def rOwnI (C : Addr) (sp : Sp) (E : XK) : R2 := fun x y H Q => ∃ a i dx fs, x = .ref a ∧ y = .int i ∧ H a = some (.ins C dx fs) ∧ sp [x, y] H Q E
theorem op_ownI {op : Operator} {rc fo ro : Option Value} (F : FnOk X.prog X.w X.K X.mg X.base CX k f fd ps sp) (hr : Room k X.A) (hb : Binds X.K fd ps []) (hx : Passes CX X E)
    (hc : PySem.W.selfFirst X.K C = true) (hs : PySem.W.findIn X.K (.ref C) (PySem.dunder op.info.2) = some (some (.ref f))) (hf : PySem.W.isFn X.K (.ref f) = true)
    (hrc : PySem.W.findIn X.K (.ref C) (dunderR op.info.2) = some rc) (hp : rc = none ∨ ∃ g : Addr, rc = some (.ref g))
    (h1 : PySem.W.findIn X.K (.type "int") (PySem.dunder op.info.2) = some fo) (h2 : PySem.W.findIn X.K (.type "int") (dunderR op.info.2) = some ro) (hsub : PySem.W.subIn X.K (.type "int") (.ref C) = some false) :
    OpR X (binaryOp op) (rOwnI C sp E) := by
  intro pins s σ H x y v u Q I rx ry h
  obtain ⟨a, i, dx, fs, rfl, rfl, ha, q⟩ := h
  cases rx
  obtain ⟨t, rfl⟩ := ry
  obtain ⟨mA, J, _⟩ := ins_get I.hok ha
  obtain ⟨od, J, _⟩ := J.look
  obtain ⟨m, hF⟩ := I.fr
  refine PySem.W.ksp_binT (b := .int i t) (T := "int") hF I.ok.mod.kin J rfl hc hs hf hrc hp h1 h2 hsub ?_
  exact wpAny_mono (run_fn (us := [.ref a, .int i t]) (vs := [.ref a, .int i]) F hr hb .nil hx I (.cons rfl (.cons ⟨t, rfl⟩ .nil)) q) (fun v s' hv => back_ne hv) fun _ _ e => e

/-- x == y by the class's own method -/
theorem op_eqOwn (F : FnOk X.prog X.w X.K X.mg X.base CX k f fd ps sp) (hr : Room k X.A) (hb : Binds X.K fd ps []) (hx : Passes CX X E)
    (hs : PySem.W.findIn X.K (.ref C) "__eq__" = some (some (.ref f))) (hf : PySem.W.isFn X.K (.ref f) = true) :
    OpR X (compareOp .Eq) (rOwn C sp E) := by
  intro pins s σ H x y v u Q I rx ry h
  obtain ⟨a, b, dx, dy, fs, gs, rfl, rfl, ha, hbb, q⟩ := h
  cases rx
  cases ry
  obtain ⟨mA, J, _⟩ := ins_get I.hok ha
  obtain ⟨mB, J', _⟩ := ins_get I.hok hbb
  obtain ⟨od, J, _⟩ := J.look
  obtain ⟨od', J', _⟩ := J'.look
  obtain ⟨m, hF⟩ := I.fr
  refine PySem.W.cmp_K (op := .Eq) (tb := .ref C) hr.units0 hF I.ok.mod.kin J J'.type (by simp [PySem.W.notFirst]) hs hf ?_
  exact wpAny_mono (run_fn (us := [.ref a, .ref b]) (vs := [.ref a, .ref b]) F hr hb .nil hx I (.cons rfl (.cons rfl .nil)) q) (fun v s' hv => back_ne hv) fun _ _ e => e

/-- the callee runs, called by a built-in -/
theorem run_fn1 {pins : List (Addr × Obj)} {σ : L2.St} {H : Hp} {s : Shared} {Q : VK} {us : List Value} {vs : List V} (F : FnOk X.prog X.w X.K X.mg X.base CX k f fd ps sp) (hr : Room (k + 1) X.A) (hb : Binds X.K fd ps []) (hx : Passes CX X E)
    (I : Inv X pins σ H s) (r : Vals vs us) (h : sp vs H Q E) : wpAny (model X.prog X.w) X.A.in1 (call (.ref f) us) (EP X pins σ Q) X.xe s := by
  have hl : (us ++ []).length = ps.length := by
    rw [List.append_nil, ← r.length]
    exact F.len _ _ _ _ h
  have hb' := hb s us I.kIn hl
  rw [List.append_nil] at hb'
  refine wpAny_call (codeAny_mono (F.run X.A.in1 X.stack s H ⟨us, []⟩ us vs Q E hr.in1 I.env0.in1 hb' r h) fun r s' hq => ?_)
  cases r with
  | error e => exact hx pins σ H s e s' I hq
  | ok fl =>
    cases fl with
    | ret u => exact I.after hq
    | next => exact False.elim hq
    | brk => exact False.elim hq
    | cont => exact False.elim hq

section
open PySem.W
variable {prog : Program} {w : World} {A : Around} {E' : Value → Shared → Prop} {s : Shared} {K : Frag} {x L : Addr} {h0 : Heap} {m : Str → Option Value} {ox : Obj} {od : Option Obj} {b : Value}
theorem ne_slot : Slot "object" "__ne__" "object.__ne__" :=
  .of (owner := "object") (n := "__ne__") (by rw [typeLookup_type, builtinLookup_eq_fast]; kernel_rfl) (by decide +kernel) (by decide +kernel) (by decide +kernel)
    (by first | exact .inl (by decide +kernel) | exact .inr (by decide +kernel)) (by rw [isSubtype_type]; kernel_rfl)
/-- object.__ne__ asks the own __eq__ -/
theorem objNe_K {Q : Fin → Shared → Prop} (hu : A.units < cLine) (X : K.In s.heap) (I : InstAt s.heap x ox C od) (hs : findIn K (.ref C) "__eq__" = some (some (.ref f))) (hf : isFn K (.ref f) = true)
    (h : wpAny (model prog w) A (call (.ref f) [.ref x, b]) (fun v s' => ∃ r, v = .bool r ∧ Q (.done (.ret (.bool (!r)))) s') E' s) :
    wpAny (model prog w) A (Builtin.«object.__ne__» ⟨[.ref x, b], []⟩) Q E' s := by
  have one : wpAny (model prog w) A (callSpecialIfBound? (.ref x) (Str.ofString "__eq__") [b]) (fun v s' => ∃ r, v = some (.bool r) ∧ Q (.done (.ret (.bool (!r)))) s') E' s :=
    ifBound_K X I hs hf (wpAny_mono h (fun v s' hv => by obtain ⟨r, rfl, q⟩ := hv; exact ⟨r, rfl, q⟩) fun _ _ e => e)
  unfold Builtin.«object.__ne__»
  obtain ⟨hh, g, d, t, os⟩ := s
  repeat (first
    | with_reducible refine wpAny_cRoomFor hu ?_
    | (refine wpAny_bind (m := callSpecialIfBound? (.ref x) (Str.ofString "__eq__") [b]) (wpAny_mono one (fun v s' hv => ?_) fun _ _ e => e); obtain ⟨r, rfl, hq⟩ := hv)
    | exact hq
    | exact wpAny_pure hq
    | (refine wpAny_bind (m := truthy (.bool _)) (wpAny_truthy_bool ?_))
    | wp_step)
/-- x's type is below object -/
theorem isObj_K {M : Model} (X : K.In s.heap) (I : InstAt s.heap x ox C od) (hm : mroIn K C (.type "object") = some true) : Looks M s.heap (isInstance (.ref x) (.type "object")) true :=
  I.type.andThen (looks_mroIn X hm)
theorem tryNe_K {Q : Option Value → Shared → Prop} (hu : A.units + 1 < cLine) (X : K.In s.heap) (I : InstAt s.heap x ox C od) (hn : findIn K (.ref C) "__ne__" = some (some (.builtin "object.__ne__"))) (hm : mroIn K C (.type "object") = some true)
    (hs : findIn K (.ref C) "__eq__" = some (some (.ref f))) (hf : isFn K (.ref f) = true)
    (h : wpAny (model prog w) A.in1 (call (.ref f) [.ref x, b]) (fun v s' => ∃ r, v = .bool r ∧ Q (some (.bool (!r))) s') E' s) :
    wpAny (model prog w) A (tryCompare (.ref x) "__ne__" b) Q E' s := by
  unfold tryCompare
  simp only [callSpecialIfBound?, bindSpecialIfBound?]
  refine wpAny_bind (wpAny_holding (wpAny_bind (wpAny_bind (wpAny_bind (I.type.here ((looks_findIn X hn).here ?_))))))
  simp only [ne_slot.bind]
  refine wpAny_bind (wpAny_askSetting (wpAny_ite ?_))
  have fin : wpAny (model prog w) A (call (.builtin "object.__ne__") ([.ref x] ++ [b])) (fun v s' => ∃ r, v = .bool r ∧ Q (some v) s') E' s := by
    refine wpAny_call (codeAny_call_builtin ne_slot.plain F.cmpEntry_ne (check_slot F.cmpKind_ne F.cmpSplit_ne (isObj_K X I hm) (F.cmpArgs_ne _ _) ?_))
    refine objNe_K (A := A.in1) hu X I hs hf (wpAny_mono h (fun v s' hv => ?_) fun _ _ e => e)
    obtain ⟨r, rfl, q⟩ := hv
    exact ⟨r, rfl, ⟨!r, rfl, q⟩⟩
  have fin2 : wpAny (model prog w) A (call (.builtin "object.__ne__") ([.ref x] ++ [b]) >>= fun v => pure (some v)) (fun v s' => ∃ r, v = some (.bool r) ∧ Q v s') E' s :=
    wpAny_bind (wpAny_mono fin (fun v s' hv => wpAny_pure (by obtain ⟨r, rfl, q⟩ := hv; exact ⟨r, rfl, q⟩)) fun _ _ e => e)
  have fin3 : wpAny (model prog w) A (call (.builtin "object.__ne__") ([.ref x] ++ [b]) >>= fun v => pure (some v)) (fun v s' => wpAny (model prog w) A (match v with
    | some .notImplemented => pure none | none => pure none | some v => pure (some v)) Q E' s') E' s :=
    wpAny_mono fin2 (fun v s' hv => by obtain ⟨r, rfl, q⟩ := hv; exact wpAny_pure q) fun _ _ e => e
  split
  · exact wpAny_bind (wpAny_pure (wpAny_pure fin3))
  · exact wpAny_tryCatch (wpAny_bind (wpAny_pure (wpAny_pure fin3)))
theorem ne_K {Q : Value → Shared → Prop} (hu : A.units + 1 < cLine) (X : K.In s.heap) (I : InstAt s.heap x ox C od) (hb : Looks (model prog w) s.heap (typeOf b) (.ref C)) (hn : findIn K (.ref C) "__ne__" = some (some (.builtin "object.__ne__")))
    (hm : mroIn K C (.type "object") = some true) (hs : findIn K (.ref C) "__eq__" = some (some (.ref f))) (hf : isFn K (.ref f) = true) (hone : ∀ v, b = .ref v ∨ True)
    (ho : oneThing? .NotEq (.ref x) b = none)
    (h : wpAny (model prog w) A.in1 (call (.ref f) [.ref x, b]) (fun v s' => ∃ r, v = .bool r ∧ Q (.bool (!r)) s') E' s) : wpAny (model prog w) A (richCompare .NotEq (.ref x) b) Q E' s := by
  unfold richCompare
  simp only [ho]
  refine wpAny_holding (wpAny_bind (wpAny_cRoomFor (Nat.lt_of_succ_lt hu) ?_))
  rw [cmpInfo_NotEq]
  dsimp only
  refine wpAny_bind (I.type.here (wpAny_bind (hb.here ?_)))
  rw [show (Value.ref C != Value.ref C) = false from by simp]
  simp only [Bool.false_eq_true, if_false]
  refine wpAny_bind (wpAny_pure ?_)
  simp only [Bool.false_eq_true, if_false]
  refine wpAny_bind (tryNe_K hu X I hn hm hs hf (wpAny_mono h (fun v s' hv => ?_) fun _ _ e => e))
  obtain ⟨r, rfl, q⟩ := hv
  exact ⟨r, rfl, wpAny_pure q⟩
end
/-- x != y by the class's own __eq__ -/
def rOwnNe (C : Addr) (sp : Sp) (E : XK) : R2 := fun x y H Q => ∃ a b dx dy fs gs, x = .ref a ∧ y = .ref b ∧ H a = some (.ins C dx fs) ∧ H b = some (.ins C dy gs) ∧ sp [x, y] H (fun z H' => ∃ r, z = .bl r ∧ Q (.bl (!r)) H') E
theorem op_neOwn (F : FnOk X.prog X.w X.K X.mg X.base CX k f fd ps sp) (hr : Room (k + 1) X.A) (hb : Binds X.K fd ps []) (hx : Passes CX X E)
    (hs : PySem.W.findIn X.K (.ref C) "__eq__" = some (some (.ref f))) (hf : PySem.W.isFn X.K (.ref f) = true)
    (hn : PySem.W.findIn X.K (.ref C) "__ne__" = some (some (.builtin "object.__ne__"))) (hm : PySem.W.mroIn X.K C (.type "object") = some true) :
    OpR X (compareOp .NotEq) (rOwnNe C sp E) := by
  intro pins s σ H x y v u Q I rx ry h
  obtain ⟨a, b, dx, dy, fs, gs, rfl, rfl, ha, hbb, q⟩ := h
  cases rx
  cases ry
  obtain ⟨mA, J, _⟩ := ins_get I.hok ha
  obtain ⟨mB, J', _⟩ := ins_get I.hok hbb
  obtain ⟨od, J, _⟩ := J.look
  obtain ⟨od', J', _⟩ := J'.look
  have hu := hr.units
  refine ne_K (by omega) I.kIn J J'.type hn hm hs hf (fun _ => .inr trivial) (by simp only [oneThing_ref]) ?_
  refine wpAny_mono (run_fn1 (us := [.ref a, .ref b]) (vs := [.ref a, .ref b]) F hr hb hx I (.cons rfl (.cons rfl .nil)) q) (fun v s' hv => ?_) fun _ _ e => e
  obtain ⟨z, H', I', rz, r, rfl, q⟩ := hv
  cases rz
  exact ⟨r, rfl, .bl (!r), H', I', rfl, q⟩
end
end Hn

/-! Defs by their promise alone; comprehensions by what each item is; the bag of drawn numbers. -/
namespace Hn
open PySem PySem.Spec PyProof.Rows L2 Evl

/-! ### defs -/
/-- the def at f keeps the promise sp, by at most level k -/
def Okf (P : Program) (w : World) (K : PySem.W.Frag) (mg : Str → Option Value) (base : Heap) (k : Nat) (f : Addr) (ps : List Str) (sp : Sp) : Prop :=
  ∃ fd, FnOk P w K mg base (L2.CX P w) k f fd ps sp ∧ Binds K fd ps []
section
variable {P : Program} {w : World} {K : PySem.W.Frag} {mg : Str → Option Value} {base : Heap}
theorem Okf.mono {j k : Nat} {f : Addr} {ps : List Str} {sp : Sp} (F : Okf P w K mg base j f ps sp) (h : j ≤ k) : Okf P w K mg base k f ps sp :=
  let ⟨fd, a, b⟩ := F
  ⟨fd, a.mono h, b⟩
theorem Okf.imp {k : Nat} {f : Addr} {ps : List Str} {sp sp' : Sp} (F : Okf P w K mg base k f ps sp) (h : ∀ vs H Q E, sp' vs H Q E → sp vs H Q E) : Okf P w K mg base k f ps sp' :=
  let ⟨fd, a, b⟩ := F
  ⟨fd, a.imp h, b⟩
/-- a def of the text that stands at f, and how it binds -/
def Df (K : PySem.W.Frag) (x qual : Str) (st : Stmt) (f : Addr) (ps : List Str) : Prop := ∃ fd, Fun K x qual st f fd ∧ Binds K fd ps []
theorem Df.kp {x qual : Str} {st : Stmt} {f : Addr} {ps : List Str} (F : Df K x qual st f ps) : PySem.W.keepIn K (.ref f) = true := let ⟨_, a, _⟩ := F; a.kp
/-- a def that lets nothing out keeps its promise wherever something may be let out -/
theorem fn_lift {CX : CXT} {k : Nat} {f : Addr} {fd : FuncData} {ps : List Str} {sp : Sp} (F : FnOk P w K mg base CX0 k f fd ps sp) : FnOk P w K mg base CX k f fd ps sp :=
  ⟨F.len, fun A outer s H args us vs Q E hr e0 hb r q => codeAny_mono (F.run A outer s H args us vs Q E hr e0 hb r q) fun rr s' hc => by
    cases rr with
    | error e => exact False.elim hc
    | ok fl => cases fl <;> exact hc⟩
theorem okf_of {x qual : Str} {st : Stmt} {f : Addr} {N ps : List Str} {k : Nat} {sp : Sp} (F : Df K x qual st f ps) (S : FnScope N ps (defScope st)) (len : ∀ vs H Q E, sp vs H Q E → vs.length = ps.length)
    (hbody : ∀ (cdv : Value) (A : Around) (outer : List Env) (s : Shared) (H : Hp) (vs : List V) (Q : VK) (E : XK), Room k (A.deeper (envOfC qual (defScope st) s.heap.objs.size f cdv)) → sp vs H Q E →
      ∃ t, PSs (cxOf CX0 P w K mg base N qual (defScope st) f cdv A outer s H E).nox (defBody st) t ∧ t { nx := fun _ H' => Q .non H', rt := Q } (start N vs) H) : Okf P w K mg base (k + 1) f ps sp :=
  let ⟨fd, a, b⟩ := F
  ⟨fd, fn_lift (a.ok S len hbody), b⟩
end
section
variable {X : Cx} {k : Nat} {f C : Addr} {ps : List Str} {sp : Sp} {x m : Str} {p pos apos : Pos} {e o : Expr} {es : List Expr} {ta : TE} {t : TA}
theorem pf_call (G : Okf X.prog X.w X.K X.mg X.base k f ps sp) (hr : Room k X.A) (hg : Gl X x) (hm : X.mg x = some (.ref f)) (hk : PySem.W.keepIn X.K (.ref f) = true)
    (ha : PA X (e :: es) t) (hdb : (x == ("__debug__" : Str)) = false := by decide) (he : starEach (e :: es) X.env = (false, eval e X.env) :: starEach es X.env := by rfl) (hpl : (backTo pos (starEach es X.env)).any (·.1) = false := by rfl) :
    PE X (.Call (.Name x p) (e :: es) [] pos) (tCall sp [] E0 t) :=
  let ⟨_, a, b⟩ := G
  pe_call a hr hg hm hk b .nil passL ha hdb he hpl
theorem pf_meth {pl : Sem Bool} (G : Okf X.prog X.w X.K X.mg X.base k f ps sp) (hr : Room k X.A) (c : Cls X.K C) (hm : Meth X.K C m f) (he : PE X o ta) (ha : PA X (e :: es) t)
    (hst : starEach (e :: es) X.env = (false, eval e X.env) :: starEach es X.env := by rfl) (hpl : (backTo pos (starEach es X.env)).any (·.1) = false := by rfl)
    (ht : eval (.Call (.Attribute o m apos) (e :: es) [] pos) X.env = (do
      let ov ← eval o X.env
      standAt apos.atName
      let (f, first) ← holding [ov] (getMethod ov m pl)
      callWith pos f first (backTo pos (starEach (e :: es) X.env)) (backToKw pos (keywordEach [] X.env))) := by rfl) :
    PE X (.Call (.Attribute o m apos) (e :: es) [] pos) (tMeth C m sp [] E0 ta t) :=
  let ⟨_, a, b⟩ := G
  pe_meth he c hm a hr b .nil passL ha hst hpl ht
theorem pf_meth0 {pl : Sem Bool} (G : Okf X.prog X.w X.K X.mg X.base k f ps sp) (hr : Room k X.A) (c : Cls X.K C) (hm : Meth X.K C m f) (he : PE X o ta)
    (ht : eval (.Call (.Attribute o m apos) [] [] pos) X.env = (do
      let ov ← eval o X.env
      standAt apos.atName
      let (f, first) ← holding [ov] (getMethod ov m pl)
      callWith pos f first (backTo pos (starEach [] X.env)) (backToKw pos (keywordEach [] X.env))) := by rfl) :
    PE X (.Call (.Attribute o m apos) [] [] pos) (tMeth C m sp [] E0 ta tNil) :=
  let ⟨_, a, b⟩ := G
  pe_meth0 he c hm a hr b .nil passL ht
theorem pf_make (G : Okf X.prog X.w X.K X.mg X.base k f ps sp) (hr : Room (k + 1) X.A) (M : Mk X.K C f) (hg : Gl X x) (hm : X.mg x = some (.ref C))
    (ha : PA X (e :: es) t) (hdb : (x == ("__debug__" : Str)) = false := by decide) (he : starEach (e :: es) X.env = (false, eval e X.env) :: starEach es X.env := by rfl) (hpl : (backTo pos (starEach es X.env)).any (·.1) = false := by rfl) :
    PE X (.Call (.Name x p) (e :: es) [] pos) (tMake C sp [] E0 t) :=
  let ⟨_, a, b⟩ := G
  pe_make M a hr hg hm b .nil passL ha hdb he hpl
theorem passN {X : Cx} : Passes (L2.CX X.prog X.w) X.nox E0 := fun _ _ _ _ _ _ _ h => by
  obtain ⟨_, _, _, _, _, _, _, _, _, _, _, _, z⟩ := h
  exact z.elim
theorem pf_prop {q : Addr} (G : Okf X.prog X.w X.K X.mg X.base k f ps sp) (hr : Room (k + 1) X.A) (c : Cls X.K C) (hp : PropOf X.K C m q f) (he : PE X e ta)
    (hab : attributeBase e m X.env (eval e X.env) = eval e X.env := by rfl) : PE X (.Attribute e m pos) (tProp C sp [] E0 ta) :=
  let ⟨_, a, b⟩ := G
  pe_prop he c hp a hr b .nil passN hab
end

/-! ### sequences -/
/-- a list or a tuple -/
def Sq (K : PySem.W.Frag) (H : Hp) (a : Addr) (xs : List V) : Prop := SqL K H a xs ∨ SqT K H a xs
theorem Sq.mono {K : PySem.W.Frag} {H H' : Hp} {a : Addr} {xs : List V} (e : Ex H H') (h : Sq K H a xs) : Sq K H' a xs := h.elim (fun h => .inl (ex_l e h)) (fun h => .inr (ex_t e h))
theorem Ex.upd2 {H H1 : Hp} {p : Addr} {o : HO} (e : Ex H H1) (h : H1 p = none) : Ex H (upd H1 p o) := e.trans (Ex.new h)

/-! ### items of rows of ints -/
theorem at_int {ns : List Int} {i : Int} (h0 : 0 ≤ i) (h1 : i < (ns.length : Int)) : atI (ns.map V.int) i = some (.int (ns.getD i.toNat 0)) := by
  obtain ⟨j, rfl⟩ : ∃ j : Nat, i = (j : Int) := ⟨i.toNat, by omega⟩
  have hj : j < ns.length := by omega
  refine atI_nat ?_
  rw [List.getElem?_map, List.getElem?_eq_getElem hj, Int.toNat_natCast, List.getD_eq_getElem?_getD, List.getElem?_eq_getElem hj]
  rfl
theorem int_at {ns : List Int} {i : Nat} {x : V} (h : (ns.map V.int)[i]? = some x) : x = .int (ns.getD i 0) := by
  rw [List.getElem?_map] at h
  rw [List.getD_eq_getElem?_getD]
  cases e : ns[i]? with
  | none => rw [e] at h; cases h
  | some u => rw [e] at h; exact (Option.some.inj h).symm
theorem gD_mem {ns : List Int} {j : Nat} (h : j < ns.length) : ns.getD j 0 ∈ ns := by
  rw [List.getD_eq_getElem?_getD, List.getElem?_eq_getElem h]
  exact List.getElem_mem h

/-! ### all but lists stays -/
def isLst : HO → Bool
  | .lst _ => true
  | _ => false
/-- what is no list stands as it stood -/
def Xl (H H' : Hp) : Prop := ∀ a o, H a = some o → isLst o = false → H' a = some o
theorem Xl.refl (H : Hp) : Xl H H := fun _ _ h _ => h
theorem Xl.trans {H H1 H2 : Hp} (a : Xl H H1) (b : Xl H1 H2) : Xl H H2 := fun x o h n => b x o (a x o h n) n
theorem Xl.of {H H' : Hp} (e : Ex H H') : Xl H H' := fun a o h _ => e a o h
theorem Xl.set {H : Hp} {l : Addr} {xs ys : List V} (h : H l = some (.lst xs)) : Xl H (upd H l (.lst ys)) := fun a o e n => by
  rw [upd_ne (ne_of e h (by intro z; rw [z] at n; cases n))]
  exact e

/-! ### comprehensions: each item is told by R, which stays -/
section
variable {J : It} {n : Nat} {G : Hp → Prop} {Y : Nat → Hp → V → Hp → Prop}
/-- what a comprehension's reading asks behind the walked thing -/
def LcTail (J : It) (H1 : Hp) (g : TG) (tt : TT) (te : TE) (vs : List Nat) (σ : L2.St) (Q : VK) : Prop :=
  ∀ D, H1 D = none → ∃ W : Nat → Nat → Hp → Prop, (∃ m, W 0 m (upd H1 D (.lst []))) ∧ ∀ i m H, W i m H →
      (J.stop i H ∧ Q (.ref D) H) ∨ (J.go i H ∧ ∃ Nx : Hp → Prop, (∀ H', Nx H' → ∃ m', m' < m ∧ W (i + 1) m' H') ∧ ∀ x H', J.yld i H x H' → g x (wipe σ vs) H' fun σ2 H2 => wipe σ2 vs = wipe σ vs ∧ tt σ2 H2 fun b H3 =>
        if b = true then te σ2 H3 fun y H4 => ∃ acc, H4 D = some (.lst acc) ∧ acc.length < sizeLine ∧ Nx (upd H4 D (.lst (acc ++ [y]))) else Nx H3)
/-- items f i of the turns i that pass the test p -/
theorem lc_fil (w : Walk J n G Y) {g : TG} {tt : TT} {te : TE} {vs : List Nat} {σ : L2.St} {H1 : Hp} {Q : VK} (p : Nat → Bool) (R : Addr → Nat → V → Hp → Prop) (hG : ∀ D H H', Ex H1 H' → Ex H H' → H1 D = none → (∃ xs, H D = some (.lst xs)) → G H')
    (hR1 : ∀ D i v H H', Ex H H' → R D i v H → R D i v H') (hR2 : ∀ D i v H xs ys, H D = some (.lst xs) → R D i v H → R D i v (upd H D (.lst ys))) (hn : n ≤ 100000)
    (turn : ∀ D i x H H', i < n → Ex H1 H → H1 D = none → (∃ xs, H D = some (.lst xs)) → Y i H x H' → ∀ k : Bool → Hp → Prop, ∀ kk : VK, (∀ y H4, p i = true → Ex H H4 → R D i y H4 → kk y H4) → (∀ H3, p i = false → Ex H H3 → k false H3) →
      g x (wipe σ vs) H' fun σ2 H2 => wipe σ2 vs = wipe σ vs ∧ tt σ2 H2 fun b H3 => if b = true then te σ2 H3 kk else k false H3)
    (fin : ∀ D H ys, H1 D = none → Ex H1 H → H D = some (.lst ys) → ys.length = ((List.range n).filter p).length → (∀ (j : Nat) (y : V) (i : Nat), ys[j]? = some y → ((List.range n).filter p)[j]? = some i → R D i y H) → Q (.ref D) H) :
    LcTail J H1 g tt te vs σ Q := by
  intro D hD
  refine lc_it w (fun i H => Ex H1 H ∧ ∃ ys, H D = some (.lst ys) ∧ ys.length = ((List.range i).filter p).length ∧ ∀ (j : Nat) (y : V) (i' : Nat), ys[j]? = some y → ((List.range i).filter p)[j]? = some i' → R D i' y H) ⟨Ex.new hD, [], upd_same, rfl, fun j y i h => by simp at h⟩ (fun i H _ q => hG D H H q.1 (Ex.refl H) hD (let ⟨ys, h, _⟩ := q.2; ⟨ys, h⟩)) (fun i x H H' hi q y => ?_) fun H q => ?_
  · obtain ⟨e, ys, hy, hl, hr⟩ := q
    have hlen : ys.length ≤ i := by
      rw [hl]
      have := List.length_filter_le p (List.range i)
      rw [List.length_range] at this
      exact this
    have T := turn D i x H H' hi e hD ⟨ys, hy⟩ y (fun _ H3 => Ex H1 H3 ∧ ∃ ys, H3 D = some (.lst ys) ∧ ys.length = ((List.range (i + 1)).filter p).length ∧ ∀ (j : Nat) (y : V) (i' : Nat), ys[j]? = some y → ((List.range (i + 1)).filter p)[j]? = some i' → R D i' y H3)
      (fun y H4 => ∃ acc, H4 D = some (.lst acc) ∧ acc.length < sizeLine ∧ Ex H1 (upd H4 D (.lst (acc ++ [y]))) ∧ ∃ ys, (upd H4 D (.lst (acc ++ [y]))) D = some (.lst ys) ∧ ys.length = ((List.range (i + 1)).filter p).length ∧ ∀ (j : Nat) (y' : V) (i' : Nat), ys[j]? = some y' → ((List.range (i + 1)).filter p)[j]? = some i' → R D i' y' (upd H4 D (.lst (acc ++ [y]))))
      ?_ ?_
    · exact T
    · intro z H4 pi e4 rz
      have hfil : (List.range (i + 1)).filter p = (List.range i).filter p ++ [i] := by
        rw [List.range_succ, List.filter_append, List.filter_cons, if_pos pi] <;> rfl
      have hD4 := e4 D _ hy
      refine ⟨ys, hD4, sz_lt (by omega), Ex.mut (e.trans e4) hD, ys ++ [z], upd_same, ?_, fun j u i' hj hi' => ?_⟩
      · rw [hfil, List.length_append, List.length_append, hl]
        rfl
      · rw [hfil] at hi'
        refine hR2 D i' u H4 ys _ hD4 ?_
        rcases Nat.lt_or_ge j ys.length with h | h
        · rw [List.getElem?_append_left h] at hj
          rw [List.getElem?_append_left (by omega)] at hi'
          exact hR1 D i' u H H4 e4 (hr j u i' hj hi')
        · have h0 : j = ys.length := by
            have := (List.getElem?_eq_some_iff.mp hj).1
            rw [List.length_append, List.length_singleton] at this
            omega
          subst h0
          rw [List.getElem?_append_right (Nat.le_refl _), Nat.sub_self] at hj
          rw [hl, List.getElem?_append_right (Nat.le_refl _), Nat.sub_self] at hi'
          have ej : z = u := by simpa using hj
          have ei : i = i' := by simpa using hi'
          rw [← ej, ← ei]
          exact rz
    · intro H3 pi e3
      have hfil : (List.range (i + 1)).filter p = (List.range i).filter p := by
        rw [List.range_succ, List.filter_append, List.filter_cons, if_neg (by rw [pi]; decide)]
        exact List.append_nil _
      rw [hfil]
      exact ⟨e.trans e3, ys, e3 D _ hy, hl, fun j u i' hj hi' => hR1 D i' u H H3 e3 (hr j u i' hj hi')⟩
  · obtain ⟨e, ys, hy, hl, hr⟩ := q
    exact fin D H ys hD e hy hl fun j y i h1 h2 => hr j y i h1 h2
/-- range(n) -/
theorem walk_r0 {n : Nat} : Walk (Itr 0 n) n (fun _ => True) (fun i H x H' => H' = H ∧ x = .int (i : Int)) :=
  ⟨fun _ _ hi _ => hi, fun _ _ => Nat.le_refl _, fun i _ x _ _ _ y => ⟨y.1, by rw [y.2, Int.zero_add]⟩⟩
theorem filter_all (n : Nat) : (List.range n).filter (fun _ => true) = List.range n := List.filter_eq_self.mpr fun _ _ => rfl
/-- every turn gives an item -/
theorem lc_map (w : Walk J n G Y) {g : TG} {te : TE} {vs : List Nat} {σ : L2.St} {H1 : Hp} {Q : VK} (R : Addr → Nat → V → Hp → Prop) (hG : ∀ D H H', Ex H1 H' → Ex H H' → H1 D = none → (∃ xs, H D = some (.lst xs)) → G H')
    (hR1 : ∀ D i v H H', Ex H H' → R D i v H → R D i v H') (hR2 : ∀ D i v H xs ys, H D = some (.lst xs) → R D i v H → R D i v (upd H D (.lst ys))) (hn : n ≤ 100000)
    (turn : ∀ D i x H H', i < n → Ex H1 H → H1 D = none → (∃ xs, H D = some (.lst xs)) → Y i H x H' → ∀ k : VK, (∀ y H4, Ex H H4 → R D i y H4 → k y H4) → g x (wipe σ vs) H' fun σ2 H2 => wipe σ2 vs = wipe σ vs ∧ te σ2 H2 k)
    (fin : ∀ D H ys, H1 D = none → Ex H1 H → H D = some (.lst ys) → ys.length = n → (∀ (i : Nat) (y : V), ys[i]? = some y → R D i y H) → Q (.ref D) H) :
    LcTail J H1 g tYes te vs σ Q := by
  refine lc_fil w (fun _ => true) R hG hR1 hR2 hn (fun D i x H H' hi e hD hx y k kk h1 _ => turn D i x H H' hi e hD hx y kk fun z H4 e4 r => h1 z H4 rfl e4 r) fun D H ys hD e hy hl hr => ?_
  rw [filter_all, List.length_range] at hl
  refine fin D H ys hD e hy hl fun i y h => hr i y i h ?_
  have hi := (List.getElem?_eq_some_iff.mp h).1
  rw [filter_all, List.getElem?_range (by omega)]
/-- .. each item a value that says nothing of the heap -/
theorem lc_val (w : Walk J n G Y) {g : TG} {te : TE} {vs : List Nat} {σ : L2.St} {H1 : Hp} {Q : VK} (R : Nat → V → Prop) (hG : ∀ H, Ex H1 H → G H) (hn : n ≤ 100000)
    (turn : ∀ i x H H', i < n → Ex H1 H → Y i H x H' → ∀ k : VK, (∀ y H4, Ex H H4 → R i y → k y H4) → g x (wipe σ vs) H' fun σ2 H2 => wipe σ2 vs = wipe σ vs ∧ te σ2 H2 k)
    (fin : ∀ D H ys, H1 D = none → Ex H1 H → H D = some (.lst ys) → ys.length = n → (∀ (i : Nat) (y : V), ys[i]? = some y → R i y) → Q (.ref D) H) : LcTail J H1 g tYes te vs σ Q :=
  lc_map w (fun _ i v _ => R i v) (fun _ _ H' e _ _ _ => hG H' e) (fun _ _ _ _ _ _ r => r) (fun _ _ _ _ _ _ _ r => r) hn (fun _ i x H H' hi e _ _ y k h => turn i x H H' hi e y k h) fun D H ys hD e hy hl hr => fin D H ys hD e hy hl hr
/-- .. each item just f i -/
theorem lc_fun (w : Walk J n G Y) {g : TG} {te : TE} {vs : List Nat} {σ : L2.St} {H1 : Hp} {Q : VK} (f : Nat → V) (hG : ∀ H, Ex H1 H → G H) (hn : n ≤ 100000)
    (turn : ∀ i x H H', i < n → Ex H1 H → Y i H x H' → ∀ k : VK, (∀ H4, Ex H H4 → k (f i) H4) → g x (wipe σ vs) H' fun σ2 H2 => wipe σ2 vs = wipe σ vs ∧ te σ2 H2 k)
    (fin : ∀ D H, H1 D = none → Ex H1 H → H D = some (.lst ((List.range n).map f)) → Q (.ref D) H) : LcTail J H1 g tYes te vs σ Q :=
  lc_val w (fun i y => y = f i) hG hn (fun i x H H' hi e y k h => turn i x H H' hi e y k fun H4 e4 => h _ H4 e4 rfl) fun D H ys hD e hy hl hr => by
    refine fin D H hD e ?_
    rw [hy]
    congr 2
    refine List.ext_getElem? fun i => ?_
    rcases Nat.lt_or_ge i n with h | h
    · have h2 : i < ys.length := by omega
      rw [List.getElem?_eq_getElem h2, List.getElem?_map, List.getElem?_range h, hr i ys[i] (List.getElem?_eq_getElem h2)]
      rfl
    · rw [List.getElem?_eq_none (by omega), List.getElem?_eq_none (by rw [List.length_map, List.length_range]; omega)]
/-- .. each item that passes just f i -/
theorem lc_filf (w : Walk J n G Y) {g : TG} {tt : TT} {te : TE} {vs : List Nat} {σ : L2.St} {H1 : Hp} {Q : VK} (p : Nat → Bool) (f : Nat → V) (hG : ∀ H, Ex H1 H → G H) (hn : n ≤ 100000)
    (turn : ∀ i x H H', i < n → Ex H1 H → Y i H x H' → ∀ k : Bool → Hp → Prop, ∀ kk : VK, (∀ H4, p i = true → Ex H H4 → kk (f i) H4) → (∀ H3, p i = false → Ex H H3 → k false H3) →
      g x (wipe σ vs) H' fun σ2 H2 => wipe σ2 vs = wipe σ vs ∧ tt σ2 H2 fun b H3 => if b = true then te σ2 H3 kk else k false H3)
    (fin : ∀ D H, H1 D = none → Ex H1 H → H D = some (.lst (((List.range n).filter p).map f)) → Q (.ref D) H) : LcTail J H1 g tt te vs σ Q :=
  lc_fil w p (fun _ i v _ => v = f i) (fun _ _ H' e _ _ _ => hG H' e) (fun _ _ _ _ _ _ r => r) (fun _ _ _ _ _ _ _ r => r) hn (fun _ i x H H' hi e _ _ y k kk h1 h2 => turn i x H H' hi e y k kk (fun H4 pi e4 => h1 _ H4 pi e4 rfl) h2) fun D H ys hD e hy hl hr => by
    refine fin D H hD e ?_
    rw [hy]
    congr 2
    refine List.ext_getElem? fun j => ?_
    rcases Nat.lt_or_ge j ys.length with h | h
    · have h2 : j < ((List.range n).filter p).length := by omega
      rw [List.getElem?_eq_getElem h, List.getElem?_map, List.getElem?_eq_getElem h2, hr j ys[j] _ (List.getElem?_eq_getElem h) (List.getElem?_eq_getElem h2)]
      rfl
    · rw [List.getElem?_eq_none (by omega), List.getElem?_eq_none (by rw [List.length_map]; omega)]
end
end Hn

/-! The bag of drawn numbers: its state is not told, so a draw changes nothing that is known. -/
namespace Hn
open PySem PySem.Spec PyProof.Rows L2 Evl

/-- what a bag's list holds -/
def BagV (l : Addr) (xs : List V) : Prop := ∃ c0 c1 c2 : Int, xs = [.int c0, .int c1, .int c2, .ref l] ∧ 0 ≤ c0 ∧ 0 ≤ c1 ∧ c1 < 2147483647 ∧ 0 ≤ c2
/-- the bag's own object: a list of such four -/
def BagO (b l : Addr) (h : Heap) : Prop := ∃ xs, BagV l xs ∧ ∃ (its : List Value) (n : Nat), Vals xs its ∧ h.get? b = some { cls := .type "list", data := .seq its.toArray n }
/-- a bag stands at b -/
def Bag (H : Hp) (b : Addr) : Prop := ∃ (l : Addr) (o : Obj) (cs : List Int), H b = some (.ext (BagO b l)) ∧ H l = some (.frz o (.lst (cs.map V.int))) ∧ (∀ c ∈ cs, 0 ≤ c) ∧ cs.length ≤ 63
theorem Bag.mono {H H' : Hp} {b : Addr} (e : Xl H H') (h : Bag H b) : Bag H' b :=
  let ⟨l, o, cs, h1, h2, h3, h4⟩ := h
  ⟨l, o, cs, e _ _ h1 rfl, e _ _ h2 rfl, h3, h4⟩

/-! ### another view of the heap at a def's end -/
section
variable {P : Program} {w : World} {K : PySem.W.Frag} {mg : Str → Option Value} {base : Heap} {CX : CXT}
/-- what is tracked may be told otherwise when a def ends -/
theorem fn_alt {k : Nat} {f : Addr} {fd : FuncData} {ps : List Str} {sp sp' : Sp} (F : FnOk P w K mg base CX k f fd ps sp)
    (h : ∀ vs H Q E, sp' vs H Q E → sp vs H (fun v H1 => ∀ h' : Heap, HOk P w H1 h' → ∃ H2 : Hp, HOk P w H2 h' ∧ (∀ a, H1 a = none → H2 a = none) ∧ (∀ b xs, H b = some (.tup xs) → H2 b = some (.tup xs)) ∧
      (∀ b o u, H b = some (.frz o u) → H2 b = some (.frz o u)) ∧ (∀ b qs, H b = some (.tbl qs) → ∃ more, H2 b = some (.tbl (qs ++ more))) ∧ Q v H2) E) : FnOk P w K mg base CX k f fd ps sp' := by
  refine ⟨fun vs H Q E q => F.len _ _ _ _ (h vs H Q E q), fun A outer s H args us vs Q E hr e0 hb r q => ?_⟩
  refine codeAny_mono (F.run A outer s H args us vs _ E hr e0 hb r (h vs H Q E q)) fun rr s' hc => ?_
  cases rr with
  | error e => exact hc
  | ok fl =>
    cases fl with
    | ret u =>
      obtain ⟨v, H1, h1, h2, un, hok, rv, q⟩ := hc
      obtain ⟨H2, k1, k2, k3, k4, k5, k6⟩ := q s'.heap hok
      exact ⟨v, H2, h1, h2, ⟨un.keep, un.slot, fun b o e n x => k2 b (un.free b o e n x), un.there, k3, k4, k5⟩, k1, rv, k6⟩
    | next => exact False.elim hc
    | brk => exact False.elim hc
    | cont => exact False.elim hc
theorem okf_alt {k : Nat} {f : Addr} {ps : List Str} {sp sp' : Sp} (F : Okf P w K mg base k f ps sp)
    (h : ∀ vs H Q E, sp' vs H Q E → sp vs H (fun v H1 => ∀ h' : Heap, HOk P w H1 h' → ∃ H2 : Hp, HOk P w H2 h' ∧ (∀ a, H1 a = none → H2 a = none) ∧ (∀ b xs, H b = some (.tup xs) → H2 b = some (.tup xs)) ∧
      (∀ b o u, H b = some (.frz o u) → H2 b = some (.frz o u)) ∧ (∀ b qs, H b = some (.tbl qs) → ∃ more, H2 b = some (.tbl (qs ++ more))) ∧ Q v H2) E) : Okf P w K mg base k f ps sp' :=
  let ⟨fd, a, b⟩ := F
  ⟨fd, fn_alt a h, b⟩
/-- what stands at a may be told otherwise, if it is so and nothing leans on it -/
theorem hok_put {H : Hp} {h : Heap} {a : Addr} {o u : HO} (x : HOk P w H h) (ha : H a = some o) (hm : Mut (some o)) (hu : ObjOk P w (upd H a u) h a u) : HOk P w (upd H a u) h := fun b q e => by
  by_cases hb : b = a
  · subst hb
    rw [upd_same] at e
    cases e
    exact hu
  · rw [upd_ne hb] at e
    refine (x b q e).stay (fun _ _ _ z => z) (fun c z => ?_) fun c xs z => ?_
    · rw [upd_ne (ne_of z ha (by intro q; rw [← q] at hm; exact hm))]
      exact z
    · rw [upd_ne (ne_of z ha (by intro q; rw [← q] at hm; exact hm))]
      exact z
theorem ext_ok {H : Hp} {h : Heap} {b l : Addr} {xs : List V} (hx : BagV l xs) (ok : ObjOk P w H h b (.lst xs)) (H' : Hp) : ObjOk P w H' h b (.ext (BagO b l)) := by
  obtain ⟨_, its, n, r, e⟩ := ok
  refine ⟨⟨xs, hx, its, n, r, e⟩, ⟨_, e⟩, fun h1 h2 q k => ?_⟩
  obtain ⟨xs', hx', its', n', r', e'⟩ := q
  exact ⟨xs', hx', its', n', r', k _ e'⟩

/-- what _law_take promises of the list itself -/
def spTakeL : Sp := fun vs H Q _ => ∃ (b l : Addr) (u : Int) (o : Obj) (cs : List Int) (xs : List V), vs = [.ref b, .int u] ∧ H b = some (.lst xs) ∧ BagV l xs ∧ H l = some (.frz o (.lst (cs.map V.int))) ∧ (∀ c ∈ cs, 0 ≤ c) ∧ cs.length ≤ 63 ∧ 0 < u ∧ u < 1073741824 ∧
  ∀ (n : Int) (ys : List V), 0 ≤ n → n < u → BagV l ys → Q (.int n) (upd H b (.lst ys))
/-- .. of the bag: some number below the bound, nothing else is otherwise -/
def spTake : Sp := fun vs H Q _ => ∃ (b : Addr) (u : Int), vs = [.ref b, .int u] ∧ Bag H b ∧ 0 < u ∧ u < 1073741824 ∧ ∀ n : Int, 0 ≤ n → n < u → Q (.int n) H

theorem take_ok {k : Nat} {f : Addr} {ps : List Str} (F : Okf P w K mg base k f ps spTakeL) (hl : ps.length = 2) : Okf P w K mg base k f ps spTake := by
  obtain ⟨fd, F, hb⟩ := F
  refine ⟨fd, ⟨fun vs H Q E q => ?_, fun A outer s H args us vs Q E hr e0 hbd r q => ?_⟩, hb⟩
  · obtain ⟨b, u, rfl, _⟩ := q
    exact hl.symm
  · obtain ⟨b, u, rfl, ⟨l, o, cs, hB, hL, hc, hcl⟩, hu0, hu1, k⟩ := q
    obtain ⟨⟨xs, hx, its, n, rv, hobj⟩, _, _⟩ := e0.hok b _ hB
    have hz : xs.length ≤ sizeLine := by
      obtain ⟨c0, c1, c2, rfl, _⟩ := hx
      show 4 ≤ sizeLine
      decide
    have ok1 : HOk P w (upd H b (.lst xs)) s.heap := hok_put e0.hok hB trivial ⟨hz, its, n, rv, hobj⟩
    have nb : ∀ c, H c = none → c ≠ b := fun c z y => by rw [y, hB] at z; cases z
    have e1 : Env0 P w K mg base A outer s (upd H b (.lst xs)) :=
      ⟨e0.frames, e0.mod, fun c q e => ⟨(e0.bs c q e).1, by rw [upd_ne (nb c (e0.bs c q e).2)]; exact (e0.bs c q e).2⟩, e0.bsz, e0.funs, fun c hc' => by rw [upd_ne (nb c (e0.frf c hc'))]; exact e0.frf c hc', ok1, e0.bare⟩
    have nl : l ≠ b := ne_of hL hB (by intro z; cases z)
    refine codeAny_mono (F.run A outer s (upd H b (.lst xs)) args us [.ref b, .int u] (fun v H' => ∃ m ys, v = .int m ∧ 0 ≤ m ∧ m < u ∧ BagV l ys ∧ H' = upd H b (.lst ys)) E0 hr e1 hbd r
      ⟨b, l, u, o, cs, xs, rfl, upd_same, hx, by rw [upd_ne nl]; exact hL, hc, hcl, hu0, hu1, fun m ys h0 h1 hy => ⟨m, ys, rfl, h0, h1, hy, upd_upd⟩⟩) fun rr s' hc' => ?_
    cases rr with
    | error e =>
      obtain ⟨_, _, _, _, _, _, _, _, _, _, _, _, z⟩ := hc'
      exact z.elim
    | ok fl =>
      cases fl with
      | ret uu =>
        obtain ⟨v, H1, h1, h2, un, hok, rv', m, ys, rfl, m0, m1, hy, rfl⟩ := hc'
        refine ⟨.int m, H, h1, h2, ⟨fun c q e n hf hx' => ?_, fun c q e n hf hx' => ?_, fun c q e n hx' => n, un.there, fun _ _ z => z, fun _ _ _ z => z, fun c qs z => ⟨#[], by rw [z]; simp⟩⟩, ?_, rv', k m m0 m1⟩
        · exact un.keep c q e (by rw [upd_ne (nb c n)]; exact n) hf hx'
        · exact un.slot c q e (by rw [upd_ne (nb c n)]; exact n) hf hx'
        · have ok2 := hok_put hok (upd_same (H := H)) trivial (u := .ext (BagO b l)) (ext_ok hy (hok b _ upd_same) _)
          rw [upd_upd] at ok2
          have eH : upd H b (.ext (BagO b l)) = H := by
            funext c
            by_cases hcb : c = b
            · subst hcb
              rw [upd_same, hB]
            · rw [upd_ne hcb]
          rw [eH] at ok2
          exact ok2
      | next => exact False.elim hc'
      | brk => exact False.elim hc'
      | cont => exact False.elim hc'

/-- what _law_bag promises of the lists themselves, and of the bag -/
def spBagL (K : PySem.W.Frag) : Sp := fun vs H Q _ => ∃ (a : Addr) (ns : List Int), vs = [.ref a] ∧ SqL K H a (ns.map V.int) ∧ ns.length ≤ 63 ∧
  ∀ (b l : Addr) (cs : List Int) (H' : Hp), Ex H H' → H b = none → H l = none → H' b = some (.lst [.int 0, .int 1234567891, .int 0, .ref l]) → H' l = some (.lst (cs.map V.int)) → (∀ c ∈ cs, 0 ≤ c) → cs.length ≤ 63 → Q (.ref b) H'
def spBag (K : PySem.W.Frag) : Sp := fun vs H Q _ => ∃ (a : Addr) (ns : List Int), vs = [.ref a] ∧ SqL K H a (ns.map V.int) ∧ ns.length ≤ 63 ∧ ∀ (b : Addr) (H' : Hp), Ex H H' → Bag H' b → Q (.ref b) H'
theorem bag_ok {k : Nat} {f : Addr} {ps : List Str} (F : Okf P w K mg base k f ps (spBagL K)) : Okf P w K mg base k f ps (spBag K) := by
  refine okf_alt F fun vs H Q E q => ?_
  obtain ⟨a, ns, rfl, hS, hl, k⟩ := q
  refine ⟨a, ns, rfl, hS, hl, fun b l cs H' e nb nl hb hL h0 hcl h' hok => ?_⟩
  have nlb : l ≠ b := ne_of hL hb (by
    intro z
    have z' : cs.map V.int = [.int 0, .int 1234567891, .int 0, .ref l] := by injection z
    have := congrArg (fun z => z[3]?) z'
    rw [List.getElem?_map] at this
    cases hh : cs[3]? with
    | none => rw [hh] at this; simp at this
    | some q => rw [hh] at this; simp at this)
  obtain ⟨hz, its, n, r, hobj⟩ := hok l _ hL
  have ok1 : HOk P w (upd H' l (.frz { cls := .type "list", data := .seq its.toArray n } (.lst (cs.map V.int)))) h' := hok_put hok hL trivial ⟨hobj, hz, its, n, r, hobj⟩
  have hb1 : upd H' l (.frz { cls := .type "list", data := .seq its.toArray n } (.lst (cs.map V.int))) b = some (.lst [.int 0, .int 1234567891, .int 0, .ref l]) := by rw [upd_ne nlb.symm]; exact hb
  have hv : BagV l [.int 0, .int 1234567891, .int 0, .ref l] := ⟨0, 1234567891, 0, rfl, by decide, by decide, by decide, by decide⟩
  have ok2 := hok_put ok1 hb1 trivial (u := .ext (BagO b l)) (ext_ok hv (ok1 b _ hb1) _)
  have e2 : Ex H (upd (upd H' l (.frz { cls := .type "list", data := .seq its.toArray n } (.lst (cs.map V.int)))) b (.ext (BagO b l))) := Ex.mut (Ex.mut e nl) nb
  refine ⟨_, ok2, fun c hc => ?_, fun c xs z => e2 _ _ z, fun c o u z => e2 _ _ z, fun c qs z => ⟨#[], by rw [e2 _ _ z]; simp⟩, k b _ e2 ⟨l, _, cs, upd_same, by rw [upd_ne nlb]; exact upd_same, h0, hcl⟩⟩
  have c1 : c ≠ b := fun z => by rw [z, hb] at hc; cases hc
  have c2 : c ≠ l := fun z => by rw [z, hL] at hc; cases hc
  rw [upd_ne c1, upd_ne c2]
  exact hc
end
end Hn

/-! More rules: the operators by promises, constants, subscripts of own classes. -/
namespace Hn
open PySem PySem.Spec PyProof.Rows L2 Evl
section
variable {X : Cx} {k : Nat} {f C : Addr} {ps : List Str} {sp : Sp}
theorem pe_gint {x : Str} {i : Int} {pos : Pos} (hg : Gl X x) (hm : ∃ t : Tok, X.mg x = some (.int i t)) (hd : (x == ("__debug__" : Str)) = false := by decide) : PE X (.Name x pos) (tC (.int i)) :=
  let ⟨t, h⟩ := hm
  pe_glob hg h ⟨t, rfl⟩ hd
theorem op_ownB {op : Operator} (G : Okf X.prog X.w X.K X.mg X.base k f ps sp) (hr : Room k X.A)
    (hc : PySem.W.selfFirst X.K C = true) (hs : PySem.W.findIn X.K (.ref C) (PySem.dunder op.info.2) = some (some (.ref f))) (hf : PySem.W.isFn X.K (.ref f) = true) : OpR X (binaryOp op) (rOwn C sp E0) :=
  let ⟨_, a, b⟩ := G
  op_own a hr b passL hc hs hf
theorem op_eqB (G : Okf X.prog X.w X.K X.mg X.base k f ps sp) (hr : Room k X.A)
    (hs : PySem.W.findIn X.K (.ref C) "__eq__" = some (some (.ref f))) (hf : PySem.W.isFn X.K (.ref f) = true) : OpR X (compareOp .Eq) (rOwn C sp E0) :=
  let ⟨_, a, b⟩ := G
  op_eqOwn a hr b passL hs hf
theorem op_neB (G : Okf X.prog X.w X.K X.mg X.base k f ps sp) (hr : Room (k + 1) X.A)
    (hs : PySem.W.findIn X.K (.ref C) "__eq__" = some (some (.ref f))) (hf : PySem.W.isFn X.K (.ref f) = true)
    (hn : PySem.W.findIn X.K (.ref C) "__ne__" = some (some (.builtin "object.__ne__"))) (hm : PySem.W.mroIn X.K C (.type "object") = some true) : OpR X (compareOp .NotEq) (rOwnNe C sp E0) :=
  let ⟨_, a, b⟩ := G
  op_neOwn a hr b passL hs hf hn hm
end
end Hn

/-! Readings opened one by one, by their heads. -/
namespace Hn
open PySem PySem.Spec PyProof.Rows L2 Evl
section
variable {K : PySem.W.Frag} {σ : L2.St} {H : Hp} {Q : VK} {QB : Bool → Hp → Prop} {D : Ends} {ta tb tc te : TE} {t u : TS} {tt tu : TT} {ar : TA} {QA : List V → Hp → Prop} {r r' : R2} {x y v : V} {i j : Int} {n : Nat} {wi : TI} {g : TG} {R : It → Hp → Prop} {vs : List Nat}
theorem r_seq (h : t { D with nx := u D } σ H) : tSeq t u D σ H := h
theorem r_next (h : D.nx σ H) : tNext D σ H := h
theorem r_asg (h : te σ H fun x H1 => g x σ H1 D.nx) : tAsg te g D σ H := h
theorem r_name {q : L2.St → Hp → Prop} (h : q (σ.set n (some v)) H) : gName n v σ H q := h
theorem r_ret (h : te σ H D.rt) : tRet te D σ H := h
theorem r_retN (h : D.rt .non H) : tRetN D σ H := h
theorem r_drop (h : te σ H fun _ H1 => D.nx σ H1) : tDrop te D σ H := h
theorem r_ifS (h : tt σ H fun b H1 => if b = true then t D σ H1 else u D σ H1) : tIfS tt t u D σ H := h
theorem r_test (h : te σ H fun x H' => ∃ k, x = .bl k ∧ QB k H') : tTest te σ H QB := h
theorem r_B (h : te σ H fun x H' => ∃ k, x = .bl k ∧ QB k H') : tB te σ H QB := h
theorem r_and (h : tt σ H fun c H1 => if c = true then tu σ H1 QB else QB false H1) : tAnd tt tu σ H QB := h
theorem r_or (h : tt σ H fun c H1 => if c = true then QB true H1 else tu σ H1 QB) : tOr tt tu σ H QB := h
theorem r_not (h : tt σ H fun c H1 => QB (!c) H1) : tNot tt σ H QB := h
theorem r_andV (h : ta σ H fun x H1 => ∃ c, x = .bl c ∧ if c = true then tb σ H1 Q else Q (.bl false) H1) : tAndV ta tb σ H Q := h
theorem r_orV (h : ta σ H fun x H1 => ∃ c, x = .bl c ∧ if c = true then Q (.bl true) H1 else tb σ H1 Q) : tOrV ta tb σ H Q := h
theorem r_notV (h : ta σ H fun x H1 => ∃ c, x = .bl c ∧ Q (.bl (!c)) H1) : tNotV ta σ H Q := h
theorem r_if (h : tt σ H fun c H1 => if c = true then ta σ H1 Q else tb σ H1 Q) : tIf tt ta tb σ H Q := h
theorem r_var (h : σ[n]? = some (some v)) (q : Q v H) : tVar n σ H Q := ⟨v, h, q⟩
theorem r_c (q : Q v H) : tC v σ H Q := q
theorem r_op (h : ta σ H fun x H1 => tb σ H1 fun y H2 => r x y H2 Q) : tOp r ta tb σ H Q := h
theorem r_un {ru : V → Hp → VK → Prop} (h : ta σ H fun x H1 => ru x H1 Q) : tUn ru ta σ H Q := h
theorem r_chain (h : ta σ H fun x H1 => tb σ H1 fun y H2 => r x y H2 fun z H3 => ∃ k, z = .bl k ∧ (if k = true then tc σ H3 fun w' H4 => r' y w' H4 Q else Q (.bl false) H3)) : tChain r r' ta tb tc σ H Q := h
theorem r_lst (h : ar σ H fun xs H1 => xs.length ≤ sizeLine ∧ ∀ p, H1 p = none → Q (.ref p) (upd H1 p (.lst xs))) : tLst ar σ H Q := h
theorem r_tup (h : ar σ H fun xs H1 => xs.length ≤ sizeLine ∧ ∀ p, H1 p = none → Q (.ref p) (upd H1 p (.tup xs))) : tTup ar σ H Q := h
theorem r_nil (h : QA [] H) : tNil σ H QA := h
theorem r_cons (h : ta σ H fun x H1 => ar σ H1 fun xs H2 => QA (x :: xs) H2) : tCons ta ar σ H QA := h
theorem r_call {sp : Sp} {dvs : List V} {E : XK} (h : ar σ H fun vs H1 => sp (vs ++ dvs) H1 Q E) : tCall sp dvs E ar σ H Q := h
theorem r_call1 {sp : Sp} {E : XK} {ws : List V} (h : sp ws H Q E) : sp (ws ++ []) H Q E := by rw [List.append_nil]; exact h
theorem r_meth {sp : Sp} {C : Addr} {m : Str} {E : XK} (h : ta σ H fun x H1 => ∃ a dx fs, x = .ref a ∧ H1 a = some (.ins C dx fs) ∧ fs.lookup m = none ∧ ar σ H1 fun vs H2 => sp (x :: (vs ++ [])) H2 Q E) : tMeth C m sp [] E ta ar σ H Q := h
theorem r_make {sp : Sp} {C : Addr} {E : XK} (h : ar σ H fun vs H1 => ∀ x dx, H1 x = none → H1 dx = none → dx ≠ x → sp (.ref x :: (vs ++ [])) (upd (upd H1 dx (.own x)) x (.ins C dx [])) (fun v H2 => v = .non ∧ Q (.ref x) H2) E) : tMake C sp [] E ar σ H Q := h
theorem r_prop {sp : Sp} {C : Addr} {E : XK} (h : ta σ H fun x H1 => ∃ a dx fs, x = .ref a ∧ H1 a = some (.ins C dx fs) ∧ sp [.ref a] H1 Q E) : tProp C sp [] E ta σ H Q := h
theorem r_cb {rc : List V → Hp → VK → Prop} (h : ar σ H fun vs H1 => rc vs H1 Q) : tCB rc ar σ H Q := h
theorem r_bm {T : String} {rm : V → List V → Hp → VK → Prop} (h : te σ H fun x H1 => tyV K T x H1 ∧ ar σ H1 fun xs H2 => rm x xs H2 Q) : tBM K T rm te ar σ H Q := h
theorem r_bm0 {T : String} {rm : V → List V → Hp → VK → Prop} (h : te σ H fun x H1 => tyV K T x H1 ∧ rm x [] H1 Q) : tBM0 K T rm te σ H Q := h
theorem r_sl {rs : V → Option Int → Option Int → Hp → VK → Prop} {tl th : TO} (h : te σ H fun x H1 => tl σ H1 fun l H2 => th σ H2 fun u H3 => rs x l u H3 Q) : L2.tSl rs te tl th σ H Q := h
theorem r_noPart {q : Option Int → Hp → Prop} (h : q none H) : tNoPart σ H q := h
theorem r_part {q : Option Int → Hp → Prop} (h : te σ H fun x H1 => ∃ i, x = .int i ∧ q (some i) H1) : tPart te σ H q := h
theorem r_int1 {p : Int → Prop} (h : p i) : ∃ k, V.int i = .int k ∧ p k := ⟨i, rfl, h⟩
theorem r_bl1 {b : Bool} {p : Bool → Prop} (h : p b) : ∃ k, V.bl b = .bl k ∧ p k := ⟨b, rfl, h⟩
theorem r_revL (h : te σ H fun x H1 => ∃ a xs, x = .ref a ∧ SqL K H1 a xs ∧ ∀ p, H1 p = none → Q (.ref p) (upd H1 p (.lst xs.reverse))) : tRevL K te σ H Q := h
theorem r_lc (h : wi σ H fun J H1 => LcTail J H1 g tt te vs σ Q) : tLc wi g tt te vs σ H Q := h
theorem r_par {n m : Nat} (h : ar σ H fun vs H1 => ∃ v w, vs = [v, w] ∧ D.nx ((σ.set n (some v)).set m (some w)) H1) : tPar n m ar D σ H := h
theorem r_par3 {n m l : Nat} (h : ar σ H fun vs H1 => ∃ u v w, vs = [u, v, w] ∧ D.nx (((σ.set n (some u)).set m (some v)).set l (some w)) H1) : tPar3 n m l ar D σ H := h
theorem r_two {p : V → V → Prop} {a b : V} (h : p a b) : ∃ v w, [a, b] = [v, w] ∧ p v w := ⟨a, b, rfl, h⟩
theorem r_three {p : V → V → V → Prop} {a b c : V} (h : p a b c) : ∃ u v w, [a, b, c] = [u, v, w] ∧ p u v w := ⟨a, b, c, rfl, h⟩
theorem r_aug {ti : TIp} {x : V} (h : σ[n]? = some (some x)) (q : te σ H fun y H1 => ti x y H1 fun z H2 => D.nx (σ.set n (some z)) H2) : tAug n te ti D σ H := ⟨x, h, q⟩
theorem r_augS {ti te' : TE} {tget : V → V → Hp → VK → Prop} {tip : TIp} {tset : TSet} (h : ta σ H fun o H1 => ti σ H1 fun i H2 => tget o i H2 fun x H3 => te' σ H3 fun y H4 => tip x y H4 fun z H5 => tset o i z H5 fun H6 => D.nx σ H6) : tAugS ta ti te' tget tip tset D σ H := h
theorem r_sub {tset : TSet} {q : L2.St → Hp → Prop} (h : ta σ H fun o H1 => tb σ H1 fun i H2 => tset o i v H2 fun H3 => q σ H3) : gSub ta tb tset v σ H q := h
theorem r_fld {f : Str} (h : ta σ H fun x H1 => ∃ a C dx fs v, x = .ref a ∧ H1 a = some (.ins C dx fs) ∧ Cls K C ∧ NoAttr K C f ∧ fs.lookup f = some v ∧ Q v H1) : tFld K ta f σ H Q := h
theorem r_sfld {f : Str} (h : tb σ H fun y H1 => ta σ H1 fun x H2 => ∃ a C dx fs, x = .ref a ∧ H2 a = some (.ins C dx fs) ∧ Cls K C ∧ NoAttr K C f ∧ fs.length < 1000 ∧ D.nx σ (upd H2 a (.ins C dx (putF f y fs)))) : sFld K ta tb f D σ H := h
theorem r_iList (h : te σ H fun x H1 => ∃ a, x = .ref a ∧ (∃ xs, SqL K H1 a xs) ∧ R (Itl K a) H1) : iList K te σ H R := h
theorem r_iTup (h : te σ H fun x H1 => ∃ a, x = .ref a ∧ (∃ xs, SqT K H1 a xs) ∧ R (Itt K a) H1) : iTup K te σ H R := h
theorem r_iRng1 (h : ar σ H fun vs H1 => ∃ j : Int, vs = [.int j] ∧ -(2 ^ 62) ≤ j ∧ j < 2 ^ 62 ∧ R (Itr 0 j.toNat) H1) : iRng1 ar σ H R := h
theorem r_iRng2 (h : ar σ H fun vs H1 => ∃ i j : Int, vs = [.int i, .int j] ∧ (-(2 ^ 62) ≤ i ∧ i < 2 ^ 62 ∧ -(2 ^ 62) ≤ j ∧ j < 2 ^ 62) ∧ R (Itr i (j - i).toNat) H1) : iRng2 ar σ H R := h
theorem r_iEnum (h : ar σ H fun vs H1 => ∃ a xs, vs = [.ref a] ∧ SqL K H1 a xs ∧ R (Ite K a) H1) : iEnum K ar σ H R := h
theorem r_iZip (h : ar σ H fun vs H1 => ∃ a b xs ys, vs = [.ref a, .ref b] ∧ SqL K H1 a xs ∧ SqL K H1 b ys ∧ R (Itz K a b) H1) : iZip K ar σ H R := h
theorem r_range1 {p : Int → Prop} (h0 : -(2 ^ 62) ≤ i) (h1 : i < 2 ^ 62) (h : p i) : ∃ j : Int, [V.int i] = [.int j] ∧ -(2 ^ 62) ≤ j ∧ j < 2 ^ 62 ∧ p j := ⟨i, rfl, h0, h1, h⟩
theorem r_yes (h : QB true H) : tYes σ H QB := h
theorem r_wipe {σ2 : L2.St} {p : Prop} (e : wipe σ2 vs = wipe σ vs) (h : p) : wipe σ2 vs = wipe σ vs ∧ p := ⟨e, h⟩
theorem r_pair {T : Addr} {n m : Nat} {q : L2.St → Hp → Prop} (h : q ((σ.set n (some x)).set m (some y)) (upd H T (.tup [x, y]))) : gTup K 2 (gCons (gName n) (gCons (gName m) gNil)) (.ref T) σ (upd H T (.tup [x, y])) q :=
  ⟨T, [x, y], rfl, .inl (.inl upd_same), rfl, x, [y], rfl, y, [], rfl, rfl, h⟩
/-! values -/
theorem r_I0 {f : Int → Int → V} (q : Q (f i j) H) : rI0 f (.int i) (.int j) H Q := ⟨i, j, rfl, rfl, q⟩
theorem r_I {C : Int → Int → Prop} {f : Int → Int → V} (c : C i j) (q : Q (f i j) H) : rI C f (.int i) (.int j) H Q := ⟨i, j, rfl, rfl, c, q⟩
theorem r_U {f : Int → V} (q : Q (f i) H) : rU f (.int i) H Q := ⟨i, rfl, q⟩
theorem r_eqI (q : Q (.bl (decide (i = j))) H) : rEq (.int i) (.int j) H Q := by
  refine ⟨rfl, ?_⟩
  have e : decide (V.int i = V.int j) = decide (i = j) := by rw [Bool.eq_iff_iff]; simp
  rw [e]
  exact q
theorem r_neI (q : Q (.bl (!decide (i = j))) H) : rNe (.int i) (.int j) H Q := by
  refine ⟨rfl, ?_⟩
  have e : decide (V.int i = V.int j) = decide (i = j) := by rw [Bool.eq_iff_iff]; simp
  rw [e]
  exact q
theorem r_eqB {a b : Bool} (q : Q (.bl (decide (a = b))) H) : rEq (.bl a) (.bl b) H Q := by
  refine ⟨rfl, ?_⟩
  have e : decide (V.bl a = V.bl b) = decide (a = b) := by rw [Bool.eq_iff_iff]; simp
  rw [e]
  exact q
theorem r_neB {a b : Bool} (q : Q (.bl (!decide (a = b))) H) : rNe (.bl a) (.bl b) H Q := by
  refine ⟨rfl, ?_⟩
  have e : decide (V.bl a = V.bl b) = decide (a = b) := by rw [Bool.eq_iff_iff]; simp
  rw [e]
  exact q
theorem r_ipI {f : Int → Int → Int} (q : Q (.int (f i j)) H) : ipI f (.int i) (.int j) H Q := ⟨i, j, rfl, rfl, q⟩
theorem r_ixL {p : Addr} {xs : List V} (h : SqL K H p xs) (ha : atI xs i = some v) (q : Q v H) : rIxL K (.ref p) (.int i) H Q := ⟨p, xs, i, v, rfl, rfl, h, ha, q⟩
theorem r_ixT {p : Addr} {xs : List V} (h : SqT K H p xs) (ha : atI xs i = some v) (q : Q v H) : rIxT K (.ref p) (.int i) H Q := ⟨p, xs, i, v, rfl, rfl, h, ha, q⟩
theorem r_ixS {p : Addr} {xs : List V} (h : Sq K H p xs) (ha : atI xs i = some v) (q : Q v H) : rIx K (.ref p) (.int i) H Q :=
  h.elim (fun h => .inl ⟨p, xs, i, v, rfl, rfl, h, ha, q⟩) fun h => .inr (.inl ⟨p, xs, i, v, rfl, rfl, h, ha, q⟩)
theorem r_setL {p : Addr} {xs : List V} {k : Int} {m : Nat} {q : Hp → Prop} (h : H p = some (.lst xs)) (hk : ixN xs.length k = some m) (hq : q (upd H p (.lst (xs.set m v)))) : rSetL (.ref p) (.int k) v H q := ⟨p, xs, k, m, rfl, rfl, h, hk, hq⟩
/-! tests -/
theorem r_ite {p A B : Prop} [Decidable p] (h1 : p → A) (h2 : ¬ p → B) : if decide p = true then A else B := ite2 (fun h => h1 (of_decide_eq_true h)) fun h => h2 fun z => h (decide_eq_true z)
theorem r_itn {p A B : Prop} [Decidable p] (h1 : ¬ p → A) (h2 : p → B) : if (!decide p) = true then A else B := by
  by_cases h : p
  · rw [decide_eq_true h]
    exact iteF (h2 h)
  · rw [decide_eq_false h]
    exact iteT (h1 h)
theorem r_itb {b : Bool} {A B : Prop} (h1 : b = true → A) (h2 : b = false → B) : if b = true then A else B := by
  cases b
  · exact iteF (h2 rfl)
  · exact iteT (h1 rfl)
theorem r_itnb {b : Bool} {A B : Prop} (h1 : b = false → A) (h2 : b = true → B) : if (!b) = true then A else B := by
  cases b
  · exact iteT (h1 rfl)
  · exact iteF (h2 rfl)
/-! loops -/
/-- what a for's reading asks behind the walked thing -/
def ForTail (J : It) (H1 : Hp) (g : TG) (tb : TS) (D : Ends) (σ : L2.St) : Prop := ∃ W : Nat → Nat → L2.St → Hp → Prop, (∃ m, W 0 m σ H1) ∧ ∀ i m σ H, W i m σ H →
  (J.stop i H ∧ D.nx σ H) ∨ (J.go i H ∧ ∃ N : L2.St → Hp → Prop, (∀ σ' H', N σ' H' → ∃ m', m' < m ∧ W (i + 1) m' σ' H') ∧ ∀ x H', J.yld i H x H' → g x σ H' fun σ2 H2 => tb { D with nx := N, ct := N, bk := D.nx } σ2 H2)
theorem r_for (h : wi σ H fun J H1 => ForTail J H1 g t D σ) : tFor wi g t D σ H := h
theorem for_w {J : It} {G : Hp → Prop} {Y : Nat → Hp → V → Hp → Prop} (w : Walk J n G Y) (Pv : Nat → L2.St → Hp → Prop) (h0 : Pv 0 σ H) (hG : ∀ i σ H, i ≤ n → Pv i σ H → G H)
    (hs : ∀ i x σ H H', i < n → Pv i σ H → Y i H x H' → g x σ H' fun σ2 H2 => t { D with nx := Pv (i + 1), ct := Pv (i + 1), bk := D.nx } σ2 H2) (hd : ∀ σ H, Pv n σ H → D.nx σ H) : ForTail J H g t D σ :=
  for_it w Pv h0 hG hs hd
end
end Hn

/-! Lists and tuples walked alike; enumerate of a tuple; t[::-1]; c[i] by an own __getitem__. -/
namespace Hn
open PySem PySem.Spec PyProof.Rows L2 Evl

/-! ### enumerate(v), v a tuple -/
theorem meets_enum1 {v : Value} {o : Obj} {P : Heap → Prop} (B : Begins v o P) :
    Meets (Builtin.«enumerate.__new__» ⟨[.type "enumerate", v], []⟩) (fun _ R s => P s.heap ∧
      R (.ok (.ret (.ref (s.heap.push o).objs.size))) { s with heap := (s.heap.push o).push { cls := .type "enumerate", data := .fields #[.none, .bool false, .ref s.heap.objs.size, rawInt 0, .none, .none] } }) :=
  .of_wp fun prog w A R s h => by
    obtain ⟨hp, g, d, tk, os⟩ := s
    obtain ⟨h1, h⟩ := h
    have hsub := sub_enumerate
    have q1 : ∀ {A' : Around} {E : Value → Shared → Prop} {Q : Value → Shared → Prop}, Q (.ref hp.objs.size) ⟨hp.push o, g, d, tk, os⟩ → wpAny (model prog w) A' (pyIter v) Q E ⟨hp, g, d, tk, os⟩ := fun q => B.iter prog w _ _ ⟨hp, g, d, tk, os⟩ _ h1 q
    wp_walk using q1
    refine wpAny_stack_any fun st => wpAny_pure ?_
    split
    · rename_i c _ _ _ _ _
      cases (c == Value.type "enumerate") <;> (wp_walk using q1; exact ⟨_, rfl, h⟩)
    · wp_walk using q1
      exact ⟨_, rfl, h⟩
theorem call_enum1 {prog : Program} {w : World} {A : Around} {E : Value → Shared → Prop} {s : Shared} {v : Value} {o : Obj} {P : Heap → Prop} {Q : Value → Shared → Prop} (B : Begins v o P) (h1 : P s.heap)
    (h : ∀ h' : Heap, IsEnum h' (s.heap.objs.size + 1) s.heap.objs.size 0 .none → h'.get? s.heap.objs.size = some o → (∀ b o, s.heap.get? b = some o → h'.get? b = some o) → Q (.ref (s.heap.objs.size + 1)) { s with heap := h' }) :
    wpAny (model prog w) A (call (.type "enumerate") [v]) Q E s := by
  refine callType_new F.called_enumerate (by decide) (F.typeCall_enumerate_1 _) (F.newCall_enumerate_1 _) (fun obj => F.args_object_init_2 obj _) F.entry_enumerate_new (meets_enum1 B) ⟨h1, ?_⟩
  have hz : (s.heap.push o).objs.size = s.heap.objs.size + 1 := Heap.size_push ..
  have hg := Heap.get?_push_size (s.heap.push o) (o := { cls := .type "enumerate", data := .fields #[.none, .bool false, .ref s.heap.objs.size, rawInt 0, .none, .none] }) rfl
  rw [hz] at hg
  show _ ∧ _
  rw [hz]
  exact ⟨⟨_, hg, rfl⟩, h _ hg (Heap.get?_push_of_some _ (Heap.get?_push_size _ B.free)) fun b o x => Heap.get?_push_of_some _ (Heap.get?_push_of_some _ x)⟩
/-- the tuple at a, each item in a new pair behind its place -/
def Itet (K : PySem.W.Frag) (a : Addr) : It :=
  ⟨fun i H => ∃ (xs : List V) (x : V), SqT K H a xs ∧ xs[i]? = some x, fun i H v H' => ∃ T x, v = .ref T ∧ H T = none ∧ H' = upd H T (.tup [.int (i : Nat), x]) ∧ ∀ xs, SqT K H a xs → xs[i]? = some x, fun i H => ∃ xs : List V, SqT K H a xs ∧ xs.length = i⟩
theorem walk_enumT {K : PySem.W.Frag} {a : Addr} {xs : List V} : Walk (Itet K a) xs.length (fun H => SqT K H a xs) (YPair (fun i => some (.int (i : Nat))) (fun i => xs[i]?)) := by
  refine ⟨fun i _ hi q => ⟨xs, xs[i], q, by simp [hi]⟩, fun _ q => ⟨xs, q, rfl⟩, fun i H v H' _ q y => ?_⟩
  obtain ⟨T, x, h1, h2, h3, h4⟩ := y
  exact ⟨T, _, x, h1, h2, h3, rfl, h4 xs q⟩
theorem turn_enumT {P : Program} {w : World} {K : PySem.W.Frag} {elts : List Expr} {kk : Nat} {tpos : Pos} (a e it : Addr) (hne : e ≠ it) (ha : a ≠ it) (hae : e ≠ a) :
    Turn P w K (.Tuple elts kk tpos) (Itet K a) [e, it] e (fun i h => (∃ old, IsEnum h e it ((i : Nat) : Int) old) ∧ h.IsTupleIter it a i) where
  mem := by simp
  obj := fun i h st b hb => by
    obtain ⟨⟨old, he⟩, ⟨o, ho, hc, hd⟩⟩ := st
    rcases (show b = e ∨ b = it by simpa using hb) with z | z
    · rw [z]
      exact ⟨_, he, fun v q => nomatch q⟩
    · rw [z]
      exact ⟨o, ho, fun v q => by rw [hd] at q; cases q⟩
  keep := fun i h h' st k => by
    obtain ⟨⟨old, he⟩, hi⟩ := st
    exact ⟨⟨old, k e (by simp) _ he⟩, hi.at fun o q => k it (by simp) o q⟩
  item := by
    intro X hP hw hK hc i pins s σ H E I hf st hg
    subst hP hw hK
    obtain ⟨⟨old, he⟩, hit⟩ := st
    obtain ⟨xs, x, hq, hx⟩ := hg
    obtain ⟨its, rv, p, hz⟩ := I.tuple hq
    obtain ⟨u, hu, ru⟩ := rv.get hx
    have hel : e < s.heap.objs.size := Heap.lt_size he
    have hil : it < s.heap.objs.size := by obtain ⟨_, q, _⟩ := hit; exact Heap.lt_size q
    have hn : i < its.toArray.size := by
      rw [List.size_toArray]
      exact (List.getElem?_eq_some_iff.mp hu).1
    have D := Draws.tuple (prog := X.prog) (w := X.w) (A := X.A.in1) (I.ok.hd hc) it a ha its.toArray
    refine wpAny_pyNext_enum_itemC D he ⟨hit, p⟩ hn hne (by simp [hne, hae]) fun x' h' tk hx' ho hst' hT hsz hk => ?_
    have ex : x' = u := by
      have z : its.toArray[i]? = some u := by simpa using hu
      rw [z] at hx'
      exact (Option.some.inj hx').symm
    subst ex
    refine ⟨_, rfl, wpAny_letOwnedTupleGo_enum (s := { s with heap := h', toks := tk + 1 }) ho fun h'' he' sb => ?_⟩
    have hT2 : h''.get? s.heap.objs.size = some { cls := .type "tuple", data := .seq #[.int i tk, x'] } := (sb.2 _ (Nat.ne_of_gt hel)).trans hT
    have new : ObjOk X.prog X.w (upd H s.heap.objs.size (.tup [.int (i : Nat), x])) h'' s.heap.objs.size (.tup [.int (i : Nat), x]) :=
      ⟨by show 2 ≤ sizeLine; decide, [.int i tk, x'], .cons ⟨_, rfl⟩ (.cons ru .nil), ⟨_, hT2, rfl, _, rfl⟩⟩
    have I1 : Inv X pins σ (upd H s.heap.objs.size (.tup [.int (i : Nat), x])) { s with heap := h'', toks := tk + 1 } :=
      I.turnedNew (ch := [e, it]) (fun b ob hb q => (sb.2 b (fun z => hb (by simp [z]))).trans (hk b ob (fun z => hb (by simp [z])) (fun z => hb (by simp [z])) q)) hf (Nat.le_refl _) new
    refine ⟨.ref s.heap.objs.size, _, I1, rfl, ⟨_, x, rfl, I.hok.fresh (Nat.le_refl _), rfl, fun ys hy => ?_⟩, ⟨⟨x', ?_⟩, hst'.1.at fun o q => (sb.2 it (Ne.symm hne)).trans q⟩, fun b hb => ?_⟩
    · rw [I.tuple_inj hy hq]
      exact hx
    · have e1 : ((i + 1 : Nat) : Int) = (i : Int) + 1 := by omega
      rw [e1]
      exact he'
    · have hb' : b < s.heap.objs.size := by
        rcases (show b = e ∨ b = it by simpa using hb) with z | z
        · rw [z]; exact hel
        · rw [z]; exact hil
      rw [upd_ne (Nat.ne_of_lt hb')]
      exact (hf b hb).1
  done := by
    intro X hP hw hK hc i pins s σ H E I hf st hg
    subst hP hw hK
    obtain ⟨⟨old, he⟩, hit⟩ := st
    obtain ⟨xs, hq, hx⟩ := hg
    obtain ⟨its, rv, p, hz⟩ := I.tuple hq
    obtain ⟨f0, f1, f2, f3, f4, f5⟩ := hf it (by simp)
    have hl : its.toArray.size = i := by
      rw [List.size_toArray, ← rv.length]
      exact hx
    have D := Draws.tuple (prog := X.prog) (w := X.w) (A := X.A.in1) (I.ok.hd hc) it a ha its.toArray
    refine wpAny_pyNext_enum_endD D he ⟨by rw [hl]; exact hit, p⟩ fun h' eb => ?_
    exact ⟨rfl, I.turned (t' := s.toks) (fun b o hb q => eb b o hb q) f0 f1 f3 f4 f5⟩
  self := fun A i s Q E st h => by
    obtain ⟨⟨_, he⟩, _⟩ := st
    exact wpAny_pyIter_enum he h
/-! ### a list or a tuple walked -/
section
variable {X : Cx} {tg : Expr}
/-- a walk that gives xs as long as what stands in H1 stands -/
def Goes1 (H1 : Hp) (n : Nat) (Y : Nat → Hp → V → Hp → Prop) (J : It) : Prop := ∃ G : Hp → Prop, Walk J n G Y ∧ ∀ H, Ex H1 H → G H
def iSeq (K : PySem.W.Frag) (tl : TE) : TI := fun σ H R => tl σ H fun x H1 => ∃ a xs H0, x = .ref a ∧ Sq K H0 a xs ∧ Ex H0 H1 ∧ ∀ J, Goes1 H0 xs.length (YAt xs) J → R J H1
theorem new1 {pins : List (Addr × Obj)} {σ : L2.St} {H : Hp} {s : Shared} (I : Inv X pins σ H s) : (∀ b ∈ [s.heap.objs.size], FpOk X pins H b) ∧ ∀ o, Inv X pins σ H { s with heap := s.heap.push o } :=
  ⟨fun b hb => by
    obtain rfl : b = s.heap.objs.size := by simpa using hb
    exact I.fpOk (Nat.le_refl _) (I.hok.fresh (Nat.le_refl _)), fun o => I.kept (t' := s.toks) fun b o e => Heap.get?_push_of_some _ e⟩
theorem pi_seq {l : Expr} {tl : TE} (hl : PE X l tl) : PI X tg l (iSeq X.K tl) := by
  refine ⟨fun pins s σ H R I h => ?_⟩
  refine thn (hl.run pins s σ H _ I h) fun v s1 ⟨x, H1, I1, r1, a, xs, H0, ex, hq0, e0, q⟩ => ?_
  subst ex
  cases r1
  obtain ⟨fp, kp⟩ := new1 I1
  rcases hq0 with hq | hq
  · obtain ⟨its, rv, p, hz⟩ := I1.list (ex_l e0 hq)
    refine wpAny_pyIter_list p.isList ?_
    exact ⟨s1.heap.objs.size, [s1.heap.objs.size], _, _, H1, rfl, kp _, turn_list a _, ⟨_, Heap.get?_push_size _ rfl, rfl, rfl⟩, fp, q _ ⟨_, walk_list, fun H' e => ex_l e hq⟩⟩
  · obtain ⟨its, rv, p, hz⟩ := I1.tuple (ex_t e0 hq)
    refine wpAny_pyIter_tuple (show s1.heap.IsTuple a its.toArray from p) ?_
    exact ⟨s1.heap.objs.size, [s1.heap.objs.size], _, _, H1, rfl, kp _, turn_tuple a _, ⟨_, Heap.get?_push_size _ rfl, rfl, rfl⟩, fp, q _ ⟨_, walk_tup, fun H' e => ex_t e hq⟩⟩
/-- enumerate of a list or a tuple -/
def YEnum (xs : List V) : Nat → Hp → V → Hp → Prop := YPair (fun i => some (.int (i : Nat))) (fun i => xs[i]?)
def iEnumS (K : PySem.W.Frag) (ta : TA) : TI := fun σ H R => ta σ H fun vs H1 => ∃ a xs H0, vs = [.ref a] ∧ Sq K H0 a xs ∧ Ex H0 H1 ∧ ∀ J, Goes1 H0 xs.length (YEnum xs) J → R J H1
theorem pi_enumS {e : Expr} {ta : TA} {p pos tpos : Pos} {elts : List Expr} {kk : Nat} (hg : Gl X "enumerate") (hm : X.mg "enumerate" = none) (ha : PA X [e] ta) (hs : starEach [e] X.env = [(false, eval e X.env)] := by rfl) :
    PI X (.Tuple elts kk tpos) (.Call (.Name "enumerate" p) [e] [] pos) (iEnumS X.K ta) := by
  refine ⟨fun pins s σ H R I h => ?_⟩
  refine Call_ (ld_blt I hg hm boot_enumerate (PyProof.Rows.callWith_type1 (thn (ha.run pos pins s σ H _ I h) fun us s1 ⟨vs, H1, I1, r1, a, xs, H0, ex, hq0, e0, q⟩ => ?_) hs rfl))
  subst ex
  obtain rfl := Vals.ref1 r1
  have fp : ∀ b ∈ [s1.heap.objs.size + 1, s1.heap.objs.size], FpOk X pins H1 b := fun b hb => by
    have hle : s1.heap.objs.size ≤ b := by
      rcases (show b = s1.heap.objs.size + 1 ∨ b = s1.heap.objs.size by simpa using hb) with z | z <;> omega
    exact I1.fpOk hle (I1.hok.fresh hle)
  rcases hq0 with hq | hq
  · obtain ⟨its, rv, p', hz⟩ := I1.list (ex_l e0 hq)
    refine call_enumerate_list p'.isList fun h' he hit hsz hk => wpAny_pyIter_enum he ?_
    exact ⟨s1.heap.objs.size + 1, [s1.heap.objs.size + 1, s1.heap.objs.size], _, _, H1, rfl, I1.kept (t' := s1.toks) hk, turn_enum a (s1.heap.objs.size + 1) s1.heap.objs.size, ⟨⟨.none, he⟩, hit, Nat.succ_ne_self _⟩, fp, q _ ⟨_, walk_enum, fun H' e => ex_l e hq⟩⟩
  · obtain ⟨its, rv, p', hz⟩ := I1.tuple (ex_t e0 hq)
    have hlt : a < s1.heap.objs.size := by obtain ⟨o, ho, _⟩ := id p'; exact Heap.lt_size ho
    refine call_enum1 (begins_tuple a its.toArray) p' fun h' he hit hk => wpAny_pyIter_enum he ?_
    exact ⟨s1.heap.objs.size + 1, [s1.heap.objs.size + 1, s1.heap.objs.size], _, _, H1, rfl, I1.kept (t' := s1.toks) hk, turn_enumT a (s1.heap.objs.size + 1) s1.heap.objs.size (Nat.succ_ne_self _) (Nat.ne_of_lt hlt) (Nat.ne_of_gt (Nat.lt_succ_of_lt hlt)), ⟨⟨.none, he⟩, ⟨_, hit, rfl, rfl⟩⟩, fp, q _ ⟨_, walk_enumT, fun H' e => ex_t e hq⟩⟩
end
section
variable {K : PySem.W.Frag} {σ : L2.St} {H : Hp} {te : TE} {ar : TA} {R : It → Hp → Prop}
theorem r_iSeq (h : te σ H fun x H1 => ∃ a xs H0, x = .ref a ∧ Sq K H0 a xs ∧ Ex H0 H1 ∧ ∀ J, Goes1 H0 xs.length (YAt xs) J → R J H1) : iSeq K te σ H R := h
theorem r_iEnumS (h : ar σ H fun vs H1 => ∃ a xs H0, vs = [.ref a] ∧ Sq K H0 a xs ∧ Ex H0 H1 ∧ ∀ J, Goes1 H0 xs.length (YEnum xs) J → R J H1) : iEnumS K ar σ H R := h
end
/-! ### t[::-1] -/
theorem adjust_rev (n : Nat) : Builtin.Slice.sliceAdjust none none (-1) (n : Int) = ((n : Int) - 1, -1) := by
  unfold Builtin.Slice.sliceAdjust
  simp
theorem places_rev (n : Nat) : Builtin.Slice.slicePlaces ((n : Int) - 1) (-1) (-1) = n := by
  unfold Builtin.Slice.slicePlaces
  rw [if_neg (by decide)]
  split <;> simp <;> omega
section
open HT
variable {prog : Program} {w : World} {A : Around} {E : Value → Shared → Prop} {s : Shared}
theorem sliceApplied_rev {sl : Addr} {vs : Value} {n : Nat} {Q : Int × Int × Nat → Shared → Prop} (hs : s.heap.IsSliceOf sl .none .none vs) (ps : IsPart vs (some (-1)))
    (h : Q ((n : Int) - 1, -1, n) s) : wpAny (model prog w) A (Builtin.Slice.sliceApplied (.ref sl) (pure (n : Int))) Q E s := by
  obtain ⟨os, hos, hcs, hds⟩ := id hs
  unfold Builtin.Slice.sliceApplied Builtin.Slice.sliceFields
  refine wpAny_bind (wpAny_bind (wpAny_field hos hds (x := .none) rfl (wpAny_bind (wpAny_field hos hds (x := .none) rfl (wpAny_bind (wpAny_field hos hds (x := vs) rfl (wpAny_pure ?_)))))))
  refine wpAny_bind (slicePart_ ps ?_)
  show wpAny _ _ (if ((-1 : Int) == 0) = true then _ else _) _ _ s
  rw [if_neg (by decide)]
  refine wpAny_bind (slicePart_none (wpAny_bind (slicePart_none (wpAny_bind (wpAny_pure ?_)))))
  show wpAny _ _ (match Builtin.Slice.sliceAdjust none none (-1) (n : Int) with | (lo, hi) => pure (lo, (-1 : Int), Builtin.Slice.slicePlaces lo hi (-1))) _ _ s
  rw [adjust_rev n]
  show wpAny _ _ (pure ((n : Int) - 1, (-1 : Int), Builtin.Slice.slicePlaces ((n : Int) - 1) (-1) (-1))) _ _ s
  rw [places_rev]
  exact wpAny_pure h
theorem pick_rev (xs : Array Value) : ((List.range xs.size).filterMap fun (k : Nat) => xs[((xs.size : Int) - 1 + (k : Int) * -1).toNat]?).toArray = xs.toList.reverse.toArray := by
  congr 1
  have e : ((List.range xs.size).filterMap fun (k : Nat) => xs[((xs.size : Int) - 1 + (k : Int) * -1).toNat]?) = ((List.range xs.size).map (fun k => xs.size - 1 - k)).filterMap (xs[·]?) := by
    rw [List.filterMap_map]
    congr 1
    funext k
    have : ((xs.size : Int) - 1 + (k : Int) * -1).toNat = xs.size - 1 - k := by omega
    show xs[((xs.size : Int) - 1 + (k : Int) * -1).toNat]? = xs[xs.size - 1 - k]?
    rw [this]
  rw [e, PySem.W.krv_range, List.filterMap_reverse, PySem.W.krv_all]
theorem getItem_tuple_rev {t sl : Addr} {items : Array Value} {vs : Value} {Q : Value → Shared → Prop} (ht : IsTup s.heap t items) (hs : s.heap.IsSliceOf sl .none .none vs) (ps : IsPart vs (some (-1))) (hsz : items.size ≤ sizeLine)
    (h : Q (.ref s.heap.objs.size) { s with heap := s.heap.push { cls := .type "tuple", data := .seq items.toList.reverse.toArray } }) : wpAny (model prog w) A (getItem (.ref t) (.ref sl)) Q E s := by
  have htake : sizeOk (.seq items.toList.reverse.toArray) := by
    show items.toList.reverse.toArray.size ≤ sizeLine
    rw [List.size_toArray, List.length_reverse, Array.length_toList]
    exact hsz
  obtain ⟨os, hos, hcs, hds⟩ := id hs
  have hTs : s.TypeIs (.ref sl) "slice" := ⟨os, hos, hcs⟩
  unfold getItem
  try with_reducible refine wpAny_holding ?_
  first | refine wpAny_bind (wpAny_pure ?_) | skip
  refine wpAny_bind (wpAny_sequenceKey ht.typeIs (by decide) (wpAny_bind (wpAny_callSpecial?_slot (name := Str.ofString "__getitem__") ht.typeIs PyProof.Rows.slot_tuple_getitem (wpAny_call_entry PyProof.Rows.slot_tuple_getitem ht.typeIs entry_tuple_getitem ?_ (args_tuple_getitem _ _)))))
  show wpAny _ _ (Builtin.Tuple.tupleItemsOf (.ref t) >>= _) _ _ s
  refine wpAny_bind (tupleItemsOf_ ht (wpAny_bind (wpAny_typeOf hTs ?_)))
  rw [if_pos (by decide)]
  refine wpAny_bind (sliceApplied_rev hs ps ?_)
  show wpAny _ _ (if (((items.size : Int) - 1 == 0) && ((-1 : Int) == 1) && items.size == items.size) = true then _ else _) _ _ s
  rw [if_neg (by rw [show ((-1 : Int) == 1) = false from rfl, Bool.and_false, Bool.false_and]; decide), pick_rev]
  first
    | exact wpAny_bind (m := Builtin.Tuple.tupleExact _) (wpAny_newObj_type (wpAny_pure ⟨_, rfl, wpAny_pure h⟩) htake)
    | exact wpAny_bind (wpAny_bind (m := Builtin.Tuple.tupleExact _) (wpAny_newObj_type (wpAny_pure (wpAny_pure ⟨_, rfl, wpAny_pure h⟩)) htake))
    | exact wpAny_bind (wpAny_bind (m := Builtin.Tuple.tupleExact _) (wpAny_newObj_type (wpAny_pure ⟨_, rfl, wpAny_pure h⟩) htake))
end
section
variable {X : Cx}
def tRevT (K : PySem.W.Frag) (te : TE) : TE := fun σ H Q => te σ H fun x H1 => ∃ a xs, x = .ref a ∧ SqT K H1 a xs ∧ ∀ p, H1 p = none → Q (.ref p) (upd H1 p (.tup xs.reverse))
theorem r_revT {K : PySem.W.Frag} {σ : L2.St} {H : Hp} {te : TE} {Q : VK} (h : te σ H fun x H1 => ∃ a xs, x = .ref a ∧ SqT K H1 a xs ∧ ∀ p, H1 p = none → Q (.ref p) (upd H1 p (.tup xs.reverse))) : tRevT K te σ H Q := h
theorem pe_revT {e : Expr} {te : TE} {k : Nat} {p1 p2 p3 pos : Pos} (he : PE X e te) : PE X (.Subscript e (.Slice none none (some (.UnaryOp .USub (.Constant (.int 1) k p1) p2)) p3) pos) (tRevT X.K te) := by
  refine ⟨fun pins s σ H Q I h => ?_⟩
  refine Subscript_ (thn (he.run pins s σ H _ I h) fun v s1 ⟨x, H1, I1, r1, a, xs, ex, hx, q⟩ => ?_)
  subst ex
  cases r1
  have hst : PO X (some (.UnaryOp .USub (.Constant (.int 1) k p1) p2)) (tPart (tUn (rU fun i => .int (-i)) (tC (.int 1)))) := po_some (pe_un un_neg pe_int)
  refine wpAny_Slice (thn (po_none.run pins s1 σ H1 (fun o H2 => o = none ∧ H2 = H1) I1 ⟨rfl, rfl⟩) fun vl s2 ⟨l, H2, I2, pl, el, e2⟩ => ?_)
  subst el e2
  refine thn (po_none.run pins s2 σ H2 (fun o H3 => o = none ∧ H3 = H2) I2 ⟨rfl, rfl⟩) fun vu s3 ⟨u, H3, I3, pu, eu, e3⟩ => ?_
  subst eu e3
  refine thn (hst.run pins s3 σ H3 (fun o H4 => o = some (-1) ∧ H4 = H3) I3 ⟨1, rfl, -1, rfl, rfl, rfl⟩) fun vs s4 ⟨o, H4, I4, ps, eo, e4⟩ => ?_
  subst eo e4
  cases pl
  cases pu
  have I5 : Inv X pins σ H4 { s4 with heap := s4.heap.push { cls := .type "slice", data := .fields #[.none, .none, vs] } } := I4.kept (t' := s4.toks) fun b ob q => Heap.get?_push_of_some _ q
  obtain ⟨its, r, ht, hz⟩ := I5.tuple hx
  have hlen := r.length
  show wpAny (model X.prog X.w) X.A (subscriptTail e (.Slice none none (some (.UnaryOp .USub (.Constant (.int 1) k p1) p2)) p3) (.ref a) (.ref s4.heap.objs.size)) (EP X pins σ Q) X.xe { s4 with heap := s4.heap.push { cls := .type "slice", data := .fields #[.none, .none, vs] } }
  refine tail_any (ops := [.ref a, .ref s4.heap.objs.size]) ht.typeIs (PyProof.Rows.slot_tuple_getitem.lookup) ?_ (by with_unfolding_all rfl)
  refine getItem_tuple_rev ht (Heap.IsSliceOf.new _ .none .none vs) ps (by rw [List.size_toArray]; omega) ?_
  refine ⟨.ref _, _, I5.laid (t' := s4.toks) (o := .tup xs.reverse) (fun b ob q => Heap.get?_push_of_some _ q) (Nat.le_refl _) ?_, rfl, q _ (I5.hok.fresh (Nat.le_refl _))⟩
  exact ⟨by rw [List.length_reverse]; exact hz, its.reverse, r.reverse, ⟨_, Heap.get?_push_size _ rfl, rfl, _, rfl⟩⟩

/-! ### c[i] by the class's own __getitem__ -/
variable {k : Nat} {f C : Addr} {ps : List Str} {sp : Sp}
def tIxO (C : Addr) (sp : Sp) (ta tb : TE) : TE := fun σ H Q => ta σ H fun x H1 => tb σ H1 fun y H2 => ∃ a dx fs, x = .ref a ∧ H2 a = some (.ins C dx fs) ∧ sp [x, y] H2 Q E0
theorem r_ixO {C : Addr} {sp : Sp} {σ : L2.St} {H : Hp} {ta tb : TE} {Q : VK} (h : ta σ H fun x H1 => tb σ H1 fun y H2 => ∃ a dx fs, x = .ref a ∧ H2 a = some (.ins C dx fs) ∧ sp [x, y] H2 Q E0) : tIxO C sp ta tb σ H Q := h
theorem pe_ixB {a b : Expr} {ta tb : TE} {pos : Pos} (G : Okf X.prog X.w X.K X.mg X.base k f ps sp) (hr : Room (k + 1) X.A)
    (hs : PySem.W.findIn X.K (.ref C) "__getitem__" = some (some (.ref f))) (hf : PySem.W.fnIn X.K f = true) (hfn : PySem.W.isFn X.K (.ref f) = true) (ha : PE X a ta) (hb : PE X b tb)
    (hsl : ∀ x i, subscripted b true (.ref x) i = runValue (.builtin "lifetime.subscript" ⟨[.ref x, i], []⟩) := by intro _ _; with_unfolding_all rfl) : PE X (.Subscript a b pos) (tIxO C sp ta tb) := by
  obtain ⟨fd, F, hbd⟩ := G
  refine ⟨fun pins s σ H Q I h => ?_⟩
  refine Subscript_ (binT ha hb I h fun v u s2 x y H2 I2 rx ry q => ?_)
  obtain ⟨p, dx, fs, rfl, hp, q⟩ := q
  cases rx
  obtain ⟨mA, J, _⟩ := ins_get I2.hok hp
  obtain ⟨od, J, _⟩ := J.look
  obtain ⟨m, hF⟩ := I2.fr
  refine PySem.W.sub_K hF I2.ok.mod.kin J hs hf hfn ?_ (hsl p u)
  exact run_fn1 (us := [.ref p, u]) (vs := [.ref p, y]) F hr hbd passL I2 (.cons rfl (.cons ry .nil)) q
end
end Hn

/-! Clocks, plainly: stays round about, widths. -/
namespace Hn

/-- the item at any place, round about -/
def cyc (s : List Int) (i : Int) : Int := s.getD (i % (s.length : Int)).toNat 0
/-- how many begins back serve the hour h -/
def wd (s : List Int) (h : Int) : Int := (((List.range s.length).filter fun (b : Nat) => decide ((b : Int) < cyc s (h - (b : Int)))).length : Int)
def wds (s : List Int) : List Int := (List.range s.length).map fun (h : Nat) => wd s h
def okStays (s : List Int) : Bool := decide (1 ≤ s.length) && decide (s.length ≤ 48) && s.all fun x => decide (1 ≤ x) && decide (x ≤ (s.length : Int))
structure Good (s : List Int) : Prop where
  ne : 1 ≤ s.length
  le : s.length ≤ 48
  lo : ∀ i : Int, 1 ≤ cyc s i
  hi : ∀ i : Int, cyc s i ≤ (s.length : Int)
  od : ∀ i : Int, cyc s i ≤ 1 + cyc s (i + 1)

theorem mod_bd {n : Nat} (h : 1 ≤ n) (i : Int) : 0 ≤ i % (n : Int) ∧ i % (n : Int) < (n : Int) := ⟨Int.emod_nonneg _ (by omega), Int.emod_lt_of_pos _ (by omega)⟩
theorem cyc_mem {s : List Int} (h : 1 ≤ s.length) (i : Int) : cyc s i ∈ s := by
  have := mod_bd h i
  unfold cyc
  rw [List.getD_eq_getElem?_getD, List.getElem?_eq_getElem (by omega)]
  exact List.getElem_mem _
theorem cyc_at {s : List Int} {j : Nat} (h : j < s.length) : cyc s (j : Int) = s.getD j 0 := by
  unfold cyc
  rw [Int.emod_eq_of_lt (by omega) (by omega), Int.toNat_natCast]
theorem cyc_mod (s : List Int) (i : Int) : cyc s (i % (s.length : Int)) = cyc s i := by
  unfold cyc
  rw [Int.emod_emod_of_dvd _ (Int.dvd_refl _)]
theorem cyc_congr {s : List Int} {i j : Int} (h : i % (s.length : Int) = j % (s.length : Int)) : cyc s i = cyc s j := by
  unfold cyc
  rw [h]
theorem okStays_iff {s : List Int} : okStays s = true ↔ (1 ≤ s.length ∧ s.length ≤ 48 ∧ ∀ x ∈ s, 1 ≤ x ∧ x ≤ (s.length : Int)) := by
  unfold okStays
  simp only [Bool.and_eq_true, decide_eq_true_eq, List.all_eq_true]
  constructor
  · rintro ⟨⟨a, b⟩, c⟩
    exact ⟨a, b, c⟩
  · rintro ⟨a, b, c⟩
    exact ⟨⟨a, b⟩, c⟩
theorem Good.ok {s : List Int} (g : Good s) : okStays s = true := by
  refine okStays_iff.mpr ⟨g.ne, g.le, fun x hx => ?_⟩
  obtain ⟨j, hj, rfl⟩ := List.mem_iff_getElem.mp hx
  have e : cyc s (j : Int) = s[j] := by
    rw [cyc_at hj, List.getD_eq_getElem?_getD, List.getElem?_eq_getElem hj]
    rfl
  rw [← e]
  exact ⟨g.lo _, g.hi _⟩
theorem Good.of {s : List Int} (h : okStays s = true) (o : ∀ j : Nat, j < s.length → s.getD j 0 ≤ 1 + cyc s ((j : Int) + 1)) : Good s := by
  obtain ⟨h1, h2, h3⟩ := okStays_iff.mp h
  refine ⟨h1, h2, fun i => (h3 _ (cyc_mem h1 i)).1, fun i => (h3 _ (cyc_mem h1 i)).2, fun i => ?_⟩
  have hb := mod_bd h1 i
  have e1 := o (i % (s.length : Int)).toNat (by omega)
  have e2 : (((i % (s.length : Int)).toNat : Nat) : Int) = i % (s.length : Int) := by omega
  rw [e2] at e1
  have e3 : cyc s (i % (s.length : Int) + 1) = cyc s (i + 1) := cyc_congr (by rw [Int.emod_add_emod])
  rw [e3] at e1
  exact e1

/-! ### windows have no gap -/
theorem down {s : List Int} (g : Good s) (h : Int) : ∀ (b : Nat), (b : Int) + 1 < cyc s (h - ((b : Int) + 1)) → (b : Int) < cyc s (h - b) := fun b q => by
  have := g.od (h - ((b : Int) + 1))
  rw [show h - ((b : Int) + 1) + 1 = h - b by omega] at this
  omega
theorem down' {s : List Int} (g : Good s) (h : Int) : ∀ (k b : Nat), (((b + k : Nat) : Int)) < cyc s (h - ((b + k : Nat) : Int)) → (b : Int) < cyc s (h - b)
  | 0, b, q => q
  | k + 1, b, q => down' g h k b (by
      have := down g h (b + k)
      rw [show ((b + (k + 1) : Nat) : Int) = ((b + k : Nat) : Int) + 1 by omega] at q
      exact this q)
/-- a downward closed test on the first numbers: how many pass is where it ends -/
theorem count_down (p : Nat → Bool) : ∀ n : Nat, (∀ b, p (b + 1) = true → p b = true) → ∀ b, b < n → (b < ((List.range n).filter p).length ↔ p b = true) := by
  intro n hp
  have hp' : ∀ k b, p (b + k) = true → p b = true := fun k => by
    induction k with
    | zero => exact fun b h => h
    | succ k ih => exact fun b h => ih b (hp (b + k) h)
  induction n with
  | zero => intro b hb; omega
  | succ n ih =>
    intro b hb
    rw [List.range_succ, List.filter_append, List.length_append, List.filter_cons]
    have hle : ((List.range n).filter p).length ≤ n := by
      have := List.length_filter_le p (List.range n)
      rw [List.length_range] at this
      exact this
    by_cases hn : p n = true
    · have all : ((List.range n).filter p).length = n := by
        have e : (List.range n).filter p = List.range n := List.filter_eq_self.mpr fun a ha => hp' (n - a) a (by
          have := List.mem_range.mp ha
          rw [show a + (n - a) = n by omega]
          exact hn)
        rw [e, List.length_range]
      rw [if_pos hn, all]
      simp only [List.filter_nil, List.length_cons, List.length_nil]
      refine ⟨fun _ => hp' (n - b) b (by rw [show b + (n - b) = n by omega]; exact hn), fun _ => by omega⟩
    · rw [if_neg hn]
      simp only [List.filter_nil, List.length_nil, Nat.add_zero]
      rcases Nat.lt_or_ge b n with h | h
      · exact ih b h
      · have e : b = n := by omega
        subst e
        exact ⟨fun h => absurd h (by omega), fun h => absurd h hn⟩
/-- the hour h is served by the begin b hours back just if b is less than its width -/
theorem wd_iff {s : List Int} (g : Good s) (h : Int) {b : Nat} (hb : b < s.length) : (b : Int) < wd s h ↔ (b : Int) < cyc s (h - b) := by
  have := count_down (fun (b : Nat) => decide ((b : Int) < cyc s (h - (b : Int)))) s.length (fun b q => by
    have q' := of_decide_eq_true q
    exact decide_eq_true (down g h b (by
      rw [show ((b + 1 : Nat) : Int) = (b : Int) + 1 by omega] at q'
      exact q'))) b hb
  unfold wd
  rw [decide_eq_true_eq] at this
  rw [← this]
  omega
theorem wd_le {s : List Int} (h : Int) : wd s h ≤ (s.length : Int) := by
  unfold wd
  have := List.length_filter_le (fun (b : Nat) => decide ((b : Int) < cyc s (h - (b : Int)))) (List.range s.length)
  rw [List.length_range] at this
  omega
theorem wd_nn {s : List Int} (h : Int) : 0 ≤ wd s h := by
  unfold wd
  omega
theorem wd_pos {s : List Int} (g : Good s) (h : Int) : 1 ≤ wd s h := by
  have := (wd_iff g h (b := 0) g.ne).mpr (by have := g.lo (h - ((0 : Nat) : Int)); omega)
  omega
theorem wd_mod (s : List Int) (h : Int) : wd s (h % (s.length : Int)) = wd s h := by
  unfold wd
  congr 2
  refine List.filter_congr fun b _ => ?_
  rw [cyc_congr (i := h % (s.length : Int) - b) (j := h - b) (by rw [Int.emod_sub_emod])]
theorem wds_length (s : List Int) : (wds s).length = s.length := by
  unfold wds
  rw [List.length_map, List.length_range]
theorem cyc_wds {s : List Int} (h1 : 1 ≤ s.length) (h : Int) : cyc (wds s) h = wd s h := by
  have hb := mod_bd h1 h
  unfold cyc
  rw [wds_length, List.getD_eq_getElem?_getD]
  unfold wds
  rw [List.getElem?_map, List.getElem?_range (by omega)]
  show wd s (((h % (s.length : Int)).toNat : Nat) : Int) = wd s h
  rw [show (((h % (s.length : Int)).toNat : Nat) : Int) = h % (s.length : Int) by omega, wd_mod]
theorem wd_step {s : List Int} (g : Good s) (h : Int) : wd s (h + 1) ≤ 1 + wd s h := by
  rcases Int.lt_or_le (1 + wd s h) (wd s (h + 1)) with q | q
  · exfalso
    have h0 := wd_nn (s := s) h
    have h1 := wd_le (s := s) (h + 1)
    obtain ⟨b, hb⟩ : ∃ b : Nat, wd s h = (b : Int) := ⟨(wd s h).toNat, by omega⟩
    have e1 := (wd_iff g (h + 1) (b := b + 1) (by omega)).mp (by omega)
    have e2 : (b : Int) < cyc s (h - b) := by
      rw [show h + 1 - ((b + 1 : Nat) : Int) = h - b by omega] at e1
      omega
    have e3 := (wd_iff g h (b := b) (by omega)).mpr e2
    omega
  · omega
end Hn

/-! Kinds of values; calls by name, read. -/
namespace Hn
open PySem PySem.Spec PyProof.Rows L2 Evl
section
variable {K : PySem.W.Frag} {σ : L2.St} {H : Hp} {Q : VK} {a : Addr} {xs : List V} {i : Int}
theorem sq_ty (h : Sq K H a xs) : TyX K H (.ref a) (.type "list") ∨ TyX K H (.ref a) (.type "tuple") := by
  rcases h with h | h
  · rcases h with (h | ⟨o, h⟩) | ⟨o, its, n, h1, h2, _⟩
    · exact .inl (.base (.lst h))
    · exact .inl (.base (.frz h))
    · exact .inl (.kList h1 h2)
  · rcases h with (h | ⟨o, h⟩) | ⟨o, its, n, h1, h2, _⟩
    · exact .inr (.base (.tup h))
    · exact .inr (.fTuple h)
    · exact .inr (.kTuple h1 h2)
theorem r_isiSeq {tp : Addr} (h : Sq K H a xs) (ht : H tp = some (.tup [.ty "list", .ty "tuple"])) (q : Q (.bl true) H) : rIsiT K [.ref a, .ref tp] H Q := by
  have pc : Paired ClsV [V.ty "list", V.ty "tuple"] [.type "list", .type "tuple"] := .cons (.ty _) (.cons (.ty _) .nil)
  rcases sq_ty h with t | t
  · exact ⟨.ref a, tp, _, _, _, true, rfl, ht, pc, t, kitAny_cons (b := true) (kit_ty (by decide +kernel)) (fun z => nomatch z) (fun _ => rfl), q⟩
  · exact ⟨.ref a, tp, _, _, _, true, rfl, ht, pc, t, kitAny_cons (b := false) (kit_ty (by decide +kernel)) (fun _ => kitAny_cons (b := true) (kit_ty (by decide +kernel)) (fun z => nomatch z) (fun _ => rfl)) (fun z => nomatch z), q⟩
theorem r_isiInt (q : Q (.bl true) H) : rIsi K [.int i, .ty "int"] H Q := ⟨.int i, .ty "int", _, _, true, rfl, .ty _, .base (.int i), kit_ty (by decide +kernel), q⟩
theorem r_isiIntB (q : Q (.bl false) H) : rIsi K [.int i, .ty "bool"] H Q := ⟨.int i, .ty "bool", _, _, false, rfl, .ty _, .base (.int i), kit_ty (by decide +kernel), q⟩
theorem r_all {bs : List Bool} (h : SqL K H a (bs.map V.bl)) (q : Q (.bl (bs.all id)) H) : rAll K [.ref a] H Q := ⟨a, bs, rfl, h, q⟩
theorem r_sum {ns : List Int} (h : SqL K H a (ns.map V.int)) (q : Q (.int ns.sum) H) : rSum K [.ref a] H Q := ⟨a, ns, rfl, h, q⟩
theorem ty_lst (h : H a = some (.lst xs)) : tyV K "list" (.ref a) H := .inl ⟨rfl, xs, .inl (.inl h)⟩
theorem szc (h : Nat.ble xs.length 1000 = true) : xs.length ≤ sizeLine := by
  have : (1000 : Nat) ≤ sizeLine := by decide
  have := Nat.le_of_ble_eq_true h
  omega
/-- a new list that nobody else holds -/
def RetN (xs : List V) (H : Hp) (Q : VK) : Prop := ∀ p H', H p = none → Ex H H' → H' p = some (.lst xs) → Q (.ref p) H'
theorem tup_mono {H' : Hp} (e : Xl H H') (h : SqT K H a xs) : SqT K H' a xs := by
  rcases h with (h | ⟨o, h⟩) | h
  · exact .inl (.inl (e _ _ h rfl))
  · exact .inl (.inr ⟨o, e _ _ h rfl⟩)
  · exact .inr h
/-- a tuple stands though an instance is written -/
theorem tup_ins {C dx : Addr} {fs : List (Str × V)} {p : Addr} {o : HO} (hp : H p = some (.ins C dx fs)) (h : SqT K H a xs) : SqT K (upd H p o) a xs := by
  rcases h with (h | ⟨o', h⟩) | h
  · exact .inl (.inl (by rw [upd_ne (ne_of h hp (by intro z; cases z))]; exact h))
  · exact .inl (.inr ⟨o', by rw [upd_ne (ne_of h hp (by intro z; cases z))]; exact h⟩)
  · exact .inr h
theorem map_range_int (ns : List Int) (f : Int → V) : (List.range ns.length).map (fun i => f (ns.getD i 0)) = ns.map f := by
  refine List.ext_getElem? fun i => ?_
  rw [List.getElem?_map, List.getElem?_map]
  rcases Nat.lt_or_ge i ns.length with h | h
  · rw [List.getElem?_range h, List.getElem?_eq_getElem h, Option.map_some, Option.map_some, List.getD_eq_getElem?_getD, List.getElem?_eq_getElem h]
    rfl
  · rw [List.getElem?_eq_none (by rw [List.length_range]; omega), List.getElem?_eq_none h]
    rfl
end
end Hn

/-! The rules with the written part by its own name, so that they fit within a comprehension's block. -/
namespace Hn
open PySem PySem.Spec PyProof.Rows L2 Evl
section
variable {X : Cx} {K : PySem.W.Frag} {tg l e : Expr} {tl te : TE} {ar : TA}
theorem k_ixL (h : X.K = K) : IxR X (rIxL K) := h ▸ ix_list
theorem k_ixT (h : X.K = K) : IxR X (rIxT K) := h ▸ ix_tup
theorem k_ixS (h : X.K = K) : IxR X (rIx K) := h ▸ ix_seq
theorem k_getL (h : X.K = K) : PGet X (rIxL K) := h ▸ get_list
def rLen (K : PySem.W.Frag) : List V → Hp → VK → Prop := fun xs H Q => ∃ p ys, xs = [.ref p] ∧ (SqL K H p ys ∨ SqT K H p ys) ∧ Q (.int ys.length) H
def rListOf (K : PySem.W.Frag) : List V → Hp → VK → Prop := fun xs H Q => ∃ p ys, xs = [.ref p] ∧ (SqL K H p ys ∨ SqT K H p ys) ∧ ∀ l, H l = none → Q (.ref l) (upd H l (.lst ys))
def rTupOf (K : PySem.W.Frag) : List V → Hp → VK → Prop := fun xs H Q => ∃ p ys, xs = [.ref p] ∧ ((SqL K H p ys ∧ ∀ l, H l = none → Q (.ref l) (upd H l (.tup ys))) ∨ (SqT K H p ys ∧ Q (.ref p) H))
def rAbs : List V → Hp → VK → Prop := fun xs H Q => ∃ i, xs = [.int i] ∧ Q (.int (if i < 0 then -i else i)) H
def rInt1 : List V → Hp → VK → Prop := fun xs H Q => (∃ i, xs = [.int i] ∧ Q (.int i) H) ∨ ∃ k, xs = [.bl k] ∧ Q (.int (if k then 1 else 0)) H
def rIsNon : R2 := fun x y H Q => y = .non ∧ Q (.bl (decide (x = .non))) H
def rNotNon : R2 := fun x y H Q => y = .non ∧ Q (.bl (!decide (x = .non))) H
def rInsert : V → List V → Hp → VK → Prop := fun x vs H Q => ∃ (l : Addr) (xs : List V) (i : Int) (y : V), x = .ref l ∧ vs = [.int i, y] ∧ H l = some (.lst xs) ∧ xs.length < sizeLine ∧ 0 ≤ i ∧ i < 2 ^ 63 ∧
    Q .non (upd H l (.lst (xs.take i.toNat ++ [y] ++ xs.drop i.toNat)))
def rMin2 : List V → Hp → VK → Prop := fun xs H Q => ∃ i j, xs = [.int i, .int j] ∧ Q (.int (if j < i then j else i)) H
def rMx2 : List V → Hp → VK → Prop := fun xs H Q => ∃ i j, xs = [.int i, .int j] ∧ Q (.int (if j > i then j else i)) H
theorem k_len (h : X.K = K) : CallR X (.builtin "len") (rLen K) := h ▸ call_len_seq
theorem k_listOf (h : X.K = K) : CallR X (.type "list") (rListOf K) := h ▸ call_list_of
theorem k_tupOf (h : X.K = K) : CallR X (.type "tuple") (rTupOf K) := h ▸ call_tuple_of
theorem k_abs : CallR X (.builtin "abs") rAbs := call_abs
theorem k_int1 : CallR X (.type "int") rInt1 := call_int1
theorem k_isN : OpR X (compareOp .Is) rIsNon := op_isN
theorem k_notN : OpR X (compareOp .IsNot) rNotNon := op_notN
theorem k_insert : MtR X "list.insert" rInsert := mt_insert
theorem k_min2 (hc : X.calm = true) : CallR X (.builtin "min") rMin2 := call_min2 hc
theorem k_max2 (hc : X.calm = true) : CallR X (.builtin "max") rMx2 := call_max2 hc
section
variable {H : Hp} {Q : VK} {i j : Int} {x : V} {a : Addr} {xs : List V}
theorem r_len (h : Sq K H a xs) (q : Q (.int (xs.length : Int)) H) : rLen K [.ref a] H Q := ⟨a, xs, rfl, h, q⟩
theorem r_listOf (h : Sq K H a xs) (q : ∀ l, H l = none → Q (.ref l) (upd H l (.lst xs))) : rListOf K [.ref a] H Q := ⟨a, xs, rfl, h, q⟩
/-- tuple(x): some tuple of the items, x itself or a new one -/
theorem r_tupOf (h : Sq K H a xs) (q : ∀ l H', Ex H H' → SqT K H' l xs → Q (.ref l) H') : rTupOf K [.ref a] H Q :=
  h.elim (fun h => ⟨a, xs, rfl, .inl ⟨h, fun l nl => q l _ (Ex.new nl) (.inl (.inl upd_same))⟩⟩) fun h => ⟨a, xs, rfl, .inr ⟨h, q a H (Ex.refl H) h⟩⟩
theorem r_abs (q : Q (.int (if i < 0 then -i else i)) H) : rAbs [.int i] H Q := ⟨i, rfl, q⟩
theorem r_intP (q : Q (.int i) H) : rInt1 [.int i] H Q := .inl ⟨i, rfl, q⟩
theorem r_intB {b : Bool} (q : Q (.int (if b then 1 else 0)) H) : rInt1 [.bl b] H Q := .inr ⟨b, rfl, q⟩
theorem r_min2 (q : Q (.int (if j < i then j else i)) H) : rMin2 [.int i, .int j] H Q := ⟨i, j, rfl, q⟩
theorem r_max2 (q : Q (.int (if j > i then j else i)) H) : rMx2 [.int i, .int j] H Q := ⟨i, j, rfl, q⟩
theorem r_isN (q : Q (.bl (decide (x = .non))) H) : rIsNon x .non H Q := ⟨rfl, q⟩
theorem r_notN (q : Q (.bl (!decide (x = .non))) H) : rNotNon x .non H Q := ⟨rfl, q⟩
theorem r_isNi (q : Q (.bl false) H) : rIsNon (.int i) .non H Q := ⟨rfl, q⟩
theorem r_isNr (q : Q (.bl false) H) : rIsNon (.ref a) .non H Q := ⟨rfl, q⟩
theorem r_isNn (q : Q (.bl true) H) : rIsNon .non .non H Q := ⟨rfl, q⟩
theorem r_notNi (q : Q (.bl true) H) : rNotNon (.int i) .non H Q := ⟨rfl, q⟩
theorem r_notNr (q : Q (.bl true) H) : rNotNon (.ref a) .non H Q := ⟨rfl, q⟩
theorem r_notNn (q : Q (.bl false) H) : rNotNon .non .non H Q := ⟨rfl, q⟩
end
theorem k_all (h : X.K = K) (hc : X.calm = true) : CallR X (.builtin "all") (rAll K) := h ▸ cr_all hc
theorem k_any (h : X.K = K) (hc : X.calm = true) : CallR X (.builtin "any") (rAny K) := h ▸ cr_any hc
theorem k_sum (h : X.K = K) (hc : X.calm = true) : CallR X (.builtin "sum") (rSum K) := h ▸ cr_sum hc
theorem k_min (h : X.K = K) (hc : X.calm = true) : CallR X (.builtin "min") (rMin K) := h ▸ cr_min hc
theorem k_max (h : X.K = K) (hc : X.calm = true) : CallR X (.builtin "max") (rMax K) := h ▸ cr_max hc
theorem k_in (h : X.K = K) : OpR X (compareOp .In) (rIn K false) := h ▸ op_in_seq
theorem k_notIn (h : X.K = K) : OpR X (compareOp .NotIn) (rIn K true) := h ▸ op_notIn_seq
theorem k_eqD (h : X.K = K) (hu : X.A.units + 64 < cLine) : OpR X (compareOp .Eq) (rEqD K) := h ▸ op_eqD hu
theorem k_neD (h : X.K = K) (hu : X.A.units + 64 < cLine) : OpR X (compareOp .NotEq) (rNeD K) := h ▸ op_neD hu
theorem k_isi (h : X.K = K) : CallR X (.builtin "isinstance") (rIsi K) := h ▸ call_isi
theorem k_isiT (h : X.K = K) : CallR X (.builtin "isinstance") (rIsiT K) := h ▸ call_isiT
theorem k_slL (h : X.K = K) : SlR X (rSlL K) := h ▸ sl_list
theorem k_piL (h : X.K = K) (hl : PE X l tl) : PI X tg l (iList K tl) := h ▸ pi_list hl
theorem k_piT (h : X.K = K) (hl : PE X l tl) : PI X tg l (iTup K tl) := h ▸ pi_tup hl
theorem k_piS (h : X.K = K) (hl : PE X l tl) : PI X tg l (iSeq K tl) := h ▸ pi_seq hl
theorem k_piE {p pos tpos : Pos} {elts : List Expr} {kk : Nat} (h : X.K = K) (hg : Gl X "enumerate") (hm : X.mg "enumerate" = none) (ha : PA X [e] ar) (hs : starEach [e] X.env = [(false, eval e X.env)] := by rfl) :
    PI X (.Tuple elts kk tpos) (.Call (.Name "enumerate" p) [e] [] pos) (iEnumS K ar) := h ▸ pi_enumS hg hm ha hs
theorem k_piZ {e2 : Expr} {p pos tpos : Pos} {elts : List Expr} {kk : Nat} (h : X.K = K) (hg : Gl X "zip") (hm : X.mg "zip" = none) (ha : PA X [e, e2] ar)
    (hs : starEach [e, e2] X.env = (false, eval e X.env) :: starEach [e2] X.env := by rfl) (hpl : (backTo pos (starEach [e2] X.env)).any (·.1) = false := by rfl) :
    PI X (.Tuple elts kk tpos) (.Call (.Name "zip" p) [e, e2] [] pos) (iZip K ar) := h ▸ pi_zip hg hm ha hs hpl
theorem k_fld {f : Str} {pos : Pos} (h : X.K = K) (he : PE X e te) (hb : attributeBase e f X.env (eval e X.env) = eval e X.env := by rfl) : PE X (.Attribute e f pos) (tFld K te f) := h ▸ pe_fld he hb
theorem k_sfld {o : Expr} {ta : TE} {f : Str} {pos pos' : Pos} (h : X.K = K) (ha : PE X o ta) (hv : PE X e te) (hs : swapsWith e (some (.Attribute o f pos')) pos.line X.env = pure false := by rfl) : PS X (.Assign [.Attribute o f pos'] e pos) (sFld K ta te f) := h ▸ ps_fld ha hv hs
theorem k_revL {k : Nat} {p1 p2 p3 pos : Pos} (h : X.K = K) (he : PE X e te) : PE X (.Subscript e (.Slice none none (some (.UnaryOp .USub (.Constant (.int 1) k p1) p2)) p3) pos) (tRevL K te) := h ▸ pe_revL he
theorem k_revT {k : Nat} {p1 p2 p3 pos : Pos} (h : X.K = K) (he : PE X e te) : PE X (.Subscript e (.Slice none none (some (.UnaryOp .USub (.Constant (.int 1) k p1) p2)) p3) pos) (tRevT K te) := h ▸ pe_revT he
theorem k_gtup {es : List Expr} {k : Nat} {t : TGs} {n : Nat} {pos : Pos} (h : X.K = K) (hc : X.calm = true) (hh : PGs X es t)
    (hn : (assignEach es X.env).length = n := by rfl) (hst : (assignEach es X.env).findIdx? (·.1) = none := by rfl) : PG X (.Tuple es k pos) (gTup K n t) := h ▸ pg_tup hc hh hn hst
theorem pe_bty {x : Str} {n : String} {pos : Pos} (hg : Gl X x) (hm : X.mg x = none) (hv : bootBuiltins x = some (.type n)) (hn : x ≠ "__name__" := by decide) (hd : (x == ("__debug__" : Str)) = false := by decide) : PE X (.Name x pos) (tC (.ty n)) := pe_bltn hg hm hv rfl hn hd
end
end Hn

/-! Clocks as objects. -/
namespace Hn
open PySem PySem.Spec PyProof.Rows L2 Evl
theorem at_cyc {ns : List Int} (h : 1 ≤ ns.length) (j : Int) : atI (ns.map V.int) (j % (ns.length : Int)) = some (.int (cyc ns j)) := by
  have hb := mod_bd h j
  rw [at_int hb.1 hb.2]
  rfl
/-- the fields of a clock -/
def clkF (a b : Addr) : List (Str × V) := putF "kept_widths" (.ref b) (putF "kept_stays" (.ref a) [])
theorem clkF_stays (a b : Addr) : (clkF a b).lookup ("kept_stays" : Str) = some (.ref a) := by
  unfold clkF
  rw [lookup_putF, if_neg (by decide +kernel), lookup_putF, if_pos rfl]
theorem clkF_widths (a b : Addr) : (clkF a b).lookup ("kept_widths" : Str) = some (.ref b) := by
  unfold clkF
  rw [lookup_putF, if_pos rfl]
theorem clkF_no (a b : Addr) {m : Str} (h1 : ¬ m = "kept_widths") (h2 : ¬ m = "kept_stays") : (clkF a b).lookup m = none := by
  unfold clkF
  rw [lookup_putF, if_neg h1, lookup_putF, if_neg h2]
  rfl
/-- a Clock of the stays s -/
def Clk (K : PySem.W.Frag) (C : Addr) (H : Hp) (v : V) (s : List Int) : Prop :=
  ∃ p dx a b, v = .ref p ∧ H p = some (.ins C dx (clkF a b)) ∧ SqT K H a (s.map V.int) ∧ SqT K H b ((wds s).map V.int) ∧ Good s
theorem Clk.mono {K : PySem.W.Frag} {C : Addr} {H H' : Hp} {v : V} {s : List Int} (e : Xl H H') (h : Clk K C H v s) : Clk K C H' v s :=
  let ⟨p, dx, a, b, h1, h2, h3, h4, h5⟩ := h
  ⟨p, dx, a, b, h1, e _ _ h2 rfl, tup_mono e h3, tup_mono e h4, h5⟩
theorem Clk.ex {K : PySem.W.Frag} {C : Addr} {H H' : Hp} {v : V} {s : List Int} (e : Ex H H') (h : Clk K C H v s) : Clk K C H' v s := h.mono (.of e)
theorem Clk.good {K : PySem.W.Frag} {C : Addr} {H : Hp} {v : V} {s : List Int} (h : Clk K C H v s) : Good s := let ⟨_, _, _, _, _, _, _, _, h5⟩ := h; h5
/-- what the making of a Clock asks: items that are good stays, and gives: the Clock -/
def MkClk (K : PySem.W.Frag) (C : Addr) (H : Hp) (v : V) (Q : Addr → Hp → Prop) : Prop := ∃ a s, v = .ref a ∧ Sq K H a (s.map V.int) ∧ Good s ∧ ∀ u H', Ex H H' → Clk K C H' (.ref u) s → Q u H'
/-- its __init__'s promise -/
def spClkInit (K : PySem.W.Frag) (C : Addr) : Sp := fun vs H Q _ => ∃ (H0 : Hp) (x dx a : Addr) (s : List Int), vs = [.ref x, .ref a] ∧ H = upd (upd H0 dx (.own x)) x (.ins C dx []) ∧ H0 x = none ∧ H0 dx = none ∧ dx ≠ x ∧ Sq K H0 a (s.map V.int) ∧ Good s ∧
  ∀ H', Ex H0 H' → Clk K C H' (.ref x) s → Q .non H'
theorem mkClk {K : PySem.W.Frag} {C : Addr} {H : Hp} {v : V} {Q : Addr → Hp → Prop} {E : XK} (h : MkClk K C H v Q) : ∀ x dx, H x = none → H dx = none → dx ≠ x → spClkInit K C (.ref x :: ([v] ++ [])) (upd (upd H dx (.own x)) x (.ins C dx [])) (fun v H2 => v = .non ∧ Q x H2) E := by
  intro x dx nx ndx ne
  obtain ⟨a, s, rfl, hS, g, k⟩ := h
  exact ⟨H, x, dx, a, s, rfl, rfl, nx, ndx, ne, hS, g, fun H' e c => ⟨rfl, k _ _ e c⟩⟩
/-- a method of a Clock is asked -/
theorem r_clkM {K : PySem.W.Frag} {C : Addr} {H : Hp} {v : V} {s : List Int} {m : Str} {p : Prop} (h : Clk K C H v s) (q : p) (h1 : ¬ m = "kept_widths" := by decide +kernel) (h2 : ¬ m = "kept_stays" := by decide +kernel) : ∃ a dx fs, v = .ref a ∧ H a = some (.ins C dx fs) ∧ fs.lookup m = none ∧ p :=
  let ⟨x, dx, a, b, e, hp, _⟩ := h
  ⟨x, dx, _, e, hp, clkF_no a b h1 h2, q⟩
theorem r_clkP {K : PySem.W.Frag} {C : Addr} {H : Hp} {v : V} {s : List Int} {p : Addr → Prop} (h : Clk K C H v s) (q : ∀ a, v = .ref a → p a) : ∃ a dx fs, v = .ref a ∧ H a = some (.ins C dx fs) ∧ p a :=
  let ⟨x, dx, _, _, e, hp, _⟩ := h
  ⟨x, dx, _, e, hp, q x e⟩
theorem r_clkG {K : PySem.W.Frag} {C : Addr} {H : Hp} {v : V} {s : List Int} {p : Prop} (h : Clk K C H v s) (q : p) : ∃ a dx fs, v = .ref a ∧ H a = some (.ins C dx fs) ∧ p :=
  let ⟨x, dx, _, _, e, hp, _⟩ := h
  ⟨x, dx, _, e, hp, q⟩
end Hn

/-! Clocks turned, mirrored; sums round about. -/
namespace Hn
/-- n items by their place -/
def rowOf (n : Nat) (f : Int → Int) : List Int := (List.range n).map fun (i : Nat) => f (i : Int)
theorem rowOf_length (n : Nat) (f : Int → Int) : (rowOf n f).length = n := by
  unfold rowOf
  rw [List.length_map, List.length_range]
theorem rowOf_getD {n : Nat} (f : Int → Int) {j : Nat} (h : j < n) : (rowOf n f).getD j 0 = f (j : Int) := by
  unfold rowOf
  rw [List.getD_eq_getElem?_getD, List.getElem?_map, List.getElem?_range h]
  rfl
theorem cyc_rowOf {n : Nat} (f : Int → Int) (h : 1 ≤ n) (i : Int) : cyc (rowOf n f) i = f (i % (n : Int)) := by
  have hb := mod_bd h i
  unfold cyc
  rw [rowOf_length, rowOf_getD f (by omega), show ((i % (n : Int)).toNat : Int) = i % (n : Int) by omega]
theorem rowOf_congr {n : Nat} {f g : Int → Int} (h : ∀ i : Int, 0 ≤ i → i < (n : Int) → f i = g i) : rowOf n f = rowOf n g := by
  unfold rowOf
  refine List.map_congr_left fun i hi => h _ (by omega) ?_
  have := List.mem_range.mp hi
  omega
theorem row_ext {s : List Int} {n : Nat} (f : Int → Int) (hl : s.length = n) (h : ∀ j : Nat, j < n → s.getD j 0 = f (j : Int)) : s = rowOf n f := by
  refine List.ext_getElem? fun i => ?_
  rcases Nat.lt_or_ge i n with q | q
  · have := h i q
    rw [List.getD_eq_getElem?_getD, List.getElem?_eq_getElem (by omega)] at this
    rw [List.getElem?_eq_getElem (by omega)]
    unfold rowOf
    rw [List.getElem?_map, List.getElem?_range q]
    exact congrArg some this
  · rw [List.getElem?_eq_none (by omega), List.getElem?_eq_none (by rw [rowOf_length]; omega)]
/-- a row is told by its items round about -/
theorem row_cyc (s : List Int) : s = rowOf s.length (cyc s) := row_ext _ rfl fun _ hj => (cyc_at hj).symm
theorem eq_of_cyc {s t : List Int} (hl : s.length = t.length) (h : ∀ i : Int, 0 ≤ i → i < (s.length : Int) → cyc s i = cyc t i) : s = t := by
  rw [row_cyc s, row_cyc t, ← hl]
  exact rowOf_congr h
theorem wds_row (s : List Int) : wds s = rowOf s.length (wd s) := rfl
/-! ### turned -/
def turnS (s : List Int) (b : Int) : List Int := rowOf s.length fun i => cyc s (i + b)
theorem turnS_length (s : List Int) (b : Int) : (turnS s b).length = s.length := rowOf_length _ _
theorem cyc_turn {s : List Int} (h : 1 ≤ s.length) (b i : Int) : cyc (turnS s b) i = cyc s (i + b) := by
  unfold turnS
  rw [cyc_rowOf _ h]
  exact cyc_congr (by rw [Int.emod_add_emod])
theorem Good.turn {s : List Int} (g : Good s) (b : Int) : Good (turnS s b) := by
  have hl := turnS_length s b
  refine ⟨by rw [hl]; exact g.ne, by rw [hl]; exact g.le, fun i => ?_, fun i => ?_, fun i => ?_⟩
  · rw [cyc_turn g.ne]
    exact g.lo _
  · rw [cyc_turn g.ne, hl]
    exact g.hi _
  · rw [cyc_turn g.ne, cyc_turn g.ne, show i + 1 + b = (i + b) + 1 by omega]
    exact g.od _
theorem wd_turn {s : List Int} (h : 1 ≤ s.length) (b i : Int) : wd (turnS s b) i = wd s (i + b) := by
  unfold wd
  rw [turnS_length]
  congr 2
  refine List.filter_congr fun c _ => ?_
  rw [cyc_turn h, show i - (c : Int) + b = i + b - c by omega]
/-! ### mirrored -/
theorem cyc_rev {s : List Int} (h : 1 ≤ s.length) (i : Int) : cyc s.reverse i = cyc s (-1 - i) := by
  have h1 := mod_bd h i
  have h2 := mod_bd h (-1 - i)
  have e : (-1 - i) % (s.length : Int) = (s.length : Int) - 1 - i % (s.length : Int) := by
    have e1 : (-1 - i) % (s.length : Int) = ((s.length : Int) - 1 - i % (s.length : Int)) % (s.length : Int) := by
      rw [show (s.length : Int) - 1 - i % (s.length : Int) = (-1 - i % (s.length : Int)) + (s.length : Int) by omega, Int.add_emod_right, Int.sub_emod_emod]
    rw [e1, Int.emod_eq_of_lt (by omega) (by omega)]
  unfold cyc
  rw [List.length_reverse, e, List.getD_eq_getElem?_getD, List.getD_eq_getElem?_getD, List.getElem?_reverse (by omega)]
  congr 2
  omega
def mirS (s : List Int) : List Int := (wds s).reverse
theorem mirS_length (s : List Int) : (mirS s).length = s.length := by
  unfold mirS
  rw [List.length_reverse, wds_length]
theorem cyc_mir {s : List Int} (h : 1 ≤ s.length) (i : Int) : cyc (mirS s) i = wd s (-1 - i) := by
  unfold mirS
  rw [cyc_rev (by rw [wds_length]; exact h), cyc_wds h]
theorem Good.mir {s : List Int} (g : Good s) : Good (mirS s) := by
  have hl := mirS_length s
  refine ⟨by rw [hl]; exact g.ne, by rw [hl]; exact g.le, fun i => ?_, fun i => ?_, fun i => ?_⟩
  · rw [cyc_mir g.ne]
    exact wd_pos g _
  · rw [cyc_mir g.ne, hl]
    exact wd_le _
  · rw [cyc_mir g.ne, cyc_mir g.ne, show (-1 - i : Int) = (-1 - (i + 1)) + 1 by omega]
    exact wd_step g _
theorem wd_mir {s : List Int} (g : Good s) (h : Int) : wd (mirS s) h = cyc s (-1 - h) := by
  have gm := g.mir
  have hl := mirS_length s
  have key : ∀ b : Nat, b < s.length → ((b : Int) < wd (mirS s) h ↔ (b : Int) < cyc s (-1 - h)) := fun b hb => by
    rw [wd_iff gm h (by rw [hl]; exact hb), cyc_mir g.ne, show (-1 - (h - (b : Int))) = (-1 - h) + b by omega, wd_iff g _ hb, show (-1 - h) + (b : Int) - b = -1 - h by omega]
  have a1 := wd_nn (s := mirS s) h
  have a2 := wd_le (s := mirS s) h
  have a3 := g.lo (-1 - h)
  have a4 := g.hi (-1 - h)
  rw [hl] at a2
  rcases Int.lt_trichotomy (wd (mirS s) h) (cyc s (-1 - h)) with q | q | q
  · have := (key (wd (mirS s) h).toNat (by omega)).mpr (by omega)
    omega
  · exact q
  · have := (key (cyc s (-1 - h)).toNat (by omega)).mp (by omega)
    omega
theorem mir_mir {s : List Int} (g : Good s) : mirS (mirS s) = s := by
  refine eq_of_cyc (by rw [mirS_length, mirS_length]) fun i _ _ => ?_
  rw [cyc_mir (by rw [mirS_length]; exact g.ne), wd_mir g, show (-1 - (-1 - i)) = i by omega]
/-! ### sums -/
def Sg : Nat → (Int → Int) → Int
  | 0, _ => 0
  | n + 1, f => Sg n f + f (n : Int)
theorem Sg_congr {n : Nat} {f g : Int → Int} (h : ∀ i : Int, 0 ≤ i → i < (n : Int) → f i = g i) : Sg n f = Sg n g := by
  induction n with
  | zero => rfl
  | succ n ih =>
    show Sg n f + f n = Sg n g + g n
    rw [ih fun i h0 h1 => h i h0 (by omega), h n (by omega) (by omega)]
theorem Sg_add {n : Nat} {f g : Int → Int} : Sg n (fun i => f i + g i) = Sg n f + Sg n g := by
  induction n with
  | zero => rfl
  | succ n ih =>
    show Sg n _ + (f n + g n) = (Sg n f + f n) + (Sg n g + g n)
    rw [ih]
    omega
theorem Sg_zero {n : Nat} : Sg n (fun _ => 0) = 0 := by
  induction n with
  | zero => rfl
  | succ n ih => show Sg n _ + 0 = 0; rw [ih]; rfl
theorem Sg_mul {n : Nat} (c : Int) (f : Int → Int) : Sg n (fun i => c * f i) = c * Sg n f := by
  induction n with
  | zero => exact (Int.mul_zero c).symm
  | succ n ih =>
    show Sg n _ + c * f n = c * (Sg n f + f n)
    rw [ih, Int.mul_add]
theorem Sg_swap {n m : Nat} (f : Int → Int → Int) : Sg n (fun i => Sg m (fun j => f i j)) = Sg m (fun j => Sg n (fun i => f i j)) := by
  induction n with
  | zero => exact Sg_zero.symm
  | succ n ih =>
    show Sg n _ + Sg m (fun j => f n j) = Sg m (fun j => Sg n (fun i => f i j) + f n j)
    rw [ih, Sg_add]
theorem Sg_first {n : Nat} (f : Int → Int) : Sg (n + 1) f = f 0 + Sg n (fun i => f (i + 1)) := by
  induction n with
  | zero => show 0 + f ((0 : Nat) : Int) = f 0 + 0; rw [Int.zero_add, Int.add_zero]; rfl
  | succ n ih =>
    show Sg (n + 1) f + f ((n + 1 : Nat) : Int) = f 0 + (Sg n _ + f ((n : Int) + 1))
    rw [ih, show ((n + 1 : Nat) : Int) = (n : Int) + 1 by omega]
    omega
/-- round about a sum may begin anywhere -/
theorem Sg_turn1 {n : Nat} {f : Int → Int} (p : ∀ i, f (i + (n : Int)) = f i) : Sg n (fun i => f (i + 1)) = Sg n f := by
  cases n with
  | zero => rfl
  | succ n =>
    rw [Sg_first (n := n) f]
    show Sg n (fun i => f (i + 1)) + f ((n : Int) + 1) = _
    have := p 0
    rw [show (0 : Int) + ((n + 1 : Nat) : Int) = (n : Int) + 1 by omega] at this
    rw [this]
    omega
theorem Sg_turnN {n : Nat} {f : Int → Int} (p : ∀ i, f (i + (n : Int)) = f i) : ∀ k : Nat, Sg n (fun i => f (i + (k : Int))) = Sg n f
  | 0 => Sg_congr fun i _ _ => by rw [show i + ((0 : Nat) : Int) = i by omega]
  | k + 1 => by
    rw [← Sg_turnN p k, ← Sg_turn1 (f := fun i => f (i + (k : Int))) (fun i => by rw [show i + (n : Int) + k = (i + k) + n by omega]; exact p _)]
    exact Sg_congr fun i _ _ => by rw [show i + ((k + 1 : Nat) : Int) = i + 1 + k by omega]
theorem Sg_turn {n : Nat} {f : Int → Int} (p : ∀ i, f (i + (n : Int)) = f i) (b : Int) : Sg n (fun i => f (i + b)) = Sg n f := by
  rcases Int.lt_or_le b 0 with h | h
  · have e := Sg_turnN (f := fun i => f (i + b)) (fun i => by rw [show i + (n : Int) + b = (i + b) + n by omega]; exact p _) (-b).toNat
    rw [← e]
    exact Sg_congr fun i _ _ => by rw [show i + ((-b).toNat : Int) + b = i by omega]
  · have e := Sg_turnN p b.toNat
    rw [← e]
    exact Sg_congr fun i _ _ => by rw [show i + (b.toNat : Int) = i + b by omega]
/-- .. and go the other way -/
theorem Sg_rev {n : Nat} (f : Int → Int) : Sg n (fun i => f ((n : Int) - 1 - i)) = Sg n f := by
  induction n with
  | zero => rfl
  | succ n ih =>
    rw [Sg_first]
    show f (((n + 1 : Nat) : Int) - 1 - 0) + _ = Sg n f + f n
    rw [← ih, show ((n + 1 : Nat) : Int) - 1 - 0 = n by omega, Int.add_comm]
    congr 1
    exact Sg_congr fun i _ _ => by rw [show ((n + 1 : Nat) : Int) - 1 - (i + 1) = (n : Int) - 1 - i by omega]
theorem sum_row (n : Nat) (f : Int → Int) : (rowOf n f).sum = Sg n f := by
  induction n with
  | zero => rfl
  | succ n ih =>
    show _ = Sg n f + f n
    rw [← ih]
    unfold rowOf
    rw [List.range_succ, List.map_append, List.sum_append]
    show _ + (f n + 0) = _
    rw [Int.add_zero]
theorem sum_cyc (s : List Int) : s.sum = Sg s.length (cyc s) := by
  have := sum_row s.length (cyc s)
  rw [← row_cyc s] at this
  exact this
theorem cyc_per (s : List Int) (i : Int) : cyc s (i + (s.length : Int)) = cyc s i := cyc_congr (by rw [Int.add_emod_right])
theorem wd_per (s : List Int) (i : Int) : wd s (i + (s.length : Int)) = wd s i := by
  rw [← wd_mod, Int.add_emod_right, wd_mod]
/-- how many pass, as a sum -/
theorem count_sum (p : Nat → Bool) (n : Nat) : (((List.range n).filter p).length : Int) = Sg n (fun i => if p i.toNat = true then 1 else 0) := by
  induction n with
  | zero => rfl
  | succ n ih =>
    show _ = Sg n _ + (if p ((n : Int)).toNat = true then 1 else 0)
    rw [← ih, List.range_succ, List.filter_append, List.length_append, Int.toNat_natCast, List.filter_cons]
    by_cases h : p n = true
    · rw [if_pos h, if_pos h]
      show ((_ + 1 : Nat) : Int) = _
      omega
    · rw [if_neg h, if_neg h]
      show ((_ + 0 : Nat) : Int) = _
      omega
theorem wd_sum (s : List Int) (h : Int) : wd s h = Sg s.length (fun b => if b < cyc s (h - b) then 1 else 0) := by
  unfold wd
  rw [count_sum]
  refine Sg_congr fun i h0 _ => ?_
  rw [show ((i.toNat : Nat) : Int) = i by omega]
  by_cases q : i < cyc s (h - i)
  · rw [if_pos (decide_eq_true q), if_pos q]
  · rw [if_neg (by rw [decide_eq_false q]; decide), if_neg q]
theorem cnt_below {n : Nat} {c : Int} : ∀ (_ : 0 ≤ c) (_ : c ≤ (n : Int)), Sg n (fun b => if b < c then 1 else 0) = c := by
  induction n generalizing c with
  | zero => intro h0 h1; show (0 : Int) = c; omega
  | succ n ih =>
    intro h0 h1
    show Sg n _ + (if (n : Int) < c then 1 else 0) = c
    by_cases q : (n : Int) < c
    · rw [if_pos q]
      have e : Sg n (fun b => if b < c then 1 else 0) = Sg n (fun b => if b < (n : Int) then 1 else 0) := Sg_congr fun i _ h => by rw [if_pos (by omega), if_pos h]
      rw [e, ih (c := (n : Int)) (by omega) (by omega)]
      omega
    · rw [if_neg q, ih h0 (by omega)]
      omega
/-- stays and widths have one sum -/
theorem wds_sum {s : List Int} (g : Good s) : (wds s).sum = s.sum := by
  rw [wds_row, sum_row, sum_cyc]
  have e1 : Sg s.length (wd s) = Sg s.length (fun h => Sg s.length (fun b => if b < cyc s (h - b) then 1 else 0)) := Sg_congr fun i _ _ => wd_sum s i
  rw [e1, Sg_swap]
  have e2 : Sg s.length (fun j => Sg s.length (fun i => if j < cyc s (i - j) then 1 else 0)) = Sg s.length (fun j => Sg s.length (fun i => if j < cyc s i then 1 else 0)) := Sg_congr fun j _ _ => by
    rw [← Sg_turn (f := fun i => if j < cyc s i then 1 else 0) (fun i => by rw [cyc_per]) (-j)]
    exact Sg_congr fun i _ _ => by rw [show i - j = i + -j by omega]
  rw [e2, Sg_swap]
  exact Sg_congr fun i _ _ => cnt_below (by have := g.lo i; omega) (g.hi i)
/-! ### rows of least sums are stays in order -/
/-- the least of the drawn ones ahead, each with the way to it -/
theorem Good.least {m : List Int} {n : Nat} {dr : List Int} {top : Int} (hn : 1 ≤ n) (hn2 : n ≤ 48) (hl : m.length = n) (hd : dr.length = n) (ht : top ≤ (n : Int)) (h1 : ∀ i, 1 ≤ cyc dr i ∧ cyc dr i ≤ top)
    (hm : ∀ j : Nat, j < n → (∃ a : Nat, a < n ∧ m.getD j 0 = cyc dr ((j : Int) + a) + a) ∧ ∀ a : Nat, a < n → m.getD j 0 ≤ cyc dr ((j : Int) + a) + a) : Good m := by
  have hc : ∀ i : Int, (∃ a : Nat, a < n ∧ cyc m i = cyc dr (i + a) + a) ∧ ∀ a : Nat, a < n → cyc m i ≤ cyc dr (i + a) + a := fun i => by
    have hb := mod_bd hn i
    have e : cyc m i = m.getD (i % (n : Int)).toNat 0 := by
      unfold cyc
      rw [hl]
    have er : ∀ a : Nat, cyc dr (((i % (n : Int)).toNat : Int) + a) = cyc dr (i + a) := fun a => cyc_congr (by
      rw [show ((i % (n : Int)).toNat : Int) = i % (n : Int) by omega, hd, Int.emod_add_emod])
    obtain ⟨⟨a, ha, e1⟩, e2⟩ := hm (i % (n : Int)).toNat (by omega)
    refine ⟨⟨a, ha, by rw [e, e1, er]⟩, fun a ha => ?_⟩
    have := e2 a ha
    rw [er] at this
    rw [e]
    exact this
  refine ⟨by omega, by omega, fun i => ?_, fun i => ?_, fun i => ?_⟩
  · obtain ⟨⟨a, ha, e⟩, _⟩ := hc i
    have := (h1 (i + a)).1
    omega
  · have e := (hc i).2 0 (by omega)
    have := (h1 (i + ((0 : Nat) : Int))).2
    omega
  · obtain ⟨⟨a, ha, e⟩, _⟩ := hc (i + 1)
    rcases Nat.lt_or_ge (a + 1) n with q | q
    · have := (hc i).2 (a + 1) q
      rw [show i + ((a + 1 : Nat) : Int) = i + 1 + a by omega] at this
      omega
    · have e0 := (hc i).2 0 (by omega)
      have e2 : cyc dr (i + 1 + (a : Int)) = cyc dr (i + ((0 : Nat) : Int)) := by
        rw [show i + 1 + (a : Int) = (i + ((0 : Nat) : Int)) + (dr.length : Int) by omega]
        exact cyc_per dr _
      omega
theorem Good.const {n : Nat} {c : Int} (hn : 1 ≤ n) (hn2 : n ≤ 48) (h0 : 1 ≤ c) (h1 : c ≤ (n : Int)) : Good (List.replicate n c) := by
  have e : ∀ i, cyc (List.replicate n c) i = c := fun i => by
    have hb := mod_bd hn i
    unfold cyc
    rw [List.length_replicate, List.getD_eq_getElem?_getD, List.getElem?_replicate, if_pos (by omega)]
    rfl
  refine ⟨by rw [List.length_replicate]; exact hn, by rw [List.length_replicate]; exact hn2, fun i => by rw [e]; exact h0, fun i => by rw [e, List.length_replicate]; exact h1, fun i => by rw [e, e]; omega⟩
/-! ### served and serving -/
/-- the hours that one serves who begins at h -/
def servedOf (s : List Int) (h : Int) : List Int := (List.range (cyc s h).toNat).map fun (k : Nat) => (h + (k : Int)) % (s.length : Int)
/-- the hours of the window of h -/
def servingOf (s : List Int) (h : Int) : List Int := (List.range (wd s h).toNat).map fun (k : Nat) => (h - wd s h + 1 + (k : Int)) % (s.length : Int)
theorem serv_rev (s : List Int) (h : Int) : servingOf s h = ((List.range (wd s h).toNat).map fun (k : Nat) => (h - (k : Int)) % (s.length : Int)).reverse := by
  unfold servingOf
  have h0 := wd_nn (s := s) h
  refine List.ext_getElem? fun i => ?_
  rcases Nat.lt_or_ge i (wd s h).toNat with q | q
  · rw [List.getElem?_reverse (by rw [List.length_map, List.length_range]; exact q), List.getElem?_map, List.getElem?_map, List.length_map, List.length_range, List.getElem?_range q, List.getElem?_range (by omega)]
    show some ((h - wd s h + 1 + (i : Int)) % (s.length : Int)) = some ((h - (((wd s h).toNat - 1 - i : Nat) : Int)) % (s.length : Int))
    rw [show h - wd s h + 1 + (i : Int) = h - (((wd s h).toNat - 1 - i : Nat) : Int) by omega]
  · rw [List.getElem?_eq_none (by rw [List.length_map, List.length_range]; exact q), List.getElem?_eq_none (by rw [List.length_reverse, List.length_map, List.length_range]; exact q)]
theorem mem_served {s : List Int} (g : Good s) {h b : Int} (h0 : 0 ≤ h) (h1 : h < (s.length : Int)) : h ∈ servedOf s b ↔ (h - b) % (s.length : Int) < cyc s b := by
  unfold servedOf
  rw [List.mem_map]
  have hm := mod_bd g.ne (h - b)
  have hl := g.lo b
  have hh := g.hi b
  constructor
  · rintro ⟨k, hk, e⟩
    rw [List.mem_range] at hk
    rw [← e, Int.emod_sub_emod, show b + (k : Int) - b = k by omega, Int.emod_eq_of_lt (by omega) (by omega)]
    omega
  · intro q
    refine ⟨((h - b) % (s.length : Int)).toNat, List.mem_range.mpr (by omega), ?_⟩
    rw [show ((((h - b) % (s.length : Int)).toNat : Nat) : Int) = (h - b) % (s.length : Int) by omega, Int.add_emod_emod, show b + (h - b) = h by omega, Int.emod_eq_of_lt h0 h1]
theorem mem_serving {s : List Int} (g : Good s) {h b : Int} (h0 : 0 ≤ b) (h1 : b < (s.length : Int)) : b ∈ servingOf s h ↔ (h - b) % (s.length : Int) < wd s h := by
  rw [serv_rev, List.mem_reverse, List.mem_map]
  have hm := mod_bd g.ne (h - b)
  have hl := wd_nn (s := s) h
  have hh := wd_le (s := s) h
  constructor
  · rintro ⟨k, hk, e⟩
    rw [List.mem_range] at hk
    rw [← e, Int.sub_emod_emod, show h - (h - (k : Int)) = k by omega, Int.emod_eq_of_lt (by omega) (by omega)]
    omega
  · intro q
    refine ⟨((h - b) % (s.length : Int)).toNat, List.mem_range.mpr (by omega), ?_⟩
    rw [show ((((h - b) % (s.length : Int)).toNat : Nat) : Int) = (h - b) % (s.length : Int) by omega, Int.sub_emod_emod, show h - (h - b) = b by omega, Int.emod_eq_of_lt h0 h1]
/-- an hour is served by a begin just if the begin is in its window -/
theorem served_iff {s : List Int} (g : Good s) {h b : Int} (h0 : 0 ≤ h) (h1 : h < (s.length : Int)) (b0 : 0 ≤ b) (b1 : b < (s.length : Int)) : h ∈ servedOf s b ↔ b ∈ servingOf s h := by
  rw [mem_served g h0 h1, mem_serving g b0 b1]
  have hm := mod_bd g.ne (h - b)
  have := wd_iff g h (b := ((h - b) % (s.length : Int)).toNat) (by omega)
  rw [show ((((h - b) % (s.length : Int)).toNat : Nat) : Int) = (h - b) % (s.length : Int) by omega] at this
  rw [this, cyc_congr (i := h - (h - b) % (s.length : Int)) (j := b) (by rw [Int.sub_emod_emod, show h - (h - b) = b by omega])]
theorem mod_flip {n : Nat} (h : 1 ≤ n) (x : Int) : (n : Int) - 1 - x % (n : Int) = ((n : Int) - 1 - x) % (n : Int) := by
  have hb := mod_bd h x
  have e : ((n : Int) - 1 - x) % (n : Int) = ((n : Int) - 1 - x % (n : Int)) % (n : Int) := (Int.sub_emod_emod ..).symm
  exact (e.trans (Int.emod_eq_of_lt (by omega) (by omega))).symm
theorem mir_served {s : List Int} (g : Good s) (h : Int) : servedOf (mirS s) ((s.length : Int) - 1 - h) = ((servingOf s h).map fun x => (s.length : Int) - 1 - x).reverse := by
  have e : cyc (mirS s) ((s.length : Int) - 1 - h) = wd s h := by
    rw [cyc_mir g.ne, show (-1 - ((s.length : Int) - 1 - h)) = h - (s.length : Int) by omega]
    have := wd_per s (h - (s.length : Int))
    rw [show h - (s.length : Int) + (s.length : Int) = h by omega] at this
    exact this.symm
  rw [serv_rev, List.map_reverse, List.reverse_reverse, List.map_map]
  unfold servedOf
  rw [e, mirS_length]
  refine List.map_congr_left fun k _ => ?_
  show _ = (s.length : Int) - 1 - (h - (k : Int)) % (s.length : Int)
  rw [mod_flip g.ne, show (s.length : Int) - 1 - (h - (k : Int)) = (s.length : Int) - 1 - h + k by omega]
theorem mir_serving {s : List Int} (g : Good s) (h : Int) : servingOf (mirS s) ((s.length : Int) - 1 - h) = ((servedOf s h).map fun x => (s.length : Int) - 1 - x).reverse := by
  have e : wd (mirS s) ((s.length : Int) - 1 - h) = cyc s h := by
    rw [wd_mir g, show (-1 - ((s.length : Int) - 1 - h)) = h - (s.length : Int) by omega]
    have := cyc_per s (h - (s.length : Int))
    rw [show h - (s.length : Int) + (s.length : Int) = h by omega] at this
    exact this.symm
  rw [serv_rev, e, mirS_length]
  unfold servedOf
  rw [List.map_map]
  congr 1
  refine List.map_congr_left fun k _ => ?_
  show _ = (s.length : Int) - 1 - (h + (k : Int)) % (s.length : Int)
  rw [mod_flip g.ne, show (s.length : Int) - 1 - (h + (k : Int)) = (s.length : Int) - 1 - h - k by omega]
/-! ### windows read off the stays -/
theorem filter_down (p : Nat → Bool) (hp : ∀ b, p (b + 1) = true → p b = true) : ∀ n : Nat, (List.range n).filter p = List.range ((List.range n).filter p).length := by
  have hp' : ∀ k b, p (b + k) = true → p b = true := fun k => by
    induction k with
    | zero => exact fun b h => h
    | succ k ih => exact fun b h => ih b (hp (b + k) h)
  intro n
  induction n with
  | zero => rfl
  | succ n ih =>
    rw [List.range_succ, List.filter_append, List.length_append, List.filter_cons]
    by_cases hn : p n = true
    · have e : (List.range n).filter p = List.range n := List.filter_eq_self.mpr fun a ha => hp' (n - a) a (by
        have := List.mem_range.mp ha
        rw [show a + (n - a) = n by omega]
        exact hn)
      rw [if_pos hn, e, List.length_range]
      simp only [List.filter_nil, List.length_cons, List.length_nil]
      exact (List.range_succ).symm
    · rw [if_neg hn]
      simp only [List.filter_nil, List.length_nil, Nat.add_zero, List.append_nil]
      exact ih
theorem serving_filter {s : List Int} (g : Good s) (h : Int) : (((List.range s.length).filter fun (b : Nat) => decide ((b : Int) < cyc s (h - (b : Int)))).map fun (b : Nat) => (h - (b : Int)) % (s.length : Int)).reverse = servingOf s h := by
  have e := filter_down (fun (b : Nat) => decide ((b : Int) < cyc s (h - (b : Int)))) (fun b q => by
    have q' := of_decide_eq_true q
    exact decide_eq_true (down g h b (by
      rw [show ((b + 1 : Nat) : Int) = (b : Int) + 1 by omega] at q'
      exact q'))) s.length
  rw [e, serv_rev]
  congr 3
theorem serving_len (s : List Int) (h : Int) : ((servingOf s h).length : Int) = wd s h := by
  unfold servingOf
  rw [List.length_map, List.length_range]
  have := wd_nn (s := s) h
  omega
/-! ### clocks there and back -/
theorem wds_turn {s : List Int} (g : Good s) (b : Int) : wds (turnS s b) = turnS (wds s) b := by
  have hl := turnS_length s b
  refine eq_of_cyc (by rw [wds_length, turnS_length, turnS_length, wds_length]) fun i _ _ => ?_
  rw [cyc_wds (by rw [hl]; exact g.ne), wd_turn g.ne, cyc_turn (by rw [wds_length]; exact g.ne), cyc_wds g.ne]
theorem wds_mir {s : List Int} (g : Good s) : wds (mirS s) = s.reverse := by
  have hl := mirS_length s
  refine eq_of_cyc (by rw [wds_length, mirS_length, List.length_reverse]) fun i _ _ => ?_
  rw [cyc_wds (by rw [hl]; exact g.ne), wd_mir g, cyc_rev g.ne]
theorem turn_turn {s : List Int} (h : 1 ≤ s.length) (a b : Int) : turnS (turnS s a) b = turnS s (a + b) := by
  refine eq_of_cyc (by rw [turnS_length, turnS_length, turnS_length]) fun i _ _ => ?_
  rw [cyc_turn (by rw [turnS_length]; exact h), cyc_turn h, cyc_turn h, show i + b + a = i + (a + b) by omega]
theorem turn_zero {s : List Int} (h : 1 ≤ s.length) : turnS s 0 = s := by
  refine eq_of_cyc (by rw [turnS_length]) fun i _ _ => ?_
  rw [cyc_turn h, Int.add_zero]
theorem turn_back {s : List Int} (h : 1 ≤ s.length) (b : Int) : turnS (turnS s b) (0 - b) = s := by
  rw [turn_turn h, show b + (0 - b) = 0 by omega, turn_zero h]
theorem turn_all {s : List Int} (h : 1 ≤ s.length) : turnS s (s.length : Int) = s := by
  refine eq_of_cyc (by rw [turnS_length]) fun i _ _ => ?_
  rw [cyc_turn h, cyc_per]
theorem mir_turn {s : List Int} (g : Good s) (b : Int) : mirS (turnS s b) = turnS (mirS s) (0 - b) := by
  have hl := turnS_length s b
  refine eq_of_cyc (by rw [mirS_length, turnS_length, turnS_length, mirS_length]) fun i _ _ => ?_
  rw [cyc_mir (by rw [hl]; exact g.ne), wd_turn g.ne, cyc_turn (by rw [mirS_length]; exact g.ne), cyc_mir g.ne, show -1 - i + b = -1 - (i + (0 - b)) by omega]
theorem cyc_rep {n : Nat} (h : 1 ≤ n) (c i : Int) : cyc (List.replicate n c) i = c := by
  have hb := mod_bd h i
  unfold cyc
  rw [List.length_replicate, List.getD_eq_getElem?_getD, List.getElem?_replicate, if_pos (by omega)]
  rfl
theorem turn_rep {n : Nat} (h : 1 ≤ n) (c b : Int) : turnS (List.replicate n c) b = List.replicate n c := by
  refine eq_of_cyc (by rw [turnS_length]) fun i _ _ => ?_
  rw [cyc_turn (by rw [List.length_replicate]; exact h), cyc_rep h, cyc_rep h]
theorem wd_rep {n : Nat} (h : 1 ≤ n) {c : Int} (h0 : 0 ≤ c) (h1 : c ≤ (n : Int)) (i : Int) : wd (List.replicate n c) i = c := by
  rw [wd_sum, List.length_replicate]
  rw [Sg_congr (g := fun b => if b < c then 1 else 0) fun j _ _ => by rw [cyc_rep h]]
  exact cnt_below h0 h1
theorem wds_rep {n : Nat} (h : 1 ≤ n) {c : Int} (h0 : 0 ≤ c) (h1 : c ≤ (n : Int)) : wds (List.replicate n c) = List.replicate n c := by
  have hl : 1 ≤ (List.replicate n c).length := by rw [List.length_replicate]; exact h
  refine eq_of_cyc (by rw [wds_length]) fun i _ _ => ?_
  rw [cyc_wds hl, wd_rep h h0 h1, cyc_rep h]
theorem mir_rep {n : Nat} (h : 1 ≤ n) {c : Int} (h0 : 0 ≤ c) (h1 : c ≤ (n : Int)) : mirS (List.replicate n c) = List.replicate n c := by
  unfold mirS
  rw [wds_rep h h0 h1, List.reverse_replicate]
end Hn

/-! Data told by a Lean value; a text a number of times. -/
namespace Hn
open PySem PySem.Spec PyProof.Rows L2 Evl
section
variable {α β : Type} [DecidableEq α] [PySem.W.Datum α] [DecidableEq β] [PySem.W.Datum β] {K : PySem.W.Frag} {H H' : Hp} {Q : VK} {x y : V} {a b : Addr} {vs : List V} {ns : List Int}
/-- the heap holds u at the value x -/
def Hd (K : PySem.W.Frag) (H : Hp) (x : V) (u : α) : Prop := Dp K H x (PySem.W.Datum.toD u)
def HdAll (K : PySem.W.Frag) (H : Hp) (vs : List V) (us : List α) : Prop := DpAll K H vs (us.map PySem.W.Datum.toD)
/-- data of this kind can be laid -/
def LayT (α : Type) [DecidableEq α] [PySem.W.Datum α] : Prop := ∀ u : α, PyData.canLay0 (PySem.W.Datum.toD u) = true
theorem lay_int : LayT Int := fun _ => rfl
theorem lay_bool : LayT Bool := fun _ => rfl
theorem lay_unit : LayT Unit := fun _ => rfl
theorem lay_all (h : LayT α) : ∀ us : List α, PyData.canLayAll0 (us.map PySem.W.Datum.toD) = true
  | [] => rfl
  | u :: us => by
    rw [List.map_cons, PyData.canLayAll0, h u, lay_all h us]
    rfl
theorem lay_list (h : LayT α) : LayT (List α) := fun us => by
  show PyData.canLay0 (.list _) = true
  rw [PyData.canLay0]
  exact lay_all h us
theorem lay_tup (h : LayT α) : LayT (PySem.W.Tup α) := fun us => by
  show PyData.canLay0 (.tuple _) = true
  rw [PyData.canLay0]
  exact lay_all h us.items
theorem lay_pair (h : LayT α) (h2 : LayT β) : LayT (α × β) := fun u => by
  show PyData.canLay0 (.tuple _) = true
  rw [PyData.canLay0, PyData.canLayAll0, PyData.canLayAll0, PyData.canLayAll0, h u.1, h2 u.2]
  rfl
theorem lay_sh (h : LayT α) (hd : PySem.W.Datum.depth α ≤ 64) (u : α) : SeqAt.shaped (PySem.W.Datum.toD u) = true := by
  unfold SeqAt.shaped
  rw [h u]
  exact decide_eq_true (Nat.le_trans (PySem.W.Datum.depth_le u) hd)
theorem r_eqH (l : LayT α) {u v : α} (hx : Hd K H x u) (hy : Hd K H y v) (q : Q (.bl (decide (u = v))) H) (hd : PySem.W.Datum.depth α ≤ 64 := by decide) : rEqD K x y H Q :=
  ⟨_, _, hx, hy, lay_sh l hd u, lay_sh l hd v, by rw [PySem.W.Datum.eqv]; exact q⟩
theorem r_neH (l : LayT α) {u v : α} (hx : Hd K H x u) (hy : Hd K H y v) (q : Q (.bl (!decide (u = v))) H) (hd : PySem.W.Datum.depth α ≤ 64 := by decide) : rNeD K x y H Q :=
  ⟨_, _, hx, hy, lay_sh l hd u, lay_sh l hd v, by rw [PySem.W.Datum.eqv]; exact q⟩
theorem hd_list {us : List α} (h : SqL K H a vs) (hv : HdAll K H vs us) : Hd K H (.ref a) us := .lst h hv
theorem hd_tup {us : List α} (h : SqT K H a vs) (hv : HdAll K H vs us) : Hd K H (.ref a) (PySem.W.Tup.mk us) := .tup h hv
theorem hda_ints : ∀ ns : List Int, HdAll K H (ns.map V.int) ns
  | [] => .nil
  | n :: ns => .cons (.int n) (hda_ints ns)
theorem hda_bools : ∀ bs : List Bool, HdAll K H (bs.map V.bl) bs
  | [] => .nil
  | n :: ns => .cons (.bl n) (hda_bools ns)
theorem hd_ints (h : SqL K H a (ns.map V.int)) : Hd K H (.ref a) ns := hd_list h (hda_ints ns)
theorem hd_intsT (h : SqT K H a (ns.map V.int)) : Hd K H (.ref a) (PySem.W.Tup.mk ns) := hd_tup h (hda_ints ns)
theorem hd_bools {bs : List Bool} (h : SqL K H a (bs.map V.bl)) : Hd K H (.ref a) bs := hd_list h (hda_bools bs)
theorem hda_ix : ∀ {vs : List V} {us : List α}, vs.length = us.length → (∀ (i : Nat) v u, vs[i]? = some v → us[i]? = some u → Hd K H v u) → HdAll K H vs us
  | [], [], _, _ => .nil
  | _ :: _, [], h, _ => by cases h
  | [], _ :: _, h, _ => by cases h
  | v :: vs, u :: us, h, f => .cons (f 0 v u rfl rfl) (hda_ix (by simpa using h) fun i v u h1 h2 => f (i + 1) v u (by simpa using h1) (by simpa using h2))
mutual
theorem dp_ex (e : Ex H H') : ∀ {x : V} {u : PyData}, Dp K H x u → Dp K H' x u
  | _, _, .non => .non
  | _, _, .bl b => .bl b
  | _, _, .int i => .int i
  | _, _, .str y => .str y
  | _, _, .lst a b => .lst (ex_l e a) (dpa_ex e b)
  | _, _, .tup a b => .tup (ex_t e a) (dpa_ex e b)
theorem dpa_ex (e : Ex H H') : ∀ {vs : List V} {us : List PyData}, DpAll K H vs us → DpAll K H' vs us
  | _, _, .nil => .nil
  | _, _, .cons a b => .cons (dp_ex e a) (dpa_ex e b)
end
theorem hd_ex {u : α} (e : Ex H H') (h : Hd K H x u) : Hd K H' x u := dp_ex e h
/-- lists of ints, one int after another alike -/
theorem r_eqL {ms : List Int} (h1 : SqL K H a (ns.map V.int)) (h2 : SqL K H b (ms.map V.int)) (q : Q (.bl (decide (ns = ms))) H) : rEqD K (.ref a) (.ref b) H Q := r_eqH (lay_list lay_int) (hd_ints h1) (hd_ints h2) q
theorem r_neL {ms : List Int} (h1 : SqL K H a (ns.map V.int)) (h2 : SqL K H b (ms.map V.int)) (q : Q (.bl (!decide (ns = ms))) H) : rNeD K (.ref a) (.ref b) H Q := r_neH (lay_list lay_int) (hd_ints h1) (hd_ints h2) q
theorem r_eqT {ms : List Int} (h1 : SqT K H a (ns.map V.int)) (h2 : SqT K H b (ms.map V.int)) (q : Q (.bl (decide (ns = ms))) H) : rEqD K (.ref a) (.ref b) H Q := r_eqH (lay_tup lay_int) (hd_intsT h1) (hd_intsT h2) (by
  rw [show decide (PySem.W.Tup.mk ns = PySem.W.Tup.mk ms) = decide (ns = ms) from decide_eq_decide.mpr ⟨fun e => by cases e; rfl, fun e => by rw [e]⟩]
  exact q)
theorem r_neT {ms : List Int} (h1 : SqT K H a (ns.map V.int)) (h2 : SqT K H b (ms.map V.int)) (q : Q (.bl (!decide (ns = ms))) H) : rNeD K (.ref a) (.ref b) H Q := r_neH (lay_tup lay_int) (hd_intsT h1) (hd_intsT h2) (by
  rw [show decide (PySem.W.Tup.mk ns = PySem.W.Tup.mk ms) = decide (ns = ms) from decide_eq_decide.mpr ⟨fun e => by cases e; rfl, fun e => by rw [e]⟩]
  exact q)
theorem inV_int (i : Int) : ∀ ns : List Int, inV (.int i) (ns.map V.int) = decide (i ∈ ns)
  | [] => rfl
  | n :: ns => by
    have ih := inV_int i ns
    unfold inV at ih ⊢
    rw [List.map_cons, List.any_cons, ih]
    have e : eqV (.int n) (.int i) = decide (n = i) := by
      show decide _ = _
      rfl
    rw [e, Bool.eq_iff_iff]
    simp only [Bool.or_eq_true, decide_eq_true_eq, List.mem_cons]
    exact ⟨fun h => h.elim (fun h => .inl h.symm) .inr, fun h => h.elim (fun h => .inl h.symm) .inr⟩
theorem flat_ints (ns : List Int) : (ns.map V.int).all flatV = true := by
  rw [List.all_map]
  exact List.all_eq_true.mpr fun _ _ => rfl
theorem r_inI {i : Int} (h : Sq K H a (ns.map V.int)) (q : Q (.bl (decide (i ∈ ns))) H) : rIn K false (.int i) (.ref a) H Q := ⟨a, _, rfl, h, rfl, flat_ints ns, by rw [inV_int]; exact q⟩
theorem r_notInI {i : Int} (h : Sq K H a (ns.map V.int)) (q : Q (.bl (!decide (i ∈ ns))) H) : rIn K true (.int i) (.ref a) H Q := ⟨a, _, rfl, h, rfl, flat_ints ns, by rw [inV_int]; exact q⟩
end
section
variable {X : Cx}
/-- a text, n times: n small -/
def rStrMul : R2 := fun x y H Q => ∃ (a : Str) (n : Int), x = .str a ∧ y = .int n ∧ 0 ≤ n ∧ n < 1000 ∧ a.length ≤ 10 ∧ Q (.str (Txt.mul a n)) H
theorem op_strmul : OpR X (binaryOp .Mult) rStrMul := by
  intro pins s σ H x y v u Q I rx ry h
  obtain ⟨a, n, rfl, rfl, h0, h1, h2, q⟩ := h
  obtain ⟨t, rfl⟩ := rx
  obtain ⟨t', rfl⟩ := ry
  refine SB.mul ⟨?_, fun h3 _ => ?_, fun h3 _ => ?_⟩ fun t'' k => ⟨.str _, H, I.tok _, ⟨_, rfl⟩, q⟩
  · rw [Bool.or_eq_false_iff]
    exact ⟨decide_eq_false (by omega), decide_eq_false (by omega)⟩
  · have e : (10 : Int) ≤ (2 ^ 63 - 1) / n := (Int.le_ediv_iff_mul_le (by omega)).mpr (by omega)
    have e2 : (a.length : Int) ≤ 10 := by omega
    omega
  · unfold Builtin.Str.tooLong
    refine decide_eq_false ?_
    have : a.length * n.toNat ≤ 10 * 1000 := Nat.mul_le_mul h2 (by omega)
    have e : (10 * 1000 : Nat) ≤ sizeLine := by decide
    omega
def rAddS : R2 := fun x y H Q => ∃ i j, x = .str i ∧ y = .str j ∧ i.length + j.length ≤ sizeLine ∧ Q (.str (i ++ j)) H
theorem k_addS : OpR X (binaryOp .Add) rAddS := op_add_str
def rIntS : List V → Hp → VK → Prop := fun xs H Q => ∃ a n, xs = [.str a] ∧ PySem.intText? a = some n ∧ a.length ≤ 640 ∧ Q (.int n) H
theorem k_intS : CallR X (.type "int") rIntS := call_int_str
/-- a one and k noughts: the number -/
theorem ten_text : ∀ k : Fin 40, ((PySem.intText? (Str.ofString "1" ++ Txt.mul (Str.ofString "0") (k.1 : Int))).isSome && decide ((Str.ofString "1" ++ Txt.mul (Str.ofString "0") (k.1 : Int)).length ≤ 640)) = true := by decide +kernel
end
/-- values that are ints, as a row -/
theorem ints_of {P : Int → Prop} : ∀ {vs : List V}, (∀ v ∈ vs, ∃ z : Int, P z ∧ v = .int z) → ∃ ns : List Int, (∀ z ∈ ns, P z) ∧ vs = ns.map V.int
  | [], _ => ⟨[], fun _ h => (nomatch h), rfl⟩
  | v :: vs, h => by
    obtain ⟨z, hz, rfl⟩ := h v (List.mem_cons_self ..)
    obtain ⟨ns, hns, rfl⟩ := ints_of (vs := vs) fun w hw => h w (List.mem_cons_of_mem _ hw)
    refine ⟨z :: ns, fun y hy => ?_, rfl⟩
    rcases List.mem_cons.mp hy with rfl | hy
    · exact hz
    · exact hns y hy
theorem flat_rep {α : Type} (x : α) : ∀ n : Nat, (List.replicate n [x]).flatten = List.replicate n x
  | 0 => rfl
  | n + 1 => by rw [List.replicate_succ, List.flatten_cons, flat_rep x n, List.replicate_succ]; rfl
/-- a list of new lists -/
def Rows (H : Hp) (D : Addr) (n : Nat) (f : Nat → List V) : Prop := ∃ ys, H D = some (.lst ys) ∧ ys.length = n ∧ ∀ (i : Nat) y, ys[i]? = some y → ∃ p, y = .ref p ∧ H p = some (.lst (f i))
theorem Rows.ex {H H' : Hp} {D : Addr} {n : Nat} {f : Nat → List V} (e : Ex H H') (h : Rows H D n f) : Rows H' D n f :=
  let ⟨ys, h1, h2, h3⟩ := h
  ⟨ys, e _ _ h1, h2, fun i y hy => let ⟨p, hp, q⟩ := h3 i y hy; ⟨p, hp, e _ _ q⟩⟩
theorem Rows.sq {K : PySem.W.Frag} {H : Hp} {D : Addr} {n : Nat} {f : Nat → List V} (h : Rows H D n f) {Q : VK} {i : Nat} (hi : i < n) (q : ∀ p, H p = some (.lst (f i)) → Q (.ref p) H) : rIxL K (.ref D) (.int (i : Int)) H Q := by
  obtain ⟨ys, h1, h2, h3⟩ := h
  have hy : ys[i]? = some ys[i] := List.getElem?_eq_getElem (by omega)
  obtain ⟨p, hp, hq⟩ := h3 i _ hy
  refine ⟨D, ys, i, .ref p, rfl, rfl, .inl (.inl h1), atI_nat ?_, q p hq⟩
  rw [hy, hp]
theorem Rows.hd {α : Type} [DecidableEq α] [PySem.W.Datum α] {K : PySem.W.Frag} {H : Hp} {D : Addr} {n : Nat} {f : Nat → List V} (h : Rows H D n f) (us : Nat → List α) (hu : ∀ i, i < n → HdAll K H (f i) (us i)) : Hd K H (.ref D) ((List.range n).map us) := by
  obtain ⟨ys, h1, h2, h3⟩ := h
  refine hd_list (.inl (.inl h1)) (hda_ix (by rw [List.length_map, List.length_range]; exact h2) fun i v u hv hu' => ?_)
  obtain ⟨p, rfl, hp⟩ := h3 i v hv
  have hi : i < n := by
    have := (List.getElem?_eq_some_iff.mp hv).1
    omega
  rw [List.getElem?_map, List.getElem?_range hi] at hu'
  cases hu'
  exact hd_list (.inl (.inl hp)) (hu i hi)
section
variable {J : It} {n : Nat} {G : Hp → Prop} {Y : Nat → Hp → V → Hp → Prop}
/-- each item a new list -/
theorem lc_rows (w : Walk J n G Y) {g : TG} {te : TE} {vs : List Nat} {σ : L2.St} {H1 : Hp} {Q : VK} (f : Nat → List V) (hG : ∀ H, Ex H1 H → G H) (hn : n ≤ 100000)
    (turn : ∀ i x H H', i < n → Ex H1 H → Y i H x H' → ∀ k : VK, RetN (f i) H k → g x (wipe σ vs) H' fun σ2 H2 => wipe σ2 vs = wipe σ vs ∧ te σ2 H2 k)
    (fin : ∀ D H, H1 D = none → Ex H1 H → Rows H D n f → Q (.ref D) H) : LcTail J H1 g tYes te vs σ Q :=
  lc_map w (fun D i v H => ∃ p, v = .ref p ∧ H p = some (.lst (f i)) ∧ p ≠ D) (fun _ _ H' e _ _ _ => hG H' e) (fun D i v H H' e ⟨p, h1, h2, h3⟩ => ⟨p, h1, e _ _ h2, h3⟩) (fun D i v H xs ys _ ⟨p, h1, h2, h3⟩ => ⟨p, h1, by rw [upd_ne h3]; exact h2, h3⟩) hn
    (fun D i x H H' hi e hD ⟨xs, hx⟩ y k h => turn i x H H' hi e y k fun p H4 np e4 hp => h _ _ e4 ⟨p, rfl, hp, fun z => by rw [z, hx] at np; cases np⟩)
    fun D H ys hD e hy hl hr => fin D H hD e ⟨ys, hy, hl, fun i y h => let ⟨p, h1, h2, _⟩ := hr i y h; ⟨p, h1, h2⟩⟩
end
/-- what a law asks and gives -/
def spLaw (K : PySem.W.Frag) : Sp := fun vs H Q _ => ∃ (a : Addr) (ns : List Int), vs = [.ref a] ∧ SqL K H a (ns.map V.int) ∧ ns.length ≤ 63 ∧ ∀ H', Q (.bl true) H'
/-- a list of new lists that are such and such -/
def RowsP (H : Hp) (D : Addr) (n : Nat) (P : Nat → List V → Prop) : Prop := ∃ ys, H D = some (.lst ys) ∧ ys.length = n ∧ ∀ (i : Nat) y, ys[i]? = some y → ∃ p xs, y = .ref p ∧ H p = some (.lst xs) ∧ P i xs
theorem RowsP.ex {H H' : Hp} {D : Addr} {n : Nat} {P : Nat → List V → Prop} (e : Ex H H') (h : RowsP H D n P) : RowsP H' D n P :=
  let ⟨ys, h1, h2, h3⟩ := h
  ⟨ys, e _ _ h1, h2, fun i y hy => let ⟨p, xs, hp, q, r⟩ := h3 i y hy; ⟨p, xs, hp, e _ _ q, r⟩⟩
theorem RowsP.sq {K : PySem.W.Frag} {H : Hp} {D : Addr} {n : Nat} {P : Nat → List V → Prop} (h : RowsP H D n P) {Q : VK} {i : Nat} (hi : i < n) (q : ∀ p xs, P i xs → H p = some (.lst xs) → Q (.ref p) H) : rIxL K (.ref D) (.int (i : Int)) H Q := by
  obtain ⟨ys, h1, h2, h3⟩ := h
  have hy : ys[i]? = some ys[i] := List.getElem?_eq_getElem (by omega)
  obtain ⟨p, xs, hp, hq, hr⟩ := h3 i _ hy
  refine ⟨D, ys, i, .ref p, rfl, rfl, .inl (.inl h1), atI_nat ?_, q p xs hr hq⟩
  rw [hy, hp]
section
variable {J : It} {n : Nat} {G : Hp → Prop} {Y : Nat → Hp → V → Hp → Prop}
theorem lc_rowsP (w : Walk J n G Y) {g : TG} {te : TE} {vs : List Nat} {σ : L2.St} {H1 : Hp} {Q : VK} (P : Nat → List V → Prop) (hG : ∀ H, Ex H1 H → G H) (hn : n ≤ 100000)
    (turn : ∀ i x H H', i < n → Ex H1 H → Y i H x H' → ∀ k : VK, (∀ xs, P i xs → RetN xs H k) → g x (wipe σ vs) H' fun σ2 H2 => wipe σ2 vs = wipe σ vs ∧ te σ2 H2 k)
    (fin : ∀ D H, H1 D = none → Ex H1 H → RowsP H D n P → Q (.ref D) H) : LcTail J H1 g tYes te vs σ Q :=
  lc_map w (fun D i v H => ∃ p xs, v = .ref p ∧ H p = some (.lst xs) ∧ P i xs ∧ p ≠ D) (fun _ _ H' e _ _ _ => hG H' e) (fun D i v H H' e ⟨p, xs, h1, h2, h3, h4⟩ => ⟨p, xs, h1, e _ _ h2, h3, h4⟩) (fun D i v H xs ys _ ⟨p, us, h1, h2, h3, h4⟩ => ⟨p, us, h1, by rw [upd_ne h4]; exact h2, h3, h4⟩) hn
    (fun D i x H H' hi e hD ⟨xs, hx⟩ y k h => turn i x H H' hi e y k fun us hP p H4 np e4 hp => h _ _ e4 ⟨p, us, rfl, hp, hP, fun z => by rw [z, hx] at np; cases np⟩)
    fun D H ys hD e hy hl hr => fin D H hD e ⟨ys, hy, hl, fun i y h => let ⟨p, xs, h1, h2, h3, _⟩ := hr i y h; ⟨p, xs, h1, h2, h3⟩⟩
end
end Hn

/-! list(zip(a, b)): each given tuple stays out. -/
namespace Hn
open PySem PySem.W PySem.Calls PySem.Spec PyProof.Rows L2 Evl
open Sem (wp)
theorem zip_nolen : typeLookup (.type "zip") "__len__" = pure none := by rw [typeLookup_type, builtinLookup_eq_fast]; kernel_rfl
theorem zip_nohint : typeLookup (.type "zip") "__length_hint__" = pure none := by rw [typeLookup_type, builtinLookup_eq_fast]; kernel_rfl
section
variable {prog : Program} {w : World} {A : Around} {E : Value → Shared → Prop} {s : Shared} {z TI TO T i1 i2 S : Addr} {fp1 fp2 : List Addr} {n i : Nat} {P1 P2 : Nat → Value → Prop} {St1 St2 : Nat → Heap → Prop} {f : Bool} {oT : Obj}
theorem zh_item {Q : Value → Shared → Prop} (D : ZipSep2 z TI TO i1 i2 fp1 fp2) (D1 : Draws prog w A i1 fp1 n P1 St1) (D2 : Draws prog w A i2 fp2 n P2 St2)
    (hz : IsZipHeld s.heap z TI TO T f) (hT : s.heap.get? T = some oT) (hTI : IsTupOf2 s.heap TI (.ref i1) (.ref i2)) (st1 : St1 i s.heap) (st2 : St2 i s.heap) (hi : i < n)
    (hQ : ∀ x1 x2 h' tk, P1 i x1 → P2 i x2 → IsZipHeld h' z TI TO T true → St1 (i + 1) h' → St2 (i + 1) h' → IsTupOf2 h' s.heap.objs.size x1 x2 → h'.objs.size = s.heap.objs.size + 1 →
      (∀ c o, c ≠ z → c ≠ i1 → c ≠ i2 → s.heap.get? c = some o → h'.get? c = some o) → Q (.ref s.heap.objs.size) { s with heap := h', toks := tk }) :
    wpAny (model prog w) A (Builtin.«zip.__next__» ⟨[.ref z], []⟩) (fun fin s' => ∃ v, fin = .done (.ret v) ∧ Q v s') E s := by
  obtain ⟨hp, g, d, tk0, os⟩ := s
  show wpAny _ _ (field (.ref z) 2 >>= _) _ _ _
  refine wpAny_bind (wpAny_field hz rfl (x := .bool false) rfl ?_)
  show wpAny _ _ (field (.ref z) 3 >>= _) _ _ _
  refine wpAny_bind (wpAny_field hz rfl (x := .ref TI) rfl ?_)
  refine wpAny_bind (wpAny_seqItems hTI rfl ?_)
  show wpAny _ _ (Builtin.SmallTypes.ownedTupleIsFree (.ref z) >>= _) _ _ _
  refine wpAny_bind (wpAny_tupleHeld_zip hz hT fun g0 hz0 hs0 => ?_)
  replace hs0 : Heap.SameBut z hp g0 := hs0
  simp only [Bool.false_eq_true, if_false]
  refine wpAny_bind ?_
  rw [← Array.forIn_toList]
  simp only [List.forIn_cons, List.forIn_nil]
  refine wpAny_bind (wpAny_bind (wpAny_holding ?_))
  show wpAny _ _ (Builtin.SmallTypes.nextOf (.ref i1) >>= _) _ _ ⟨g0, g, d, tk0, os⟩
  refine wpAny_bind (D1.item i _ _ _ hi (D1.over st1 hs0 D.zf1) fun x1 p1 tk1 hx1 sn1 hp1 => wpAny_pure ?_)
  replace hp1 : Heap.SameBut i1 g0 p1 := hp1
  refine wpAny_pure ?_
  refine wpAny_bind (wpAny_bind (wpAny_holding ?_))
  show wpAny _ _ (Builtin.SmallTypes.nextOf (.ref i2) >>= _) _ _ ⟨p1, g, d, tk1, os⟩
  refine wpAny_bind (D2.item i _ _ _ hi (D2.over (D2.over st2 hs0 D.zf2) hp1 D.sep1_2) fun x2 p2 tk2 hx2 sn2 hp2 => wpAny_pure ?_)
  replace hp2 : Heap.SameBut i2 p1 p2 := hp2
  refine wpAny_pure (wpAny_pure ?_)
  show wpAny _ _ (newTuple [x1, x2] >>= _) _ _ ⟨p2, g, d, tk2, os⟩
  refine wpAny_bind (wpAny_newTuple ?_)
  have hsz : p2.objs.size = hp.objs.size := by rw [hp2.1, hp1.1, hs0.1]
  have hzz : IsZipHeld p2 z TI TO T true := hp2.extBut _ _ D.zi2 (hp1.extBut _ _ D.zi1 hz0)
  have hkk : ∀ c o, c ≠ z → c ≠ i1 → c ≠ i2 → hp.get? c = some o → p2.get? c = some o := fun c o cz c1 c2 e => hp2.extBut _ _ c2 (hp1.extBut _ _ c1 (hs0.extBut _ _ cz e))
  have hj1 : St1 (i + 1) p2 := D1.over sn1 hp2 D.sep2_1
  have up : ∀ c o, p2.get? c = some o → (p2.push { cls := .type "tuple", data := .seq #[x1, x2] }).get? c = some o := fun c o e => Heap.get?_push_of_some _ e
  have hp3 : IsTupOf2 (p2.push { cls := .type "tuple", data := .seq #[x1, x2] }) p2.objs.size x1 x2 := Heap.get?_push_size _ rfl
  have hz4 : (p2.push { cls := .type "tuple", data := .seq #[x1, x2] }).objs.size = p2.objs.size + 1 := Heap.size_push ..
  refine wpAny_pure ⟨_, rfl, ?_⟩
  show Q (.ref p2.objs.size) ⟨p2.push { cls := .type "tuple", data := .seq #[x1, x2] }, g, d, tk2, os⟩
  rw [hsz] at hp3 hz4 ⊢
  exact hQ x1 x2 _ tk2 hx1 hx2 (up _ _ hzz) (D1.frame _ _ _ hj1 fun b _ o e => up b o e) (D2.frame _ _ _ sn2 fun b _ o e => up b o e) hp3 hz4 fun c o cz c1 c2 e => up c o (hkk c o cz c1 c2 e)
theorem zh_end {Q : Fin → Shared → Prop} (D : ZipSep2 z TI TO i1 i2 fp1 fp2) (D1 : Draws prog w A i1 fp1 n P1 St1)
    (hz : IsZipHeld s.heap z TI TO T f) (hT : s.heap.get? T = some oT) (hTI : IsTupOf2 s.heap TI (.ref i1) (.ref i2)) (st1 : St1 n s.heap)
    (hE : ∀ h' tk e, (∀ c o, c ≠ z → c ≠ i1 → c ≠ i2 → s.heap.get? c = some o → h'.get? c = some o) → (∃ o, h'.get? e = some o ∧ o.cls = .type "StopIteration") → E (.ref e) { s with heap := h', toks := tk }) :
    wpAny (model prog w) A (Builtin.«zip.__next__» ⟨[.ref z], []⟩) Q E s := by
  obtain ⟨hp, g, d, tk0, os⟩ := s
  show wpAny _ _ (field (.ref z) 2 >>= _) _ _ _
  refine wpAny_bind (wpAny_field hz rfl (x := .bool false) rfl ?_)
  show wpAny _ _ (field (.ref z) 3 >>= _) _ _ _
  refine wpAny_bind (wpAny_field hz rfl (x := .ref TI) rfl ?_)
  refine wpAny_bind (wpAny_seqItems hTI rfl ?_)
  show wpAny _ _ (Builtin.SmallTypes.ownedTupleIsFree (.ref z) >>= _) _ _ _
  refine wpAny_bind (wpAny_tupleHeld_zip hz hT fun g0 hz0 hs0 => ?_)
  replace hs0 : Heap.SameBut z hp g0 := hs0
  simp only [Bool.false_eq_true, if_false]
  refine wpAny_bind ?_
  rw [← Array.forIn_toList]
  simp only [List.forIn_cons, List.forIn_nil]
  refine wpAny_bind (wpAny_bind (wpAny_holding ?_))
  show wpAny _ _ (Builtin.SmallTypes.nextOf (.ref i1) >>= _) _ _ ⟨g0, g, d, tk0, os⟩
  refine wpAny_bind (D1.done ⟨g0, g, d, tk0, os⟩ _ _ (D1.over st1 hs0 D.zf1) fun q e hq he => ?_)
  replace hq : Heap.ExtBut i1 g0 q := hq
  exact hE q tk0 e (fun c o cz c1 _ x => hq _ _ c1 (hs0.extBut _ _ cz x)) he
theorem zn_held {Q : Option Value → Shared → Prop} (D : ZipSep2 z TI TO i1 i2 fp1 fp2) (D1 : Draws prog w A.in1 i1 fp1 n P1 St1) (D2 : Draws prog w A.in1 i2 fp2 n P2 St2)
    (hz : IsZipHeld s.heap z TI TO T f) (hT : s.heap.get? T = some oT) (hTI : IsTupOf2 s.heap TI (.ref i1) (.ref i2)) (st1 : St1 i s.heap) (st2 : St2 i s.heap) (hi : i < n)
    (hQ : ∀ x1 x2 h' tk, P1 i x1 → P2 i x2 → IsZipHeld h' z TI TO T true → St1 (i + 1) h' → St2 (i + 1) h' → IsTupOf2 h' s.heap.objs.size x1 x2 → h'.objs.size = s.heap.objs.size + 1 →
      (∀ c o, c ≠ z → c ≠ i1 → c ≠ i2 → s.heap.get? c = some o → h'.get? c = some o) → Q (some (.ref s.heap.objs.size)) { s with heap := h', toks := tk }) :
    wpAny (model prog w) A (pyNext (.ref z)) Q E s := by
  have hTy : s.TypeIs (.ref z) "zip" := ⟨_, hz, rfl⟩
  unfold pyNext
  exact wpAny_bind (wpAny_attempt (wpAny_callSpecial?_slot (name := Str.ofString "__next__") hTy F.slot_zip_next
    (wpAny_call_entry F.slot_zip_next hTy F.entry_zip_next
      (zh_item D D1 D2 hz hT hTI st1 st2 hi fun x1 x2 h' tk a1 a2 a3 a4 a5 a6 a7 a8 => wpAny_pure (hQ x1 x2 h' tk a1 a2 a3 a4 a5 a6 a7 a8)) (F.args_zip_next_1 _))))
theorem zn_first {Q : Option Value → Shared → Prop} {a1 a2 : Value} (D : ZipSep2 z TI TO i1 i2 fp1 fp2) (D1 : Draws prog w A.in1 i1 fp1 n P1 St1) (D2 : Draws prog w A.in1 i2 fp2 n P2 St2)
    (hz : IsZip s.heap z TI TO .none) (hTI : IsTupOf2 s.heap TI (.ref i1) (.ref i2)) (hTO : IsTupOf2 s.heap TO a1 a2) (st1 : St1 i s.heap) (st2 : St2 i s.heap) (hi : i < n)
    (hQ : ∀ x1 x2 h' tk, P1 i x1 → P2 i x2 → IsZip h' z TI TO (rawInt s.heap.objs.size) → St1 (i + 1) h' → St2 (i + 1) h' → IsTupOf2 h' s.heap.objs.size x1 x2 → h'.objs.size = s.heap.objs.size + 1 →
      (∀ c o, c ≠ z → c ≠ TO → c ≠ i1 → c ≠ i2 → s.heap.get? c = some o → h'.get? c = some o) → Q (some (.ref s.heap.objs.size)) { s with heap := h', toks := tk }) :
    wpAny (model prog w) A (pyNext (.ref z)) Q E s := by
  have hTy : s.TypeIs (.ref z) "zip" := ⟨_, hz, rfl⟩
  unfold pyNext
  exact wpAny_bind (wpAny_attempt (wpAny_callSpecial?_slot (name := Str.ofString "__next__") hTy F.slot_zip_next
    (wpAny_call_entry F.slot_zip_next hTy F.entry_zip_next
      (zipD2_next_item D D1 D2 hz hTI hTO st1 st2 hi hi fun x1 x2 h' tk a1 a2 a3 _ a4 a5 a6 a7 a8 => wpAny_pure (hQ x1 x2 h' tk a1 a2 a3 a4 a5 a6 a7 a8)) (F.args_zip_next_1 _))))
theorem zn_end {Q : Option Value → Shared → Prop} (D : ZipSep2 z TI TO i1 i2 fp1 fp2) (D1 : Draws prog w A.in1 i1 fp1 n P1 St1)
    (hz : IsZipHeld s.heap z TI TO T f) (hT : s.heap.get? T = some oT) (hTI : IsTupOf2 s.heap TI (.ref i1) (.ref i2)) (st1 : St1 n s.heap)
    (hQ : ∀ h' tk, (∀ c o, c ≠ z → c ≠ i1 → c ≠ i2 → s.heap.get? c = some o → h'.get? c = some o) → Q none { s with heap := h', toks := tk }) : wpAny (model prog w) A (pyNext (.ref z)) Q E s := by
  have hTy : s.TypeIs (.ref z) "zip" := ⟨_, hz, rfl⟩
  unfold pyNext
  refine wpAny_bind (wpAny_attempt (wpAny_callSpecial?_slot (name := Str.ofString "__next__") hTy F.slot_zip_next
    (wpAny_call_entry F.slot_zip_next hTy F.entry_zip_next (zh_end D D1 hz hT hTI st1 fun h' tk e hk he => ?_) (F.args_zip_next_1 _))))
  obtain ⟨o, ho, hc⟩ := he
  refine wpAny_bind (wpAny_isInstance (T := "StopIteration") (b := true) ⟨o, ho, hc⟩ isSubtype_stop ?_)
  exact wpAny_pure (hQ _ _ hk)
/-- where a zip stands while its tuples are kept in the list at S -/
structure ZS (z TI TO i1 i2 S : Addr) (St1 St2 : Nat → Heap → Prop) (i : Nat) (h : Heap) : Prop where
  ti : IsTupOf2 h TI (.ref i1) (.ref i2)
  s1 : St1 i h
  s2 : St2 i h
  zz : (i = 0 ∧ IsZip h z TI TO .none ∧ ∃ a b, IsTupOf2 h TO a b) ∨ (0 < i ∧ ∃ T f oT, IsZipHeld h z TI TO T f ∧ h.get? T = some oT ∧ T ≠ S ∧ T ≠ z ∧ T ≠ i1 ∧ T ≠ i2)
/-- the tuples given -/
structure ZG (P1 P2 : Nat → Value → Prop) (lo : Addr) (h : Heap) (as : List Addr) : Prop where
  rise : as.Pairwise (· < ·)
  above : ∀ a ∈ as, lo < a
  pairs : ∀ (j : Nat) (a : Addr), as[j]? = some a → ∃ x1 x2, P1 j x1 ∧ P2 j x2 ∧ IsTupOf2 h a x1 x2
theorem ZG.there {lo : Addr} {h : Heap} {as : List Addr} (g : ZG P1 P2 lo h as) {a : Addr} (ha : a ∈ as) : a < h.objs.size := by
  obtain ⟨j, hj⟩ := List.mem_iff_getElem?.mp ha
  obtain ⟨_, _, _, _, e⟩ := g.pairs j a hj
  exact Heap.lt_size e
end
/-- all iterators' cells lie below S -/
structure ZB (z TI TO i1 i2 S : Addr) (fp1 fp2 : List Addr) : Prop where
  z : z < S
  TI : TI < S
  TO : TO < S
  i1 : i1 < S
  i2 : i2 < S
  f1 : ∀ b ∈ fp1, b < S
  f2 : ∀ b ∈ fp2, b < S
section
variable {prog : Program} {w : World} {z TI TO i1 i2 S : Addr} {fp1 fp2 : List Addr} {n : Nat} {P1 P2 : Nat → Value → Prop} {St1 St2 : Nat → Heap → Prop}
theorem ZS.keep {A : Around} {i : Nat} {h h' : Heap} (B : ZB z TI TO i1 i2 S fp1 fp2) (D1 : Draws prog w A i1 fp1 n P1 St1) (D2 : Draws prog w A i2 fp2 n P2 St2) (x : ZS z TI TO i1 i2 S St1 St2 i h) (k : ∀ b o, b ≠ S → h.get? b = some o → h'.get? b = some o) : ZS z TI TO i1 i2 S St1 St2 i h' :=
  ⟨k _ _ (Nat.ne_of_lt B.TI) x.ti, D1.frame _ _ _ x.s1 fun b hb o e => k b o (Nat.ne_of_lt (B.f1 b hb)) e, D2.frame _ _ _ x.s2 fun b hb o e => k b o (Nat.ne_of_lt (B.f2 b hb)) e, by
    rcases x.zz with ⟨h0, h1, a, b, h2⟩ | ⟨h0, T, f, oT, h1, h2, h3, h4⟩
    · exact .inl ⟨h0, k _ _ (Nat.ne_of_lt B.z) h1, a, b, k _ _ (Nat.ne_of_lt B.TO) h2⟩
    · exact .inr ⟨h0, T, f, oT, k _ _ (Nat.ne_of_lt B.z) h1, k _ _ h3 h2, h3, h4⟩⟩
variable {A : Around} {E : Value → Shared → Prop} {s : Shared} {R : Result → Shared → Prop}
/-- the next one, wherever the zip stands -/
theorem zs_next {i : Nat} {Q : Option Value → Shared → Prop} (D : ZipSep2 z TI TO i1 i2 fp1 fp2) (B : ZB z TI TO i1 i2 S fp1 fp2) (D1 : Draws prog w A.in1 i1 fp1 n P1 St1) (D2 : Draws prog w A.in1 i2 fp2 n P2 St2) (hS : S < s.heap.objs.size)
    (x : ZS z TI TO i1 i2 S St1 St2 i s.heap) (hi : i < n)
    (hQ : ∀ x1 x2 h' tk, P1 i x1 → P2 i x2 → ZS z TI TO i1 i2 S St1 St2 (i + 1) h' → IsTupOf2 h' s.heap.objs.size x1 x2 → h'.objs.size = s.heap.objs.size + 1 →
      (∀ c o, c ≠ z → c ≠ TO → c ≠ i1 → c ≠ i2 → s.heap.get? c = some o → h'.get? c = some o) → Q (some (.ref s.heap.objs.size)) { s with heap := h', toks := tk }) :
    wpAny (model prog w) A (pyNext (.ref z)) Q E s := by
  have big : ∀ b, b < S → s.heap.objs.size ≠ b := fun b hb => Nat.ne_of_gt (Nat.lt_trans hb hS)
  rcases x.zz with ⟨h0, h1, a, b, h2⟩ | ⟨h0, T, f, oT, h1, h2, h3, h4, h5, h6⟩
  · refine zn_first D D1 D2 h1 x.ti h2 x.s1 x.s2 hi fun x1 x2 h' tk p1 p2 z' t1 t2 tp sz k => ?_
    exact hQ x1 x2 h' tk p1 p2 ⟨k _ _ D.TIz D.TITO D.TIi1 D.TIi2 x.ti, t1, t2, .inr ⟨Nat.succ_pos _, s.heap.objs.size, false, _, z', tp, Nat.ne_of_gt hS, big _ B.z, big _ B.i1, big _ B.i2⟩⟩ tp sz k
  · refine zn_held D D1 D2 h1 h2 x.ti x.s1 x.s2 hi fun x1 x2 h' tk p1 p2 z' t1 t2 tp sz k => ?_
    exact hQ x1 x2 h' tk p1 p2 ⟨k _ _ D.TIz D.TIi1 D.TIi2 x.ti, t1, t2, .inr ⟨Nat.succ_pos _, T, true, oT, z', k _ _ h4 h5 h6 h2, h3, h4, h5, h6⟩⟩ tp sz fun c o c1 _ c3 c4 e => k c o c1 c3 c4 e
theorem zl_loop (D : ZipSep2 z TI TO i1 i2 fp1 fp2) (B : ZB z TI TO i1 i2 S fp1 fp2) (D1 : Draws prog w A.in1.in1 i1 fp1 n P1 St1) (D2 : Draws prog w A.in1.in1 i2 fp2 n P2 St2) (hn : n ≤ sizeLine) (hn1 : 1 ≤ n) (res : Value) {h₁ : Heap}
    (hR : ∀ h' tk acc c as, (∀ b o, b ≠ S → b ≠ z → b ≠ TO → b ≠ i1 → b ≠ i2 → h₁.get? b = some o → h'.get? b = some o) → h'.get? S = some { cls := .type "list", dict := none, data := .seq acc c, slots := #[] } → as.length = n → ZG P1 P2 S h' as →
      acc.toList = as.map Value.ref → R (.ok (.ret res)) { s with heap := h', toks := tk }) :
    ∀ (k i : Nat) (h : Heap) (tk c : Nat) (acc : Array Value) (as : List Addr), n - i = k → i ≤ n → ZS z TI TO i1 i2 S St1 St2 i h → (∀ b o, b ≠ S → b ≠ z → b ≠ TO → b ≠ i1 → b ≠ i2 → h₁.get? b = some o → h.get? b = some o) →
      h.get? S = some { cls := .type "list", dict := none, data := .seq acc c, slots := #[] } → acc.toList = as.map Value.ref → as.length = i → ZG P1 P2 S h as →
      codeAny (model prog w) A (.builtin "list.extend.loop" ⟨[.ref S, .ref z, res], []⟩) R { s with heap := h, toks := tk } := by
  have ne : ∀ a, S < a → a ≠ z ∧ a ≠ TO ∧ a ≠ i1 ∧ a ≠ i2 := fun a ha => ⟨Nat.ne_of_gt (Nat.lt_trans B.z ha), Nat.ne_of_gt (Nat.lt_trans B.TO ha), Nat.ne_of_gt (Nat.lt_trans B.i1 ha), Nat.ne_of_gt (Nat.lt_trans B.i2 ha)⟩
  intro k
  induction k with
  | zero =>
    intro i h tk c acc as hk hi hst hkeep hS hacc hal hG
    obtain rfl : i = n := by omega
    refine codeAny_builtin PySem.F.entry_extend_loop ?_
    rw [Around.under_plainId PySem.F.plain_extend_loop _]
    show wpAny _ A.in1 (pyNext (.ref z) >>= _) _ _ _
    rcases hst.zz with ⟨h0, _⟩ | ⟨h0, T, f, oT, h1, h2, h3, h4, h5, h6⟩
    · omega
    · refine wpAny_bind (zn_end (s := { s with heap := h, toks := tk }) (A := A.in1) D D1 h1 h2 hst.ti hst.s1 fun h' tk' he => ?_)
      refine wpAny_pure (hR h' tk' acc c as (fun b o b1 b2 b3 b4 b5 e => he b o b2 b4 b5 (hkeep b o b1 b2 b3 b4 b5 e)) (he S _ (Nat.ne_of_gt B.z) (Nat.ne_of_gt B.i1) (Nat.ne_of_gt B.i2) hS) hal ⟨hG.rise, hG.above, fun j a hj => ?_⟩ hacc)
      obtain ⟨x1, x2, q1, q2, e3⟩ := hG.pairs j a hj
      obtain ⟨n1, n2, n3, n4⟩ := ne a (hG.above a (List.mem_of_getElem? hj))
      exact ⟨x1, x2, q1, q2, he a _ n1 n3 n4 e3⟩
  | succ k ih =>
    intro i h tk c acc as hk hi hst hkeep hS hacc hal hG
    have hlt : i < n := by omega
    have hsz : acc.size = i := by rw [← Array.length_toList, hacc, List.length_map, hal]
    have hSl : S < h.objs.size := Heap.lt_size hS
    refine codeAny_builtin PySem.F.entry_extend_loop ?_
    rw [Around.under_plainId PySem.F.plain_extend_loop _]
    show wpAny _ A.in1 (pyNext (.ref z) >>= _) _ _ _
    refine wpAny_bind (zs_next (s := { s with heap := h, toks := tk }) (A := A.in1) D B D1 D2 hSl hst hlt fun x1 x2 h' tk' p1 p2 hst' ht hz hkp => ?_)
    dsimp only at ht hz hkp ⊢
    have hS' := hkp S _ (Nat.ne_of_gt B.z) (Nat.ne_of_gt B.TO) (Nat.ne_of_gt B.i1) (Nat.ne_of_gt B.i2) hS
    have up : ∀ b o, b ≠ S → h'.get? b = some o → (h'.update S (Obj.mapSeq (·.push (Value.ref h.objs.size)))).get? b = some o := fun b o hb e => (Heap.get?_update_other _ _ (Ne.symm hb)).trans e
    show wpAny _ A.in1 (updateSeq S (·.push (Value.ref h.objs.size)) >>= _) _ _ _
    refine wpAny_bind ?_
    refine wpAny_updateSeq hS' rfl (wpAny_pure ⟨plainId_quiet PySem.F.plain_extend_loop _, ih (i + 1) _ tk' _ (acc.push (Value.ref h.objs.size)) (as ++ [h.objs.size]) (by omega) hlt (hst'.keep B D1 D2 up)
      (fun b o b1 b2 b3 b4 b5 e => up b o b1 (hkp b o b2 b3 b4 b5 (hkeep b o b1 b2 b3 b4 b5 e))) (Heap.get?_update_self _ hS' rfl) (by rw [Array.toList_push, hacc, List.map_append]; rfl) (by rw [List.length_append, hal]; rfl) ⟨?_, ?_, ?_⟩⟩) (by rw [hsz]; omega) (by show (acc.push (Value.ref h.objs.size)).size ≤ sizeLine + 1; rw [Array.size_push, hsz]; omega)
    · refine List.pairwise_append.mpr ⟨hG.rise, List.pairwise_singleton _ _, fun a ha b hb => ?_⟩
      rw [List.mem_singleton.mp hb]
      exact hG.there ha
    · intro a ha
      rcases List.mem_append.mp ha with ha | ha
      · exact hG.above a ha
      · rw [List.mem_singleton.mp ha]; exact hSl
    · intro j b hj
      rcases Nat.lt_trichotomy j as.length with h1 | h1 | h1
      · rw [List.getElem?_append_left h1] at hj
        obtain ⟨y1, y2, q1, q2, e3⟩ := hG.pairs j b hj
        have hb := hG.above b (List.mem_of_getElem? hj)
        obtain ⟨n1, n2, n3, n4⟩ := ne b hb
        exact ⟨y1, y2, q1, q2, up b _ (Nat.ne_of_gt hb) (hkp b _ n1 n2 n3 n4 e3)⟩
      · subst h1
        have hb : h.objs.size = b := by simpa using hj
        subst hb
        exact ⟨x1, x2, by rw [hal]; exact p1, by rw [hal]; exact p2, up _ _ (Nat.ne_of_gt hSl) ht⟩
      · have hnone : (as ++ [h.objs.size])[j]? = none := List.getElem?_eq_none (by rw [List.length_append, List.length_singleton]; omega)
        rw [hnone] at hj; cases hj
/-- list(z) of a zip that has given nothing yet -/
theorem zl_call {Q : Value → Shared → Prop} {a1 a2 : Value} (D : ZipSep2 z TI TO i1 i2 fp1 fp2) (B : ZB z TI TO i1 i2 s.heap.objs.size fp1 fp2) (D1 : ∀ A : Around, A.handled = none → Draws prog w A i1 fp1 n P1 St1) (D2 : ∀ A : Around, A.handled = none → Draws prog w A i2 fp2 n P2 St2) (hh : A.handled = none)
    (hz : IsZip s.heap z TI TO .none) (hTI : IsTupOf2 s.heap TI (.ref i1) (.ref i2)) (hTO : IsTupOf2 s.heap TO a1 a2) (st1 : St1 0 s.heap) (st2 : St2 0 s.heap) (hn : n ≤ sizeLine) (hn1 : 1 ≤ n)
    (hQ : ∀ h' tk acc c as, (∀ b o, b ≠ z → b ≠ TO → b ≠ i1 → b ≠ i2 → s.heap.get? b = some o → h'.get? b = some o) → h'.get? s.heap.objs.size = some { cls := .type "list", dict := none, data := .seq acc c, slots := #[] } → as.length = n → ZG P1 P2 s.heap.objs.size h' as →
      acc.toList = as.map Value.ref → Q (.ref s.heap.objs.size) { s with heap := h', toks := tk }) :
    wpAny (model prog w) A (call (.type "list") [.ref z]) Q E s := by
  refine callType_codes (Q₁ := fun obj s₁ => obj = .ref s.heap.objs.size ∧ s₁ = { s with heap := s.heap.push { cls := .type "list", data := .seq #[] } }) PySem.F.called_list (PySem.F.typeCall_list_1 _) PySem.F.entry_list_init
    (code_list_new _ ⟨rfl, rfl⟩) fun obj s₁ h₁ => ?_
  obtain ⟨rfl, rfl⟩ := h₁
  have hS : (s.heap.push { cls := .type "list", data := .seq #[] }).get? s.heap.objs.size = some { cls := .type "list", data := .seq #[] } := Heap.get?_push_size _ rfl
  have hzS : s.heap.objs.size ≠ z := Nat.ne_of_gt B.z
  refine ⟨⟨_, hS, rfl⟩, PySem.F.args_list_init_2 _ _, ?_⟩
  show wpAny _ _ (do let old ← Builtin.List.listItems (.ref s.heap.objs.size); Builtin.List.listUpdate (.ref s.heap.objs.size) (fun _ => #[]); letGo old.toList.reverse; Builtin.List.listExtendWith (.ref s.heap.objs.size) (.ref z) .none) _ _ _
  refine wpAny_bind ?_
  unfold Builtin.List.listItems
  refine wpAny_bind (wpAny_seqItems hS rfl (wpAny_pure ?_))
  show wpAny _ _ (updateSeq s.heap.objs.size (fun _ => #[]) >>= fun _ => letGo (#[] : Array Value).toList.reverse >>= fun _ => Builtin.List.listExtendWith (.ref s.heap.objs.size) (.ref z) .none) _ _ _
  refine wpAny_bind (wpAny_updateSeq hS rfl ?_)
  have hS₂ := Heap.get?_update_self (Obj.mapSeq (fun _ => (#[] : Array Value))) hS rfl
  have oth : ∀ b o, b ≠ s.heap.objs.size → (s.heap.push { cls := .type "list", data := .seq #[] }).get? b = some o → ((s.heap.push { cls := .type "list", data := .seq #[] }).update s.heap.objs.size (Obj.mapSeq (fun _ => (#[] : Array Value)))).get? b = some o :=
    fun b o hb e => (Heap.get?_update_other _ _ (Ne.symm hb)).trans e
  refine wpAny_bind (wpAny_letGo ?_)
  have kp : ∀ b o, s.heap.get? b = some o → ((s.heap.push { cls := .type "list", data := .seq #[] }).update s.heap.objs.size (Obj.mapSeq (fun _ => (#[] : Array Value)))).get? b = some o := fun b o e => oth b o (Nat.ne_of_lt (Heap.lt_size e)) (Heap.get?_push_of_some _ e)
  have hz2 := kp _ _ hz
  have hh1 : A.in1.in1.in1.handled = none := hh
  have d1 := D1 A.in1.in1.in1 hh1
  have d2 := D2 A.in1.in1.in1 hh1
  unfold Builtin.List.listExtendWith
  refine wpAny_bind (wpAny_typeOf (T := "zip") ⟨_, hz2, rfl⟩ ?_)
  have h1 : Builtin.List.listSameRef (.ref s.heap.objs.size) (.ref z) = false := by simp [Builtin.List.listSameRef, hzS]
  have h2 : (Value.type "zip" == Value.type "list") = false := by decide
  have h3 : (Value.type "zip" == Value.type "tuple") = false := by decide
  simp only [h1, h2, h3, Bool.or_false, Bool.false_eq_true, if_false]
  refine wpAny_bind (wpAny_pyIter_zip hz2 ?_)
  refine wpAny_bind (wpAny_holding ?_)
  unfold Builtin.List.listLengthHint
  refine wpAny_bind (wpAny_specialOf (T := "zip") ⟨_, hz2, rfl⟩ zip_nolen ?_)
  refine wpAny_bind (wpAny_specialOf (T := "zip") ⟨_, hz2, rfl⟩ zip_nohint ?_)
  refine wpAny_pure ?_
  rw [Bool.true_or, if_pos rfl]
  refine wpAny_bind (wpAny_rule ?_)
  refine wpAny_bind ?_
  show wpAny _ _ (updateSeq s.heap.objs.size (·.push .none) >>= fun _ => updateSeq s.heap.objs.size (·.pop)) _ _ _
  refine wpAny_bind (wpAny_updateSeq hS₂ rfl ?_)
  have hS₃ := Heap.get?_update_self (Obj.mapSeq (·.push Value.none)) hS₂ rfl
  refine wpAny_updateSeq (hz := by seq_fits) hS₃ rfl ?_
  have hS₄ := Heap.get?_update_self (Obj.mapSeq (·.pop)) hS₃ rfl
  have kp2 : ∀ b o, s.heap.get? b = some o → _ := fun b o e => (Heap.get?_update_other _ (Obj.mapSeq (·.pop)) (Ne.symm (Nat.ne_of_lt (Heap.lt_size e)))).trans ((Heap.get?_update_other _ (Obj.mapSeq (·.push Value.none)) (Ne.symm (Nat.ne_of_lt (Heap.lt_size e)))).trans (kp b o e))
  refine wpAny_pure ⟨plainId_quiet PySem.F.plain_extend_loop _, zl_loop (h₁ := s.heap) D B d1 d2 hn hn1 .none (fun h' tk acc c as hk hS' hl hG hacc => ?_) n 0 _ _ _ _ [] rfl (Nat.zero_le _)
    ⟨kp2 _ _ hTI, (D1 A hh).frame _ _ _ st1 fun b _ o e => kp2 b o e, (D2 A hh).frame _ _ _ st2 fun b _ o e => kp2 b o e, .inl ⟨rfl, kp2 _ _ hz, _, _, kp2 _ _ hTO⟩⟩ (fun b o _ _ _ _ _ e => kp2 b o e) hS₄ rfl rfl ⟨List.Pairwise.nil, (fun _ ha => nomatch ha), (fun j a hj => by simp at hj)⟩⟩
  exact ⟨rfl, hQ h' tk acc c as (fun b o b1 b2 b3 b4 e => hk b o (Nat.ne_of_lt (Heap.lt_size e)) b1 b2 b3 b4 e) hS' hl hG hacc⟩
end
/-! ### tracked -/
/-- the tuples tracked at their addresses -/
def putP : Hp → List Addr → List (V × V) → Hp
  | H, a :: as, p :: ps => putP (upd H a (.tup [p.1, p.2])) as ps
  | H, _, _ => H
theorem putP_off {b : Addr} : ∀ (as : List Addr) (ps : List (V × V)) (H : Hp), b ∉ as → putP H as ps b = H b
  | [], _, _, _ => rfl
  | _ :: _, [], _, _ => rfl
  | a :: as, p :: ps, H, h => by
    show putP (upd H a _) as ps b = H b
    rw [putP_off as ps _ (fun z => h (List.mem_cons_of_mem _ z)), upd_ne (fun z => h (by rw [z]; exact List.mem_cons_self))]
theorem putP_at : ∀ (as : List Addr) (ps : List (V × V)) (H : Hp), as.Nodup → ∀ (j : Nat) (a : Addr) (p : V × V), as[j]? = some a → ps[j]? = some p → putP H as ps a = some (.tup [p.1, p.2])
  | [], _, _, _, _, _, _, h, _ => by simp at h
  | _ :: _, [], _, _, _, _, _, _, h => by simp at h
  | a :: as, p :: ps, H, hn, j, b, q, h1, h2 => by
    have hn' := List.nodup_cons.mp hn
    show putP (upd H a _) as ps b = _
    cases j with
    | zero =>
      obtain rfl : a = b := by simpa using h1
      obtain rfl : p = q := by simpa using h2
      rw [putP_off as ps _ hn'.1, upd_same]
    | succ j => exact putP_at as ps _ hn'.2 j b q (by simpa using h1) (by simpa using h2)
section
variable {X : Cx}
theorem pairs_laid {pins : List (Addr × Obj)} {σ : L2.St} {H : Hp} {s : Shared} {h' : Heap} {tk : Nat} {zs : List (V × V)} {acc : Array Value} {c : Nat} {as : List Addr} {S : Addr} (I : Inv X pins σ H s) (hS0 : s.heap.objs.size ≤ S) (hz : zs.length ≤ sizeLine)
    (hk : ∀ b o, s.heap.get? b = some o → h'.get? b = some o) (hS : h'.get? S = some { cls := .type "list", dict := none, data := .seq acc c, slots := #[] }) (hl : as.length = zs.length) (rise : as.Pairwise (· < ·)) (above : ∀ a ∈ as, S < a)
    (pairs : ∀ (j : Nat) (a : Addr) (p : V × V), as[j]? = some a → zs[j]? = some p → ∃ x1 x2, RelV p.1 x1 ∧ RelV p.2 x2 ∧ IsTupOf2 h' a x1 x2) (hacc : acc.toList = as.map Value.ref) :
    ∃ H' : Hp, Ex H H' ∧ H S = none ∧ (∀ t ∈ as, H t = none) ∧ S ∉ as ∧ H' S = some (.lst (as.map V.ref)) ∧ (∀ (j : Nat) (a : Addr) (p : V × V), as[j]? = some a → zs[j]? = some p → H' a = some (.tup [p.1, p.2])) ∧ Inv X pins σ H' { s with heap := h', toks := tk } := by
  have hSn : S ∉ as := fun z => Nat.lt_irrefl _ (above _ z)
  have nd : as.Nodup := List.Pairwise.imp (fun {a b} (h : a < b) => Nat.ne_of_lt h) rise
  have new : ∀ t ∈ as, H t = none := fun t ht => I.hok.fresh (Nat.le_trans hS0 (Nat.le_of_lt (above t ht)))
  have newS : H S = none := I.hok.fresh hS0
  have atP := putP_at as zs (upd H S (.lst (as.map V.ref))) nd
  have off : ∀ b, b ∉ as → b ≠ S → putP (upd H S (.lst (as.map V.ref))) as zs b = H b := fun b h1 h2 => by rw [putP_off as zs _ h1, upd_ne h2]
  have low : ∀ b o, s.heap.get? b = some o → b ∉ as ∧ b ≠ S := fun b o e => ⟨fun z => absurd (Heap.lt_size e) (Nat.not_lt.mpr (Nat.le_trans hS0 (Nat.le_of_lt (above b z)))), fun z => absurd (Heap.lt_size e) (Nat.not_lt.mpr (z ▸ hS0))⟩
  have kp : ∀ b u, H b = some u → (putP (upd H S (.lst (as.map V.ref))) as zs) b = some u := fun b u e => by
    rw [off b (fun z => by rw [new b z] at e; cases e) (fun z => by rw [z, newS] at e; cases e)]
    exact e
  have eS : putP (upd H S (.lst (as.map V.ref))) as zs S = some (.lst (as.map V.ref)) := by rw [putP_off as zs _ hSn, upd_same]
  refine ⟨putP (upd H S (.lst (as.map V.ref))) as zs, kp, newS, new, hSn, eS, atP, ?_⟩
  refine I.call' (ch := []) rfl ⟨fun b o q _ _ _ => hk b o q, fun b o q _ _ _ => ⟨o.slots, hk b o q⟩, fun b o q n _ => ?_, fun b o q _ => ⟨o, hk b o q⟩, fun b xs q => kp b _ q, fun b o u q => kp b _ q, fun b ps q => ⟨#[], by rw [kp b _ q]; simp⟩⟩ (fun b u q => ?_) I.bare fun b z => by simp at z
  · obtain ⟨z1, z2⟩ := low b o q
    rw [off b z1 z2]
    exact n
  · by_cases hb : b ∈ as
    · obtain ⟨j, hj⟩ := List.mem_iff_getElem?.mp hb
      have hj2 : j < zs.length := by
        have := (List.getElem?_eq_some_iff.mp hj).1
        omega
      have e2 : zs[j]? = some zs[j] := List.getElem?_eq_getElem hj2
      rw [atP j b _ hj e2] at q
      cases q
      obtain ⟨x1, x2, f1, f2, f3⟩ := pairs j b _ hj e2
      exact ⟨by show 2 ≤ sizeLine; decide, [x1, x2], .cons f1 (.cons f2 .nil), ⟨_, f3, rfl, _, rfl⟩⟩
    · by_cases hb2 : b = S
      · rw [hb2] at q ⊢
        rw [eS] at q
        cases q
        refine ⟨by rw [List.length_map]; omega, acc.toList, c, by rw [hacc]; exact LiI.vals_refs as, ?_⟩
        rw [Array.toArray_toList]
        exact hS
      · rw [off b hb hb2] at q
        exact (I.hok b u q).stay (fun d v _ y => hk d v y) (fun d y => kp d _ y) fun d xs y => kp d _ y
/-- a list or a tuple as a source of an iterator at it -/
theorem sq_src {pins : List (Addr × Obj)} {σ : L2.St} {H : Hp} {s : Shared} {a : Addr} {xs : List V} (I : Inv X pins σ H s) (hq : Sq X.K H a xs) {it : Addr} (hit : s.heap.objs.size ≤ it) :
    ∃ (its : List Value) (o : Obj) (HH : Heap → Prop) (St : Nat → Heap → Prop), Vals xs its ∧ xs.length ≤ sizeLine ∧ Begins (.ref a) o HH ∧ HH s.heap ∧ a < s.heap.objs.size ∧
      (∀ A : Around, A.handled = none → Draws X.prog X.w A it [it, a] its.length (fun i v => its[i]? = some v) St) ∧ ∀ h', HH h' → h'.get? it = some o → St 0 h' := by
  rcases hq with hq | hq
  · obtain ⟨its, rv, p, hz⟩ := I.list hq
    have hlt : a < s.heap.objs.size := p.lt
    have hd : ∀ A : Around, A.handled = none → Draws X.prog X.w A it [it, a] its.toArray.size (fun i v => its.toArray[i]? = some v) (fun i h => h.IsListIter it a i ∧ h.IsList a its.toArray) := fun A hh => Draws.list hh it a (Nat.ne_of_lt (Nat.lt_of_lt_of_le hlt hit)) its.toArray
    simp only [List.size_toArray, List.getElem?_toArray] at hd
    exact ⟨its, _, _, _, rv, hz, begins_list a its.toArray, p.isList, hlt, hd, fun h' h1 h2 => ⟨⟨_, h2, rfl, rfl⟩, h1⟩⟩
  · obtain ⟨its, rv, p, hz⟩ := I.tuple hq
    have hlt : a < s.heap.objs.size := by obtain ⟨o, ho, _⟩ := id p; exact Heap.lt_size ho
    have hd : ∀ A : Around, A.handled = none → Draws X.prog X.w A it [it, a] its.toArray.size (fun i v => its.toArray[i]? = some v) (fun i h => h.IsTupleIter it a i ∧ h.IsTuple a its.toArray) := fun A hh => Draws.tuple hh it a (Nat.ne_of_lt (Nat.lt_of_lt_of_le hlt hit)) its.toArray
    simp only [List.size_toArray, List.getElem?_toArray] at hd
    exact ⟨its, _, _, _, rv, hz, begins_tuple a its.toArray, p, hlt, hd, fun h' h1 h2 => ⟨⟨_, h2, rfl, rfl⟩, h1⟩⟩
def rListZip (K : PySem.W.Frag) : List V → Hp → VK → Prop := fun vs H Q => ∃ a b xs ys, vs = [.ref a, .ref b] ∧ Sq K H a xs ∧ Sq K H b ys ∧ xs.length = ys.length ∧ 1 ≤ xs.length ∧
  ∀ (H' : Hp) (p : Addr) (ts : List Addr), Ex H H' → H p = none → (∀ t ∈ ts, H t = none) → p ∉ ts → H' p = some (.lst (ts.map V.ref)) → ts.length = xs.length →
    (∀ (j : Nat) t x y, ts[j]? = some t → xs[j]? = some x → ys[j]? = some y → H' t = some (.tup [x, y])) → Q (.ref p) H'
def tListZip (K : PySem.W.Frag) (ar : TA) : TE := fun σ H Q => ar σ H fun vs H1 => rListZip K vs H1 Q
theorem vals_get : ∀ {xs : List V} {us : List Value}, Vals xs us → ∀ {i : Nat} {u : Value}, us[i]? = some u → ∃ x, xs[i]? = some x ∧ RelV x u
  | _, _, .nil, _, _, h => by simp at h
  | _, _, .cons r t, 0, u, h => by
    obtain rfl := Option.some.inj h
    exact ⟨_, rfl, r⟩
  | _, _, .cons r t, i + 1, u, h => vals_get t h
theorem vals_len {xs : List V} {us : List Value} (h : Vals xs us) : xs.length = us.length := by
  induction h with
  | nil => rfl
  | cons _ _ ih => rw [List.length_cons, List.length_cons, ih]
/-- list(zip(a, b)) -/
theorem pe_listZip {e e2 : Expr} {ta : TA} {p p2 cpos pos : Pos} {K : PySem.W.Frag} (hKK : X.K = K) (hc : X.calm = true) (hg : Gl X "list") (hm : X.mg "list" = none) (hg2 : Gl X "zip") (hm2 : X.mg "zip" = none) (ha : PA X [e, e2] ta)
    (hs2 : starEach [e, e2] X.env = (false, eval e X.env) :: starEach [e2] X.env := by rfl) (hpl : (backTo cpos (starEach [e2] X.env)).any (·.1) = false := by rfl)
    (hs : starEach [.Call (.Name "zip" p2) [e, e2] [] cpos] X.env = (false, eval (.Call (.Name "zip" p2) [e, e2] [] cpos) X.env) :: starEach [] X.env := by rfl) :
    PE X (.Call (.Name "list" p) [.Call (.Name "zip" p2) [e, e2] [] cpos] [] pos) (tListZip K ta) := by
  subst hKK
  refine ⟨fun pins s σ H Q I hq => ?_⟩
  refine wpAny_Call_Name_kw (ld_blt I hg hm (show bootBuiltins "list" = some (.type "list") by decide +kernel) ?_)
  refine PyProof.Rows.callWith_type1 ?_ hs rfl
  rw [hs]
  show wpAny _ _ (spliced ((false, eval (.Call (.Name "zip" p2) [e, e2] [] cpos) X.env) :: backTo pos (starEach [] X.env))) _ _ s
  refine Calls.spliced_cons ?_
  refine Call_ (ld_blt I hg2 hm2 PyProof.Rows.boot_zip (PyProof.Rows.callWith_type1 (thn (ha.run cpos pins s σ H _ I hq) fun us s1 ⟨vs, H1, I1, r1, q1⟩ => ?_) hs2 hpl))
  obtain ⟨a, b, xs, ys, ex, hx, hy, hl, h1, q⟩ := q1
  subst ex
  cases r1 with
  | cons r rr =>
    cases rr with
    | cons r' rr =>
      cases rr
      cases r
      cases r'
      obtain ⟨its, o1, HH1, St1, rv1, hz1, B1, hh1, lt1, D1, S1⟩ := sq_src I1 hx (it := s1.heap.objs.size) (Nat.le_refl _)
      obtain ⟨its2, o2, HH2, St2, rv2, hz2, B2, hh2, lt2, D2, S2⟩ := sq_src I1 hy (it := s1.heap.objs.size + 1) (Nat.le_succ _)
      have ll : its2.length = its.length := by rw [← vals_len rv1, ← vals_len rv2, hl]
      rw [ll] at D2
      refine zip_begins2 B1 B2 hh1 hh2 fun h' hz hTI hTO g1 g2 hsz hk => ?_
      refine Calls.spliced_nil ?_
      have bnd : ∀ k : Nat, k < 5 → s1.heap.objs.size + k < h'.objs.size := fun k hk => by
        rw [hsz]
        exact Nat.add_lt_add_left hk _
      refine zl_call (s := { s1 with heap := h' }) (fp1 := [s1.heap.objs.size, a]) (fp2 := [s1.heap.objs.size + 1, b]) (zip_sep2 (fun c hc => by rw [List.mem_singleton.mp hc]; exact lt1) (fun c hc => by rw [List.mem_singleton.mp hc]; exact lt2))
        ⟨bnd 4 (by decide), bnd 2 (by decide), bnd 3 (by decide), bnd 0 (by decide), bnd 1 (by decide), fun c hc => ?_, fun c hc => ?_⟩ D1 D2 (I1.ok.hd hc) hz hTI hTO (S1 h' (B1.keeps _ _ hh1 hk) g1) (S2 h' (B2.keeps _ _ hh2 hk) g2) (by rw [← vals_len rv1]; exact hz1) (by rw [← vals_len rv1]; exact h1) fun h'' tk acc c as hk2 hS hlen hG hacc => ?_
      · rcases List.mem_cons.mp hc with rfl | hc
        · exact bnd 0 (by decide)
        · rw [List.mem_singleton.mp hc]
          exact Nat.lt_trans lt1 (bnd 0 (by decide))
      · rcases List.mem_cons.mp hc with rfl | hc
        · exact bnd 1 (by decide)
        · rw [List.mem_singleton.mp hc]
          exact Nat.lt_trans lt2 (bnd 0 (by decide))
      · have low : ∀ b o, s1.heap.get? b = some o → ∀ k : Nat, b ≠ s1.heap.objs.size + k := fun b o e k z => absurd (Heap.lt_size e) (Nat.not_lt.mpr (by rw [z]; exact Nat.le_add_right _ _))
        obtain ⟨H', k1, k2, k3, k4, k5, k6, J⟩ := pairs_laid (tk := tk) (zs := xs.zip ys) (S := h'.objs.size) I1 (by rw [hsz]; exact Nat.le_add_right _ _) (by rw [List.length_zip, hl, Nat.min_self, ← hl]; exact hz1) (fun b o e => hk2 b o (low b o e 4) (low b o e 3) (low b o e 0) (low b o e 1) (hk b o e)) hS (by rw [hlen, List.length_zip, hl, Nat.min_self, ← hl, vals_len rv1]) hG.rise hG.above (fun j t pr hj hp => by
          obtain ⟨x1, x2, p1, p2, p3⟩ := hG.pairs j t hj
          obtain ⟨v1, e1, f1⟩ := vals_get rv1 p1
          obtain ⟨v2, e2, f2⟩ := vals_get rv2 p2
          have : (xs.zip ys)[j]? = some (v1, v2) := by
            rw [List.getElem?_zip_eq_some]
            exact ⟨e1, e2⟩
          rw [this] at hp
          cases hp
          exact ⟨x1, x2, f1, f2, p3⟩) hacc
        exact ⟨.ref _, H', J, rfl, q H' _ as k1 k2 k3 k4 k5 (by rw [hlen, vals_len rv1]) fun j t x y e1 e2 e3 => k6 j t (x, y) e1 (by rw [List.getElem?_zip_eq_some]; exact ⟨e2, e3⟩)⟩
end
section
variable {K : PySem.W.Frag} {σ : L2.St} {H : Hp} {Q : VK} {ar : TA}
theorem r_listZip (h : ar σ H fun vs H1 => rListZip K vs H1 Q) : tListZip K ar σ H Q := h
end
end Hn

/-! sum of a tuple; len, * and the like of own classes. -/
namespace Hn
open PySem PySem.Spec PyProof.Rows L2 Evl
section
variable {X : Cx} {K : PySem.W.Frag} {k : Nat} {f C : Addr} {ps : List Str} {sp : Sp}
theorem sum_rawT {prog : Program} {w : World} {A : Around} {E : Value → Shared → Prop} {s : Shared} {l : Addr} {its : List Value} {ns : List Int} {Q : Value → Shared → Prop} (hh : A.handled = none) (hl : s.heap.IsTuple l its.toArray) (hi : IntsAre its ns)
    (h : ∀ h' tk t', (∀ b o, s.heap.get? b = some o → h'.get? b = some o) → Q (.int ns.sum t') { s with heap := h', toks := tk }) : wpAny (model prog w) A (call (.builtin "sum") [.ref l]) Q E s := by
  obtain ⟨xs, e⟩ := hi.allInts.items
  have hn : numsOf (intItems xs).toList = ns := by rw [← e]; exact hi.numsOf
  rw [nums_intItems] at hn
  rw [e] at hl
  refine PySem.W.ktm_sumG hh hl fun h' tk t' hk => ?_
  have := h h' tk t' hk
  rw [preSum_eq, List.take_of_length_le (by simp), hn]; exact this
def rSumS (K : PySem.W.Frag) : List V → Hp → VK → Prop := fun vs H Q => ∃ (a : Addr) (ns : List Int), vs = [V.ref a] ∧ Sq K H a (ns.map V.int) ∧ Q (.int ns.sum) H
theorem k_sumS (h : X.K = K) (hc : X.calm = true) : CallR X (.builtin "sum") (rSumS K) := by
  subst h
  intro pins s σ H vs us Q I r h
  obtain ⟨a, ns, rfl, hs, q⟩ := h
  rcases hs with hs | hs
  · exact cr_sum hc pins s σ H _ us Q I r ⟨a, ns, rfl, hs, q⟩
  · obtain ⟨its, rv, hl, _⟩ := I.tuple hs
    rw [Vals.ref1 r]
    exact sum_rawT (I.ok.hd hc) hl rv.ints fun h' tk t' hk => ⟨.int _, H, I.kept hk, ⟨_, rfl⟩, q⟩
theorem r_sumS {H : Hp} {Q : VK} {a : Addr} {ns : List Int} (h : Sq K H a (ns.map V.int)) (q : Q (.int ns.sum) H) : rSumS K [.ref a] H Q := ⟨a, ns, rfl, h, q⟩
/-- len(x) by the class's own __len__ -/
def rLenO (C : Addr) (sp : Sp) (E : XK) : List V → Hp → VK → Prop := fun vs H Q => ∃ a dx fs, vs = [.ref a] ∧ H a = some (.ins C dx fs) ∧ sp [.ref a] H (fun v H' => ∃ n : Int, v = .int n ∧ 0 ≤ n ∧ n < 2 ^ 63 ∧ Q (.int n) H') E
theorem k_lenO (G : Okf X.prog X.w X.K X.mg X.base k f ps sp) (hr : Room (k + 1) X.A) (hs : PySem.W.findIn X.K (.ref C) "__len__" = some (some (.ref f))) (hf : PySem.W.isFn X.K (.ref f) = true) : CallR X (.builtin "len") (rLenO C sp E0) := by
  obtain ⟨fd, F, hb⟩ := G
  intro pins s σ H vs us Q I r h
  obtain ⟨a, dx, fs, rfl, ha, q⟩ := h
  rw [Vals.ref1 r]
  obtain ⟨mA, J, _⟩ := ins_get I.hok ha
  obtain ⟨od, J, _⟩ := J.look
  obtain ⟨m, hF⟩ := I.fr
  refine PySem.W.len_K hF I.ok.mod.kin J hs hf ?_
  refine wpAny_mono (run_fn1 (us := [.ref a]) (vs := [.ref a]) F hr hb passL I (.cons rfl .nil) q) (fun v s' hv => ?_) fun _ _ e => e
  obtain ⟨z, H', I', rz, n, rfl, h0, h1, q'⟩ := hv
  obtain ⟨t, rfl⟩ := rz
  exact ⟨⟨h0, h1⟩, .int n, H', I'.tok _, ⟨_, rfl⟩, q'⟩
/-- an own operator with an int at its right -/
theorem k_ownI {op : Operator} (G : Okf X.prog X.w X.K X.mg X.base k f ps sp) (hr : Room k X.A)
    (hc : PySem.W.selfFirst X.K C = true) (hs : PySem.W.findIn X.K (.ref C) (PySem.dunder op.info.2) = some (some (.ref f))) (hf : PySem.W.isFn X.K (.ref f) = true)
    (hrc : ∃ rc, PySem.W.findIn X.K (.ref C) (dunderR op.info.2) = some rc ∧ (rc = none ∨ ∃ g : Addr, rc = some (.ref g)))
    (hi : (∃ fo, PySem.W.findIn X.K (.type "int") (PySem.dunder op.info.2) = some fo) ∧ ∃ ro, PySem.W.findIn X.K (.type "int") (dunderR op.info.2) = some ro) (hsub : PySem.W.subIn X.K (.type "int") (.ref C) = some false) :
    OpR X (binaryOp op) (rOwnI C sp E0) :=
  let ⟨_, a, b⟩ := G
  let ⟨_, h1, h2⟩ := hrc
  let ⟨⟨_, h3⟩, _, h4⟩ := hi
  op_ownI a hr b passL hc hs hf h1 h2 h3 h4 hsub
end
section
open PySem.W
variable {prog : Program} {w : World} {A : Around} {E : Value → Shared → Prop} {s : Shared} {K : Frag} {x C L f : Addr} {h₀ : Heap} {m : Str → Option Value} {ox : Obj} {od : Option Obj} {i : Int} {t : Tok}
/-- int.__mul__ knows nothing of own things -/
theorem mul_own_not {dx : Addr} {Q : Option Value → Shared → Prop} (hx : s.heap.get? x = some (PySem.W.instObj C dx)) (h : Q none s) : wpAny (model prog w) A (tryMethod (.int i t) "__mul__" (.ref x)) Q E s := by
  unfold tryMethod
  refine wpAny_bind (wpAny_callSpecial?_slot (name := Str.ofString "__mul__") (typeIs_int s i t) F.slot_int_mul (wpAny_call_entry F.slot_int_mul (typeIs_int s i t) F.entry_int_mul ?_ (F.args_int_mul_2 _ _)))
  unfold Builtin.«int.__mul__»
  unfold Builtin.Int.intBinary
  refine wpAny_bind (wpAny_of_eq (a := (Value.int i t, [Value.ref x])) (by first | rfl | kernel_rfl) ?_)
  refine wpAny_bind (wpAny_of_eq (a := i) (by first | rfl | kernel_rfl) ?_)
  show wpAny _ _ (asInt? (.ref x) >>= _) _ _ _
  refine wpAny_bind ?_
  unfold asInt?
  refine wpAny_bind (wpAny_load hx ?_)
  refine wpAny_pure ?_
  refine wpAny_bind (wpAny_rule ?_)
  exact wpAny_pure ⟨_, rfl, wpAny_pure h⟩
/-- an int times an own thing -/
theorem bin_rmul {dx fm : Addr} {Q : Value → Shared → Prop} (X : K.In s.heap) (I : InstAt s.heap x ox C od) (hx : s.heap.get? x = some (PySem.W.instObj C dx)) (hc : selfFirst K C = true) (hm : findIn K (.ref C) "__mul__" = some (some (.ref fm)))
    (hs : findIn K (.ref C) "__rmul__" = some (some (.ref f))) (hf : isFn K (.ref f) = true) (hsub : subIn K (.ref C) (.type "int") = some false)
    (h : wpAny (model prog w) A (call (.ref f) [.ref x, .int i t]) (PySem.W.CmpBack Q) E s) : wpAny (model prog w) A (binaryOp .Mult (.int i t) (.ref x)) Q E s := by
  obtain ⟨cd, rest, hcd, hmro⟩ := ksp_first hc
  have one := ksp_try (b := .int i t) X I hs hf h
  have no : ∀ {Q : Option Value → Shared → Prop}, Q none s → wpAny (model prog w) A (tryMethod (.int i t) (Str.ofString "__mul__") (.ref x)) Q E s := fun q => mul_own_not hx q
  obtain ⟨hh, g, d, tt, os⟩ := s
  have L1 : Looks (model prog w) hh (typeOf (.ref x)) (.ref C) := I.type
  have L2 : Looks (model prog w) hh (typeOf (.int i t)) (.type "int") := Looks.of_pure rfl
  have L3 : Looks (model prog w) hh (fillsNumberSlot (.ref C) "mul") true := fills_K X hcd hmro hm
  have L4 : Looks (model prog w) hh (fillsNumberSlot (.type "int") "mul") true := Looks.of_pure F.fills_int_mul
  have L5 : Looks (model prog w) hh (isSubtype (.ref C) (.type "int")) false := looks_subIn X hsub
  have L6 : Looks (model prog w) hh (numberSlotInPython (.type "int") "mul") false := Looks.of_pure rfl
  have hne : (Value.type "int" == Value.ref C) = false := Bool.eq_false_iff.mpr fun q => by cases beq_iff_eq.mp q
  have hi : Operator.info .Mult = ("*", "mul") := rfl
  simp only [binaryOp, hi]
  refine wpAny_holding (wpAny_bind ?_)
  unfold binaryOp1
  refine wpAny_bind (L2.at (wpAny_bind (L1.at (wpAny_bind (L4.at ?_)))))
  simp only [hne, Bool.false_eq_true, if_false]
  refine wpAny_bind (L3.at ?_)
  simp only [Bool.and_self, if_true]
  refine wpAny_bind (L5.at ?_)
  simp only [Bool.false_eq_true, if_false]
  repeat ((fail_if_success (with_reducible show wpAny _ _ (tryMethod _ _ _) _ _ _)); lk)
  refine no ?_
  repeat ((fail_if_success (with_reducible show wpAny _ _ (tryMethod _ _ _) _ _ _)); lk)
  refine wpAny_mono one (fun r s' hr' => ?_) fun _ _ e => e
  obtain ⟨v, rfl, hq⟩ := hr'
  repeat lk
  exact hq
end
section
variable {X : Cx} {k : Nat} {f C : Addr} {ps : List Str} {sp : Sp}
def rOwnR (C : Addr) (sp : Sp) (E : XK) : R2 := fun x y H Q => ∃ i a dx fs, x = .int i ∧ y = .ref a ∧ H a = some (.ins C dx fs) ∧ sp [.ref a, .int i] H Q E
theorem k_rmul (G : Okf X.prog X.w X.K X.mg X.base k f ps sp) (hr : Room k X.A) (hc : PySem.W.selfFirst X.K C = true) (hs : PySem.W.findIn X.K (.ref C) "__rmul__" = some (some (.ref f))) (hf : PySem.W.isFn X.K (.ref f) = true)
    (hm : ∃ fm : Addr, PySem.W.findIn X.K (.ref C) "__mul__" = some (some (.ref fm))) (hsub : PySem.W.subIn X.K (.ref C) (.type "int") = some false) : OpR X (binaryOp .Mult) (rOwnR C sp E0) := by
  obtain ⟨fd, F, hb⟩ := G
  obtain ⟨fm, hm⟩ := hm
  intro pins s σ H x y v u Q I rx ry h
  obtain ⟨i, a, dx, fs, rfl, rfl, ha, q⟩ := h
  cases ry
  obtain ⟨t, rfl⟩ := rx
  obtain ⟨mA, J0, _⟩ := ins_get I.hok ha
  obtain ⟨_, _, _, ho, _⟩ := (show ObjOk X.prog X.w H s.heap a (.ins C dx fs) from I.hok a _ ha)
  obtain ⟨od, J, _⟩ := J0.look
  refine bin_rmul I.kIn J ho hc hm hs hf hsub ?_
  exact wpAny_mono (run_fn (us := [.ref a, .int i t]) (vs := [.ref a, .int i]) F hr hb .nil passL I (.cons rfl (.cons ⟨t, rfl⟩ .nil)) q) (fun v s' hv => back_ne hv) fun _ _ e => e
end
end Hn

/-! Objects of one row of ints in one field (Needs, Plan); pairs; isinstance of own classes. -/
namespace Hn
open PySem PySem.Spec PyProof.Rows L2 Evl
/-- what isinstance(x, C) asks of a class C -/
structure IsC (K : PySem.W.Frag) (C : Addr) : Prop where
  cl : Cls K C
  ha : PySem.W.findIn K (.ref C) "__class__" = some (some (.builtin "object.__class__"))
  hn : PySem.W.specialIn K (.builtin "object.__class__") "__get__" = some (some (.builtin "getset_descriptor.__get__"))
  tk : PySem.W.takesIn K (.builtin "object.__class__") = some true
  mr : PySem.W.mroIn K C (.type "object") = some true
theorem r_isiOwn {K : PySem.W.Frag} {C a dx : Addr} {H : Hp} {fs : List (Str × V)} {Q : VK} (h : IsC K C) (ha : H a = some (.ins C dx fs)) (q : Q (.bl true) H) : rIsi K [.ref a, .ref C] H Q :=
  ⟨.ref a, .ref C, _, _, true, rfl, .own C, .base (.ins ha h.cl h.ha h.hn h.tk h.mr), by unfold PySem.W.kitOne; rw [if_pos (beq_self_eq_true _)], q⟩
/-- a row of needs or begins -/
structure GoodN (ns : List Int) : Prop where
  ne : 1 ≤ ns.length
  le : ns.length ≤ 48
  nn : ∀ i, 0 ≤ cyc ns i
theorem GoodN.mem {ns : List Int} (g : GoodN ns) : ∀ x ∈ ns, 0 ≤ x := fun x hx => by
  obtain ⟨j, hj, rfl⟩ := List.mem_iff_getElem.mp hx
  have := g.nn (j : Int)
  rw [cyc_at hj, List.getD_eq_getElem?_getD, List.getElem?_eq_getElem hj] at this
  exact this
theorem GoodN.of {ns : List Int} (h1 : 1 ≤ ns.length) (h2 : ns.length ≤ 48) (h : ∀ x ∈ ns, 0 ≤ x) : GoodN ns := ⟨h1, h2, fun i => h _ (cyc_mem h1 i)⟩
def okRow (ns : List Int) : Bool := decide (1 ≤ ns.length) && decide (ns.length ≤ 48) && ns.all fun x => decide (0 ≤ x)
theorem okRow_iff {s : List Int} : okRow s = true ↔ GoodN s := by
  unfold okRow
  simp only [Bool.and_eq_true, decide_eq_true_eq, List.all_eq_true]
  constructor
  · rintro ⟨⟨a, b⟩, c⟩
    exact GoodN.of a b c
  · intro g
    exact ⟨⟨g.ne, g.le⟩, g.mem⟩
def rwF (fld : Str) (a : Addr) : List (Str × V) := putF fld (.ref a) []
theorem rwF_at (fld : Str) (a : Addr) : (rwF fld a).lookup fld = some (.ref a) := by
  unfold rwF
  rw [lookup_putF, if_pos rfl]
theorem rwF_no {fld m : Str} (a : Addr) (h : ¬ m = fld) : (rwF fld a).lookup m = none := by
  unfold rwF
  rw [lookup_putF, if_neg h]
  rfl
/-- an object whose one field holds the row ns -/
def Rw (K : PySem.W.Frag) (C : Addr) (fld : Str) (H : Hp) (v : V) (ns : List Int) : Prop :=
  ∃ p dx a, v = .ref p ∧ H p = some (.ins C dx (rwF fld a)) ∧ SqT K H a (ns.map V.int) ∧ GoodN ns
section
variable {K : PySem.W.Frag} {C : Addr} {fld : Str} {H H' : Hp} {v : V} {ns : List Int}
theorem Rw.mono (e : Xl H H') (h : Rw K C fld H v ns) : Rw K C fld H' v ns :=
  let ⟨p, dx, a, h1, h2, h3, h4⟩ := h
  ⟨p, dx, a, h1, e _ _ h2 rfl, tup_mono e h3, h4⟩
theorem Rw.ex (e : Ex H H') (h : Rw K C fld H v ns) : Rw K C fld H' v ns := h.mono (.of e)
theorem Rw.good (h : Rw K C fld H v ns) : GoodN ns := let ⟨_, _, _, _, _, _, g⟩ := h; g
theorem r_rwM {m : Str} {p : Prop} (h : Rw K C fld H v ns) (hm : ¬ m = fld) (q : p) : ∃ a dx fs, v = .ref a ∧ H a = some (.ins C dx fs) ∧ fs.lookup m = none ∧ p :=
  let ⟨x, dx, a, e, hp, _⟩ := h
  ⟨x, dx, _, e, hp, rwF_no a hm, q⟩
theorem r_rwG {p : Prop} (h : Rw K C fld H v ns) (q : p) : ∃ a dx fs, v = .ref a ∧ H a = some (.ins C dx fs) ∧ p :=
  let ⟨x, dx, _, e, hp, _⟩ := h
  ⟨x, dx, _, e, hp, q⟩
theorem r_rwP {p : Addr → Prop} (h : Rw K C fld H v ns) (q : ∀ a, v = .ref a → p a) : ∃ a dx fs, v = .ref a ∧ H a = some (.ins C dx fs) ∧ p a :=
  let ⟨x, dx, _, e, hp, _⟩ := h
  ⟨x, dx, _, e, hp, q x e⟩
/-- its field -/
theorem r_rwF {p : V → Prop} (h : Rw K C fld H v ns) (cl : Cls K C) (na : NoAttr K C fld) (q : ∀ a, SqT K H a (ns.map V.int) → p (.ref a)) : ∃ a C dx fs u, v = .ref a ∧ H a = some (.ins C dx fs) ∧ Cls K C ∧ NoAttr K C fld ∧ fs.lookup fld = some u ∧ p u :=
  let ⟨x, dx, a, e, hp, ha, _⟩ := h
  ⟨x, C, dx, _, _, e, hp, cl, na, rwF_at fld a, q a ha⟩
/-- an own operator of two -/
theorem r_own2 {fld' : Str} {w : V} {ms : List Int} {sp : Sp} {E : XK} {Q : VK} (h : Rw K C fld H v ns) (h' : Rw K C fld' H w ms) (q : sp [v, w] H Q E) : rOwn C sp E v w H Q := by
  obtain ⟨x, dx, a, rfl, hp, _⟩ := h
  obtain ⟨y, dy, b, rfl, hq, _⟩ := h'
  exact ⟨x, y, dx, dy, _, _, rfl, rfl, hp, hq, q⟩
theorem r_own2N {fld' : Str} {w : V} {ms : List Int} {sp : Sp} {E : XK} {Q : VK} (h : Rw K C fld H v ns) (h' : Rw K C fld' H w ms) (q : sp [v, w] H (fun x H' => ∃ r, x = .bl r ∧ Q (.bl (!r)) H') E) : rOwnNe C sp E v w H Q := by
  obtain ⟨x, dx, a, rfl, hp, _⟩ := h
  obtain ⟨y, dy, b, rfl, hq, _⟩ := h'
  exact ⟨x, y, dx, dy, _, _, rfl, rfl, hp, hq, q⟩
theorem r_ownI {i : Int} {sp : Sp} {E : XK} {Q : VK} (h : Rw K C fld H v ns) (q : sp [v, .int i] H Q E) : rOwnI C sp E v (.int i) H Q := by
  obtain ⟨x, dx, a, rfl, hp, _⟩ := h
  exact ⟨x, i, dx, _, rfl, rfl, hp, q⟩
theorem r_ownR {i : Int} {sp : Sp} {E : XK} {Q : VK} (h : Rw K C fld H v ns) (q : sp [v, .int i] H Q E) : rOwnR C sp E (.int i) v H Q := by
  obtain ⟨x, dx, a, rfl, hp, _⟩ := h
  exact ⟨i, x, dx, _, rfl, rfl, hp, q⟩
theorem r_lenO {sp : Sp} {E : XK} {Q : VK} (h : Rw K C fld H v ns) (q : sp [v] H (fun x H' => ∃ n : Int, x = .int n ∧ 0 ≤ n ∧ n < 2 ^ 63 ∧ Q (.int n) H') E) : rLenO C sp E [v] H Q := by
  obtain ⟨x, dx, a, rfl, hp, _⟩ := h
  exact ⟨x, dx, _, rfl, hp, q⟩
end
def MkRw (K : PySem.W.Frag) (C : Addr) (fld : Str) (H : Hp) (v : V) (Q : Addr → Hp → Prop) : Prop := ∃ a s, v = .ref a ∧ Sq K H a (s.map V.int) ∧ GoodN s ∧ ∀ u H', Ex H H' → Rw K C fld H' (.ref u) s → Q u H'
def spRwInit (K : PySem.W.Frag) (C : Addr) (fld : Str) : Sp := fun vs H Q _ => ∃ (H0 : Hp) (x dx a : Addr) (s : List Int), vs = [.ref x, .ref a] ∧ H = upd (upd H0 dx (.own x)) x (.ins C dx []) ∧ H0 x = none ∧ H0 dx = none ∧ dx ≠ x ∧ Sq K H0 a (s.map V.int) ∧ GoodN s ∧
  ∀ H', Ex H0 H' → Rw K C fld H' (.ref x) s → Q .non H'
theorem mkRw {K : PySem.W.Frag} {C : Addr} {fld : Str} {H : Hp} {v : V} {Q : Addr → Hp → Prop} {E : XK} (h : MkRw K C fld H v Q) : ∀ x dx, H x = none → H dx = none → dx ≠ x → spRwInit K C fld (.ref x :: ([v] ++ [])) (upd (upd H dx (.own x)) x (.ins C dx [])) (fun v H2 => v = .non ∧ Q x H2) E := by
  intro x dx nx ndx ne
  obtain ⟨a, s, rfl, hS, g, k⟩ := h
  exact ⟨H, x, dx, a, s, rfl, rfl, nx, ndx, ne, hS, g, fun H' e c => ⟨rfl, k _ _ e c⟩⟩
/-! ### a list of pairs of ints -/
def Prs (H : Hp) (p : Addr) (ns ms : List Int) : Prop := ∃ ts : List Addr, H p = some (.lst (ts.map V.ref)) ∧ ts.length = ns.length ∧ ∀ (j : Nat) t, ts[j]? = some t → H t = some (.tup [.int (ns.getD j 0), .int (ms.getD j 0)])
theorem Prs.ex {H H' : Hp} {p : Addr} {ns ms : List Int} (e : Ex H H') (h : Prs H p ns ms) : Prs H' p ns ms :=
  let ⟨ts, h1, h2, h3⟩ := h
  ⟨ts, e _ _ h1, h2, fun j t ht => e _ _ (h3 j t ht)⟩
theorem r_pairT {K : PySem.W.Frag} {σ : L2.St} {H : Hp} {T : Addr} {x y : V} {n m : Nat} {q : L2.St → Hp → Prop} (hT : H T = some (.tup [x, y])) (h : q ((σ.set n (some x)).set m (some y)) H) : gTup K 2 (gCons (gName n) (gCons (gName m) gNil)) (.ref T) σ H q :=
  ⟨T, [x, y], rfl, .inl (.inl hT), rfl, x, [y], rfl, y, [], rfl, rfl, h⟩
/-- a comprehension over such pairs -/
theorem lc_prs {K : PySem.W.Frag} {g : TG} {te : TE} {vs : List Nat} {σ : L2.St} {H1 : Hp} {Q : VK} {p : Addr} {ns ms : List Int} (hP : Prs H1 p ns ms) (f : Nat → V) (hn : ns.length ≤ 100000)
    (turn : ∀ i T H, i < ns.length → Ex H1 H → H T = some (.tup [.int (ns.getD i 0), .int (ms.getD i 0)]) → ∀ k : VK, (∀ H4, Ex H H4 → k (f i) H4) → g (.ref T) (wipe σ vs) H fun σ2 H2 => wipe σ2 vs = wipe σ vs ∧ te σ2 H2 k)
    (fin : ∀ D H, H1 D = none → Ex H1 H → H D = some (.lst ((List.range ns.length).map f)) → Q (.ref D) H) : ∃ a, V.ref p = .ref a ∧ (∃ xs, SqL K H1 a xs) ∧ LcTail (Itl K a) H1 g tYes te vs σ Q := by
  obtain ⟨ts, h1, h2, h3⟩ := hP
  refine ⟨p, rfl, ⟨_, .inl (.inl h1)⟩, lc_fun (walk_list (xs := ts.map V.ref)) f (fun H e => .inl (.inl (e _ _ h1))) (by rw [List.length_map]; omega) ?_ ?_⟩
  · rintro i x H H' hi e ⟨rfl, hx⟩ k hk
    rw [List.length_map] at hi
    rw [List.getElem?_map] at hx
    cases ht : ts[i]? with
    | none => rw [ht] at hx; cases hx
    | some T =>
      rw [ht] at hx
      obtain rfl := Option.some.inj hx
      exact turn i T _ (by omega) e (e _ _ (h3 i T ht)) k hk
  · intro D H nD e hD
    rw [List.length_map, h2] at hD
    exact fin D H nD e hD
/-! ### rows reckoned -/
def zipR (f : Int → Int → Int) (s t : List Int) : List Int := rowOf s.length fun i => f (cyc s i) (cyc t i)
def mapR (f : Int → Int) (s : List Int) : List Int := rowOf s.length fun i => f (cyc s i)
theorem zipR_length (f : Int → Int → Int) (s t : List Int) : (zipR f s t).length = s.length := rowOf_length _ _
theorem mapR_length (f : Int → Int) (s : List Int) : (mapR f s).length = s.length := rowOf_length _ _
theorem cyc_zipR {f : Int → Int → Int} {s t : List Int} (h : 1 ≤ s.length) (hl : t.length = s.length) (i : Int) : cyc (zipR f s t) i = f (cyc s i) (cyc t i) := by
  unfold zipR
  rw [cyc_rowOf _ h, cyc_mod]
  rw [← hl, cyc_mod]
theorem cyc_mapR {f : Int → Int} {s : List Int} (h : 1 ≤ s.length) (i : Int) : cyc (mapR f s) i = f (cyc s i) := by
  unfold mapR
  rw [cyc_rowOf _ h, cyc_mod]
theorem GoodN.zip {f : Int → Int → Int} {s t : List Int} (g : GoodN s) (gt : GoodN t) (hl : t.length = s.length) (h : ∀ a b, 0 ≤ a → 0 ≤ b → 0 ≤ f a b) : GoodN (zipR f s t) := by
  refine ⟨by rw [zipR_length]; exact g.ne, by rw [zipR_length]; exact g.le, fun i => ?_⟩
  rw [cyc_zipR g.ne hl]
  exact h _ _ (g.nn i) (gt.nn i)
theorem GoodN.map {f : Int → Int} {s : List Int} (g : GoodN s) (h : ∀ a, 0 ≤ a → 0 ≤ f a) : GoodN (mapR f s) := by
  refine ⟨by rw [mapR_length]; exact g.ne, by rw [mapR_length]; exact g.le, fun i => ?_⟩
  rw [cyc_mapR g.ne]
  exact h _ (g.nn i)
theorem GoodN.turn {s : List Int} (g : GoodN s) (b : Int) : GoodN (turnS s b) := by
  refine ⟨by rw [turnS_length]; exact g.ne, by rw [turnS_length]; exact g.le, fun i => ?_⟩
  rw [cyc_turn g.ne]
  exact g.nn _
theorem GoodN.rev {s : List Int} (g : GoodN s) : GoodN s.reverse := by
  refine ⟨by rw [List.length_reverse]; exact g.ne, by rw [List.length_reverse]; exact g.le, fun i => ?_⟩
  rw [cyc_rev g.ne]
  exact g.nn _
theorem row_lit {n : Nat} (f : Int → Int) : (rowOf n f).map V.int = (List.range n).map fun (i : Nat) => V.int (f (i : Int)) := by
  unfold rowOf
  rw [List.map_map]
  rfl
theorem getD_cyc {s : List Int} {i : Nat} (h : i < s.length) : s.getD i 0 = cyc s (i : Int) := (cyc_at h).symm
/-! ### rows by their items -/
section
variable {n : Nat} {a b : Int → Int}
theorem rowOf_inj : rowOf n a = rowOf n b ↔ ∀ j : Nat, j < n → a (j : Int) = b (j : Int) := by
  refine ⟨fun h j hj => ?_, fun h => rowOf_congr fun i h0 h1 => ?_⟩
  · rw [← rowOf_getD a hj, ← rowOf_getD b hj, h]
  · have := h i.toNat (by omega)
    rw [show ((i.toNat : Nat) : Int) = i by omega] at this
    exact this
theorem row_ne (g : GoodN (rowOf n a)) : 1 ≤ n := by
  have := g.ne
  rw [rowOf_length] at this
  exact this
theorem cyc_row {i : Int} (h0 : 0 ≤ i) (h1 : i < (n : Int)) : cyc (rowOf n a) i = a i := by
  rw [cyc_rowOf a (by omega), Int.emod_eq_of_lt h0 h1]
theorem zipR_row (f : Int → Int → Int) : zipR f (rowOf n a) (rowOf n b) = rowOf n fun i => f (a i) (b i) := by
  unfold zipR
  rw [rowOf_length]
  exact rowOf_congr fun i h0 h1 => by rw [cyc_row h0 h1, cyc_row h0 h1]
theorem mapR_row (f : Int → Int) : mapR f (rowOf n a) = rowOf n fun i => f (a i) := by
  unfold mapR
  rw [rowOf_length]
  exact rowOf_congr fun i h0 h1 => by rw [cyc_row h0 h1]
theorem turnS_row (h : 1 ≤ n) (c : Int) : turnS (rowOf n a) c = rowOf n fun i => a ((i + c) % (n : Int)) := by
  unfold turnS
  rw [rowOf_length]
  exact rowOf_congr fun i _ _ => by rw [cyc_rowOf a h]
theorem rev_row : (rowOf n a).reverse = rowOf n fun i => a ((n : Int) - 1 - i) := by
  refine row_ext _ (by rw [List.length_reverse, rowOf_length]) fun j hj => ?_
  rw [List.getD_eq_getElem?_getD, List.getElem?_reverse (by rw [rowOf_length]; exact hj), ← List.getD_eq_getElem?_getD, rowOf_length, rowOf_getD a (by omega)]
  congr 1
  omega
def wthn (n : Nat) (a b : Int → Int) : Bool := (List.range n).all fun (j : Nat) => decide (a (j : Int) ≤ b (j : Int))
theorem wthn_iff : wthn n a b = true ↔ ∀ j : Nat, j < n → a (j : Int) ≤ b (j : Int) := by
  unfold wthn
  simp only [List.all_eq_true, List.mem_range, decide_eq_true_eq]
theorem all_row : ((List.range (rowOf n a).length).all fun i => decide ((rowOf n a).getD i 0 ≤ (rowOf n b).getD i 0)) = wthn n a b := by
  rw [rowOf_length]
  unfold wthn
  rw [Bool.eq_iff_iff, List.all_eq_true, List.all_eq_true]
  refine ⟨fun h j hj => ?_, fun h j hj => ?_⟩
  · have := h j hj
    rw [rowOf_getD a (List.mem_range.mp hj), rowOf_getD b (List.mem_range.mp hj)] at this
    exact this
  · rw [rowOf_getD a (List.mem_range.mp hj), rowOf_getD b (List.mem_range.mp hj)]
    exact h j hj
/-- by | and by & -/
theorem wthn_or : decide (rowOf n (fun i => if b i > a i then b i else a i) = rowOf n b) = wthn n a b := by
  rw [Bool.eq_iff_iff, decide_eq_true_eq, rowOf_inj, wthn_iff]
  refine ⟨fun h j hj => ?_, fun h j hj => ?_⟩
  · have := h j hj
    split at this <;> omega
  · have := h j hj
    split <;> omega
theorem wthn_and : decide (rowOf n (fun i => if b i < a i then b i else a i) = rowOf n b) = wthn n b a := by
  rw [Bool.eq_iff_iff, decide_eq_true_eq, rowOf_inj, wthn_iff]
  refine ⟨fun h j hj => ?_, fun h j hj => ?_⟩
  · have := h j hj
    split at this <;> omega
  · have := h j hj
    split <;> omega
end
theorem r_same {p : Prop} {A B : Prop} [Decidable p] (h : p) (q : B) : if (!decide p) = true then A else B := by
  rw [decide_eq_true h]
  exact iteF q
theorem r_sameB {x y : Bool} {A B : Prop} (h : x = y) (q : B) : if (!decide (x = y)) = true then A else B := r_same h q
theorem r_yesB {x : Bool} {A B : Prop} (h : x = true) (q : A) : if x = true then A else B := by
  rw [h]
  exact iteT q
theorem r_notB {x : Bool} {A B : Prop} (h : x = true) (q : B) : if (!x) = true then A else B := by
  rw [h]
  exact iteF q
theorem r_fin {Q : VK} {H : Hp} {b : Bool} (h : b = true) (q : Q (.bl true) H) : Q (.bl b) H := by
  rw [h]
  exact q
/-! ### rows cut and bumped; products -/
/-- the begins times the dues -/
def dot (n : Nat) (a b : Int → Int) : Int := Sg n fun i => a i * b i
theorem cut_take {xs : List V} {h : Int} (h0 : 0 ≤ h) (h1 : h ≤ (xs.length : Int)) : cutV xs none (some h) = xs.take h.toNat := by
  obtain ⟨k, rfl⟩ : ∃ k : Nat, h = (k : Int) := ⟨h.toNat, by omega⟩
  unfold cutV
  rw [HT.sIx_none, show HT.sIx xs.length xs.length (some (k : Int)) = min k xs.length from HT.sIx_nat xs.length xs.length k]
  rw [List.drop_zero, Nat.sub_zero, Int.toNat_natCast, Nat.min_eq_left (by omega)]
theorem cut_drop {xs : List V} {h : Int} (h0 : 0 ≤ h) (h1 : h ≤ (xs.length : Int)) : cutV xs (some h) none = xs.drop h.toNat := by
  obtain ⟨k, rfl⟩ : ∃ k : Nat, h = (k : Int) := ⟨h.toNat, by omega⟩
  unfold cutV
  rw [HT.sIx_none, show HT.sIx xs.length 0 (some (k : Int)) = min k xs.length from HT.sIx_nat xs.length 0 k]
  rw [Int.toNat_natCast, Nat.min_eq_left (by omega)]
  exact List.take_of_length_le (by rw [List.length_drop]; omega)
theorem set_row {n : Nat} {a : Int → Int} {h : Nat} (hh : h < n) (z : Int) : ((rowOf n a).take h ++ [z]) ++ (rowOf n a).drop (h + 1) = rowOf n fun i => if i = (h : Int) then z else a i := by
  have hl := rowOf_length n a
  refine row_ext _ (by simp only [List.length_append, List.length_take, List.length_drop, List.length_singleton, hl]; omega) fun j hj => ?_
  have hg : ∀ i, i < n → (rowOf n a)[i]? = some (a (i : Int)) := fun i hi => by
    have := rowOf_getD a hi
    rw [List.getD_eq_getElem?_getD, List.getElem?_eq_getElem (by omega)] at this
    rw [List.getElem?_eq_getElem (by omega)]
    exact congrArg some this
  rw [List.getD_eq_getElem?_getD]
  have tl : ((rowOf n a).take h).length = h := by rw [List.length_take]; omega
  rcases Nat.lt_trichotomy j h with q | q | q
  · rw [List.append_assoc, List.getElem?_append_left (by omega), List.getElem?_take_of_lt q, hg j hj]
    show a j = _
    rw [if_neg (by omega)]
  · subst q
    rw [List.append_assoc, List.getElem?_append_right (by omega), tl, Nat.sub_self, if_pos rfl]
    rfl
  · rw [List.getElem?_append_right (by rw [List.length_append, tl, List.length_singleton]; omega), List.length_append, tl, List.length_singleton, List.getElem?_drop, show h + 1 + (j - (h + 1)) = j by omega, hg j hj, if_neg (by omega)]
    rfl
theorem Sg_one {n : Nat} {h : Nat} (hh : h < n) (f : Int → Int) : Sg n (fun i => if i = (h : Int) then f i else 0) = f (h : Int) := by
  induction n with
  | zero => omega
  | succ n ih =>
    show Sg n _ + (if (n : Int) = (h : Int) then f n else 0) = _
    by_cases q : h = n
    · subst q
      rw [if_pos rfl]
      have e : Sg h (fun i => if i = (h : Int) then f i else 0) = Sg h (fun _ => 0) := Sg_congr fun i _ h1 => if_neg (by omega)
      rw [e, Sg_zero]
      omega
    · rw [if_neg (by omega), ih (by omega)]
      omega
end Hn

/-! Defs whose promise needs to know more of the place of the call; list(x) and tuple(x) of own classes that hand out a tuple's iterator. -/
namespace Hn
open PySem PySem.Spec PyProof.Rows L2 Evl
/-- the def at f keeps its promise wherever Pre stands -/
def OkP (Pre : Around → Shared → Prop) (P : Program) (w : World) (K : PySem.W.Frag) (mg : Str → Option Value) (base : Heap) (k : Nat) (f : Addr) (ps : List Str) (sp : Sp) : Prop :=
  ∃ fd, Binds K fd ps [] ∧ (∀ vs H Q E, sp vs H Q E → vs.length = ps.length) ∧ ∀ (A : Around) (out : List Env) (s : Shared) (H : Hp) (ag : Args) (us : List Value) (vs : List V) (Q : VK) (E : XK), Pre A s → Room k A → Env0 P w K mg base A out s H → BindsTo s fd ag (ps.zip us) → Vals vs us → sp vs H Q E →
    codeAny (model P w) A (.call (.ref f) ag) (CR CX0 out P w H s Q E) s
section
variable {P : Program} {w : World} {K : PySem.W.Frag} {mg : Str → Option Value} {base : Heap} {Pre : Around → Shared → Prop}
theorem okP_of {x qual : Str} {st : Stmt} {f : Addr} {N ps : List Str} {k : Nat} {sp : Sp} (D : Df K x qual st f ps) (S : FnScope N ps (defScope st)) (len : ∀ vs H Q E, sp vs H Q E → vs.length = ps.length)
    (hbody : ∀ (cdv : Value) (A : Around) (out : List Env) (s : Shared) (H : Hp) (vs : List V) (Q : VK) (E : XK), Pre A s → Room k (A.deeper (envOfC qual (defScope st) s.heap.objs.size f cdv)) → sp vs H Q E →
      ∃ t, PSs (cxOf CX0 P w K mg base N qual (defScope st) f cdv A out s H E).nox (defBody st) t ∧ t { nx := fun _ H' => Q .non H', rt := Q } (start N vs) H) : OkP Pre P w K mg base (k + 1) f ps sp := by
  obtain ⟨fd, F, bd⟩ := D
  refine ⟨fd, bd, len, ?_⟩
  obtain ⟨oc, od, kV, doc, pm, an, cdv, ct, osl, rfl, lk, hcd⟩ := F.ex
  intro A out s H ag us vs Q E pre room env bnd rel hsp
  have ll := len _ _ _ _ hsp
  have inK : K.In s.heap := env.mod.kin.keeps fun b o e => (env.bs b o e).1
  have nol : s.heap.NoLimit := env.mod.nolimit.keeps fun b o e => (env.bs b o e).1
  have kinds : ∀ y ∈ ps.zip us, (defScope st).names.lookup y.1 = some .local ∨ ((defScope st).names.lookup y.1 = some .cell ∧ ((cellsFrom (s.heap.objs.size + 1) (defScope st).names []).lookup y.1).isSome = true) := fun y hy => by
    rcases S.par y.1 (List.of_mem_zip (a := y.1) (b := y.2) hy).1 with z | z
    · exact Or.inl z
    · exact Or.inr ⟨z, PySem.W.cellsFrom_some _ _ _ (Or.inl z)⟩
  refine codeAny_call_function room.depth (inK _ _ lk) rfl S.co S.gen rfl (PySem.W.codeRec_of inK hcd) (bnd _ _ _ _ ?_)
  refine wpAny_newFunctionEnv_cells S.kind kinds fun env1 he s1 x1 => ?_
  subst he
  refine ⟨nol.keeps x1.toInCall.keep, codeAny_func ?_⟩
  obtain ⟨t, tt, qq⟩ := hbody cdv A out s H vs Q E pre (room.deeper _) hsp
  have J : Inv (cxOf CX0 P w K mg base N qual (defScope st) f cdv A out s H E) [] (start N vs) H s1 := inv_start S room.hd env ll rel x1
  refine wpAny_mono (tt.nox.run [] s1 (start N vs) H _ J qq) (fun fl s' hs => ?_) fun e s' hs => hs
  have done : ∀ {σ' : L2.St} {H' : Hp} {v : V} {u : Value}, Inv (cxOf CX0 P w K mg base N qual (defScope st) f cdv A out s H E) [] σ' H' s' → RelV v u → Q v H' → CE out P w H s Q u s' :=
    fun {σ' H' v u} J rv q => ⟨v, H', J.os, J.bare, J.base, J.hok, rv, q⟩
  cases fl with
  | ret u =>
    obtain ⟨v, σ', H', J', rv, q⟩ := hs
    exact done J' rv q
  | next =>
    obtain ⟨σ', H', J', q⟩ := hs
    exact done (v := V.non) (u := Value.none) J' rfl q
  | brk =>
    obtain ⟨_, _, _, z⟩ := hs
    exact z.elim
  | cont =>
    obtain ⟨_, _, _, z⟩ := hs
    exact z.elim
end
/-- a tuple's iterator that has given nothing yet -/
def ItT (l it : Addr) : HO := .ext fun h => h.get? it = some { cls := .type "tuple_iterator", data := .fields #[.ref l, .int 0 0] }
theorem itT_ok {P : Program} {w : World} {H : Hp} {h : Heap} {l it : Addr} (e : h.get? it = some { cls := .type "tuple_iterator", data := .fields #[.ref l, .int 0 0] }) : ObjOk P w H h it (ItT l it) := ⟨e, ⟨_, e⟩, fun _ _ q k => k _ q⟩
theorem call_iterT0 {prog : Program} {w : World} {A : Around} {E : Value → Shared → Prop} {s : Shared} {l : Addr} {items : Array Value} {Q : Value → Shared → Prop} (hl : s.heap.IsTuple l items)
    (h : Q (.ref s.heap.objs.size) { s with heap := s.heap.push { cls := .type "tuple_iterator", data := .fields #[.ref l, .int 0 0] } }) : wpAny (model prog w) A (call (.builtin "iter") [.ref l]) Q E s := by
  refine Calls.call_function_entry (by decide +kernel) (by decide +kernel) PySem.W.kdk_entry_iter (PySem.W.kdk_args_iter _) ?_
  unfold Builtin.«iter»
  refine wpAny_bind (m := someArgs "iter" 1 2 _) (wpAny_of_eq (a := [Value.ref l]) (by first | rfl | kernel_rfl!) ?_)
  exact wpAny_bind (wpAny_pyIter_tuple hl (wpAny_pure ⟨_, rfl, h⟩))
def rIterT (K : PySem.W.Frag) (n : Nat) : List V → Hp → VK → Prop := fun xs H Q => ∃ (l : Addr) (zs : List V), xs = [.ref l] ∧ SqT K H l zs ∧ ∀ it, H it = none → n ≤ it → Q (.ref it) (upd H it (ItT l it))
section
variable {X : Cx} {K : PySem.W.Frag} {n k : Nat}
theorem k_iterT (hK : X.K = K) (hn : n ≤ X.s_0.heap.objs.size) : CallR X (.builtin "iter") (rIterT K n) := by
  subst hK
  intro pins s σ H xs us Q I r h
  obtain ⟨l, zs, rfl, hq, q⟩ := h
  rw [Vals.ref1 r]
  obtain ⟨its, rv, pl, hz⟩ := I.tuple hq
  refine call_iterT0 (show s.heap.IsTuple l its.toArray from pl) ?_
  exact ⟨.ref s.heap.objs.size, _, I.laid (t' := s.toks) (fun b u e => Heap.get?_push_of_some _ e) (Nat.le_refl _) (itT_ok (Heap.get?_push_size _ rfl)), rfl, q _ (I.hok.fresh (Nat.le_refl _)) (Nat.le_trans hn I.sz)⟩
/-- the tuple's iterator fills the list at q -/
theorem tl_loop {pins : List (Addr × Obj)} {σ : L2.St} {H : Hp} {A : Around} {R : Result → Shared → Prop} {q it l : Addr} {xs : List V} (hc : A.handled = none) (hl : SqT X.K H l xs) (hq : H q = none) (hz : xs.length < sizeLine)
    (hR : ∀ s, Inv X pins σ (upd H q (.lst xs)) s → R (.ok (.ret .none)) s) :
    ∀ (k i : Nat) (s : Shared), xs.length - i = k → i ≤ xs.length → Inv X pins σ (upd H q (.lst (xs.take i))) s → FpOk X pins (upd H q (.lst (xs.take i))) it → s.heap.IsTupleIter it l i →
      codeAny (model X.prog X.w) A (.builtin "list.extend.loop" ⟨[.ref q, .ref it, .none], []⟩) R s := by
  have hl' : ∀ ys, SqT X.K (upd H q (.lst ys)) l xs := fun ys => ex_t (Ex.new hq) hl
  intro k
  induction k with
  | zero =>
    intro i s hk hi I fp st
    obtain rfl : i = xs.length := by omega
    rw [List.take_length] at I fp
    obtain ⟨its, rv, p, _⟩ := I.tuple (hl' xs)
    obtain ⟨f0, f1, f2, f3, f4, f5⟩ := id fp
    have ln := rv.length
    refine codeAny_builtin PySem.F.entry_extend_loop ?_
    rw [Around.under_plainId PySem.F.plain_extend_loop _]
    show wpAny _ A.in1 (pyNext (.ref it) >>= _) _ _ _
    refine wpAny_bind (wpAny_pyNext_tuple_end (A := A.in1) hc st (show s.heap.IsTuple l its.toArray from p) (by simp; omega) fun h' eb => ?_)
    exact wpAny_pure (hR _ (I.turned (t' := s.toks) (fun b o hb e => eb b o hb e) f0 f1 f3 f4 f5))
  | succ k ih =>
    intro i s hk hi I fp st
    have hlt : i < xs.length := by omega
    obtain ⟨its, rv, p, _⟩ := I.tuple (hl' (xs.take i))
    have hx : xs[i]? = some xs[i] := List.getElem?_eq_getElem hlt
    obtain ⟨u, hu, ru⟩ := rv.get hx
    obtain ⟨f0, f1, f2, f3, f4, f5⟩ := id fp
    refine codeAny_builtin PySem.F.entry_extend_loop ?_
    rw [Around.under_plainId PySem.F.plain_extend_loop _]
    show wpAny _ A.in1 (pyNext (.ref it) >>= _) _ _ _
    refine wpAny_bind (wpAny_pyNext_tuple_item st (show s.heap.IsTuple l its.toArray from p) (x := u) (by simpa using hu) fun h' st' sb => ?_)
    have I1 : Inv X pins σ (upd H q (.lst (xs.take i))) { s with heap := h' } := I.turned (t' := s.toks) (fun b o hb e => (sb.2 b hb).trans e) f0 f1 f3 f4 f5
    show wpAny _ A.in1 (updateSeq q (·.push u) >>= _) _ _ _
    obtain ⟨z, its2, n2, r2, l2, e2⟩ := I1.lstM upd_same
    have tl : (xs.take i).length = i := by rw [List.length_take]; omega
    have nq : it ≠ q := fun z => by rw [z, upd_same] at f0; cases f0
    have I2 := I1.lset (f := (·.push u)) (its' := its2 ++ [u]) (ys := xs.take i ++ [xs[i]]) (t' := s.toks) upd_same e2 (by simp) (r2.append (.cons ru .nil)) (by rw [List.length_append, List.length_singleton]; omega)
    rw [upd_upd] at I2
    have tk : xs.take i ++ [xs[i]] = xs.take (i + 1) := by rw [List.take_succ, hx]; rfl
    rw [tk] at I2
    refine wpAny_bind (wpAny_updateSeq e2 rfl (wpAny_pure ⟨plainId_quiet PySem.F.plain_extend_loop _, ih (i + 1) _ (by omega) hlt I2 ⟨by rw [upd_ne nq]; rw [upd_ne nq] at f0; exact f0, f1, f2, f3, f4, f5⟩ ?_⟩) (by rw [List.size_toArray]; omega) (by show (its2.toArray.push u).size ≤ sizeLine + 1; rw [Array.size_push, List.size_toArray]; omega))
    exact st'.at fun o e => (Heap.get?_update_other _ _ (Ne.symm nq)).trans e
end
/-! ### list(x) -/
/-- what list(x) asks: __iter__ hands out an iterator of a tuple of xs, __len__ some int, the heap stays -/
def rListO (K : PySem.W.Frag) (C : Addr) (spI : Nat → Sp) (spL : Sp) : List V → Hp → VK → Prop := fun vs H Q => ∃ a dx fs xs, vs = [.ref a] ∧ H a = some (.ins C dx fs) ∧ xs.length ≤ 1000 ∧
  (∀ n H' Q', Ex H H' → (∀ l it, SqT K H' l xs → H' it = none → n ≤ it → Q' (.ref it) (upd H' it (ItT l it))) → spI n [.ref a] H' Q' E0) ∧
  (∀ H' Q', Ex H H' → (∀ m : Int, 0 ≤ m → m ≤ 1000 → Q' (.int m) H') → spL [.ref a] H' Q' E0) ∧ ∀ q, H q = none → Q (.ref q) (upd H q (.lst xs))
/-- what a class needs for list(x) -/
structure ItK (K : PySem.W.Frag) (C fi fl : Addr) : Prop where
  it : PySem.W.findIn K (.ref C) "__iter__" = some (some (.ref fi))
  itF : PySem.W.isFn K (.ref fi) = true
  ln : PySem.W.findIn K (.ref C) "__len__" = some (some (.ref fl))
  lnF : PySem.W.isFn K (.ref fl) = true
section
variable {X : Cx} {k : Nat} {C fi fl : Addr} {psI psL : List Str} {spI : Nat → Sp} {spL : Sp}
/-- an own def run at a deeper place, Pre known -/
theorem run_pre {EE : Value → Shared → Prop} {Pre : Around → Shared → Prop} {pins : List (Addr × Obj)} {σ : L2.St} {H : Hp} {s : Shared} {Q : VK} {f : Addr} {ps : List Str} {sp : Sp} {A1 : Around} {us : List Value} {vs : List V} (G : OkP Pre X.prog X.w X.K X.mg X.base k f ps sp) (sb : Sub X k A1) (pre : Pre A1 s)
    (I : Inv X pins σ H s) (r : Vals vs us) (h : sp vs H Q E0) : wpAny (model X.prog X.w) A1 (call (.ref f) us) (EP X pins σ Q) EE s := by
  obtain ⟨fd, hb, hlen, run⟩ := G
  have e0 : Env0 X.prog X.w X.K X.mg X.base A1 X.stack s H := by
    have e := I.env0
    exact ⟨by rw [sb.fr]; exact e.frames, e.mod, e.bs, e.bsz, e.funs, e.frf, e.hok, e.bare⟩
  have hl : (us ++ []).length = ps.length := by
    rw [List.append_nil, ← r.length]
    exact hlen _ _ _ _ h
  have hb' := hb s us I.kIn hl
  rw [List.append_nil] at hb'
  refine wpAny_call (codeAny_mono (run A1 X.stack s H ⟨us, []⟩ us vs Q E0 pre sb.room e0 hb' r h) fun rr s' hq => ?_)
  cases rr with
  | error e => exact False.elim hq
  | ok fl =>
    cases fl with
    | ret u => exact I.after hq
    | next => exact False.elim hq
    | brk => exact False.elim hq
    | cont => exact False.elim hq
/-- the same for a def without a Pre; nothing is let out -/
theorem run_sub {EE : Value → Shared → Prop} {pins : List (Addr × Obj)} {σ : L2.St} {H : Hp} {s : Shared} {Q : VK} {f : Addr} {ps : List Str} {sp : Sp} {A1 : Around} {us : List Value} {vs : List V} (G : Okf X.prog X.w X.K X.mg X.base k f ps sp) (sb : Sub X k A1)
    (I : Inv X pins σ H s) (r : Vals vs us) (h : sp vs H Q E0) : wpAny (model X.prog X.w) A1 (call (.ref f) us) (EP X pins σ Q) EE s := by
  obtain ⟨fd, F, hb⟩ := G
  have e0 : Env0 X.prog X.w X.K X.mg X.base A1 X.stack s H := by
    have e := I.env0
    exact ⟨by rw [sb.fr]; exact e.frames, e.mod, e.bs, e.bsz, e.funs, e.frf, e.hok, e.bare⟩
  have hl : (us ++ []).length = ps.length := by
    rw [List.append_nil, ← r.length]
    exact F.len _ _ _ _ h
  have hb' := hb s us I.kIn hl
  rw [List.append_nil] at hb'
  refine wpAny_call (codeAny_mono (F.run A1 X.stack s H ⟨us, []⟩ us vs Q E0 sb.room e0 hb' r h) fun rr s' hq => ?_)
  cases rr with
  | error e =>
    obtain ⟨_, _, _, _, _, _, _, _, _, _, _, _, z⟩ := hq
    exact z.elim
  | ok fl =>
    cases fl with
    | ret u => exact I.after hq
    | next => exact False.elim hq
    | brk => exact False.elim hq
    | cont => exact False.elim hq
theorem own_lenHint {EE : Value → Shared → Prop} {pins : List (Addr × Obj)} {σ : L2.St} {H : Hp} {s : Shared} {A1 : Around} {a dx : Addr} {fs : List (Str × V)} {R : Bool → Shared → Prop} (c : ItK X.K C fi fl) (GL : Okf X.prog X.w X.K X.mg X.base k fl psL spL) (sb : Sub X k A1.in1) (I : Inv X pins σ H s) (ha : H a = some (.ins C dx fs))
    (hL : ∀ Q', (∀ m : Int, 0 ≤ m → m ≤ 1000 → Q' (.int m) H) → spL [.ref a] H Q' E0) (h : ∀ b s', Inv X pins σ H s' → R b s') : wpAny (model X.prog X.w) A1 (Builtin.List.listLengthHint (.ref a)) R EE s := by
  obtain ⟨mA, J, _⟩ := ins_get I.hok ha
  obtain ⟨od, J, _⟩ := J.look
  obtain ⟨m, hF⟩ := I.fr
  unfold Builtin.List.listLengthHint
  refine wpAny_bind (wpAny_bind (J.type.here ((PySem.W.looks_findIn I.kIn c.ln).here ?_)))
  refine PySem.W.KFB.if_not rfl ?_
  rw [if_pos (show (some (Value.ref fl)).isSome = true from rfl)]
  refine wpAny_bind (wpAny_rule ?_)
  refine wpAny_bind (wpAny_attempt (PySem.W.len_K hF I.ok.mod.kin J c.ln c.lnF (wpAny_mono (run_sub (us := [.ref a]) (vs := [.ref a]) (Q := fun v H' => (∃ m : Int, v = .int m ∧ 0 ≤ m ∧ m ≤ 1000) ∧ H' = H) GL sb I (.cons rfl .nil) (hL _ fun m h0 h1 => ⟨⟨m, rfl, h0, h1⟩, rfl⟩)) (fun v s' hv => ?_) fun e s' he => he)))
  obtain ⟨z, H', I', rz, ⟨n, rfl, h0, h1⟩, rfl⟩ := hv
  obtain ⟨t, rfl⟩ := rz
  refine ⟨⟨h0, by omega⟩, ?_⟩
  refine wpAny_bind (m := asInt? (.int n s'.toks)) (wpAny_pure ?_)
  refine PySem.W.KFB.if_not (notLongL (by have : (1000 : Nat) ≤ sizeLine := (by decide); omega)) ?_
  exact wpAny_pure (h _ _ (I'.tok _))
theorem k_listO {K : PySem.W.Frag} (hK : X.K = K) (hc : X.calm = true) (c : ItK X.K C fi fl) (GI : ∀ n, OkP (fun _ s => n ≤ s.heap.objs.size) X.prog X.w X.K X.mg X.base k fi psI (spI n)) (GL : Okf X.prog X.w X.K X.mg X.base k fl psL spL) (hr : Room (k + 3) X.A) :
    CallR X (.type "list") (rListO K C spI spL) := by
  subst hK
  intro pins s σ H xs us Q I rv h
  obtain ⟨a, dx, fs, zs, rfl, ha, hz, hI, hL, q⟩ := h
  obtain ⟨u, rfl, ru⟩ := rv.one
  cases ru
  have sb3 : Sub X (k + 1) X.A.in1.in1 := (Sub.in1 (Sub.in1 (⟨hr, rfl⟩ : Sub X (k + 3) X.A)))
  have sb2 : Sub X k X.A.in1.in1 := sb3.mono (Nat.le_succ _)
  have line : (1000 : Nat) < sizeLine := by decide
  refine callType_codes (Q₁ := fun obj s₁ => obj = .ref s.heap.objs.size ∧ s₁ = { s with heap := s.heap.push { cls := .type "list", data := .seq #[] } }) PySem.F.called_list (PySem.F.typeCall_list_1 _) PySem.F.entry_list_init
    (code_list_new _ ⟨rfl, rfl⟩) fun obj s₁ h₁ => ?_
  obtain ⟨rfl, rfl⟩ := h₁
  have hS : (s.heap.push { cls := .type "list", data := .seq #[] }).get? s.heap.objs.size = some { cls := .type "list", data := .seq #[] } := Heap.get?_push_size _ rfl
  refine ⟨⟨_, hS, rfl⟩, PySem.F.args_list_init_2 _ _, ?_⟩
  have fr : H s.heap.objs.size = none := I.hok.fresh (Nat.le_refl _)
  have I1 : Inv X pins σ (upd H s.heap.objs.size (.lst [])) { s with heap := s.heap.push { cls := .type "list", data := .seq #[] } } := I.lnew (its := []) (t' := s.toks) .nil (Nat.zero_le _)
  show wpAny _ _ (do let old ← Builtin.List.listItems (.ref s.heap.objs.size); Builtin.List.listUpdate (.ref s.heap.objs.size) (fun _ => #[]); letGo old.toList.reverse; Builtin.List.listExtendWith (.ref s.heap.objs.size) (.ref a) .none) _ _ _
  refine wpAny_bind ?_
  unfold Builtin.List.listItems
  refine wpAny_bind (wpAny_seqItems hS rfl (wpAny_pure ?_))
  show wpAny _ _ (updateSeq s.heap.objs.size (fun _ => #[]) >>= fun _ => letGo (#[] : Array Value).toList.reverse >>= fun _ => Builtin.List.listExtendWith (.ref s.heap.objs.size) (.ref a) .none) _ _ _
  refine wpAny_bind (wpAny_updateSeq hS rfl ?_)
  have I2 := I1.lset (f := fun _ => #[]) (its := []) (its' := []) (ys := []) (t' := s.toks) upd_same hS rfl .nil (Nat.zero_le _)
  rw [upd_upd] at I2
  refine wpAny_bind (wpAny_letGo ?_)
  have eq0 : Ex H (upd H s.heap.objs.size (.lst [])) := Ex.new fr
  have hs2 : s.heap.objs.size ≤ ((s.heap.push { cls := .type "list", data := .seq #[] }).update s.heap.objs.size (Obj.mapSeq (fun _ => (#[] : Array Value)))).objs.size := by
    have e := Heap.get?_update_self (Obj.mapSeq (fun _ => (#[] : Array Value))) hS rfl
    exact Nat.le_of_lt (Heap.lt_size e)
  have ha2 : upd H s.heap.objs.size (.lst []) a = some (.ins C dx fs) := eq0 _ _ ha
  generalize hQ0 : s.heap.objs.size = p at *
  have hne : p ≠ a := ne_of (upd_same (H := H) (a := p) (o := .lst [])) ha2 (fun z => nomatch z)
  obtain ⟨mA, J, _⟩ := ins_get I2.hok ha2
  obtain ⟨od, J, _⟩ := J.look
  obtain ⟨m0, hF⟩ := I2.fr
  unfold Builtin.List.listExtendWith
  refine wpAny_bind (J.type.here ?_)
  have h1 : Builtin.List.listSameRef (.ref p) (.ref a) = false := by simp [Builtin.List.listSameRef, hne]
  have h2 : (Value.ref C == Value.type "list") = false := rfl
  have h3 : (Value.ref C == Value.type "tuple") = false := rfl
  simp only [h1, h2, h3, Bool.or_false, Bool.false_eq_true, if_false]
  refine wpAny_bind (PySem.W.owit_iter hF I2.ok.mod.kin J c.it c.itF ?_)
  refine wpAny_mono (run_pre (us := [.ref a]) (vs := [.ref a]) (Q := fun v H' => ∃ l it, v = .ref it ∧ SqT X.K (upd H p (.lst [])) l zs ∧ upd H p (.lst []) it = none ∧ X.s_0.heap.objs.size ≤ it ∧ H' = upd (upd H p (.lst [])) it (ItT l it)) (GI X.s_0.heap.objs.size) sb2 (I2.sz) I2 (.cons rfl .nil) (hI _ _ _ eq0 fun l it a1 a2 a3 => ⟨l, it, rfl, a1, a2, a3, rfl⟩)) (fun v s3 hv => ?_) fun e s' he => he
  obtain ⟨v', H3, I3, rv3, l, it, rfl, hl, hit, hn, rfl⟩ := hv
  cases rv3
  obtain ⟨hobj, _⟩ := (show ObjOk X.prog X.w _ s3.heap it (ItT l it) from I3.hok it _ upd_same)
  have hobj' : s3.heap.get? it = some { cls := .type "tuple_iterator", data := .fields #[.ref l, .int 0 0] } := hobj
  show wpAny _ _ (specialOf (.ref it) "__next__") _ _ _
  refine wpAny_specialOf (T := "tuple_iterator") ⟨_, hobj', rfl⟩ PySem.F.slot_tuple_iterator_next.lookup ?_
  have e3 : Ex H (upd (upd H p (.lst [])) it (ItT l it)) := eq0.trans (Ex.new hit)
  refine wpAny_bind (wpAny_holding (own_lenHint c GL (Sub.in1 sb3) I3 (e3 _ _ ha) (fun Q' hq' => hL _ _ e3 hq') fun b s4 I4 => ?_))
  have fp4 := ItX.inv_fp I4 upd_same hn
  have I5 := ItX.inv_drop I4 (a := it) (φ := fun h => h.get? it = some { cls := .type "tuple_iterator", data := .fields #[.ref l, .int 0 0] }) upd_same
  rw [ItX.dropH_upd hit] at I5 fp4
  obtain ⟨hobj4, _⟩ := (show ObjOk X.prog X.w _ s4.heap it (ItT l it) from I4.hok it _ upd_same)
  have st4 : s4.heap.IsTupleIter it l 0 := ⟨_, hobj4, rfl, rfl⟩
  have lq : p ≠ it := fun z => by rw [← z, upd_same] at hit; cases hit
  have fin : ∀ s5, Inv X pins σ (upd H p (.lst [])) s5 → s5.heap.IsTupleIter it l 0 → codeAny (model X.prog X.w) X.A.in1 (.builtin "list.extend.loop" ⟨[.ref p, .ref it, .none], []⟩) (wants (fun r s₂ => r = .none ∧ EP X pins σ Q (.ref p) s₂) X.xe) s5 := fun s5 J5 t5 => by
    have hl0 : SqT X.K H l zs := by
      rcases hl with (z | ⟨o, z⟩) | z
      · exact .inl (.inl (by rw [upd_ne (ne_of z upd_same (fun z => nomatch z))] at z; exact z))
      · exact .inl (.inr ⟨o, by rw [upd_ne (ne_of z upd_same (fun z => nomatch z))] at z; exact z⟩)
      · exact .inr z
    exact tl_loop (A := X.A.in1) (I.ok.hd hc) hl0 fr (by omega) (fun s6 J6 => ⟨rfl, .ref p, _, J6, rfl, q p fr⟩) zs.length 0 s5 rfl (Nat.zero_le _) J5 fp4 t5
  obtain ⟨z6, its6, k6, r6, hl6, e6⟩ := I5.lstM upd_same
  cases r6
  refine wpAny_ite_split (fun _ => ?_) (fun _ => wpAny_pure ⟨plainId_quiet PySem.F.plain_extend_loop _, fin s4 I5 st4⟩)
  refine wpAny_bind (wpAny_rule ?_)
  refine wpAny_bind ?_
  show wpAny _ _ (updateSeq p (·.push .none) >>= fun _ => updateSeq p (·.pop)) _ _ _
  refine wpAny_bind (wpAny_updateSeq e6 rfl ?_)
  have I7 := I5.lset (f := (·.push Value.none)) (its' := [Value.none]) (ys := [.non]) (t' := s4.toks) upd_same e6 (by simp) (.cons rfl .nil) (by rw [List.length_singleton, sizeLine_eq]; decide)
  obtain ⟨z8, its8, k8, r8, hl8, e8⟩ := I7.lstM upd_same
  obtain ⟨u8, rfl, ru8⟩ := r8.one
  refine wpAny_updateSeq e8 rfl ?_ (by show 1 ≤ sizeLine; rw [sizeLine_eq]; decide) (by show 0 ≤ sizeLine + 1; exact Nat.zero_le _)
  have I9 := I7.lset (f := (·.pop)) (its := [u8]) (its' := []) (ys := []) (t' := s4.toks) upd_same e8 (by rfl) .nil (Nat.zero_le _)
  rw [upd_upd, upd_upd] at I9
  refine wpAny_pure ⟨plainId_quiet PySem.F.plain_extend_loop _, fin _ I9 ?_⟩
  exact st4.at fun o e => (Heap.get?_update_other _ _ lq).trans ((Heap.get?_update_other _ _ lq).trans e)
end
end Hn

/-! repr of data: where no guard stands around; the law's head for such defs. -/
namespace Hn
open PySem PySem.Spec PyProof.Rows L2 Evl
/-- no guard stands around -/
def NoG (A : Around) (_ : Shared) : Prop := A.guards = some []
/-- data that is shown in few signs: made of ints of at most 40 digits -/
structure Fine (d : PyData) (w : Nat) : Prop where
  sh : d.showable = true
  nd : d.hasDict = false
  ls : d.leavesShort 41 = true
  wt : d.weight ≤ w
theorem Fine.mono {d : PyData} {w v : Nat} (h : Fine d w) (e : w ≤ v) : Fine d v := ⟨h.sh, h.nd, h.ls, Nat.le_trans h.wt e⟩
theorem log_40 {i : Int} (h : i.natAbs < 10 ^ 40) : i.natAbs.log2 < 140 := by
  by_cases z : i.natAbs = 0
  · rw [z]
    decide
  · exact (Nat.log2_lt z).mpr (Nat.lt_trans h (by decide))
theorem fine_int {i : Int} (h : i.natAbs < 10 ^ 40) : Fine (.int i) 200 := by
  have hl := log_40 h
  refine ⟨?_, ?_, ?_, ?_⟩
  · simp only [PyData.showable]
    exact decide_eq_true (by omega)
  · simp only [PyData.hasDict]
  · simp only [PyData.leavesShort]
    have e := int_text_length_le10 (k := 40) (by decide) h
    refine decide_eq_true ?_
    show (Str.ofString (toString i)).length ≤ 41
    rw [PySem.ofString_length]
    exact e
  · simp only [PyData.weight]
    split <;> omega
theorem fine_small {i : Int} (h : i.natAbs < 1000) : Fine (.int i) 11 := by
  have f := fine_int (i := i) (Nat.lt_trans h (by decide))
  refine ⟨f.sh, f.nd, f.ls, ?_⟩
  simp only [PyData.weight]
  split
  · omega
  · by_cases z : i.natAbs = 0
    · rw [z]
      decide
    · have : i.natAbs.log2 < 10 := (Nat.log2_lt z).mpr (Nat.lt_trans h (by decide))
      omega
theorem fine_bool (b : Bool) : Fine (.bool b) 0 := ⟨rfl, rfl, rfl, Nat.le_refl _⟩
theorem fine_none : Fine .none 0 := ⟨rfl, rfl, rfl, Nat.le_refl _⟩
theorem fine_all {w : Nat} : ∀ {ds : List PyData}, (∀ d ∈ ds, Fine d w) → PyData.showableAll ds = true ∧ PyData.hasDictAll ds = false ∧ PyData.leavesShortAll 41 ds = true ∧ PyData.weightAll ds ≤ ds.length * (w + 1)
  | [], _ => ⟨rfl, rfl, rfl, Nat.zero_le _⟩
  | d :: ds, h => by
    have hd := h d List.mem_cons_self
    obtain ⟨a, b, c, e⟩ := fine_all (ds := ds) fun x hx => h x (List.mem_cons_of_mem _ hx)
    refine ⟨?_, ?_, ?_, ?_⟩
    · simp only [PyData.showableAll, hd.sh, a, Bool.and_self]
    · simp only [PyData.hasDictAll, hd.nd, b, Bool.or_self]
    · simp only [PyData.leavesShortAll, hd.ls, c, Bool.and_self]
    · simp only [PyData.weightAll, List.length_cons]
      have := hd.wt
      rw [Nat.add_mul, Nat.one_mul]
      omega
theorem fine_list {w n : Nat} {ds : List PyData} (h : ∀ d ∈ ds, Fine d w) (hn : ds.length ≤ n) : Fine (.list ds) (n * (w + 1)) := by
  obtain ⟨a, b, c, e⟩ := fine_all h
  refine ⟨by simp only [PyData.showable]; exact a, by simp only [PyData.hasDict]; exact b, by simp only [PyData.leavesShort]; exact c, ?_⟩
  simp only [PyData.weight]
  exact Nat.le_trans e (Nat.mul_le_mul_right _ hn)
theorem fine_tuple {w n : Nat} {ds : List PyData} (h : ∀ d ∈ ds, Fine d w) (hn : ds.length ≤ n) : Fine (.tuple ds) (n * (w + 1)) := by
  obtain ⟨a, b, c, e⟩ := fine_all h
  refine ⟨by simp only [PyData.showable]; exact a, by simp only [PyData.hasDict]; exact b, by simp only [PyData.leavesShort]; exact c, ?_⟩
  simp only [PyData.weight]
  exact Nat.le_trans e (Nat.mul_le_mul_right _ hn)
theorem fine_ints {ns : List Int} {n : Nat} (h : ∀ z ∈ ns, z.natAbs < 10 ^ 40) (hn : ns.length ≤ n) : Fine (PySem.W.Datum.toD ns) (n * 201) :=
  fine_list (fun d hd => by
    obtain ⟨z, hz, rfl⟩ := List.mem_map.mp hd
    exact fine_int (h z hz)) (by rw [List.length_map]; exact hn)
theorem fine_smalls {ns : List Int} {n : Nat} (h : ∀ z ∈ ns, z.natAbs < 1000) (hn : ns.length ≤ n) : Fine (PySem.W.Datum.toD ns) (n * 12) :=
  fine_list (fun d hd => by
    obtain ⟨z, hz, rfl⟩ := List.mem_map.mp hd
    exact fine_small (h z hz)) (by rw [List.length_map]; exact hn)
/-- rows of small ints, one behind another -/
theorem fine_rows {rs : List (List Int)} {n m : Nat} (h : ∀ r ∈ rs, (∀ z ∈ r, z.natAbs < 1000) ∧ r.length ≤ n) (hm : rs.length ≤ m) : Fine (PySem.W.Datum.toD rs) (m * (n * 12 + 1)) :=
  fine_list (fun d hd => by
    obtain ⟨r, hr, rfl⟩ := List.mem_map.mp hd
    exact fine_smalls (h r hr).1 (h r hr).2) (by rw [List.length_map]; exact hm)
theorem Fine.len {d : PyData} {w : Nat} (h : Fine d w) (hw : w ≤ 300000) : d.shown.length ≤ 12900041 := by
  have e := PyData.shown_le 41 (by decide) d h.ls
  have := h.wt
  omega
def rRepr (K : PySem.W.Frag) : List V → Hp → VK → Prop := fun vs H Q => ∃ x d, vs = [x] ∧ Dp K H x d ∧ d.showable = true ∧ d.hasDict = false ∧ d.depth ≤ 64 ∧ d.shown.length ≤ 12900041 ∧ Q (.str d.shown) H
section
variable {X : Cx} {K : PySem.W.Frag} {k : Nat}
theorem k_repr (hK : X.K = K) (hg : X.A.guards = some []) (hr : Room k X.A) : CallR X (.builtin "repr") (rRepr K) := by
  subst hK
  intro pins s σ H vs us Q I r h
  obtain ⟨x, d, rfl, hd, hs, hn, hdp, hz, q⟩ := h
  obtain ⟨u, rfl, ru⟩ := r.one
  obtain ⟨as, rd⟩ := Dp.reads I d x u hd ru
  have un := hr.un
  have line : (12900041 : Nat) ≤ sizeLine := by decide
  have go : ∀ h' t' tk, (∀ b o, s.heap.get? b = some o → h'.get? b = some o) → EP X pins σ Q (.str d.shown t') { s with heap := h', toks := tk } := fun h' t' tk hk => ⟨.str d.shown, H, I.kept hk, ⟨_, rfl⟩, q⟩
  cases hd with
  | non => cases ru; exact PySem.P.repr_of_none (go s.heap _ _ fun _ _ e => e)
  | bl b =>
    cases ru
    refine PySem.P.repr_of_bool ?_
    have := go s.heap s.toks (s.toks + 1) fun _ _ e => e
    simp only [PyData.shown] at this
    cases b <;> exact this
  | int i =>
    obtain ⟨t, rfl⟩ := ru
    simp only [PyData.showable, decide_eq_true_eq] at hs
    refine PySem.P.repr_of_int hs ?_
    have := go s.heap s.toks (s.toks + 1) fun _ _ e => e
    simp only [PyData.shown] at this
    exact this
  | str y =>
    obtain ⟨t, rfl⟩ := ru
    simp only [PyData.shown] at go hz
    exact PySem.P.repr_of_str (go s.heap _ _ fun _ _ e => e) (by omega)
  | lst a b =>
    cases ru
    exact repr_of_reads' rd hs (PyData.noDict_hsm hn) hg (by omega) (fun _ _ e => e) go (by omega)
  | tup a b =>
    cases ru
    exact repr_of_reads' rd hs (PyData.noDict_hsm hn) hg (by omega) (fun _ _ e => e) go (by omega)
theorem r_repr {H : Hp} {Q : VK} {x : V} {d : PyData} {w : Nat} (h : Dp K H x d) (f : Fine d w) (hw : w ≤ 300000) (hd : d.depth ≤ 64) (q : Q (.str d.shown) H) : rRepr K [x] H Q := ⟨x, d, rfl, h, f.sh, f.nd, hd, f.len hw, q⟩
theorem r_reprH {α : Type} [DecidableEq α] [PySem.W.Datum α] {H : Hp} {Q : VK} {x : V} {u : α} {w : Nat} (h : Hd K H x u) (f : Fine (PySem.W.Datum.toD u) w) (hw : w ≤ 300000) (q : Q (.str (PySem.W.Datum.toD u).shown) H) (hd : PySem.W.Datum.depth α ≤ 64 := by decide) : rRepr K [x] H Q :=
  r_repr h f hw (Nat.le_trans (PySem.W.Datum.depth_le u) hd) q
theorem r_eqS {H : Hp} {Q : VK} {a b : Str} (q : Q (.bl (decide (a = b))) H) : rEq (.str a) (.str b) H Q := by
  refine ⟨rfl, ?_⟩
  have e : decide (V.str a = V.str b) = decide (a = b) := by rw [Bool.eq_iff_iff]; simp
  rw [e]
  exact q
theorem r_neS {H : Hp} {Q : VK} {a b : Str} (q : Q (.bl (!decide (a = b))) H) : rNe (.str a) (.str b) H Q := by
  refine ⟨rfl, ?_⟩
  have e : decide (V.str a = V.str b) = decide (a = b) := by rw [Bool.eq_iff_iff]; simp
  rw [e]
  exact q
end
section
variable {X : Cx} {k : Nat} {f C : Addr} {ps : List Str} {sp : Sp} {x m : Str} {p pos apos : Pos} {e o : Expr} {es : List Expr} {ta : TE} {t : TA} {Pre : Around → Shared → Prop}
/-- a call of a def that asks for Pre -/
theorem pg_call (G : OkP Pre X.prog X.w X.K X.mg X.base k f ps sp) (hp : ∀ s, Pre X.A s) (hr : Room k X.A) (hg : Gl X x) (hm : X.mg x = some (.ref f)) (hk : PySem.W.keepIn X.K (.ref f) = true)
    (ha : PA X (e :: es) t) (hdb : (x == ("__debug__" : Str)) = false := by decide) (he : starEach (e :: es) X.env = (false, eval e X.env) :: starEach es X.env := by rfl) (hpl : (backTo pos (starEach es X.env)).any (·.1) = false := by rfl) :
    PE X (.Call (.Name x p) (e :: es) [] pos) (tCall sp [] E0 t) := by
  refine ⟨fun pins s σ H Q I h => ?_⟩
  refine wpAny_Call_Name_kw (ld_glob I hg hm ?_ hdb)
  refine PySem.W.callWith_K (h₀ := X.base) I.ok.mod.kin hk (thn (ha.run pos pins s σ H _ I h) fun us s1 ⟨vs, H1, I1, r, q⟩ => ⟨I1.kIn, ?_⟩) he hpl
  replace q : sp (vs ++ []) H1 Q E0 := q
  rw [List.append_nil] at q
  exact run_pre G ⟨hr, rfl⟩ (hp s1) I1 r q
end
/-! ### the head of such a law -/
section
variable {P : Program} {w : World} {K : PySem.W.Frag} {mg mb : Str → Option Value} {k : Nat} {fa a : Addr} {x : Str} {sp : Sp} {st : Shared} {vs : List Value} {ns : List Int}
/-- behind the top, with nothing tracked but the script (or nothing at all) -/
theorem head_at (kin : K.In st.heap) (gl : st.heap.Ns mainGlobals mg) (bl : st.heap.Ns builtinsNs mb) (bb : ∀ y : Str, y ≠ "__name__" → mb y = bootBuiltins y) (lim : st.heap.NoLimit) (gens : st.gens = #[])
    (obj : st.heap.get? a = some { cls := .type "list", data := .seq vs.toArray }) (room : Room k callerA) (F : ∀ base : Heap, K.In base → base.Ns mainGlobals mg → OkP NoG P w K mg base k fa [x] sp)
    (H : Hp) (only : Only H) (hsp : sp [.ref a] H (fun v _ => v = .bl true) E0) (ok : HOk P w H st.heap) (one : ∀ b, H b ≠ none → b = a) (own : H a ≠ none → K.lookup a = none) :
    codeAny (model P w) callerA (.call (.ref fa) ⟨[.ref a], []⟩) (fun r s' => r = .ok (.ret (.bool true)) ∧ OldK st.heap s'.heap ∧ s'.os = st.os ∧ AllBare s'.gens) st := by
  have below : ∀ {b : Addr} {ob : Obj}, st.heap.get? b = some ob → H b = none → (hidT st.heap H).get? b = some ob := fun g n => hidT_get g n
  have plain : ∀ {b : Addr} {ob : Obj} {es : Array DictEntry} {ep : Nat}, st.heap.get? b = some ob → ob.data = .dict es ep → H b = none := by
    intro b ob es ep g hd
    by_cases hb : H b = none
    · exact hb
    · obtain rfl := one b hb
      rw [obj] at g
      cases g
      exact absurd (show Data.seq vs.toArray _ = Data.dict es ep from hd) (fun z => by cases z)
  have names : ∀ {b : Addr} {m : Str → Option Value}, st.heap.Ns b m → (hidT st.heap H).Ns b m := fun {b m} ⟨ob, es, ep, g, hd, r⟩ => ⟨ob, es, ep, below g (plain g hd), hd, r⟩
  have kinB : K.In (hidT st.heap H) := fun b ob g => below (kin b ob g) (by
    by_cases hb : H b = none
    · exact hb
    · obtain rfl := one b hb
      rw [own hb] at g
      cases g)
  have md : Mod K mg (hidT st.heap H) := ⟨kinB, names gl, ⟨mb, names bl, bb⟩, let ⟨mc, h1, h2⟩ := lim; ⟨mc, names h1, h2⟩⟩
  have env : Env0 P w K mg (hidT st.heap H) callerA [] st H := ⟨rfl, md, fun b ob g => of_hidT g, Nat.le_of_eq (hidT_size _ _), trivial, fun b hb => absurd (show b ∈ ([] : List Addr) from hb) (by simp), ok, .of_eq gens⟩
  obtain ⟨fd, bd, _, run⟩ := F _ kinB (names gl)
  have bnd := bd st [.ref a] kin rfl
  refine codeAny_mono (run callerA [] st H ⟨[.ref a], []⟩ [.ref a] [.ref a] _ _ rfl room env bnd (.cons rfl .nil) hsp) fun r s' h => ?_
  cases r with
  | error e => exact False.elim h
  | ok fl =>
    cases fl with
    | next => exact False.elim h
    | brk => exact False.elim h
    | cont => exact False.elim h
    | ret u =>
      obtain ⟨v, H', os, bare, un, ok', rel, rfl⟩ := h
      obtain rfl : u = Value.bool true := rel
      refine ⟨rfl, OldK.of_keep fun b ob g => ?_, os, bare⟩
      rcases only b with z | ⟨o2, zs, z⟩
      · exact un.keep b ob g z (by intro y; exact absurd (show b ∈ ([] : List Addr) from y) (by simp)) (by simp)
      · obtain ⟨g1, _⟩ := ok b _ z
        obtain ⟨g2, _⟩ := ok' b _ (un.frzs b o2 _ z)
        rw [g] at g1
        cases g1
        exact g2
theorem head_law (kin : K.In st.heap) (gl : st.heap.Ns mainGlobals mg) (bl : st.heap.Ns builtinsNs mb) (bb : ∀ y : Str, y ≠ "__name__" → mb y = bootBuiltins y) (lim : st.heap.NoLimit) (gens : st.gens = #[])
    (obj : st.heap.get? a = some { cls := .type "list", data := .seq vs.toArray }) (inn : IntsAre vs ns) (ln : ns.length ≤ sizeLine) (room : Room k callerA) (F : ∀ base : Heap, K.In base → base.Ns mainGlobals mg → OkP NoG P w K mg base k fa [x] sp)
    (hsp : ∀ H : Hp, SqL K H a (ns.map V.int) → sp [.ref a] H (fun v _ => v = .bl true) E0) :
    codeAny (model P w) callerA (.call (.ref fa) ⟨[.ref a], []⟩) (fun r s' => r = .ok (.ret (.bool true)) ∧ OldK st.heap s'.heap ∧ s'.os = st.os ∧ AllBare s'.gens) st := by
  have rel := vals_ints inn
  have sz := inn.length
  cases hk : K.lookup a with
  | some ob =>
    have g := kin a ob hk
    rw [obj] at g
    cases g
    refine head_at kin gl bl bb lim gens obj room F (fun _ => none) (fun _ => .inl rfl) (hsp _ (.inr ⟨_, vs.toArray, _, hk, rfl, rfl, rfl, by rw [List.size_toArray, sz]; exact ln, by simpa using rel⟩)) (fun b u z => ?_) (fun b z => absurd rfl z) fun z => absurd rfl z
    exact absurd (show (none : Option HO) = some u from z) (by simp)
  | none =>
    have e : ∀ b, (upd (fun _ => none) a (.frz { cls := .type "list", data := .seq vs.toArray } (.lst (ns.map V.int)))) b = if b = a then some (.frz { cls := .type "list", data := .seq vs.toArray } (.lst (ns.map V.int))) else none := fun b => by
      by_cases hb : b = a
      · rw [if_pos hb, hb, upd_same]
      · rw [if_neg hb, upd_ne hb]
    refine head_at kin gl bl bb lim gens obj room F (upd (fun _ => none) a (.frz { cls := .type "list", data := .seq vs.toArray } (.lst (ns.map V.int)))) (fun b => ?_) (hsp _ (.inl (.inr ⟨_, upd_same⟩))) (fun b u z => ?_) (fun b z => ?_) fun _ => hk
    · by_cases hb : b = a
      · exact .inr ⟨_, _, by rw [hb, upd_same]⟩
      · exact .inl (by rw [upd_ne hb])
    · by_cases hb : b = a
      · subst hb
        rw [upd_same] at z
        cases z
        exact ⟨obj, by rw [List.length_map]; exact ln, vs, _, rel, obj⟩
      · rw [upd_ne hb] at z
        cases z
    · by_cases hb : b = a
      · exact hb
      · exact absurd (by rw [upd_ne hb]) z
end
theorem walkG {l : PySem.W.OpenLaw} {n k : Nat} {q : Program} {loose : List Str} {XP : (Str → Option Value) → Heap → Prop} {YP : World → Heap → Prop} {d : DefRec} {K : Params → PySem.W.Frag} {x : Str} {sp : World → Sp}
    (most : l.most = some n) (line : n ≤ sizeLine) (nodf : d.params.defaults = []) (room : Room k callerA) (kin : ∀ (w : World) (h : Heap), YP w h → (K w.params).In h)
    (F : ∀ (w : World) (mg : Str → Option Value) (fa : Addr) (h : Heap), (K w.params).In h → h.Ns mainGlobals mg → mg d.name = some (.ref fa) → ∀ base : Heap, (K w.params).In base → base.Ns mainGlobals mg → OkP NoG l.prog w (K w.params) mg base k fa [x] (sp w))
    (hsp : ∀ (w : World) (H : Hp) (a : Addr) (ns : List Int), ns.length ≤ n → SqL (K w.params) H a (ns.map V.int) → sp w [.ref a] H (fun v _ => v = .bl true) E0) : PySem.W.WalkO q loose XP YP l.row.toRowW d [] (fun f vs => PySem.call f vs) := by
  refine Att.attach_call most nodf fun w s₀ s₁ mg mb fa o pm cd doc a vs ns G Y _ _ _ hmg obj inn len gens => ?_
  have kX := kin w _ Y
  exact head_law kX G.T.g G.T.b G.T.builtins G.T.nolimit gens obj inn (Nat.le_trans len line) room (F w mg fa _ kX G.T.g hmg) fun H hS => hsp w H a ns len hS
end Hn

/-! Static methods by the class; list(range(n)); clocks compared. -/
namespace Hn
open PySem PySem.Spec PyProof.Rows L2 Evl
/-- C.m is a staticmethod: its record at p, its def at g -/
structure SMet (K : PySem.W.Frag) (C : Addr) (mc : Value) (m : Str) (p g : Addr) : Prop where
  rd : PySem.W.readsIn K C mc = true
  ga : PySem.W.specialIn K (.ref C) "__getattribute__" = some (some (.builtin "type.__getattribute__"))
  at_ : PySem.W.findCls K (.ref C) mc m = some (.get (.builtin "staticmethod.__get__") (.ref p) .none (.ref C))
  rc : ∃ rest, PySem.W.recIn K p "staticmethod" = some (.ref g :: rest)
def tSMeth (C : Addr) (sp : Sp) (ta : TE) (t : TA) : TE := fun σ H Q => ta σ H fun x H1 => x = .ref C ∧ t σ H1 fun vs H2 => sp vs H2 Q E0
section
variable {X : Cx} {k : Nat} {C p g : Addr} {mc : Value} {ps : List Str} {sp : Sp} {o e : Expr} {es : List Expr} {m : Str} {pos apos : Pos} {ta : TE} {t : TA} {pl : Sem Bool}
theorem pe_static (he : PE X o ta) (c : SMet X.K C mc m p g) (hk : PySem.W.keepIn X.K (.ref g) = true) (G : Okf X.prog X.w X.K X.mg X.base k g ps sp) (hr : Room k X.A) (ha : PA X (e :: es) t)
    (hst : starEach (e :: es) X.env = (false, eval e X.env) :: starEach es X.env := by rfl) (hpl : (backTo pos (starEach es X.env)).any (·.1) = false := by rfl)
    (ht : eval (.Call (.Attribute o m apos) (e :: es) [] pos) X.env = (do
      let ov ← eval o X.env
      standAt apos.atName
      let (f, first) ← holding [ov] (getMethod ov m pl)
      callWith pos f first (backTo pos (starEach (e :: es) X.env)) (backToKw pos (keywordEach [] X.env))) := by rfl) :
    PE X (.Call (.Attribute o m apos) (e :: es) [] pos) (tSMeth C sp ta t) := by
  refine ⟨fun pins s σ H Q I h => ?_⟩
  refine PySem.W.methodCall_KW (pl := pl) (thn (he.run pins s σ H _ I h) fun u s1 ⟨x, H1, I1, rx, ex, q⟩ => ?_) ht
  subst ex
  obtain rfl : u = Value.ref C := rx
  obtain ⟨rest, hp⟩ := c.rc
  refine PySem.W.method_cls I1.kIn c.ga (PySem.W.cls_bind I1.kIn c.rd c.at_ (wpAny_call (PySem.W.sm_get (s := { s1 with toks := s1.toks + 1 }) I1.kIn hp (PySem.W.handed_on rfl ?_))))
  have I2 : Inv X pins σ H1 { s1 with toks := s1.toks + 1 } := I1.tok _
  refine PySem.W.callWith_K (h₀ := X.base) I2.ok.mod.kin hk (thn (ha.run pos pins _ σ H1 _ I2 q) fun us s3 ⟨vs, H2, I3, rv, q2⟩ => ⟨I3.kIn, ?_⟩) hst hpl
  exact run_sub G ⟨hr, rfl⟩ I3 rv q2
end
section
variable {σ : L2.St} {H : Hp} {Q : VK} {C : Addr} {sp : Sp} {ta : TE} {ar : TA} {x : V}
theorem r_smeth (h : ta σ H fun x H1 => x = .ref C ∧ ar σ H1 fun vs H2 => sp vs H2 Q E0) : tSMeth C sp ta ar σ H Q := h
theorem r_isC {p : Prop} (h : p) : V.ref C = .ref C ∧ p := ⟨rfl, h⟩
theorem r_lstRg {te : L2.St → Hp → (Int → Int → Hp → Prop) → Prop} (h : te σ H fun a b H1 => RgOk a b ∧ ∀ q, H1 q = none → Q (.ref q) (upd H1 q (.lst (rgV a b)))) : tLstRg te σ H Q := h
theorem r_rg1 {q : Int → Int → Hp → Prop} (h : ta σ H fun x H1 => ∃ n, x = .int n ∧ q 0 n H1) : tRg1 ta σ H q := h
theorem rgV0 (n : Nat) : rgV 0 (n : Int) = ((List.range n).map fun (i : Nat) => ((i : Nat) : Int)).map V.int := by
  unfold rgV
  rw [Int.sub_zero, Int.toNat_natCast, List.map_map]
  refine List.map_congr_left fun i _ => ?_
  show V.int (0 + (i : Int)) = V.int (i : Int)
  rw [Int.zero_add]
end
section
variable {K : PySem.W.Frag} {C : Addr} {H : Hp} {v w : V} {s t : List Int} {sp : Sp} {E : XK} {Q : VK}
theorem r_clk2 (h : Clk K C H v s) (h' : Clk K C H w t) (q : sp [v, w] H Q E) : rOwn C sp E v w H Q := by
  obtain ⟨x, dx, a, b, rfl, hp, _⟩ := h
  obtain ⟨y, dy, a', b', rfl, hq, _⟩ := h'
  exact ⟨x, y, dx, dy, _, _, rfl, rfl, hp, hq, q⟩
theorem r_clk2N (h : Clk K C H v s) (h' : Clk K C H w t) (q : sp [v, w] H (fun x H' => ∃ r, x = .bl r ∧ Q (.bl (!r)) H') E) : rOwnNe C sp E v w H Q := by
  obtain ⟨x, dx, a, b, rfl, hp, _⟩ := h
  obtain ⟨y, dy, a', b', rfl, hq, _⟩ := h'
  exact ⟨x, y, dx, dy, _, _, rfl, rfl, hp, hq, q⟩
theorem r_clkL (h : Clk K C H v s) (q : sp [v] H (fun x H' => ∃ n : Int, x = .int n ∧ 0 ≤ n ∧ n < 2 ^ 63 ∧ Q (.int n) H') E) : rLenO C sp E [v] H Q := by
  obtain ⟨x, dx, a, b, rfl, hp, _⟩ := h
  exact ⟨x, dx, _, rfl, hp, q⟩
end
end Hn

/-! for x in own; own == anything. -/
namespace Hn
open PySem PySem.Spec PyProof.Rows L2 Evl
/-- an own thing walked: __iter__ hands out an iterator of a tuple of xs -/
def iOwn (K : PySem.W.Frag) (C : Addr) (spI : Nat → Sp) (tl : TE) : TI := fun σ H R => tl σ H fun x H1 => ∃ a dx fs xs, x = .ref a ∧ H1 a = some (.ins C dx fs) ∧
  (∀ n Q', (∀ l it, SqT K H1 l xs → H1 it = none → n ≤ it → Q' (.ref it) (upd H1 it (ItT l it))) → spI n [.ref a] H1 Q' E0) ∧ ∀ l, SqT K H1 l xs → R (Itt K l) H1
section
variable {X : Cx} {K : PySem.W.Frag} {k : Nat} {C fi : Addr} {psI : List Str} {spI : Nat → Sp} {tg l : Expr} {tl : TE}
theorem k_piO (hK : X.K = K) (GI : ∀ n, OkP (fun _ s => n ≤ s.heap.objs.size) X.prog X.w X.K X.mg X.base k fi psI (spI n)) (hr : Room k X.A) (hit : PySem.W.findIn X.K (.ref C) "__iter__" = some (some (.ref fi))) (hF : PySem.W.isFn X.K (.ref fi) = true) (hl : PE X l tl) :
    PI X tg l (iOwn K C spI tl) := by
  subst hK
  refine ⟨fun pins s σ H R I h => ?_⟩
  refine thn (hl.run pins s σ H _ I h) fun v s1 ⟨x, H1, I1, r1, a, dx, fs, xs, ex, ha, hI, q⟩ => ?_
  subst ex
  cases r1
  obtain ⟨mA, J, _⟩ := ins_get I1.hok ha
  obtain ⟨od, J, _⟩ := J.look
  obtain ⟨m0, fr⟩ := I1.fr
  refine PySem.W.owit_iter fr I1.ok.mod.kin J hit hF ?_
  refine wpAny_mono (run_pre (us := [.ref a]) (vs := [.ref a]) (Q := fun v H' => ∃ l it, v = .ref it ∧ SqT X.K H1 l xs ∧ H1 it = none ∧ X.s_0.heap.objs.size ≤ it ∧ H' = upd H1 it (ItT l it)) (GI X.s_0.heap.objs.size) ⟨hr, rfl⟩ I1.sz I1 (.cons rfl .nil) (hI _ _ fun l it a1 a2 a3 => ⟨l, it, rfl, a1, a2, a3, rfl⟩)) (fun v s3 hv => ?_) fun e s' he => he
  obtain ⟨v', H3, I3, rv3, tp, it, rfl, hl', hn', hge, rfl⟩ := hv
  cases rv3
  obtain ⟨hobj, _⟩ := (show ObjOk X.prog X.w _ s3.heap it (ItT tp it) from I3.hok it _ upd_same)
  have hobj' : s3.heap.get? it = some { cls := .type "tuple_iterator", data := .fields #[.ref tp, .int 0 0] } := hobj
  show wpAny _ _ (specialOf (.ref it) "__next__") _ _ _
  refine wpAny_specialOf (T := "tuple_iterator") ⟨_, hobj', rfl⟩ PySem.F.slot_tuple_iterator_next.lookup ?_
  have fp4 := ItX.inv_fp I3 upd_same hge
  have I5 := ItX.inv_drop I3 (a := it) (φ := fun h => h.get? it = some { cls := .type "tuple_iterator", data := .fields #[.ref tp, .int 0 0] }) upd_same
  rw [ItX.dropH_upd hn'] at I5 fp4
  exact ⟨it, [it], _, _, H1, rfl, I5, turn_tuple tp it, ⟨_, hobj', rfl, rfl⟩, fun b hb => by rw [List.mem_singleton.mp hb]; exact fp4, q tp hl'⟩
end
section
variable {K : PySem.W.Frag} {C : Addr} {spI : Nat → Sp} {σ : L2.St} {H : Hp} {te : TE} {R : It → Hp → Prop}
theorem r_iOwn (h : te σ H fun x H1 => ∃ a dx fs xs, x = .ref a ∧ H1 a = some (.ins C dx fs) ∧ (∀ n Q', (∀ l it, SqT K H1 l xs → H1 it = none → n ≤ it → Q' (.ref it) (upd H1 it (ItT l it))) → spI n [.ref a] H1 Q' E0) ∧ ∀ l, SqT K H1 l xs → R (Itt K l) H1) : iOwn K C spI te σ H R := h
end
/-! ### own == anything whose kind is known -/
def rOwnA (K : PySem.W.Frag) (C : Addr) (sp : Sp) : R2 := fun x y H Q => ∃ a dx fs t, x = .ref a ∧ H a = some (.ins C dx fs) ∧ TyX K H y t ∧ PySem.W.notFirst K C t = true ∧ sp [x, y] H Q E0
section
variable {X : Cx} {K : PySem.W.Frag} {k : Nat} {C f : Addr} {ps : List Str} {sp : Sp}
theorem k_eqA (hK : X.K = K) (G : Okf X.prog X.w X.K X.mg X.base k f ps sp) (hr : Room k X.A) (hs : PySem.W.findIn X.K (.ref C) "__eq__" = some (some (.ref f))) (hf : PySem.W.isFn X.K (.ref f) = true) : OpR X (compareOp .Eq) (rOwnA K C sp) := by
  subst hK
  intro pins s σ H x y v u Q I rx ry h
  obtain ⟨a, dx, fs, t, rfl, ha, ty, nf, q⟩ := h
  cases rx
  obtain ⟨P, kt, hp, _⟩ := kit_of I ry ty
  obtain ⟨mA, J, _⟩ := ins_get I.hok ha
  obtain ⟨od, J, _⟩ := J.look
  obtain ⟨m, hF⟩ := I.fr
  refine PySem.W.cmp_K (op := .Eq) (tb := t) hr.units0 hF I.ok.mod.kin J (kt.ty _ _ I.kIn hp) nf hs hf ?_
  exact wpAny_mono (run_sub (us := [.ref a, u]) (vs := [.ref a, y]) G ⟨hr, rfl⟩ I (.cons rfl (.cons ry .nil)) q) (fun v s' hv => back_ne hv) fun _ _ e => e
end
theorem nf_of {K : PySem.W.Frag} {C : Addr} {t : Value} (h : PySem.W.subIn K t (.ref C) = some false) : PySem.W.notFirst K C t = true := by
  unfold PySem.W.notFirst
  rw [h, Bool.or_eq_true]
  exact .inr rfl
theorem nf_same {K : PySem.W.Frag} {C : Addr} : PySem.W.notFirst K C (.ref C) = true := by
  unfold PySem.W.notFirst
  rw [Bool.or_eq_true]
  exact .inl (beq_self_eq_true _)
theorem r_break {D : Ends} {σ : L2.St} {H : Hp} (h : D.bk σ H) : tBreak D σ H := h
theorem r_cont {D : Ends} {σ : L2.St} {H : Hp} (h : D.ct σ H) : tCont D σ H := h
theorem fine_30 {i : Int} (h : i.natAbs < 10 ^ 31) : Fine (.int i) 105 := by
  have f := fine_int (i := i) (Nat.lt_trans h (by decide))
  refine ⟨f.sh, f.nd, f.ls, ?_⟩
  simp only [PyData.weight]
  split
  · omega
  · by_cases z : i.natAbs = 0
    · rw [z]
      decide
    · have : i.natAbs.log2 < 104 := (Nat.log2_lt z).mpr (Nat.lt_trans h (by decide))
      omega
theorem fine_30s {ns : List Int} {n : Nat} (h : ∀ z ∈ ns, z.natAbs < 10 ^ 31) (hn : ns.length ≤ n) : Fine (PySem.W.Datum.toD ns) (n * 106) :=
  fine_list (fun d hd => by
    obtain ⟨z, hz, rfl⟩ := List.mem_map.mp hd
    exact fine_30 (h z hz)) (by rw [List.length_map]; exact hn)
theorem fine_30r {rs : List (List Int)} {n m : Nat} (h : ∀ r ∈ rs, (∀ z ∈ r, z.natAbs < 10 ^ 31) ∧ r.length ≤ n) (hm : rs.length ≤ m) : Fine (PySem.W.Datum.toD rs) (m * (n * 106 + 1)) :=
  fine_list (fun d hd => by
    obtain ⟨r, hr, rfl⟩ := List.mem_map.mp hd
    exact fine_30s (h r hr).1 (h r hr).2) (by rw [List.length_map]; exact hm)
theorem fine_bools (bs : List Bool) : Fine (PySem.W.Datum.toD bs) (bs.length * 1) :=
  fine_list (w := 0) (fun d hd => by
    obtain ⟨z, hz, rfl⟩ := List.mem_map.mp hd
    exact fine_bool z) (by rw [List.length_map]; exact Nat.le_refl _)
theorem sq_new {K : PySem.W.Frag} {H : Hp} {p : Addr} (np : H p = none) (xs : List V) : SqL K (upd H p (.lst xs)) p xs := .inl (.inl upd_same)
end Hn

/-! What is known, moved on to a later heap; piles of new lists. -/
namespace Hn
open PySem PySem.Spec PyProof.Rows L2 Evl
section
variable {K : PySem.W.Frag} {C : Addr} {fld : Str} {H H' : Hp} {v : V} {s : List Int} {a b : Addr} {xs : List V} {o : HO}
theorem mv_bag (h : Bag H b) (e : Xl H H') : Bag H' b := h.mono e
theorem mv_clk (h : Clk K C H v s) (e : Xl H H') : Clk K C H' v s := h.mono e
theorem mv_rw (h : Rw K C fld H v s) (e : Xl H H') : Rw K C fld H' v s := h.mono e
theorem mv_at (h : H a = some o) (e : Ex H H') : H' a = some o := e _ _ h
theorem mv_sqL (h : SqL K H a xs) (e : Ex H H') : SqL K H' a xs := ex_l e h
theorem mv_sqT (h : SqT K H a xs) (e : Ex H H') : SqT K H' a xs := ex_t e h
theorem at_sqL (h : H a = some (.lst xs)) : SqL K H a xs := .inl (.inl h)
theorem at_sqT (h : H a = some (.tup xs)) : SqT K H a xs := .inl (.inl h)
theorem sqL_sq (h : SqL K H a xs) : Sq K H a xs := .inl h
theorem sqT_sq (h : SqT K H a xs) : Sq K H a xs := .inr h
end
/-- a list of new lists, none of them the list itself -/
def Pile (H : Hp) (D : Addr) (rs : List (List V)) : Prop := ∃ ys : List V, H D = some (.lst ys) ∧ ys.length = rs.length ∧ ∀ (i : Nat) y, ys[i]? = some y → ∃ p, y = .ref p ∧ p ≠ D ∧ H p = some (.lst (rs.getD i []))
theorem Pile.nil {H : Hp} {D : Addr} (h : H D = some (.lst [])) : Pile H D [] := ⟨[], h, rfl, fun i y z => by simp at z⟩
theorem Pile.ex {H H' : Hp} {D : Addr} {rs : List (List V)} (e : Ex H H') (h : Pile H D rs) : Pile H' D rs :=
  let ⟨ys, h1, h2, h3⟩ := h
  ⟨ys, e _ _ h1, h2, fun i y hy => let ⟨p, hp, n, q⟩ := h3 i y hy; ⟨p, hp, n, e _ _ q⟩⟩
theorem Pile.push {H : Hp} {D q : Addr} {rs : List (List V)} {ys xs : List V} (h : Pile H D rs) (hD : H D = some (.lst ys)) (hq : H q = some (.lst xs)) (hn : q ≠ D) : Pile (upd H D (.lst (ys ++ [.ref q]))) D (rs ++ [xs]) := by
  obtain ⟨zs, h1, h2, h3⟩ := h
  rw [hD] at h1
  cases h1
  refine ⟨_, upd_same, by rw [List.length_append, List.length_append, h2]; rfl, fun i y hy => ?_⟩
  by_cases hi : i < ys.length
  · rw [List.getElem?_append_left hi] at hy
    obtain ⟨p, hp, n, e⟩ := h3 i y hy
    refine ⟨p, hp, n, ?_⟩
    rw [upd_ne n, e, List.getD_eq_getElem?_getD, List.getD_eq_getElem?_getD, List.getElem?_append_left (by omega)]
  · have hi2 : i = ys.length := by
      have := (List.getElem?_eq_some_iff.mp hy).1
      rw [List.length_append, List.length_singleton] at this
      omega
    subst hi2
    rw [List.getElem?_append_right (Nat.le_refl _), Nat.sub_self] at hy
    cases hy
    refine ⟨q, rfl, hn, ?_⟩
    rw [upd_ne hn, hq, List.getD_eq_getElem?_getD, List.getElem?_append_right (by omega), h2, Nat.sub_self]
    rfl
theorem Pile.hd {K : PySem.W.Frag} {H : Hp} {D : Addr} {us : List (List Int)} (h : Pile H D (us.map fun r => r.map V.int)) : Hd K H (.ref D) us := by
  obtain ⟨ys, h1, h2, h3⟩ := h
  rw [List.length_map] at h2
  refine hd_list (.inl (.inl h1)) (hda_ix h2 fun i v u hv hu => ?_)
  obtain ⟨p, rfl, _, hp⟩ := h3 i v hv
  rw [List.getD_eq_getElem?_getD, List.getElem?_map, hu] at hp
  exact hd_ints (.inl (.inl hp))
/-! ### a conditional expression whose two ways meet again -/
def tIfJ : TT → TE → TE → TE := tIf
theorem pe_ifJ {X : Cx} {tA : TT} {ta tb : TE} {pos : Pos} {a b c : Expr} (hc : PT X c tA) (ha : PE X a ta) (hb : PE X b tb) : PE X (.IfExp c a b pos) (tIfJ tA ta tb) := pe_ifExp hc ha hb
theorem r_ifJ {tt : TT} {ta tb : TE} {σ : L2.St} {H : Hp} {Q : VK} (P : V → Hp → Prop) (h : ∀ Q' : VK, (∀ v H', P v H' → Q' v H') → tIf tt ta tb σ H Q') (q : ∀ v H', P v H' → Q v H') : tIfJ tt ta tb σ H Q := h Q q
section
variable {K : PySem.W.Frag} {C : Addr} {fld : Str} {H H' : Hp} {v w : V} {s : List Int} {a b : Addr} {xs : List V} {Q : VK} {sp : Sp}
theorem r_ownA {t : Value} (h : Rw K C fld H v s) (ty : TyX K H w t) (nf : PySem.W.subIn K t (.ref C) = some false) (q : sp [v, w] H Q E0) : rOwnA K C sp v w H Q := by
  obtain ⟨x, dx, a, rfl, hp, _⟩ := h
  exact ⟨x, dx, _, _, rfl, hp, ty, nf_of nf, q⟩
theorem r_clkA {t : Value} (h : Clk K C H v s) (ty : TyX K H w t) (nf : PySem.W.subIn K t (.ref C) = some false) (q : sp [v, w] H Q E0) : rOwnA K C sp v w H Q := by
  obtain ⟨x, dx, fs, rfl, hp, _⟩ := r_clkG (p := True) h trivial
  exact ⟨x, dx, _, _, rfl, hp, ty, nf_of nf, q⟩
theorem ty_sqL (h : SqL K H a xs) : TyX K H (.ref a) (.type "list") := by
  rcases h with (h | ⟨o, h⟩) | ⟨o, its, n, h1, h2, _⟩
  · exact .base (.lst h)
  · exact .base (.frz h)
  · exact .kList h1 h2
theorem ty_sqT (h : SqT K H a xs) : TyX K H (.ref a) (.type "tuple") := by
  rcases h with (h | ⟨o, h⟩) | ⟨o, its, n, h1, h2, _⟩
  · exact .base (.tup h)
  · exact .fTuple h
  · exact .kTuple h1 h2
theorem ty_rw (i : IsC K C) (h : Rw K C fld H v s) : TyX K H v (.ref C) := by
  obtain ⟨x, dx, a, rfl, hp, _⟩ := h
  exact .base (.ins hp i.cl i.ha i.hn i.tk i.mr)
theorem ty_clk (i : IsC K C) (h : Clk K C H v s) : TyX K H v (.ref C) := by
  obtain ⟨x, dx, fs, rfl, hp, _⟩ := r_clkG (p := True) h trivial
  exact .base (.ins hp i.cl i.ha i.hn i.tk i.mr)
end
theorem at_row {n : Nat} {f : Int → Int} {h : Nat} (hh : h < n) : atI ((rowOf n f).map V.int) (h : Int) = some (.int (f (h : Int))) := by
  have e := at_int (ns := rowOf n f) (i := (h : Int)) (by omega) (by rw [rowOf_length]; omega)
  rw [Int.toNat_natCast, rowOf_getD _ hh] at e
  exact e
theorem row_all {n : Nat} {f : Int → Int} {P : Int → Prop} (h : ∀ j : Nat, j < n → P (f j)) : ∀ z ∈ rowOf n f, P z := fun z hz => by
  unfold rowOf at hz
  obtain ⟨j, hj, rfl⟩ := List.mem_map.mp hz
  exact h j (List.mem_range.mp hj)
theorem row_same {n h : Nat} {f : Int → Int} {z : Int} (hh : h < n) : (rowOf n f = rowOf n fun i => if i = (h : Int) then z else f i) ↔ f (h : Int) = z := by
  rw [rowOf_inj]
  constructor
  · intro e
    have := e h hh
    simp only [if_true] at this
    exact this
  · intro e j hj
    show f j = if (j : Int) = (h : Int) then z else f j
    split
    · rename_i q
      rw [q, e]
    · rfl
theorem dec_set {n h : Nat} {f : Int → Int} {z : Int} (hh : h < n) : decide (rowOf n f = rowOf n fun i => if i = (h : Int) then z else f i) = decide (f (h : Int) = z) := decide_eq_decide.mpr (row_same hh)
theorem dec_set' {n h : Nat} {f : Int → Int} {z : Int} (hh : h < n) : decide ((rowOf n fun i => if i = (h : Int) then z else f i) = rowOf n f) = decide (f (h : Int) = z) := by
  rw [← dec_set hh]
  exact decide_eq_decide.mpr ⟨Eq.symm, Eq.symm⟩
/-- row[:h] + [z] + row[h + 1:] -/
theorem set_lst {n h : Nat} {f : Int → Int} {z : Int} (hh : h < n) : ((rowOf n f).map V.int).take h ++ [.int z] ++ ((rowOf n f).map V.int).drop (h + 1) = (rowOf n fun i => if i = (h : Int) then z else f i).map V.int := by
  rw [← set_row hh, List.map_append, List.map_append, List.map_take, List.map_drop]
  rfl
theorem len_ne {α : Type} {s t : List α} (h : s.length ≠ t.length) : ¬ s = t := fun e => h (by rw [e])
theorem line_le {n : Nat} (h : n ≤ 1000) : n ≤ sizeLine := by
  have : (1000 : Nat) ≤ sizeLine := by decide
  omega
theorem sqT_back {K : PySem.W.Frag} {H : Hp} {p l : Addr} {xs ys : List V} (np : H p = none) (h : SqT K (upd H p (.lst ys)) l xs) : SqT K H l xs := by
  rcases h with (z | ⟨o, z⟩) | z
  · exact .inl (.inl (by rw [upd_ne (ne_of z upd_same (fun z => nomatch z))] at z; exact z))
  · exact .inl (.inr ⟨o, by rw [upd_ne (ne_of z upd_same (fun z => nomatch z))] at z; exact z⟩)
  · exact .inr z
theorem getD_mem' {s : List Int} {j : Nat} (h : j < s.length) : s.getD j 0 ∈ s := by
  rw [List.getD_eq_getElem?_getD, List.getElem?_eq_getElem h]
  exact List.getElem_mem h
theorem hda_rep {α : Type} [DecidableEq α] [PySem.W.Datum α] {K : PySem.W.Frag} {H : Hp} {x : V} {u : α} (h : Hd K H x u) : ∀ n : Nat, HdAll K H (List.replicate n x) (List.replicate n u)
  | 0 => .nil
  | n + 1 => .cons h (hda_rep h n)
theorem r_yesD {p A B : Prop} [Decidable p] (h : p) (q : A) : if decide p = true then A else B := by
  rw [decide_eq_true h]
  exact iteT q
theorem r_noD {p A B : Prop} [Decidable p] (h : ¬ p) (q : B) : if decide p = true then A else B := by
  rw [decide_eq_false h]
  exact iteF q
theorem r_reprB {K : PySem.W.Frag} {H : Hp} {Q : VK} {a : Addr} (bs : List Bool) (h : SqL K H a (bs.map V.bl)) (q : Q (.str (PySem.W.Datum.toD bs).shown) H) (hn : Nat.ble bs.length 1000 = true := by rfl) : rRepr K [.ref a] H Q :=
  r_reprH (hd_bools h) (fine_bools bs) (by have := Nat.le_of_ble_eq_true hn; omega) q
theorem r_repr30 {K : PySem.W.Frag} {H : Hp} {Q : VK} {a : Addr} {s : List Int} (h : SqL K H a (s.map V.int)) (hz : ∀ z ∈ s, z.natAbs < 10 ^ 31) (hl : s.length ≤ 48) (q : Q (.str (PySem.W.Datum.toD s).shown) H) : rRepr K [.ref a] H Q :=
  r_reprH (hd_ints h) (fine_30s (n := 48) hz hl) (by decide) q
theorem mv_sq {K : PySem.W.Frag} {H H' : Hp} {a : Addr} {xs : List V} (h : Sq K H a xs) (e : Ex H H') : Sq K H' a xs := h.mono e
theorem at_last_row {n : Nat} {f : Int → Int} : atI ((rowOf (n + 1) f).map V.int) (-1) = some (.int (f (n : Int))) := by
  unfold rowOf
  rw [List.range_succ, List.map_append, List.map_append]
  exact atI_last _ _
/-- a statement that changes no name, then the rest, shown once -/
theorem r_cutE {t u : TS} {D : Ends} {σ : L2.St} {H : Hp} (h1 : t { D with nx := fun σ' H' => σ' = σ ∧ Ex H H' } σ H) (h2 : ∀ H', Ex H H' → u D σ H') : tCut t u D σ H := ⟨_, h1, fun _ H' z => z.1.symm ▸ h2 H' z.2⟩
theorem r_cat {H : Hp} {Q : VK} {l b : Addr} {xs zs : List V} (h1 : H l = some (.lst xs)) (h2 : H b = some (.lst zs)) (hn : xs.length + zs.length ≤ 1000) (q : ∀ p, H p = none → Q (.ref p) (upd H p (.lst (xs ++ zs)))) : rCat (.ref l) (.ref b) H Q := ⟨l, b, xs, zs, rfl, rfl, h1, h2, line_le hn, q⟩
end Hn

/-! Slices and zips of lists or tuples; sums of begins. -/
namespace Hn
open PySem PySem.Spec PyProof.Rows L2 Evl RZ
def rSlQ (K : PySem.W.Frag) : V → Option Int → Option Int → Hp → VK → Prop := fun x lo hi H Q => ∃ a xs, x = .ref a ∧ ((SqL K H a xs ∧ ∀ p, H p = none → Q (.ref p) (upd H p (.lst (cutV xs lo hi)))) ∨
  (SqT K H a xs ∧ ¬ (HT.sIx xs.length 0 lo = 0 ∧ HT.sIx xs.length xs.length hi = xs.length) ∧ ∀ p, H p = none → Q (.ref p) (upd H p (.tup (cutV xs lo hi)))))
section
variable {X : Cx} {K : PySem.W.Frag}
theorem k_slQ (h : X.K = K) : SlR X (rSlQ K) := by
  subst h
  intro pins s σ H x v vl vu lo hi sl Q I rx hs pl pu h
  obtain ⟨a, xs, rfl, ⟨h1, q⟩ | ⟨h1, h2, q⟩⟩ := h
  · exact sl_list pins s σ H _ v vl vu lo hi sl Q I rx hs pl pu ⟨a, xs, rfl, h1, q⟩
  · exact sl_tup pins s σ H _ v vl vu lo hi sl Q I rx hs pl pu ⟨a, xs, rfl, h1, h2, q⟩
theorem k_slT (h : X.K = K) : SlR X (rSlT K) := h ▸ sl_tup
theorem k_piZA {e e2 : Expr} {ar : TA} {p pos tpos : Pos} {elts : List Expr} {kk : Nat} (h : X.K = K) (hg : Gl X "zip") (hm : X.mg "zip" = none) (ha : PA X [e, e2] ar)
    (hs : starEach [e, e2] X.env = (false, eval e X.env) :: starEach [e2] X.env := by rfl) (hpl : (backTo pos (starEach [e2] X.env)).any (·.1) = false := by rfl) :
    PI X (.Tuple elts kk tpos) (.Call (.Name "zip" p) [e, e2] [] pos) (iZipA K ar) := h ▸ pi_zipA hg hm ha hs hpl
end
theorem r_iZipA {K : PySem.W.Frag} {ar : TA} {σ : L2.St} {H : Hp} {R : It → Hp → Prop} (h : ar σ H fun vs H1 => ∃ a b xs ys, vs = [.ref a, .ref b] ∧ ((SqL K H1 a xs ∧ SqL K H1 b ys ∧ R (Itz K a b) H1) ∨ (SqT K H1 a xs ∧ SqT K H1 b ys ∧ R (ItzT K a b) H1))) : iZipA K ar σ H R := h
theorem walk_zipT {K : PySem.W.Frag} {a b : Addr} {xs ys : List V} {n : Nat} (hn : n = min xs.length ys.length) : Walk (ItzT K a b) n (fun H => SqT K H a xs ∧ SqT K H b ys) (YPair (fun i => xs[i]?) (fun i => ys[i]?)) := by
  subst hn
  refine ⟨fun i _ hi q => ?_, fun _ q => ⟨xs, ys, q.1, q.2, by omega⟩, fun i H v H' _ q y => ?_⟩
  · have h1 : i < xs.length := by omega
    have h2 : i < ys.length := by omega
    exact ⟨xs, ys, xs[i], ys[i], q.1, q.2, by simp [h1], by simp [h2]⟩
  · obtain ⟨T, x, z, h1, h2, h3, h4, h5⟩ := y
    exact ⟨T, x, z, h1, h2, h3, h4 xs q.1, h5 ys q.2⟩
/-! ### sums -/
theorem rowOf_succ (n : Nat) (f : Int → Int) : rowOf (n + 1) f = rowOf n f ++ [f (n : Int)] := by
  unfold rowOf
  rw [List.range_succ, List.map_append]
  rfl
/-- 0, the first, the first two .. -/
def sumsR (s : List Int) : List Int := rowOf (s.length + 1) fun k => (s.take k.toNat).sum
theorem sumsR_length (s : List Int) : (sumsR s).length = s.length + 1 := rowOf_length _ _
theorem take_sum {s : List Int} {j : Nat} (h : j < s.length) : (s.take (j + 1)).sum = (s.take j).sum + s.getD j 0 := by
  rw [List.take_succ, List.sum_append, List.getElem?_eq_getElem h, List.getD_eq_getElem?_getD, List.getElem?_eq_getElem h]
  simp
theorem sumsR_getD {s : List Int} {j : Nat} (h : j ≤ s.length) : (sumsR s).getD j 0 = (s.take j).sum := by
  unfold sumsR
  rw [rowOf_getD _ (by omega)]
  rfl
theorem take_row {n : Nat} {f : Int → Int} : ∀ {k : Nat}, k ≤ n → (rowOf n f).take k = rowOf k f := fun {k} h => by
  unfold rowOf
  rw [← List.map_take, List.take_range, Nat.min_eq_left h]
theorem sumsR_row (n : Nat) (f : Int → Int) : sumsR (rowOf n f) = rowOf (n + 1) fun k => Sg k.toNat f := by
  unfold sumsR
  rw [rowOf_length]
  refine rowOf_congr fun i h0 h1 => ?_
  show ((rowOf n f).take i.toNat).sum = Sg i.toNat f
  rw [take_row (by omega), sum_row]
/-- what lies between -/
def diffR (t : List Int) : List Int := rowOf (t.length - 1) fun i => t.getD (i.toNat + 1) 0 - t.getD i.toNat 0
theorem diffR_length (t : List Int) : (diffR t).length = t.length - 1 := rowOf_length _ _
theorem diff_sums (s : List Int) : diffR (sumsR s) = s := by
  unfold diffR
  rw [sumsR_length, Nat.add_sub_cancel]
  refine (row_ext _ rfl fun j hj => ?_).symm
  show s.getD j 0 = (sumsR s).getD (j + 1) 0 - (sumsR s).getD j 0
  rw [sumsR_getD (by omega), sumsR_getD (by omega), take_sum hj]
  omega
theorem diffR_row (n : Nat) (f : Int → Int) : diffR (rowOf (n + 1) f) = rowOf n fun i => f (i + 1) - f i := by
  unfold diffR
  rw [rowOf_length, Nat.add_sub_cancel]
  refine rowOf_congr fun i h0 h1 => ?_
  show (rowOf (n + 1) f).getD (i.toNat + 1) 0 - (rowOf (n + 1) f).getD i.toNat 0 = f (i + 1) - f i
  rw [rowOf_getD _ (by omega), rowOf_getD _ (by omega), show ((i.toNat + 1 : Nat) : Int) = i + 1 by omega, show ((i.toNat : Nat) : Int) = i by omega]
theorem Sg_succ (n : Nat) (f : Int → Int) : Sg (n + 1) f = Sg n f + f (n : Int) := rfl
theorem Sg_diff (n : Nat) (f : Int → Int) : Sg n (fun i => f (i + 1) - f i) = f (n : Int) - f 0 := by
  induction n with
  | zero => show (0 : Int) = f 0 - f 0; omega
  | succ n ih =>
    rw [Sg_succ, ih]
    show f n - f 0 + (f ((n : Int) + 1) - f n) = f ((n + 1 : Nat) : Int) - f 0
    rw [show ((n + 1 : Nat) : Int) = (n : Int) + 1 by omega]
    omega
/-- the sums of a row of ints that begins with 0 and never falls -/
theorem sums_diff {n : Nat} {f : Int → Int} (h0 : f 0 = 0) : sumsR (diffR (rowOf (n + 1) f)) = rowOf (n + 1) f := by
  rw [diffR_row, sumsR_row]
  refine rowOf_congr fun i i0 i1 => ?_
  show Sg i.toNat (fun i => f (i + 1) - f i) = f i
  rw [Sg_diff, h0, show ((i.toNat : Nat) : Int) = i by omega]
  omega
def okSums (t : List Int) : Bool := decide (2 ≤ t.length) && decide (t.length ≤ 49) && (t.all fun x => decide (0 ≤ x)) && decide (t.getD 0 0 = 0) && ((List.range (t.length - 1)).all fun i => decide (t.getD i 0 ≤ t.getD (i + 1) 0))
theorem Sg_nn {n : Nat} {f : Int → Int} (h : ∀ j : Nat, j < n → 0 ≤ f j) : 0 ≤ Sg n f := by
  induction n with
  | zero => exact Int.le_refl _
  | succ n ih =>
    rw [Sg_succ]
    have := ih fun j hj => h j (by omega)
    have := h n (by omega)
    omega
theorem ok_sumsR {s : List Int} (g : GoodN s) : okSums (sumsR s) = true := by
  have h1 := g.ne
  have h2 := g.le
  obtain ⟨n, hn⟩ : ∃ n, n = s.length := ⟨_, rfl⟩
  obtain ⟨f, hf⟩ : ∃ f, s = rowOf n f := ⟨cyc s, by rw [hn]; exact row_cyc s⟩
  have nn : ∀ j : Nat, j < n → 0 ≤ f j := fun j hj => by
    have := g.mem _ (getD_mem' (s := s) (j := j) (by omega))
    rw [hf, rowOf_getD f hj] at this
    exact this
  unfold okSums
  simp only [Bool.and_eq_true, List.all_eq_true, decide_eq_true_eq, sumsR_length, List.mem_range]
  refine ⟨⟨⟨⟨by omega, by omega⟩, ?_⟩, ?_⟩, ?_⟩
  · intro x hx
    rw [hf, sumsR_row] at hx
    exact row_all (P := fun z => 0 ≤ z) (fun j hj => by
      show 0 ≤ Sg (j : Int).toNat f
      exact Sg_nn fun i hi => nn i (by omega)) x hx
  · rw [sumsR_getD (by omega)]
    rfl
  · intro i hi
    rw [sumsR_getD (by omega), sumsR_getD (by omega), take_sum (by omega)]
    have := g.mem _ (getD_mem' (s := s) (j := i) (by omega))
    omega
theorem good_diff {t : List Int} (h : okSums t = true) : GoodN (diffR t) := by
  unfold okSums at h
  simp only [Bool.and_eq_true, List.all_eq_true, decide_eq_true_eq, List.mem_range] at h
  obtain ⟨⟨⟨⟨h1, h2⟩, h3⟩, h4⟩, h5⟩ := h
  refine GoodN.of (by rw [diffR_length]; omega) (by rw [diffR_length]; omega) ?_
  unfold diffR
  refine row_all (P := fun z => 0 ≤ z) fun j hj => ?_
  show 0 ≤ t.getD ((j : Int).toNat + 1) 0 - t.getD (j : Int).toNat 0
  have := h5 j hj
  rw [Int.toNat_natCast]
  omega
/-! ### one moved -/
def moveF (f : Int → Int) (h g : Int) : Int → Int := fun i => f i - (if i = h then 1 else 0) + (if i = g then 1 else 0)
theorem row_put {n h : Nat} {f : Int → Int} {z : Int} (hh : h < n) : ((rowOf n f).map V.int).set h (.int z) = (rowOf n fun i => if i = (h : Int) then z else f i).map V.int := by
  rw [← List.map_set]
  congr 1
  refine row_ext _ (by rw [List.length_set, rowOf_length]) fun j hj => ?_
  rw [List.getD_eq_getElem?_getD, List.getElem?_set]
  by_cases q : h = j
  · subst q
    rw [if_pos rfl, if_pos (by rw [rowOf_length]; exact hh)]
    show z = if (h : Int) = (h : Int) then z else f h
    rw [if_pos rfl]
  · rw [if_neg q, ← List.getD_eq_getElem?_getD, rowOf_getD f hj]
    show f j = if (j : Int) = (h : Int) then z else f j
    rw [if_neg (by omega)]
theorem ixN_nat {n j : Nat} (h : j < n) : ixN n (j : Int) = some j := by
  unfold ixN
  rw [if_pos (by omega)]
  simp [h]
theorem moved_row {n h g : Nat} {f : Int → Int} : (rowOf n fun i => if i = (g : Int) then (if (g : Int) = (h : Int) then f h - 1 else f g) + 1 else if i = (h : Int) then f h - 1 else f i) = rowOf n (moveF f h g) := by
  refine rowOf_congr fun i _ _ => ?_
  show (if i = (g : Int) then (if (g : Int) = (h : Int) then f h - 1 else f g) + 1 else if i = (h : Int) then f h - 1 else f i) = f i - (if i = (h : Int) then 1 else 0) + (if i = (g : Int) then 1 else 0)
  by_cases q1 : i = (g : Int)
  · by_cases q2 : i = (h : Int)
    · rw [if_pos q1, if_pos (by omega), if_pos q2, if_pos q1, q2]
    · rw [if_pos q1, if_neg (by omega), if_neg q2, if_pos q1, q1]
      omega
  · by_cases q2 : i = (h : Int)
    · rw [if_neg q1, if_pos q2, if_pos q2, if_neg q1, q2]
      omega
    · rw [if_neg q1, if_neg q2, if_neg q2, if_neg q1]
      omega
theorem cut_part {n : Nat} (h : 1 ≤ n) : ¬ (HT.sIx n 0 (some 1) = 0 ∧ HT.sIx n n none = n) := fun z => by
  have e : HT.sIx n 0 (some ((1 : Nat) : Int)) = min 1 n := HT.sIx_nat n 0 1
  have := z.1
  rw [show (some (1 : Int)) = some ((1 : Nat) : Int) from rfl, e] at this
  omega
theorem at_rowI {n : Nat} {f : Int → Int} {i : Int} (h0 : 0 ≤ i) (h1 : i < (n : Int)) : atI ((rowOf n f).map V.int) i = some (.int (f i)) := by
  obtain ⟨j, rfl⟩ : ∃ j : Nat, i = (j : Int) := ⟨i.toNat, by omega⟩
  exact at_row (by omega)
theorem cut_init {xs : List V} (h : 1 ≤ xs.length) : cutV xs none (some (-1)) = xs.take (xs.length - 1) := by
  unfold cutV
  have e : HT.sIx xs.length xs.length (some (-1)) = xs.length - 1 := by
    unfold HT.sIx
    simp only [Option.elim]
    first
      | omega
      | (simp; omega)
  rw [HT.sIx_none, e, List.drop_zero, Nat.sub_zero]
theorem put_last {m : Nat} {f : Int → Int} {z : Int} : ((rowOf (m + 1) f).map V.int).take m ++ [.int z] = (rowOf (m + 1) fun i => if i = (m : Int) then z else f i).map V.int := by
  have e := set_lst (n := m + 1) (h := m) (f := f) (z := z) (by omega)
  rw [← e, List.drop_of_length_le (by rw [List.length_map, rowOf_length]; omega), List.append_nil]
end Hn

/-! Plans by their sums: the lesser, the greater, both. -/
namespace Hn
open PySem PySem.Spec PyProof.Rows L2 Evl
/-- a row by its sums -/
def byS (n : Nat) (A : Int → Int) : List Int := rowOf n fun i => A (i + 1) - A i
theorem byS_length (n : Nat) (A : Int → Int) : (byS n A).length = n := rowOf_length _ _
theorem byS_diff (n : Nat) (A : Int → Int) : diffR (rowOf (n + 1) A) = byS n A := diffR_row n A
theorem sums_byS {n : Nat} {A : Int → Int} (h0 : A 0 = 0) : sumsR (byS n A) = rowOf (n + 1) A := by
  rw [← byS_diff]
  exact sums_diff h0
theorem byS_sum (n : Nat) (A : Int → Int) : (byS n A).sum = A (n : Int) - A 0 := by
  unfold byS
  rw [sum_row, Sg_diff]
theorem row_byS (n : Nat) (f : Int → Int) : rowOf n f = byS n fun k => Sg k.toNat f := by
  refine rowOf_congr fun i h0 _ => ?_
  show f i = Sg (i + 1).toNat f - Sg i.toNat f
  rw [show (i + 1).toNat = i.toNat + 1 by omega, Sg_succ, Int.toNat_of_nonneg h0]
  omega
theorem byS_inj {n : Nat} {A B : Int → Int} (ha : A 0 = 0) (hb : B 0 = 0) : byS n A = byS n B ↔ ∀ k : Nat, k ≤ n → A k = B k := by
  constructor
  · intro e k hk
    have e2 := congrArg sumsR e
    rw [sums_byS ha, sums_byS hb, rowOf_inj] at e2
    exact e2 k (by omega)
  · intro e
    refine rowOf_congr fun i h0 h1 => ?_
    have e1 := e i.toNat (by omega)
    have e2 := e (i.toNat + 1) (by omega)
    rw [show ((i.toNat + 1 : Nat) : Int) = i + 1 by omega] at e2
    rw [show ((i.toNat : Nat) : Int) = i by omega] at e1
    show A (i + 1) - A i = B (i + 1) - B i
    rw [e1, e2]
def mono (n : Nat) (A : Int → Int) : Prop := ∀ j : Nat, j < n → A j ≤ A ((j : Int) + 1)
theorem good_byS {n : Nat} {A : Int → Int} (h1 : 1 ≤ n) (h2 : n ≤ 48) (m : mono n A) : GoodN (byS n A) :=
  GoodN.of (by rw [byS_length]; exact h1) (by rw [byS_length]; exact h2) (row_all (P := fun z => 0 ≤ z) fun j hj => by
    have := m j hj
    show 0 ≤ A ((j : Int) + 1) - A j
    omega)
theorem mono_of {n : Nat} {A : Int → Int} (g : GoodN (byS n A)) : mono n A := fun j hj => by
  have := g.mem _ (getD_mem' (s := byS n A) (j := j) (by rw [byS_length]; exact hj))
  unfold byS at this
  rw [rowOf_getD _ hj] at this
  show A j ≤ A ((j : Int) + 1)
  have h : 0 ≤ A ((j : Int) + 1) - A j := this
  omega
theorem mono_le {n : Nat} {A : Int → Int} (m : mono n A) : ∀ {i j : Nat}, i ≤ j → j ≤ n → A i ≤ A j := fun {i j} h => by
  induction h with
  | refl => intro _; exact Int.le_refl _
  | step h ih =>
    intro hj
    rename_i k
    have h1 := ih (by omega)
    have h2 := m k (by omega)
    rw [show ((k + 1 : Nat) : Int) = (k : Int) + 1 by omega]
    omega
def mnF (A B : Int → Int) : Int → Int := fun k => if B k < A k then B k else A k
def mxF (A B : Int → Int) : Int → Int := fun k => if B k > A k then B k else A k
theorem mn_at {A B : Int → Int} (k : Int) : mnF A B k ≤ A k ∧ mnF A B k ≤ B k ∧ (mnF A B k = A k ∨ mnF A B k = B k) := by
  show (if B k < A k then B k else A k) ≤ A k ∧ (if B k < A k then B k else A k) ≤ B k ∧ ((if B k < A k then B k else A k) = A k ∨ (if B k < A k then B k else A k) = B k)
  split <;> omega
theorem mx_at {A B : Int → Int} (k : Int) : A k ≤ mxF A B k ∧ B k ≤ mxF A B k ∧ (mxF A B k = A k ∨ mxF A B k = B k) := by
  show A k ≤ (if B k > A k then B k else A k) ∧ B k ≤ (if B k > A k then B k else A k) ∧ ((if B k > A k then B k else A k) = A k ∨ (if B k > A k then B k else A k) = B k)
  split <;> omega
theorem mono_mn {n : Nat} {A B : Int → Int} (a : mono n A) (b : mono n B) : mono n (mnF A B) := fun j hj => by
  have := a j hj
  have := b j hj
  have := mn_at (A := A) (B := B) j
  have := mn_at (A := A) (B := B) ((j : Int) + 1)
  omega
theorem mono_mx {n : Nat} {A B : Int → Int} (a : mono n A) (b : mono n B) : mono n (mxF A B) := fun j hj => by
  have := a j hj
  have := b j hj
  have := mx_at (A := A) (B := B) j
  have := mx_at (A := A) (B := B) ((j : Int) + 1)
  omega
/-- a plan of P people, by its sums -/
def Ps (K : PySem.W.Frag) (C : Addr) (H : Hp) (v : V) (n : Nat) (P : Int) (A : Int → Int) : Prop := Rw K C "kept_begins" H v (byS n A) ∧ A 0 = 0 ∧ A (n : Int) = P
section
variable {K : PySem.W.Frag} {C : Addr} {H H' : Hp} {v w : V} {n : Nat} {P : Int} {A B : Int → Int}
theorem mv_ps (h : Ps K C H v n P A) (e : Xl H H') : Ps K C H' v n P A := ⟨h.1.mono e, h.2⟩
theorem Ps.good (h : Ps K C H v n P A) : GoodN (byS n A) := h.1.good
theorem Ps.mono (h : Ps K C H v n P A) : mono n A := mono_of h.1.good
theorem Ps.ne (h : Ps K C H v n P A) : 1 ≤ n := by
  have := h.1.good.ne
  rw [byS_length] at this
  exact this
theorem Ps.le (h : Ps K C H v n P A) : n ≤ 48 := by
  have := h.1.good.le
  rw [byS_length] at this
  exact this
theorem Ps.mn0 (h : Ps K C H v n P A) (h' : Ps K C H w n P B) : mnF A B 0 = 0 ∧ mnF A B (n : Int) = P := by
  have := mn_at (A := A) (B := B) 0
  have := mn_at (A := A) (B := B) n
  have := h.2
  have := h'.2
  omega
theorem Ps.mx0 (h : Ps K C H v n P A) (h' : Ps K C H w n P B) : mxF A B 0 = 0 ∧ mxF A B (n : Int) = P := by
  have := mx_at (A := A) (B := B) 0
  have := mx_at (A := A) (B := B) n
  have := h.2
  have := h'.2
  omega
theorem Ps.people (h : Ps K C H v n P A) : (byS n A).sum = P := by
  rw [byS_sum]
  have := h.2
  omega
end
def leS (n : Nat) (A B : Int → Int) : Bool := (List.range (n + 1)).all fun k => decide (A (k : Int) ≤ B (k : Int))
theorem leS_iff {n : Nat} {A B : Int → Int} : leS n A B = true ↔ ∀ k : Nat, k ≤ n → A k ≤ B k := by
  unfold leS
  rw [List.all_eq_true]
  constructor
  · intro h k hk
    exact of_decide_eq_true (h k (List.mem_range.mpr (by omega)))
  · intro h k hk
    exact decide_eq_true (h k (by have := List.mem_range.mp hk; omega))
theorem at_lastL {α : Type} {xs : List α} {n : Nat} {v : α} (h : xs[n]? = some v) (hl : xs.length = n + 1) : atI xs (-1) = some v := by
  have e : xs = xs.take n ++ [v] := by
    have := List.take_append_drop n xs
    conv => lhs; rw [← this]
    congr 1
    rw [List.drop_eq_getElem_cons (by omega), List.drop_of_length_le (by omega)]
    rw [List.getElem?_eq_getElem (by omega)] at h
    rw [Option.some.inj h]
  rw [e]
  exact atI_last _ _
/-- sums that are drawn and put in order -/
theorem sums_drawn {c : List Int} {P : Int} (hs : c.Pairwise (· ≤ ·)) (hc : ∀ z ∈ c, 0 ≤ z ∧ z ≤ P) (hP : 0 ≤ P) : ∃ A : Int → Int, (0 :: (c ++ [P])) = rowOf (c.length + 2) A ∧ A 0 = 0 ∧ A ((c.length + 1 : Nat) : Int) = P ∧ mono (c.length + 1) A := by
  obtain ⟨L, hL⟩ : ∃ L, L = 0 :: (c ++ [P]) := ⟨_, rfl⟩
  have hl : L.length = c.length + 2 := by rw [hL, List.length_cons, List.length_append]; rfl
  have pw : L.Pairwise (· ≤ ·) := by
    rw [hL, List.pairwise_cons]
    refine ⟨fun z hz => ?_, ?_⟩
    · rcases List.mem_append.mp hz with h | h
      · exact (hc z h).1
      · rw [List.mem_singleton.mp h]; exact hP
    · rw [List.pairwise_append]
      refine ⟨hs, List.pairwise_singleton _ _, fun a ha b hb => ?_⟩
      rw [List.mem_singleton.mp hb]
      exact (hc a ha).2
  refine ⟨fun k => L.getD k.toNat 0, ?_, ?_, ?_, ?_⟩
  · rw [← hL, ← hl]
    exact row_ext _ rfl fun j hj => rfl
  · show L.getD 0 0 = 0
    rw [hL]
    rfl
  · show L.getD (((c.length + 1 : Nat) : Int)).toNat 0 = P
    rw [Int.toNat_natCast, hL, List.getD_cons_succ, List.getD_eq_getElem?_getD, List.getElem?_append_right (Nat.le_refl _), Nat.sub_self]
    rfl
  · intro j hj
    show L.getD (j : Int).toNat 0 ≤ L.getD ((j : Int) + 1).toNat 0
    rw [Int.toNat_natCast, show ((j : Int) + 1).toNat = j + 1 by omega, List.getD_eq_getElem?_getD, List.getD_eq_getElem?_getD, List.getElem?_eq_getElem (by omega), List.getElem?_eq_getElem (by omega)]
    exact List.pairwise_iff_getElem.mp pw j (j + 1) (by omega) (by omega) (by omega)
theorem part_bd {P t p : Int} (hP : 0 ≤ P) (h0 : 0 ≤ t) (h1 : t ≤ p) (hp : 0 < p) : 0 ≤ P * t / p ∧ P * t / p ≤ P := by
  refine ⟨Int.ediv_nonneg (Int.mul_nonneg hP h0) (by omega), ?_⟩
  refine Int.ediv_le_of_le_mul hp ?_
  exact Int.mul_le_mul_of_nonneg_left h1 hP
theorem ps_rw {K : PySem.W.Frag} {C : Addr} {H : Hp} {v : V} {n : Nat} {P : Int} {A : Int → Int} (h : Ps K C H v n P A) : Rw K C "kept_begins" H v (byS n A) := h.1
theorem k_sorted {X : Cx} {K : PySem.W.Frag} (h : X.K = K) : CallR X (.builtin "sorted") (rSorted K) := h ▸ cr_sorted
/-! ### pairs made, pairs gone through with a test -/
section
variable {J : It} {n : Nat} {G : Hp → Prop} {Y : Nat → Hp → V → Hp → Prop}
theorem lc_prsN (w : Walk J n G Y) {g : TG} {te : TE} {vs : List Nat} {σ : L2.St} {H1 : Hp} {Q : VK} (ns ms : List Int) (hl : ns.length = n) (hG : ∀ H, Ex H1 H → G H) (hn : n ≤ 100000)
    (turn : ∀ i x H H', i < n → Ex H1 H → Y i H x H' → ∀ k : VK, (∀ T H4, Ex H H4 → H4 T = some (.tup [.int (ns.getD i 0), .int (ms.getD i 0)]) → k (.ref T) H4) → g x (wipe σ vs) H' fun σ2 H2 => wipe σ2 vs = wipe σ vs ∧ te σ2 H2 k)
    (fin : ∀ D H, H1 D = none → Ex H1 H → Prs H D ns ms → Q (.ref D) H) : LcTail J H1 g tYes te vs σ Q :=
  lc_map w (fun D i v H => ∃ T, v = .ref T ∧ H T = some (.tup [.int (ns.getD i 0), .int (ms.getD i 0)])) (fun _ _ H' e _ _ _ => hG H' e) (fun D i v H H' e ⟨T, h1, h2⟩ => ⟨T, h1, e _ _ h2⟩)
    (fun D i v H xs ys hD ⟨T, h1, h2⟩ => ⟨T, h1, by rw [upd_ne (ne_of h2 hD (fun z => nomatch z))]; exact h2⟩) hn
    (fun D i x H H' hi e hD _ y k h => turn i x H H' hi e y k fun T H4 e4 hT => h _ _ e4 ⟨T, rfl, hT⟩)
    fun D H ys hD e hy hyl hr => by
      have ex : ∃ ts : List Addr, ys = ts.map V.ref := by
        have : ∀ zs : List V, (∀ z ∈ zs, ∃ T, z = V.ref T) → ∃ ts : List Addr, zs = ts.map V.ref := fun zs => by
          induction zs with
          | nil => exact fun _ => ⟨[], rfl⟩
          | cons z zs ih =>
            intro h
            obtain ⟨T, rfl⟩ := h z List.mem_cons_self
            obtain ⟨ts, rfl⟩ := ih fun y hy => h y (List.mem_cons_of_mem _ hy)
            exact ⟨T :: ts, rfl⟩
        refine this ys fun z hz => ?_
        obtain ⟨i, hi, rfl⟩ := List.mem_iff_getElem.mp hz
        obtain ⟨T, hT, _⟩ := hr i _ (List.getElem?_eq_getElem hi)
        exact ⟨T, hT⟩
      obtain ⟨ts, rfl⟩ := ex
      rw [List.length_map] at hyl
      refine fin D H hD e ⟨ts, hy, by omega, fun j t ht => ?_⟩
      obtain ⟨T, hT, h2⟩ := hr j (.ref t) (by rw [List.getElem?_map, ht]; rfl)
      cases hT
      exact h2
end
theorem lc_prsF {K : PySem.W.Frag} {g : TG} {tt : TT} {te : TE} {vs : List Nat} {σ : L2.St} {H1 : Hp} {Q : VK} {p : Addr} {ns ms : List Int} (hP : Prs H1 p ns ms) (t : Nat → Bool) (f : Nat → V) (hn : ns.length ≤ 100000)
    (turn : ∀ i T H, i < ns.length → Ex H1 H → H T = some (.tup [.int (ns.getD i 0), .int (ms.getD i 0)]) → ∀ k : Bool → Hp → Prop, ∀ kk : VK, (∀ H4, t i = true → Ex H H4 → kk (f i) H4) → (∀ H3, t i = false → Ex H H3 → k false H3) →
      g (.ref T) (wipe σ vs) H fun σ2 H2 => wipe σ2 vs = wipe σ vs ∧ tt σ2 H2 fun b H3 => if b = true then te σ2 H3 kk else k false H3)
    (fin : ∀ D H, H1 D = none → Ex H1 H → H D = some (.lst (((List.range ns.length).filter t).map f)) → Q (.ref D) H) : ∃ a, V.ref p = .ref a ∧ (∃ xs, SqL K H1 a xs) ∧ LcTail (Itl K a) H1 g tt te vs σ Q := by
  obtain ⟨ts, h1, h2, h3⟩ := hP
  refine ⟨p, rfl, ⟨_, .inl (.inl h1)⟩, lc_filf (walk_list (xs := ts.map V.ref)) t f (fun H e => .inl (.inl (e _ _ h1))) (by rw [List.length_map]; omega) ?_ ?_⟩
  · rintro i x H H' hi e ⟨rfl, hx⟩ k kk hk hk2
    rw [List.length_map] at hi
    rw [List.getElem?_map] at hx
    cases ht : ts[i]? with
    | none => rw [ht] at hx; cases hx
    | some T =>
      rw [ht] at hx
      obtain rfl := Option.some.inj hx
      exact turn i T _ (by omega) e (e _ _ (h3 i T ht)) k kk hk hk2
  · intro D H hD e hd
    rw [List.length_map, h2] at hd
    exact fin D H hD e hd
/-! ### one moved, its sums -/
theorem Sg_sub {n : Nat} {f g : Int → Int} : Sg n (fun i => f i - g i) = Sg n f - Sg n g := by
  induction n with
  | zero => rfl
  | succ n ih => rw [Sg_succ, Sg_succ, Sg_succ, ih]; omega
theorem Sg_move {n h g : Nat} {f : Int → Int} (hh : h < n) (hg : g < n) : Sg n (moveF f h g) = Sg n f := by
  have e : Sg n (moveF f h g) = Sg n (fun i => f i - (if i = (h : Int) then 1 else 0)) + Sg n (fun i => if i = (g : Int) then 1 else 0) := Sg_add
  rw [e, Sg_sub, Sg_one hh (fun _ => 1), Sg_one hg (fun _ => 1)]
  omega
theorem nn_move {n h g : Nat} {f : Int → Int} (nn : ∀ j : Nat, j < n → 0 ≤ f j) (h0 : 1 ≤ f h) : ∀ j : Nat, j < n → 0 ≤ moveF f h g j := fun j hj => by
  have := nn j hj
  show 0 ≤ f j - (if (j : Int) = (h : Int) then 1 else 0) + (if (j : Int) = (g : Int) then 1 else 0)
  by_cases q1 : (j : Int) = (h : Int)
  · rw [if_pos q1, q1]
    split <;> omega
  · rw [if_neg q1]
    split <;> omega
theorem mono_Sg {n : Nat} {f : Int → Int} (nn : ∀ j : Nat, j < n → 0 ≤ f j) : mono n fun k => Sg k.toNat f := fun j hj => by
  show Sg (j : Int).toNat f ≤ Sg ((j : Int) + 1).toNat f
  rw [Int.toNat_natCast, show ((j : Int) + 1).toNat = j + 1 by omega, Sg_succ]
  have := nn j hj
  omega
theorem step_of {n : Nat} {A : Int → Int} (m : mono n A) (h : A 0 < A (n : Int)) : ∃ j : Nat, j < n ∧ 0 < A ((j : Int) + 1) - A j := by
  induction n with
  | zero => exact absurd h (by show ¬ A 0 < A 0; omega)
  | succ n ih =>
    by_cases q : A 0 < A (n : Int)
    · obtain ⟨j, hj, e⟩ := ih (fun j hj => m j (by omega)) q
      exact ⟨j, by omega, e⟩
    · refine ⟨n, by omega, ?_⟩
      rw [show ((n + 1 : Nat) : Int) = (n : Int) + 1 by omega] at h
      have := mono_le m (i := 0) (j := n) (by omega) (by omega)
      have h0 : ((0 : Nat) : Int) = 0 := rfl
      rw [h0] at this
      omega
theorem fil_nil {n : Nat} {t : Nat → Bool} : ((List.range n).filter t = []) ↔ ∀ i, i < n → t i = false := by
  rw [List.filter_eq_nil_iff]
  constructor
  · intro h i hi
    exact Bool.eq_false_iff.mpr (h i (List.mem_range.mpr hi))
  · intro h i hi
    exact Bool.eq_false_iff.mp (h i (List.mem_range.mp hi))
theorem mn_comm {A B : Int → Int} : mnF B A = mnF A B := funext fun k => by
  show (if A k < B k then A k else B k) = if B k < A k then B k else A k
  split <;> split <;> omega
theorem mx_comm {A B : Int → Int} : mxF B A = mxF A B := funext fun k => by
  show (if A k > B k then A k else B k) = if B k > A k then B k else A k
  split <;> split <;> omega
theorem dep2 (s : List Int) (P : Int) : (PyData.list [PySem.W.Datum.toD s, .int P]).depth ≤ 64 := by
  have h : (PySem.W.Datum.toD s).depth ≤ PySem.W.Datum.depth (List Int) := PySem.W.Datum.depth_le s
  have h2 : PySem.W.Datum.depth (List Int) ≤ 10 := by decide
  simp only [PyData.depth, PyData.depthAll]
  omega
end Hn

/-! Who is there. -/
namespace Hn
open PySem PySem.Spec PyProof.Rows L2 Evl
/-- how many of F are there at h -/
def thF (n : Nat) (s : List Int) (F : Int → Int) (h : Int) : Int := Sg n (fun b => if b < cyc s (h - b) then F (h - b) else 0)
theorem fil_sum (p : Nat → Bool) (f : Int → Int) (n : Nat) : (((List.range n).filter p).map fun (i : Nat) => f (i : Int)).sum = Sg n (fun i => if p i.toNat = true then f i else 0) := by
  induction n with
  | zero => rfl
  | succ n ih =>
    rw [List.range_succ, List.filter_append, List.map_append, List.sum_append, ih, Sg_succ, Int.toNat_natCast]
    congr 1
    by_cases q : p n = true
    · rw [List.filter_cons, if_pos q, if_pos q]
      simp
    · rw [List.filter_cons, if_neg q, if_neg q]
      rfl
theorem sum_rev (l : List Int) : l.reverse.sum = l.sum := by
  induction l with
  | nil => rfl
  | cons x l ih => rw [List.reverse_cons, List.sum_append, ih, List.sum_cons]; simp; omega
theorem serving_sum {s : List Int} (g : Good s) {F : Int → Int} (hF : ∀ i, F (i % (s.length : Int)) = F i) (h : Int) : ((servingOf s h).map F).sum = thF s.length s F h := by
  rw [← serving_filter g h, List.map_reverse, sum_rev, List.map_map]
  have e := fil_sum (fun (b : Nat) => decide ((b : Int) < cyc s (h - (b : Int)))) (fun b => F (h - b)) s.length
  have e2 : (F ∘ fun (b : Nat) => (h - (b : Int)) % (s.length : Int)) = fun (b : Nat) => F (h - (b : Int)) := funext fun b => hF _
  rw [e2, e]
  refine Sg_congr fun i h0 _ => ?_
  rw [show ((i.toNat : Nat) : Int) = i by omega]
  by_cases q : i < cyc s (h - i)
  · rw [if_pos (decide_eq_true q), if_pos q]
  · rw [if_neg (by rw [decide_eq_false q]; decide), if_neg q]
theorem th_congr {n : Nat} {s : List Int} {F G : Int → Int} (h : ∀ i, F i = G i) (t : Int) : thF n s F t = thF n s G t := by
  rw [show F = G from funext h]
theorem th_add {n : Nat} {s : List Int} {F G : Int → Int} (t : Int) : thF n s (fun i => F i + G i) t = thF n s F t + thF n s G t := by
  unfold thF
  rw [← Sg_add]
  refine Sg_congr fun i _ _ => ?_
  show (if i < cyc s (t - i) then F (t - i) + G (t - i) else 0) = (if i < cyc s (t - i) then F (t - i) else 0) + (if i < cyc s (t - i) then G (t - i) else 0)
  split <;> omega
theorem th_sub {n : Nat} {s : List Int} {F G : Int → Int} (t : Int) : thF n s (fun i => F i - G i) t = thF n s F t - thF n s G t := by
  unfold thF
  rw [← Sg_sub]
  refine Sg_congr fun i _ _ => ?_
  show (if i < cyc s (t - i) then F (t - i) - G (t - i) else 0) = (if i < cyc s (t - i) then F (t - i) else 0) - (if i < cyc s (t - i) then G (t - i) else 0)
  split <;> omega
theorem th_nn {n : Nat} {s : List Int} {F : Int → Int} (h : ∀ i, 0 ≤ F i) (t : Int) : 0 ≤ thF n s F t := Sg_nn fun j _ => by
  show 0 ≤ if (j : Int) < cyc s (t - j) then F (t - j) else 0
  split
  · exact h _
  · omega
theorem th_per {s : List Int} {F : Int → Int} (p : ∀ i, F (i + (s.length : Int)) = F i) (t : Int) : thF s.length s F (t + (s.length : Int)) = thF s.length s F t := by
  unfold thF
  refine Sg_congr fun i _ _ => ?_
  rw [show t + (s.length : Int) - i = t - i + (s.length : Int) by omega, cyc_per, p]
theorem th_turn {s : List Int} (hn : 1 ≤ s.length) {F : Int → Int} (c t : Int) : thF s.length (turnS s c) (fun i => F (i + c)) t = thF s.length s F (t + c) := by
  unfold thF
  refine Sg_congr fun i _ _ => ?_
  show (if i < cyc (turnS s c) (t - i) then F (t - i + c) else 0) = _
  rw [cyc_turn hn, show t - i + c = t + c - i by omega]
theorem th_sum {s : List Int} (g : Good s) {F : Int → Int} (p : ∀ i, F (i + (s.length : Int)) = F i) : Sg s.length (thF s.length s F) = Sg s.length (fun i => F i * cyc s i) := by
  unfold thF
  rw [Sg_swap]
  have e : ∀ b : Int, Sg s.length (fun h => if b < cyc s (h - b) then F (h - b) else 0) = Sg s.length (fun i => if b < cyc s i then F i else 0) := fun b => by
    have := Sg_turn (n := s.length) (f := fun i => if b < cyc s i then F i else 0) (fun i => by rw [cyc_per, p]) (-b)
    rw [← this]
    refine Sg_congr fun i _ _ => ?_
    rw [show i + -b = i - b by omega]
  rw [show (fun b => Sg s.length (fun h => if b < cyc s (h - b) then F (h - b) else 0)) = fun b => Sg s.length (fun i => if b < cyc s i then F i else 0) from funext e, Sg_swap]
  refine Sg_congr fun i _ _ => ?_
  have c := cnt_below (n := s.length) (c := cyc s i) (by have := g.lo i; omega) (g.hi i)
  have m := Sg_mul (n := s.length) (F i) (fun b => if b < cyc s i then 1 else 0)
  rw [c] at m
  rw [← m]
  refine Sg_congr fun b _ _ => ?_
  split <;> omega
theorem th_all {n : Nat} {F : Int → Int} (hn : 1 ≤ n) (p : ∀ i, F (i + (n : Int)) = F i) (t : Int) : thF n (List.replicate n (n : Int)) F t = Sg n F := by
  unfold thF
  have e : Sg n (fun b => if b < cyc (List.replicate n (n : Int)) (t - b) then F (t - b) else 0) = Sg n (fun b => F (t - b)) := Sg_congr fun b _ h1 => by
    rw [cyc_rep hn, if_pos h1]
  rw [e]
  have r := Sg_rev (n := n) (fun b => F (t - b))
  rw [← r]
  have q := Sg_turn (n := n) (f := F) p (t - n + 1)
  rw [← q]
  refine Sg_congr fun i _ _ => ?_
  rw [show t - ((n : Int) - 1 - i) = i + (t - n + 1) by omega]
theorem th_one {n : Nat} {F : Int → Int} (hn : 1 ≤ n) (t : Int) : thF n (List.replicate n 1) F t = F t := by
  unfold thF
  obtain ⟨m, rfl⟩ : ∃ m, n = m + 1 := ⟨n - 1, by omega⟩
  rw [Sg_first]
  have e : Sg m (fun i => if i + 1 < cyc (List.replicate (m + 1) 1) (t - (i + 1)) then F (t - (i + 1)) else 0) = Sg m (fun _ => 0) := Sg_congr fun i h0 _ => by
    rw [cyc_rep hn, if_neg (by omega)]
  rw [e, Sg_zero, cyc_rep hn, if_pos (by omega), show t - 0 = t by omega]
  omega
/-- one who begins at h -/
theorem th_delta {s : List Int} (g : Good s) {h : Nat} (hh : h < s.length) (t : Int) : thF s.length s (fun i => if i % (s.length : Int) = (h : Int) then 1 else 0) t = if (t - (h : Int)) % (s.length : Int) < cyc s (h : Int) then 1 else 0 := by
  unfold thF
  have hm := mod_bd g.ne (t - (h : Int))
  obtain ⟨c, hc⟩ : ∃ c : Nat, (t - (h : Int)) % (s.length : Int) = (c : Int) := ⟨((t - (h : Int)) % (s.length : Int)).toNat, (Int.toNat_of_nonneg hm.1).symm⟩
  have e : Sg s.length (fun b => if b < cyc s (t - b) then (if (t - b) % (s.length : Int) = (h : Int) then 1 else 0) else 0) = Sg s.length (fun b => if b = (c : Int) then (if b < cyc s (t - b) then 1 else 0) else 0) := Sg_congr fun b b0 b1 => by
    have iff : (t - b) % (s.length : Int) = (h : Int) ↔ b = (c : Int) := by
      constructor
      · intro q
        rw [← hc, ← q, Int.sub_emod_emod, show t - (t - b) = b by omega, Int.emod_eq_of_lt b0 b1]
      · intro q
        rw [q, ← hc, Int.sub_emod_emod, show t - (t - (h : Int)) = h by omega, Int.emod_eq_of_lt (by omega) (by omega)]
    by_cases q1 : b = (c : Int)
    · rw [if_pos q1, if_pos (iff.mpr q1)]
    · rw [if_neg q1, if_neg (fun z => q1 (iff.mp z))]
      split <;> rfl
  rw [e, Sg_one (by omega) (fun b => if b < cyc s (t - b) then 1 else 0), hc]
  have ec : cyc s (t - (c : Int)) = cyc s (h : Int) := cyc_congr (by rw [← hc, Int.sub_emod_emod, show t - (t - (h : Int)) = h by omega])
  rw [ec]
theorem per_mod {n : Nat} (hn : 1 ≤ n) {F : Int → Int} (p : ∀ i, F (i + (n : Int)) = F i) (i : Int) : F (i % (n : Int)) = F i := by
  have up : ∀ (k : Nat) (x : Int), F (x + (k : Int) * (n : Int)) = F x := fun k => by
    induction k with
    | zero => intro x; simp
    | succ k ih =>
      intro x
      rw [show x + ((k + 1 : Nat) : Int) * (n : Int) = x + (k : Int) * (n : Int) + (n : Int) by rw [show ((k + 1 : Nat) : Int) = (k : Int) + 1 by omega, Int.add_mul]; omega, p, ih]
  have e := Int.emod_add_mul_ediv i (n : Int)
  rcases Int.le_total 0 (i / (n : Int)) with q | q
  · have := up (i / (n : Int)).toNat (i % (n : Int))
    rw [Int.toNat_of_nonneg q, Int.mul_comm, e] at this
    exact this.symm
  · have := up (-(i / (n : Int))).toNat i
    rw [Int.toNat_of_nonneg (by omega)] at this
    rw [← this]
    congr 1
    rw [Int.neg_mul, Int.mul_comm]
    omega
def thR (s t : List Int) : List Int := rowOf s.length (thF s.length s (cyc t))
theorem thR_length (s t : List Int) : (thR s t).length = s.length := rowOf_length _ _
/-- the hours at which there are too few -/
def lackL (n : Nat) (a b : Int → Int) : List Int := ((List.range n).filter fun (h : Nat) => decide (a (h : Int) < b (h : Int))).map fun (h : Nat) => (h : Int)
def enough (n : Nat) (a b : Int → Int) : Bool := (List.range n).all fun (h : Nat) => decide (b (h : Int) ≤ a (h : Int))
theorem enough_iff {n : Nat} {a b : Int → Int} : enough n a b = true ↔ ∀ h : Nat, h < n → b h ≤ a h := by
  unfold enough
  rw [List.all_eq_true]
  exact ⟨fun q h hh => of_decide_eq_true (q h (List.mem_range.mpr hh)), fun q h hh => decide_eq_true (q h (List.mem_range.mp hh))⟩
theorem lack_nil {n : Nat} {a b : Int → Int} : decide (lackL n a b = []) = enough n a b := by
  rw [Bool.eq_iff_iff, decide_eq_true_iff, enough_iff]
  unfold lackL
  rw [List.map_eq_nil_iff, fil_nil]
  constructor
  · intro q h hh
    have := of_decide_eq_false (q h hh)
    omega
  · intro q h hh
    have := q h hh
    exact decide_eq_false (by omega)
theorem mem_lack {n : Nat} {a b : Int → Int} {h : Int} : h ∈ lackL n a b ↔ 0 ≤ h ∧ h < (n : Int) ∧ a h < b h := by
  unfold lackL
  rw [List.mem_map]
  constructor
  · rintro ⟨j, hj, rfl⟩
    obtain ⟨h1, h2⟩ := List.mem_filter.mp hj
    exact ⟨by omega, by have := List.mem_range.mp h1; omega, of_decide_eq_true h2⟩
  · rintro ⟨h0, h1, h2⟩
    refine ⟨h.toNat, List.mem_filter.mpr ⟨List.mem_range.mpr (by omega), ?_⟩, by omega⟩
    rw [Int.toNat_of_nonneg h0]
    exact decide_eq_true h2
/-! ### hour, (x, y) -/
theorem r_pairP {K : PySem.W.Frag} {σ : L2.St} {H : Hp} {T t : Addr} {x y z : V} {n m l : Nat} {q : L2.St → Hp → Prop} (ht : (upd H T (.tup [x, .ref t])) t = some (.tup [y, z])) (h : q (((σ.set n (some x)).set m (some y)).set l (some z)) (upd H T (.tup [x, .ref t]))) :
    gTup K 2 (gCons (gName n) (gCons (gTup K 2 (gCons (gName m) (gCons (gName l) gNil))) gNil)) (.ref T) σ (upd H T (.tup [x, .ref t])) q :=
  ⟨T, [x, .ref t], rfl, .inl (.inl upd_same), rfl, x, [.ref t], rfl, .ref t, [], rfl, t, [y, z], rfl, .inl (.inl ht), rfl, y, [z], rfl, z, [], rfl, rfl, rfl, h⟩
/-- list(zip(a, b)) of ints -/
theorem r_zipI {K : PySem.W.Frag} {H : Hp} {Q : VK} {a b : Addr} {ns ms : List Int} (hA : Sq K H a (ns.map V.int)) (hB : Sq K H b (ms.map V.int)) (hl : ms.length = ns.length) (h1 : 1 ≤ ns.length) (k : ∀ p H', H p = none → Ex H H' → Prs H' p ns ms → Q (.ref p) H') : rListZip K [.ref a, .ref b] H Q := by
  refine ⟨a, b, _, _, rfl, hA, hB, by rw [List.length_map, List.length_map, hl], by rw [List.length_map]; exact h1, fun H' p ts e np nt npt hp tl ht => ?_⟩
  refine k p H' np e ⟨ts, hp, by rw [tl, List.length_map], fun j t hj => ?_⟩
  have hj' : j < ns.length := by
    have := (List.getElem?_eq_some_iff.mp hj).1
    rw [tl, List.length_map] at this
    exact this
  refine ht j t _ _ hj ?_ ?_
  · rw [List.getElem?_map, List.getElem?_eq_getElem hj', List.getD_eq_getElem?_getD, List.getElem?_eq_getElem hj']
    rfl
  · rw [List.getElem?_map, List.getElem?_eq_getElem (by omega), List.getD_eq_getElem?_getD, List.getElem?_eq_getElem (by omega)]
    rfl
theorem fil_ix (l : List Int) (p : Int → Bool) : ((List.range l.length).filter (fun j => p (l.getD j 0))).map (fun j => l.getD j 0) = l.filter p := by
  have e : (List.range l.length).map (fun j => l.getD j 0) = l := by
    have := map_range_int l V.int
    refine List.ext_getElem? fun i => ?_
    rcases Nat.lt_or_ge i l.length with h | h
    · rw [List.getElem?_map, List.getElem?_range h, List.getElem?_eq_getElem h]
      show some (l.getD i 0) = _
      rw [List.getD_eq_getElem?_getD, List.getElem?_eq_getElem h]
      rfl
    · rw [List.getElem?_eq_none (by rw [List.length_map, List.length_range]; exact h), List.getElem?_eq_none h]
  conv => rhs; rw [← e]
  rw [List.filter_map]
  rfl
theorem thR_add {s t1 t2 : List Int} (h1 : t1.length = s.length) (h2 : t2.length = s.length) (hn : 1 ≤ s.length) : thR s (zipR (fun a b => a + b) t1 t2) = rowOf s.length fun h => thF s.length s (cyc t1) h + thF s.length s (cyc t2) h := by
  unfold thR
  refine rowOf_congr fun i _ _ => ?_
  rw [← th_add]
  exact th_congr (fun i => cyc_zipR (by omega) (by omega) i) _
theorem lack_or {n : Nat} {a b c m : Int → Int} (hm : ∀ h : Nat, h < n → (a h < m h ↔ (a h < b h ∨ a h < c h))) : ((List.range n).filter fun (h : Nat) => decide ((h : Int) ∈ lackL n a b ++ lackL n a c)).map (fun (h : Nat) => (h : Int)) = lackL n a m := by
  unfold lackL
  congr 1
  refine List.filter_congr fun h hh => ?_
  have h1 := List.mem_range.mp hh
  refine decide_eq_decide.mpr ?_
  rw [List.mem_append, hm h h1]
  have e1 := mem_lack (n := n) (a := a) (b := b) (h := (h : Int))
  have e2 := mem_lack (n := n) (a := a) (b := c) (h := (h : Int))
  unfold lackL at e1 e2
  rw [e1, e2]
  omega
theorem lack_and {n : Nat} {a b c m : Int → Int} (hm : ∀ h : Nat, h < n → (a h < m h ↔ (a h < b h ∧ a h < c h))) : (lackL n a b).filter (fun h => decide (h ∈ lackL n a c)) = lackL n a m := by
  have e2 : ∀ h : Int, h ∈ lackL n a c ↔ 0 ≤ h ∧ h < (n : Int) ∧ a h < c h := fun h => mem_lack
  rw [show (fun h => decide (h ∈ lackL n a c)) = fun h => decide (0 ≤ h ∧ h < (n : Int) ∧ a h < c h) from funext fun h => decide_eq_decide.mpr (e2 h)]
  unfold lackL
  rw [List.filter_map]
  congr 1
  rw [List.filter_filter]
  refine List.filter_congr fun h hh => ?_
  have h1 := List.mem_range.mp hh
  rw [Bool.eq_iff_iff, Bool.and_eq_true, decide_eq_true_iff, decide_eq_true_iff, hm h h1]
  show decide (0 ≤ (h : Int) ∧ (h : Int) < (n : Int) ∧ a (h : Int) < c (h : Int)) = true ∧ a (h : Int) < b (h : Int) ↔ _
  rw [decide_eq_true_iff]
  omega
theorem cat_nil {n : Nat} {a b c m : Int → Int} (hm : ∀ h : Nat, h < n → (a h < m h ↔ (a h < b h ∨ a h < c h))) : decide (lackL n a b ++ lackL n a c = []) = enough n a m := by
  rw [← lack_nil, ← lack_or hm]
  refine decide_eq_decide.mpr ?_
  rw [List.map_eq_nil_iff, fil_nil]
  constructor
  · intro e i hi
    rw [e]
    exact decide_eq_false (by simp)
  · intro e
    refine List.eq_nil_iff_forall_not_mem.mpr fun x hx => ?_
    have hb : 0 ≤ x ∧ x < (n : Int) := by
      rcases List.mem_append.mp hx with q | q
      · have := mem_lack.mp q; omega
      · have := mem_lack.mp q; omega
    have := of_decide_eq_false (e x.toNat (by omega))
    rw [Int.toNat_of_nonneg hb.1] at this
    exact this hx
theorem good_thR {s t : List Int} (g : Good s) (gt : GoodN t) (hl : t.length = s.length) : GoodN (thR s t) :=
  GoodN.of (by rw [thR_length]; exact g.ne) (by rw [thR_length, ← hl]; exact gt.le) (row_all (P := fun z => 0 ≤ z) fun j _ => th_nn (fun i => gt.nn i) _)
theorem cyc_thR {s t : List Int} {h : Nat} (hh : h < s.length) : cyc (thR s t) (h : Int) = thF s.length s (cyc t) (h : Int) := by
  rw [cyc_at (by rw [thR_length]; exact hh)]
  unfold thR
  rw [rowOf_getD _ hh]
theorem per_cyc {s t : List Int} (hl : t.length = s.length) (i : Int) : cyc t (i + (s.length : Int)) = cyc t i := by rw [← hl]; exact cyc_per t i
theorem thR_turn {s t : List Int} (g : Good s) (hl : t.length = s.length) (c : Int) : thR (turnS s c) (turnS t c) = turnS (thR s t) c := by
  have hn := g.ne
  unfold thR
  rw [turnS_length]
  conv => rhs; unfold turnS
  rw [rowOf_length]
  refine rowOf_congr fun i _ _ => ?_
  rw [cyc_rowOf _ hn]
  have e : thF s.length (turnS s c) (cyc (turnS t c)) i = thF s.length (turnS s c) (fun j => cyc t (j + c)) i := th_congr (fun j => cyc_turn (by omega) c j) _
  rw [e, th_turn hn]
  have per := fun x => th_per (s := s) (F := cyc t) (per_cyc hl) x
  exact (per_mod hn per _).symm
theorem lack_dom {n : Nat} {a : Int → Int} {r1 r2 : List Int} (h1 : 1 ≤ r1.length) (hl : r2.length = r1.length) :
    (∀ h : Nat, h < n → (a h < cyc (zipR (fun a b => if b > a then b else a) r1 r2) h ↔ (a h < cyc r1 h ∨ a h < cyc r2 h))) ∧ (∀ h : Nat, h < n → (a h < cyc (zipR (fun a b => if b < a then b else a) r1 r2) h ↔ (a h < cyc r1 h ∧ a h < cyc r2 h))) := by
  refine ⟨fun h _ => ?_, fun h _ => ?_⟩
  · rw [cyc_zipR h1 hl]
    show a h < (if cyc r2 h > cyc r1 h then cyc r2 h else cyc r1 h) ↔ _
    split <;> omega
  · rw [cyc_zipR h1 hl]
    show a h < (if cyc r2 h < cyc r1 h then cyc r2 h else cyc r1 h) ↔ _
    split <;> omega
theorem sum_turn {t : List Int} (h1 : 1 ≤ t.length) (c : Int) : (turnS t c).sum = t.sum := by
  unfold turnS
  rw [sum_row, Sg_turn (fun i => cyc_per t i), ← sum_cyc]
theorem enough_turn {s t r : List Int} (g : Good s) (hl : t.length = s.length) (hr : r.length = s.length) (c : Int) :
    enough s.length (thF s.length (turnS s c) (cyc (turnS t c))) (cyc (turnS r c)) = enough s.length (thF s.length s (cyc t)) (cyc r) := by
  have hn := g.ne
  have e : ∀ i, thF s.length (turnS s c) (cyc (turnS t c)) i = thF s.length s (cyc t) (i + c) := fun i => by
    rw [← th_turn hn]
    exact th_congr (fun j => cyc_turn (by omega) c j) _
  have per : ∀ i, thF s.length s (cyc t) (i + (s.length : Int)) = thF s.length s (cyc t) i := fun i => th_per (per_cyc hl) i
  have perr : ∀ i, cyc r (i + (s.length : Int)) = cyc r i := per_cyc hr
  rw [Bool.eq_iff_iff, enough_iff, enough_iff]
  constructor
  · intro q h hh
    have hm := mod_bd hn ((h : Int) - c)
    have := q ((((h : Int) - c) % (s.length : Int)).toNat) (by omega)
    rw [Int.toNat_of_nonneg hm.1, e, cyc_turn (by omega)] at this
    have e1 := per_mod hn per (((h : Int) - c) % (s.length : Int) + c)
    have e2 := per_mod hn perr (((h : Int) - c) % (s.length : Int) + c)
    rw [Int.emod_add_emod, show (h : Int) - c + c = h by omega, Int.emod_eq_of_lt (by omega) (by omega)] at e1 e2
    rw [← e1, ← e2] at this
    exact this
  · intro q h hh
    have hm := mod_bd hn ((h : Int) + c)
    have := q ((((h : Int) + c) % (s.length : Int)).toNat) (by omega)
    rw [Int.toNat_of_nonneg hm.1, per_mod hn per, per_mod hn perr] at this
    rw [e, cyc_turn (by omega)]
    exact this
/-- one moved, who is there -/
theorem th_move {s : List Int} (g : Good s) {n h k : Nat} {f : Int → Int} (hn : n = s.length) (hh : h < n) (hk : k < n) (t : Int) : thF s.length s (cyc (rowOf n (moveF f h k))) t = thF s.length s (cyc (rowOf n f)) t - (if (t - (h : Int)) % (s.length : Int) < cyc s (h : Int) then 1 else 0) + (if (t - (k : Int)) % (s.length : Int) < cyc s (k : Int) then 1 else 0) := by
  rw [← th_delta g (by omega : h < s.length), ← th_delta g (by omega : k < s.length), ← th_sub, ← th_add]
  refine th_congr (fun i => ?_) t
  rw [cyc_rowOf _ (by omega), cyc_rowOf _ (by omega), hn]
  rfl
theorem move_back {n h k : Nat} {f : Int → Int} : moveF (moveF f h k) k h = f := funext fun i => by
  show f i - (if i = (h : Int) then 1 else 0) + (if i = (k : Int) then 1 else 0) - (if i = (k : Int) then 1 else 0) + (if i = (h : Int) then 1 else 0) = f i
  omega
theorem thR_all {n : Nat} {t : List Int} (hn : 1 ≤ n) (hl : t.length = n) : thR (List.replicate n (n : Int)) t = List.replicate n t.sum := by
  unfold thR
  rw [List.length_replicate]
  have e : rowOf n (thF n (List.replicate n (n : Int)) (cyc t)) = rowOf n fun _ => t.sum := rowOf_congr fun i _ _ => by
    rw [th_all hn (fun i => by rw [← hl]; exact cyc_per t i), sum_cyc, hl]
  rw [e]
  unfold rowOf
  rw [List.map_const', List.length_range]
theorem thR_one {n : Nat} {t : List Int} (hn : 1 ≤ n) (hl : t.length = n) : thR (List.replicate n 1) t = t := by
  unfold thR
  rw [List.length_replicate]
  have e : rowOf n (thF n (List.replicate n 1) (cyc t)) = rowOf n (cyc t) := rowOf_congr fun i _ _ => th_one hn i
  rw [e, ← hl]
  exact (row_cyc t).symm
theorem two_of {α : Type} {l : List α} (h : l.length = 2) : ∃ a b, l = [a, b] := by
  match l, h with
  | [a, b], _ => exact ⟨a, b, rfl⟩
theorem RowsP.two {H : Hp} {D : Addr} {P : Nat → List V → Prop} (h : RowsP H D 2 P) : ∃ p q xs ys, H D = some (.lst [.ref p, .ref q]) ∧ H p = some (.lst xs) ∧ H q = some (.lst ys) ∧ P 0 xs ∧ P 1 ys := by
  obtain ⟨zs, h1, h2, h3⟩ := h
  obtain ⟨a, b, rfl⟩ := two_of h2
  obtain ⟨p, xs, rfl, hp, px⟩ := h3 0 a rfl
  obtain ⟨q, ys, rfl, hq, py⟩ := h3 1 b rfl
  exact ⟨p, q, xs, ys, h1, hp, hq, px, py⟩
end Hn

/-! Windows by sums: plans that are enough, closed. -/
namespace Hn
open PySem PySem.Spec PyProof.Rows L2 Evl
/-- sums that go on over the days -/
def ext (n : Nat) (P : Int) (A : Int → Int) (k : Int) : Int := A (k % (n : Int)) + k / (n : Int) * P
theorem ext_step {n : Nat} {P : Int} {A : Int → Int} (hn : 1 ≤ n) (h0 : A 0 = 0) (hP : A (n : Int) = P) (i : Int) : cyc (byS n A) i = ext n P A (i + 1) - ext n P A i := by
  unfold byS ext
  rw [cyc_rowOf _ hn]
  show A (i % (n : Int) + 1) - A (i % (n : Int)) = _
  have hm := mod_bd hn i
  have e := Int.emod_add_mul_ediv i (n : Int)
  generalize hq : i / (n : Int) = q at e
  generalize hr : i % (n : Int) = r at e hm
  by_cases c : r + 1 = (n : Int)
  · have e1 : i + 1 = (n : Int) * (q + 1) := by rw [Int.mul_add, Int.mul_one]; omega
    have e2 : (i + 1) % (n : Int) = 0 := by rw [e1]; exact Int.mul_emod_right _ _
    have e3 : (i + 1) / (n : Int) = q + 1 := by rw [e1]; exact Int.mul_ediv_cancel_left _ (by omega)
    rw [e2, e3, h0, c, hP, Int.add_mul, Int.one_mul]
    omega
  · have e1 : i + 1 = r + 1 + (n : Int) * q := by omega
    have e2 : (i + 1) % (n : Int) = r + 1 := by rw [e1, Int.add_mul_emod_self_left, Int.emod_eq_of_lt (by omega) (by omega)]
    have e3 : (i + 1) / (n : Int) = q := by rw [e1, Int.add_mul_ediv_left _ _ (by omega), Int.ediv_eq_zero_of_lt (by omega) (by omega)]; omega
    rw [e2, e3]
    omega
theorem Sg_cut {n : Nat} {f : Int → Int} : ∀ {w : Nat}, w ≤ n → Sg n (fun b => if b < (w : Int) then f b else 0) = Sg w f := by
  induction n with
  | zero => intro w h; obtain rfl : w = 0 := by omega
            rfl
  | succ n ih =>
    intro w h
    rw [Sg_succ]
    by_cases q : w = n + 1
    · subst q
      rw [if_pos (by omega), Sg_succ]
      congr 1
      exact Sg_congr fun i _ h1 => if_pos (by omega)
    · rw [ih (by omega), if_neg (by omega)]
      omega
theorem th_win {s : List Int} (g : Good s) {P : Int} {A : Int → Int} (h0 : A 0 = 0) (hP : A (s.length : Int) = P) (h : Int) : thF s.length s (cyc (byS s.length A)) h = ext s.length P A (h + 1) - ext s.length P A (h + 1 - wd s h) := by
  have hw0 := wd_nn (s := s) h
  have hw1 := wd_le (s := s) h
  obtain ⟨w, hw⟩ : ∃ w : Nat, wd s h = (w : Int) := ⟨(wd s h).toNat, (Int.toNat_of_nonneg hw0).symm⟩
  unfold thF
  have e : Sg s.length (fun b => if b < cyc s (h - b) then cyc (byS s.length A) (h - b) else 0) = Sg s.length (fun b => if b < (w : Int) then cyc (byS s.length A) (h - b) else 0) := Sg_congr fun b b0 b1 => by
    have := wd_iff g h (b := b.toNat) (by omega)
    rw [show ((b.toNat : Nat) : Int) = b by omega, hw] at this
    by_cases q : b < cyc s (h - b)
    · rw [if_pos q, if_pos (this.mpr q)]
    · rw [if_neg q, if_neg (fun z => q (this.mp z))]
  rw [e, Sg_cut (by omega)]
  have d := Sg_diff w (fun b => -ext s.length P A (h - b + 1))
  have e2 : Sg w (fun b => cyc (byS s.length A) (h - b)) = Sg w (fun i => -ext s.length P A (h - (i + 1) + 1) - -ext s.length P A (h - i + 1)) := Sg_congr fun i _ _ => by
    rw [ext_step g.ne h0 hP, show h - (i + 1) + 1 = h - i by omega]
    omega
  rw [e2, d, hw, show h - 0 + 1 = h + 1 by omega, show h - (w : Int) + 1 = h + 1 - w by omega]
  omega
theorem ext_mn {n : Nat} {P : Int} {A B : Int → Int} (k : Int) : ext n P (mnF A B) k ≤ ext n P A k ∧ ext n P (mnF A B) k ≤ ext n P B k ∧ (ext n P (mnF A B) k = ext n P A k ∨ ext n P (mnF A B) k = ext n P B k) := by
  have := mn_at (A := A) (B := B) (k % (n : Int))
  unfold ext
  omega
theorem ext_mx {n : Nat} {P : Int} {A B : Int → Int} (k : Int) : ext n P A k ≤ ext n P (mxF A B) k ∧ ext n P B k ≤ ext n P (mxF A B) k ∧ (ext n P (mxF A B) k = ext n P A k ∨ ext n P (mxF A B) k = ext n P B k) := by
  have := mx_at (A := A) (B := B) (k % (n : Int))
  unfold ext
  omega
section
variable {s : List Int} {P : Int} {A B : Int → Int} {r : Int → Int}
theorem enough_mn (g : Good s) (a0 : A 0 = 0) (aP : A (s.length : Int) = P) (b0 : B 0 = 0) (bP : B (s.length : Int) = P) (h1 : enough s.length (thF s.length s (cyc (byS s.length A))) r = true) (h2 : enough s.length (thF s.length s (cyc (byS s.length B))) r = true) :
    enough s.length (thF s.length s (cyc (byS s.length (mnF A B)))) r = true := by
  rw [enough_iff] at h1 h2 ⊢
  intro h hh
  have q1 := h1 h hh
  have q2 := h2 h hh
  have m0 := mn_at (A := A) (B := B) 0
  have mn := mn_at (A := A) (B := B) (s.length : Int)
  rw [th_win g a0 aP] at q1
  rw [th_win g b0 bP] at q2
  rw [th_win (P := P) g (by omega) (by omega)]
  have x1 := ext_mn (n := s.length) (P := P) (A := A) (B := B) ((h : Int) + 1)
  have x2 := ext_mn (n := s.length) (P := P) (A := A) (B := B) ((h : Int) + 1 - wd s h)
  omega
theorem enough_mx (g : Good s) (a0 : A 0 = 0) (aP : A (s.length : Int) = P) (b0 : B 0 = 0) (bP : B (s.length : Int) = P) (h1 : enough s.length (thF s.length s (cyc (byS s.length A))) r = true) (h2 : enough s.length (thF s.length s (cyc (byS s.length B))) r = true) :
    enough s.length (thF s.length s (cyc (byS s.length (mxF A B)))) r = true := by
  rw [enough_iff] at h1 h2 ⊢
  intro h hh
  have q1 := h1 h hh
  have q2 := h2 h hh
  have m0 := mx_at (A := A) (B := B) 0
  have mn := mx_at (A := A) (B := B) (s.length : Int)
  rw [th_win g a0 aP] at q1
  rw [th_win g b0 bP] at q2
  rw [th_win (P := P) g (by omega) (by omega)]
  have x1 := ext_mx (n := s.length) (P := P) (A := A) (B := B) ((h : Int) + 1)
  have x2 := ext_mx (n := s.length) (P := P) (A := A) (B := B) ((h : Int) + 1 - wd s h)
  omega
end
theorem byS_congr {n : Nat} {A B : Int → Int} (h : ∀ k : Int, A k = B k) : byS n A = byS n B := by rw [show A = B from funext h]
theorem byS_eq {n : Nat} {A B : Int → Int} (h : ∀ k : Nat, k ≤ n → A k = B k) (a : A 0 = 0) (b : B 0 = 0) : byS n A = byS n B := (byS_inj a b).mpr h
theorem zip_byS {n : Nat} {A B : Int → Int} : zipR (fun a b => a + b) (byS n A) (byS n B) = byS n (fun k => A k + B k) := by
  unfold byS
  rw [zipR_row]
  refine rowOf_congr fun i _ _ => ?_
  show A (i + 1) - A i + (B (i + 1) - B i) = A (i + 1) + B (i + 1) - (A i + B i)
  omega
theorem leS_all {n : Nat} {A B : Int → Int} (h : ∀ k : Int, A k ≤ B k) : leS n A B = true := leS_iff.mpr fun k _ => h k
theorem leS_dec {n : Nat} {A B X Y : Int → Int} (hx : X 0 = 0) (hy : Y 0 = 0) (h : ∀ k : Int, A k ≤ B k ↔ X k = Y k) : leS n A B = decide (byS n X = byS n Y) := by
  rw [Bool.eq_iff_iff, leS_iff, decide_eq_true_iff, byS_inj hx hy]
  exact ⟨fun q k hk => (h k).mp (q k hk), fun q k hk => (h k).mpr (q k hk)⟩
/-! ### a list taken apart -/
theorem k_glst {X : Cx} {K : PySem.W.Frag} {es : List Expr} {k : Nat} {t : TGs} {n : Nat} {pos : Pos} (h : X.K = K) (hc : X.calm = true) (hh : PGs X es t)
    (hn : (assignEach es X.env).length = n := by rfl) (hst : (assignEach es X.env).findIdx? (·.1) = none := by rfl) : PG X (.Tuple es k pos) (gLst K n t) := h ▸ pg_lst hc hh hn hst
theorem r_lst3 {K : PySem.W.Frag} {σ : L2.St} {H : Hp} {D : Addr} {x y z : V} {n m l : Nat} {q : L2.St → Hp → Prop} (hD : SqL K H D [x, y, z]) (h : q (((σ.set n (some x)).set m (some y)).set l (some z)) H) : gLst K 3 (gCons (gName n) (gCons (gName m) (gCons (gName l) gNil))) (.ref D) σ H q :=
  ⟨D, [x, y, z], rfl, hD, rfl, x, [y, z], rfl, y, [z], rfl, z, [], rfl, rfl, h⟩
theorem three_of {α : Type} {l : List α} (h : l.length = 3) : ∃ a b c, l = [a, b, c] := by
  match l, h with
  | [a, b, c], _ => exact ⟨a, b, c, rfl⟩
end Hn

/-! Texts: rows shown, joined. -/
namespace Hn
open PySem PySem.Spec PyProof.Rows L2 Evl
/-- the text of an int -/
def txI (i : Int) : Str := Str.ofString (toString i)
/-- a text of at most n signs, each of them small -/
def Sml (x : Str) (n : Nat) : Prop := x.length ≤ n ∧ ∀ c ∈ x.cps.toList, c < 1114112
theorem Sml.mono {x : Str} {n m : Nat} (h : Sml x n) (e : n ≤ m) : Sml x m := ⟨Nat.le_trans h.1 e, h.2⟩
theorem sml_of (s : String) : ∀ c ∈ (Str.ofString s).cps.toList, c < 1114112 := fun c hc => by
  rw [Str.ofString_eq_toList] at hc
  obtain ⟨z, _, rfl⟩ := List.mem_map.mp hc
  have h : z.val.toNat < 0xd800 ∨ (0xdfff < z.val.toNat ∧ z.val.toNat < 0x110000) := z.valid
  show z.val.toNat < 1114112
  omega
theorem sml_str (s : String) {n : Nat} (h : (Str.ofString s).length ≤ n) : Sml (Str.ofString s) n := ⟨h, sml_of s⟩
theorem sml_int {i : Int} (h : i.natAbs < 10 ^ 40) : Sml (txI i) 41 := by
  refine ⟨?_, sml_of _⟩
  unfold txI
  rw [PySem.ofString_length]
  exact int_text_length_le10 (k := 40) (by decide) h
theorem sml_app {x y : Str} {n m : Nat} (a : Sml x n) (b : Sml y m) : Sml (x ++ y) (n + m) := by
  refine ⟨by rw [strLen_append]; exact Nat.add_le_add a.1 b.1, fun c hc => ?_⟩
  have e : (x ++ y).cps.toList = x.cps.toList ++ y.cps.toList := by
    show (x.cps ++ y.cps).toList = _
    exact Array.toList_append
  rw [e] at hc
  rcases List.mem_append.mp hc with h | h
  · exact a.2 c h
  · exact b.2 c h
theorem join_cons (y a : Str) (r : List Str) (h : r ≠ []) : Str.join y (a :: r) = a ++ y ++ Str.join y r := by
  cases r with
  | nil => exact absurd rfl h
  | cons b r => rfl
theorem sml_join {y : Str} {n L : Nat} (hy : Sml y L) : ∀ (ys : List Str), (∀ x ∈ ys, Sml x n) → Sml (Txt.join y ys) (ys.length * (n + L)) := fun ys => by
  rw [TL.join_eq]
  induction ys with
  | nil => exact fun _ => ⟨Nat.zero_le _, fun c hc => by exact absurd hc (List.not_mem_nil)⟩
  | cons a r ih =>
    intro h
    by_cases q : r = []
    · subst q
      refine (h a List.mem_cons_self).mono ?_
      show n ≤ 1 * (n + L)
      omega
    · rw [join_cons _ _ _ q]
      refine (sml_app (sml_app (h a List.mem_cons_self) hy) (ih fun x hx => h x (List.mem_cons_of_mem _ hx))).mono ?_
      rw [List.length_cons, Nat.add_mul, Nat.one_mul]
      omega
theorem sum_len {n : Nat} : ∀ (ys : List Str), (∀ x ∈ ys, Sml x n) → (ys.map (·.length)).sum ≤ ys.length * n
  | [], _ => Nat.zero_le _
  | a :: r, h => by
    have := sum_len r fun x hx => h x (List.mem_cons_of_mem _ hx)
    have := (h a List.mem_cons_self).1
    rw [List.map_cons, List.sum_cons, List.length_cons, Nat.add_mul, Nat.one_mul]
    omega
theorem app_assoc (x y z : Str) : x ++ y ++ z = x ++ (y ++ z) := by
  show (⟨x.cps ++ y.cps ++ z.cps⟩ : Str) = ⟨x.cps ++ (y.cps ++ z.cps)⟩
  rw [Array.append_assoc]
theorem app_nil (x : Str) : x ++ Str.empty = x := Str.append_right_empty rfl
/-- joined by a sign: each behind that sign -/
theorem join_each (y w : Str) : ∀ ys : List Str, Txt.join y (w :: ys) = w ++ Txt.join Str.empty (ys.map fun x => y ++ x) := fun ys => by
  rw [TL.join_eq, TL.join_eq]
  induction ys generalizing w with
  | nil => show w = w ++ Str.empty; rw [app_nil]
  | cons a r ih =>
    rw [join_cons _ _ _ (by simp), ih a]
    cases r with
    | nil =>
      show w ++ y ++ (a ++ Str.empty) = w ++ (y ++ a)
      rw [app_nil, app_assoc]
    | cons b r =>
      show w ++ y ++ (a ++ Str.join Str.empty ((b :: r).map fun x => y ++ x)) = w ++ Str.join Str.empty ((y ++ a) :: ((b :: r).map fun x => y ++ x))
      rw [join_cons (Str.empty) (y ++ a) _ (by simp), app_nil, app_assoc, app_assoc]
/-! ### repr of texts -/
theorem fine_txt {x : Str} {n : Nat} (h : Sml x n) : Fine (.str x) n :=
  ⟨rfl, rfl, by simp only [PyData.leavesShort]; exact List.all_eq_true.mpr fun c hc => decide_eq_true (Nat.lt_of_lt_of_le (h.2 c hc) (by decide)), by simp only [PyData.weight]; exact h.1⟩
theorem dpa_strs {K : PySem.W.Frag} {H : Hp} : ∀ ys : List Str, DpAll K H (ys.map V.str) (ys.map PyData.str)
  | [] => .nil
  | y :: ys => .cons (.str y) (dpa_strs ys)
theorem strs_of {P : Str → Prop} : ∀ {vs : List V}, (∀ v ∈ vs, ∃ z : Str, P z ∧ v = .str z) → ∃ ns : List Str, (∀ z ∈ ns, P z) ∧ vs = ns.map V.str
  | [], _ => ⟨[], fun _ h => (nomatch h), rfl⟩
  | v :: vs, h => by
    obtain ⟨z, hz, rfl⟩ := h v (List.mem_cons_self ..)
    obtain ⟨ns, hns, rfl⟩ := strs_of (vs := vs) fun w hw => h w (List.mem_cons_of_mem _ hw)
    refine ⟨z :: ns, fun y hy => ?_, rfl⟩
    rcases List.mem_cons.mp hy with rfl | hy
    · exact hz
    · exact hns y hy
def rJoin (K : PySem.W.Frag) : V → List V → Hp → VK → Prop := fun x xs H Q => ∃ a p, ∃ ys : List Str, x = .str a ∧ xs = [.ref p] ∧ (SqL K H p (ys.map V.str) ∨ SqT K H p (ys.map V.str)) ∧ (ys.map (·.length)).sum + ys.length * a.length ≤ 16777216 ∧ Q (.str (Txt.join a ys)) H
theorem k_join {X : Cx} {K : PySem.W.Frag} {o e : Expr} {to te : TE} {apos pos : Pos} (h : X.K = K) (ho : PE X o to) (he : PE X e te) (hs : starEach [e] X.env = [(false, eval e X.env)] := by rfl) (hbase : attributeBase o "join" X.env (eval o X.env) = eval o X.env := by rfl) (hline : (apos.endLine == pos.line) = true := by rfl) :
    PE X (.Call (.Attribute o "join" apos) [e] [] pos) (tM1 (rJoin K) to te) := h ▸ pe_join ho he hs hbase hline
theorem r_m1 {r : V → List V → Hp → VK → Prop} {to te : TE} {σ : L2.St} {H : Hp} {Q : VK} (h : to σ H fun x H1 => (∃ a, x = .str a) ∧ te σ H1 fun y H2 => r x [y] H2 Q) : tM1 r to te σ H Q := h
theorem r_isS {a : Str} {p : Prop} (h : p) : (∃ b, V.str a = .str b) ∧ p := ⟨⟨a, rfl⟩, h⟩
theorem r_join {K : PySem.W.Frag} {H : Hp} {Q : VK} {a : Str} {p : Addr} {n : Nat} (ys : List Str) (hp : SqL K H p (ys.map V.str)) (hs : ∀ y ∈ ys, Sml y n) (ha : a.length ≤ 10) (hn : n ≤ 1000) (hl : ys.length ≤ 1000) (q : Q (.str (Txt.join a ys)) H) : rJoin K (.str a) [.ref p] H Q := by
  refine ⟨a, p, ys, rfl, rfl, .inl hp, ?_, q⟩
  have h1 := sum_len ys hs
  have h2 : ys.length * n ≤ 1000 * 1000 := Nat.mul_le_mul hl hn
  have h3 : ys.length * a.length ≤ 1000 * 10 := Nat.mul_le_mul hl ha
  omega
def rStrI : List V → Hp → VK → Prop := fun xs H Q => ∃ i, xs = [.int i] ∧ i.natAbs.log2 < 1920 ∧ Q (.str (txI i)) H
theorem k_strI {X : Cx} : CallR X (.type "str") rStrI := call_str_int
theorem r_strI {H : Hp} {Q : VK} {i : Int} (h : i.natAbs < 10 ^ 40) (q : Q (.str (txI i)) H) : rStrI [.int i] H Q := ⟨i, rfl, by have := log_40 h; omega, q⟩
theorem r_addS {H : Hp} {Q : VK} {a b : Str} (h : a.length + b.length ≤ 100000) (q : Q (.str (a ++ b)) H) : rAddS (.str a) (.str b) H Q := ⟨a, b, rfl, rfl, by have : (100000 : Nat) ≤ sizeLine := (by decide); omega, q⟩
theorem pe_gstr {X : Cx} {x : Str} {i : Str} {pos : Pos} (hg : Gl X x) (hm : ∃ t : Tok, X.mg x = some (.str i t)) (hd : (x == ("__debug__" : Str)) = false := by decide) : PE X (.Name x pos) (tC (.str i)) :=
  let ⟨t, h⟩ := hm
  pe_glob hg h ⟨t, rfl⟩ hd
/-- a row, shown -/
def shw (w : Str) (ns : List Int) : Str := Txt.join (Str.ofString " ") (w :: ns.map txI)
theorem shw_each (w : Str) (ns : List Int) : w ++ Txt.join Str.empty (ns.map fun i => Str.ofString " " ++ txI i) = shw w ns := by
  unfold shw
  rw [join_each, List.map_map]
  rfl
theorem sml_shw {w : Str} {ns : List Int} (hw : Sml w 10) (hn : ns.length ≤ 48) (h : ∀ z ∈ ns, z.natAbs < 10 ^ 40) : Sml (shw w ns) (49 * 42) := by
  refine (sml_join (n := 41) (L := 1) (sml_str " " (by decide)) (w :: ns.map txI) fun x hx => ?_).mono ?_
  · rcases List.mem_cons.mp hx with rfl | hx
    · exact hw.mono (by decide)
    · obtain ⟨z, hz, rfl⟩ := List.mem_map.mp hx
      exact sml_int (h z hz)
  · rw [List.length_cons, List.length_map]
    exact Nat.mul_le_mul (by omega) (Nat.le_refl 42)
/-- steps: words and hours -/
def Wy (H : Hp) (l : Addr) (ws : List (Str × Int)) : Prop := ∃ ts : List Addr, H l = some (.lst (ts.map V.ref)) ∧ ts.length = ws.length ∧ ∀ (j : Nat) t, ts[j]? = some t → ∃ w, ws[j]? = some w ∧ H t = some (.tup [.str w.1, .int w.2])
theorem Wy.ex {H H' : Hp} {l : Addr} {ws : List (Str × Int)} (e : Ex H H') (h : Wy H l ws) : Wy H' l ws :=
  let ⟨ts, h1, h2, h3⟩ := h
  ⟨ts, e _ _ h1, h2, fun j t ht => let ⟨w, a, b⟩ := h3 j t ht; ⟨w, a, e _ _ b⟩⟩
def stpT (w : Str × Int) : Str := w.1 ++ Str.ofString " " ++ txI w.2
def wayT (ws : List (Str × Int)) : Str := Txt.join (Str.ofString ", ") (ws.map stpT)
def Okw (ws : List (Str × Int)) : Prop := ws.length ≤ 60 ∧ ∀ p ∈ ws, Sml p.1 4 ∧ 0 ≤ p.2 ∧ p.2 < 48
theorem sml_stp {w : Str × Int} (h : Sml w.1 4 ∧ 0 ≤ w.2 ∧ w.2 < 48) : Sml (stpT w) 46 := sml_app (sml_app h.1 (sml_str " " (n := 1) (by decide))) (sml_int (by omega))
theorem sml_way {ws : List (Str × Int)} (h : Okw ws) : Sml (wayT ws) (60 * 48) := by
  refine (sml_join (n := 46) (L := 2) (sml_str ", " (by decide)) (ws.map stpT) fun x hx => ?_).mono ?_
  · obtain ⟨z, hz, rfl⟩ := List.mem_map.mp hx
    exact sml_stp (h.2 z hz)
  · rw [List.length_map]
    exact Nat.mul_le_mul h.1 (Nat.le_refl 48)
/-- a comprehension over steps -/
theorem lc_way {K : PySem.W.Frag} {g : TG} {te : TE} {vs : List Nat} {σ : L2.St} {H1 : Hp} {Q : VK} {p : Addr} {ws : List (Str × Int)} (hP : Wy H1 p ws) (f : Str × Int → Str) (hn : ws.length ≤ 1000)
    (turn : ∀ T w H, w ∈ ws → Ex H1 H → H T = some (.tup [.str w.1, .int w.2]) → ∀ k : VK, (∀ H4, Ex H H4 → k (.str (f w)) H4) → g (.ref T) (wipe σ vs) H fun σ2 H2 => wipe σ2 vs = wipe σ vs ∧ te σ2 H2 k)
    (fin : ∀ D H, H1 D = none → Ex H1 H → H D = some (.lst ((ws.map f).map V.str)) → Q (.ref D) H) : ∃ a, V.ref p = .ref a ∧ (∃ xs, SqL K H1 a xs) ∧ LcTail (Itl K a) H1 g tYes te vs σ Q := by
  obtain ⟨ts, h1, h2, h3⟩ := hP
  refine ⟨p, rfl, ⟨_, .inl (.inl h1)⟩, lc_fun (walk_list (xs := ts.map V.ref)) (fun i => .str (f (ws.getD i (Str.empty, 0)))) (fun H e => .inl (.inl (e _ _ h1))) (by rw [List.length_map]; omega) ?_ ?_⟩
  · rintro i x H H' hi e ⟨rfl, hx⟩ k hk
    rw [List.length_map] at hi
    rw [List.getElem?_map, List.getElem?_eq_getElem hi] at hx
    cases hx
    obtain ⟨w, hw, ht⟩ := h3 i _ (List.getElem?_eq_getElem hi)
    rw [List.getD_eq_getElem?_getD, hw] at hk
    exact turn _ w _ (List.mem_of_getElem? hw) e (e _ _ ht) k hk
  · intro D H hD e hd
    refine fin D H hD e ?_
    rw [hd, List.length_map, h2, List.map_map]
    congr 2
    refine List.ext_getElem? fun i => ?_
    rcases Nat.lt_or_ge i ws.length with h | h
    · rw [List.getElem?_map, List.getElem?_map, List.getElem?_range h, List.getElem?_eq_getElem h]
      show some (V.str (f (ws.getD i (Str.empty, 0)))) = some (V.str (f ws[i]))
      rw [List.getD_eq_getElem?_getD, List.getElem?_eq_getElem h]
      rfl
    · rw [List.getElem?_eq_none (by rw [List.length_map, List.length_range]; exact h), List.getElem?_eq_none (by rw [List.length_map]; exact h)]
def wayD (ws : List (Str × Int)) : PyData := .list (ws.map fun w => .tuple [.str w.1, .int w.2])
theorem dp_way {K : PySem.W.Frag} {H : Hp} {l : Addr} {ws : List (Str × Int)} (h : Wy H l ws) : Dp K H (.ref l) (wayD ws) := by
  obtain ⟨ts, h1, h2, h3⟩ := h
  refine .lst (.inl (.inl h1)) ?_
  clear h1
  induction ts generalizing ws with
  | nil =>
    obtain rfl : ws = [] := List.eq_nil_of_length_eq_zero h2.symm
    exact .nil
  | cons t ts ih =>
    match ws, h2 with
    | w :: ws, h2 =>
      obtain ⟨w', e, ht⟩ := h3 0 t rfl
      cases e
      exact .cons (.tup (.inl (.inl ht)) (.cons (.str _) (.cons (.int _) .nil))) (ih (by simpa using h2) fun j t' hj => h3 (j + 1) t' hj)
theorem fine_way {ws : List (Str × Int)} (h : Okw ws) : Fine (wayD ws) (60 * (2 * 201 + 1)) :=
  fine_list (fun d hd => by
    obtain ⟨w, hw, rfl⟩ := List.mem_map.mp hd
    have := h.2 w hw
    exact fine_tuple (n := 2) (w := 200) (fun x hx => by
      simp only [List.mem_cons, List.not_mem_nil, or_false] at hx
      rcases hx with rfl | rfl
      · exact (fine_txt this.1).mono (by decide)
      · exact fine_int (by omega)) (Nat.le_refl 2)) (by rw [List.length_map]; exact h.1)
theorem stay_mem {s : List Int} (g : Good s) {z : Int} (h : z ∈ s) : 1 ≤ z ∧ z ≤ (s.length : Int) := by
  obtain ⟨j, hj, rfl⟩ := List.mem_iff_getElem.mp h
  have e : cyc s (j : Int) = s[j] := by rw [cyc_at hj, List.getD_eq_getElem?_getD, List.getElem?_eq_getElem hj]; rfl
  rw [← e]
  exact ⟨g.lo _, g.hi _⟩
theorem str_nil : Str.ofString "" = Str.empty := by decide +kernel
theorem dep_all {n : Nat} : ∀ {ds : List PyData}, (∀ d ∈ ds, d.depth ≤ n) → PyData.depthAll ds ≤ n
  | [], _ => Nat.zero_le _
  | d :: ds, h => by
    have h1 := h d List.mem_cons_self
    have h2 := dep_all (ds := ds) fun x hx => h x (List.mem_cons_of_mem _ hx)
    simp only [PyData.depthAll]
    omega
theorem dep_way (x y : Int) (ws : List (Str × Int)) : (PyData.list [.tuple [.int x, .int y], wayD ws]).depth ≤ 64 := by
  have h : (wayD ws).depth ≤ 10 := by
    unfold wayD
    simp only [PyData.depth]
    have := dep_all (n := 5) (ds := ws.map fun w => PyData.tuple [.str w.1, .int w.2]) fun d hd => by
      obtain ⟨w, _, rfl⟩ := List.mem_map.mp hd
      simp only [PyData.depth, PyData.depthAll]
      omega
    omega
  simp only [PyData.depth, PyData.depthAll] at h ⊢
  omega
theorem shaped_strs {n : Nat} {ys : List Str} (h : ∀ y ∈ ys, Sml y n) : SeqAt.shaped (.list (ys.map PyData.str)) = true := by
  have h1 : ∀ ys : List Str, (∀ y ∈ ys, Sml y n) → PyData.canLayAll0 (ys.map PyData.str) = true := fun ys => by
    induction ys with
    | nil => exact fun _ => rfl
    | cons y ys ih =>
      intro h
      simp only [List.map_cons, PyData.canLayAll0, Bool.and_eq_true]
      refine ⟨?_, ih fun z hz => h z (List.mem_cons_of_mem _ hz)⟩
      simp only [PyData.canLay0, PyData.strOk]
      rw [Array.all_eq_true]
      intro i hi
      exact decide_eq_true ((h y List.mem_cons_self).2 _ (by rw [Array.mem_toList_iff]; exact Array.getElem_mem hi))
  unfold SeqAt.shaped
  rw [Bool.and_eq_true]
  refine ⟨by simp only [PyData.canLay0]; exact h1 ys h, decide_eq_true ?_⟩
  simp only [PyData.depth]
  have := dep_all (n := 5) (ds := ys.map PyData.str) fun d hd => by
    obtain ⟨w, _, rfl⟩ := List.mem_map.mp hd
    simp only [PyData.depth]
    omega
  omega
end Hn

/-! Lists of drawn integers. -/
namespace Hn
open PySem PySem.Spec PyProof.Rows L2 Evl
section
variable {J : It} {n : Nat} {G : Hp → Prop} {Y : Nat → Hp → V → Hp → Prop}
/-- a comprehension of integers, each of which is as P tells -/
theorem lc_ints (w : Walk J n G Y) {g : TG} {te : TE} {vs : List Nat} {σ : L2.St} {H1 : Hp} {Q : VK} (P : Int → Prop) (hG : ∀ H, Ex H1 H → G H) (hn : n ≤ 100000)
    (turn : ∀ i x H H', i < n → Ex H1 H → Y i H x H' → ∀ k : VK, (∀ z H4, Ex H H4 → P z → k (.int z) H4) → g x (wipe σ vs) H' fun σ2 H2 => wipe σ2 vs = wipe σ vs ∧ te σ2 H2 k)
    (fin : ∀ D H (ns : List Int), H1 D = none → Ex H1 H → H D = some (.lst (ns.map V.int)) → ns.length = n → (∀ z ∈ ns, P z) → Q (.ref D) H) : LcTail J H1 g tYes te vs σ Q :=
  lc_val w (fun _ v => ∃ z : Int, P z ∧ v = .int z) hG hn (fun i x H H' hi e y k h => turn i x H H' hi e y k fun z H4 e4 pz => h _ _ e4 ⟨z, pz, rfl⟩) fun D H ys hD e hy hl hr => by
    obtain ⟨ms, hm, rfl⟩ : ∃ ms : List Int, (∀ z ∈ ms, P z) ∧ ys = ms.map V.int := ints_of fun v hv => by
      obtain ⟨i, hi, rfl⟩ := List.mem_iff_getElem.mp hv
      exact hr i _ (List.getElem?_eq_getElem hi)
    rw [List.length_map] at hl
    exact fin D H ms hD e hy hl hm
end
theorem good_of_mem {s : List Int} {n : Nat} (hl : s.length = n) (h1 : 1 ≤ n) (h8 : n ≤ 48) (h : ∀ z ∈ s, 0 ≤ z ∧ z < 10 ^ 30) : GoodN s :=
  ⟨by omega, by omega, fun i => (h _ (cyc_mem (by omega) i)).1⟩
theorem rep_map {n : Nat} {c : Int} : List.replicate n (V.int c) = (List.replicate n c).map V.int := by rw [List.map_replicate]
theorem rep_flat1 {x : V} : ∀ n : Nat, (List.replicate n [x]).flatten = List.replicate n x
  | 0 => rfl
  | n + 1 => by
    rw [List.replicate_succ, List.flatten_cons, rep_flat1 n, List.replicate_succ]
    rfl
theorem rep_in {n : Nat} {c : Int} {P : Int → Prop} (h : P c) : ∀ z ∈ List.replicate n c, P z := fun z hz => by
  rw [List.eq_of_mem_replicate hz]
  exact h
theorem div_in {z w : Int} (h0 : 0 ≤ z) (h1 : z < 10 ^ 30) (w1 : 1 ≤ w) : 0 ≤ z / w ∧ z / w < 10 ^ 30 := by
  have a := Int.ediv_nonneg h0 (by omega : 0 ≤ w)
  have b := Int.ediv_le_self w h0
  omega
theorem mul_in {a b : Int} (a0 : 0 ≤ a) (a1 : a < 9) (b0 : 0 ≤ b) (b1 : b < 2) : 0 ≤ a * b ∧ a * b < 10 ^ 30 := by
  have c0 := Int.mul_nonneg a0 b0
  have : a * b ≤ a * 2 := Int.mul_le_mul_of_nonneg_left (by omega) a0
  omega
theorem r_trip {K : PySem.W.Frag} {σ : L2.St} {H : Hp} {x y z : V} {T : Addr} {n m l : Nat} {q : L2.St → Hp → Prop} (h : q (((σ.set n (some x)).set m (some y)).set l (some z)) (upd H T (.tup [x, y, z]))) : gTup K 3 (gCons (gName n) (gCons (gName m) (gCons (gName l) gNil))) (.ref T) σ (upd H T (.tup [x, y, z])) q :=
  ⟨T, [x, y, z], rfl, .inl (.inl upd_same), rfl, x, [y, z], rfl, y, [z], rfl, z, [], rfl, rfl, h⟩
theorem r_tup3 {K : PySem.W.Frag} {σ : L2.St} {H : Hp} {x y z : V} {T : Addr} {n m l : Nat} {q : L2.St → Hp → Prop} (hT : SqT K H T [x, y, z]) (h : q (((σ.set n (some x)).set m (some y)).set l (some z)) H) : gTup K 3 (gCons (gName n) (gCons (gName m) (gCons (gName l) gNil))) (.ref T) σ H q :=
  ⟨T, [x, y, z], rfl, hT, rfl, x, [y, z], rfl, y, [z], rfl, z, [], rfl, rfl, h⟩
theorem r_tup5 {K : PySem.W.Frag} {σ : L2.St} {H : Hp} {x1 x2 x3 x4 x5 : V} {T : Addr} {n1 n2 n3 n4 n5 : Nat} {q : L2.St → Hp → Prop} (hT : SqT K H T [x1, x2, x3, x4, x5]) (h : q (((((σ.set n1 (some x1)).set n2 (some x2)).set n3 (some x3)).set n4 (some x4)).set n5 (some x5)) H) :
    gTup K 5 (gCons (gName n1) (gCons (gName n2) (gCons (gName n3) (gCons (gName n4) (gCons (gName n5) gNil))))) (.ref T) σ H q :=
  ⟨T, [x1, x2, x3, x4, x5], rfl, hT, rfl, x1, _, rfl, x2, _, rfl, x3, _, rfl, x4, _, rfl, x5, _, rfl, rfl, h⟩
end Hn

/-! Houses: their fields; C(.., k = v, ..) with all keywords; self.f as one of several targets. -/
namespace Hn
open PySem PySem.Spec PyProof.Rows L2 Evl
section
variable {X : Cx} {K : PySem.W.Frag}
def gFld (K : PySem.W.Frag) (to : TE) (f : Str) : TG := fun v σ H Q => to σ H fun x H1 => ∃ a C dx fs, x = .ref a ∧ H1 a = some (.ins C dx fs) ∧ Cls K C ∧ NoAttr K C f ∧ fs.length < 1000 ∧ Q σ (upd H1 a (.ins C dx (putF f v fs)))
theorem pg_fld {o : Expr} {to : TE} {f : Str} {pos : Pos} (hK : X.K = K) (ho : PE X o to) : PG X (.Attribute o f pos) (gFld K to f) := by
  subst hK
  refine ⟨fun pins s σ H v u Q I r h => ?_⟩
  rw [PySem.assign_Attribute]
  refine wpAny_bind (wpAny_holding (thn (ho.run pins s σ H _ I h) fun ov s1 ⟨x, H1, I1, rx, a, C, dx, fs, ex, ea, c, n, l, q⟩ => ?_))
  subst ex
  cases rx
  refine wpAny_bind (wpAny_standAt (wpAny_bind (wpAny_holding (setattr_ok I1 ea c n l r fun s2 I2 => ?_))))
  exact wpAny_release ⟨σ, _, I2, q⟩
end
/-- all keyword-only parameters are written -/
def DfK (K : PySem.W.Frag) (x qual : Str) (st : Stmt) (f : Addr) (ps : List Str) (n : Nat) (ks : List Str) : Prop := ∃ fd, Fun K x qual st f fd ∧ KBn K fd ps n ks (fun us ws => us ++ ws) (fun vs zs => vs ++ zs)
def OkfK (P : Program) (w : World) (K : PySem.W.Frag) (mg : Str → Option Value) (base : Heap) (k : Nat) (f : Addr) (ps : List Str) (n : Nat) (ks : List Str) (sp : Sp) : Prop :=
  ∃ fd, FnOk P w K mg base (L2.CX P w) k f fd ps sp ∧ KBn K fd ps n ks (fun us ws => us ++ ws) (fun vs zs => vs ++ zs)
section
variable {P : Program} {w : World} {K : PySem.W.Frag} {mg : Str → Option Value} {base : Heap}
theorem okK_of {x qual : Str} {st : Stmt} {f : Addr} {N ps : List Str} {k n : Nat} {ks : List Str} {sp : Sp} (F : DfK K x qual st f ps n ks) (S : FnScope N ps (defScope st)) (len : ∀ vs H Q E, sp vs H Q E → vs.length = ps.length)
    (hbody : ∀ (cdv : Value) (A : Around) (outer : List Env) (s : Shared) (H : Hp) (vs : List V) (Q : VK) (E : XK), Room k (A.deeper (envOfC qual (defScope st) s.heap.objs.size f cdv)) → sp vs H Q E →
      ∃ t, PSs (cxOf CX0 P w K mg base N qual (defScope st) f cdv A outer s H E).nox (defBody st) t ∧ t { nx := fun _ H' => Q .non H', rt := Q } (start N vs) H) : OkfK P w K mg base (k + 1) f ps n ks sp :=
  let ⟨fd, a, b⟩ := F
  ⟨fd, fn_lift (a.ok S len hbody), b⟩
end
section
variable {X : Cx} {k n : Nat} {f C : Addr} {ps ks : List Str} {sp : Sp} {x : Str} {p pos : Pos} {e : Expr} {es : List Expr} {kws : List Keyword} {t tk : TA}
theorem pf_makeK (G : OkfK X.prog X.w X.K X.mg X.base k f ps (n + 1) ks sp) (hr : Room (k + 1) X.A) (M : Mk X.K C f) (hg : Gl X x) (hm : X.mg x = some (.ref C)) (ha : PA X (e :: es) t) (hkw : PK X kws tk)
    (hall : (backToKw pos (keywordEach kws X.env)).all (·.1.isSome) = true := by rfl) (hks : (backToKw pos (keywordEach kws X.env)).filterMap (·.1) = ks := by rfl) (hdb : (x == ("__debug__" : Str)) = false := by decide)
    (he : starEach (e :: es) X.env = (false, eval e X.env) :: starEach es X.env := by rfl) (hpl : ((backTo pos (starEach (e :: es) X.env)).any (·.1) || (backToKw pos (keywordEach kws X.env)).any (·.1.isNone)) = false := by rfl) :
    PE X (.Call (.Name x p) (e :: es) kws pos) (tMakeK C n ks.length sp (fun vs zs => vs ++ zs) E0 t tk) :=
  let ⟨_, a, b⟩ := G
  pe_makeK M a hr hg hm b passL ha hkw hall hks hdb he hpl
end
/-! ### limits -/
def oV : Option Int → V
  | none => .non
  | some i => .int i
/-- a row of limits of n hours -/
def OkO (rs : List (Option Int)) : Prop := ∀ r ∈ rs, ∀ i, r = some i → 0 ≤ i
def OkC (ks : List Int) : Prop := ∀ i ∈ ks, 0 ≤ i
theorem oV_at {rs : List (Option Int)} {i : Nat} {x : V} (h : (rs.map oV)[i]? = some x) : ∃ r, rs[i]? = some r ∧ x = oV r := by
  rw [List.getElem?_map] at h
  cases e : rs[i]? with
  | none => rw [e] at h; cases h
  | some u => rw [e] at h; exact ⟨u, rfl, (Option.some.inj h).symm⟩
/-- the fields of a house -/
def hsF (vc vn : V) (a b c : Addr) : List (Str × V) := [("own_clock", vc), ("own_needs", vn), ("own_rooms", .ref a), ("own_kept", .ref b), ("own_doors", .ref c)]
def HsO (K : PySem.W.Frag) (cC cN C : Addr) (H : Hp) (v : V) (s ns : List Int) (rs : List (Option Int)) (ks : List Int) (ds : List (Option Int)) : Prop :=
  ∃ p dx vc vn a b c, v = .ref p ∧ H p = some (.ins C dx (hsF vc vn a b c)) ∧ Clk K cC H vc s ∧ Rw K cN "kept_row" H vn ns ∧ SqT K H a (rs.map oV) ∧ SqT K H b (ks.map V.int) ∧ SqT K H c (ds.map oV)
/-- what a House's making asks -/
structure GoodH (s ns : List Int) (rs : List (Option Int)) (ks : List Int) (ds : List (Option Int)) : Prop where
  cs : Good s
  cn : GoodN ns
  ln : ns.length = s.length
  lr : rs.length = s.length
  lk : ks.length = s.length
  ld : ds.length = s.length
  cr : OkO rs
  ck : OkC ks
  cd : OkO ds
def spHsInit (K : PySem.W.Frag) (cC cN C : Addr) : Sp := fun vs H Q _ => ∃ (H0 : Hp) (x dx : Addr) (vc vn : V) (a b c : Addr) (s ns : List Int) (rs : List (Option Int)) (ks : List Int) (ds : List (Option Int)),
  vs = [.ref x, vc, vn, .ref a, .ref b, .ref c] ∧ H = upd (upd H0 dx (.own x)) x (.ins C dx []) ∧ H0 x = none ∧ H0 dx = none ∧ dx ≠ x ∧ Clk K cC H0 vc s ∧ Rw K cN "kept_row" H0 vn ns ∧
  Sq K H0 a (rs.map oV) ∧ Sq K H0 b (ks.map V.int) ∧ Sq K H0 c (ds.map oV) ∧ GoodH s ns rs ks ds ∧ ∀ H', Ex H0 H' → HsO K cC cN C H' (.ref x) s ns rs ks ds → Q .non H'
end Hn

/-! Walks along edges, plainly: what is reached, pass by pass; closed walks that gain. -/
namespace Hn
/-- an edge: from mark f to mark l, t days later, of value v; s is its step -/
structure Ed (S : Type) where
  f : Nat
  l : Nat
  t : Int
  v : Int
  s : S
section
variable {S : Type}
def gn (pa pb : Int) (e : Ed S) : Int := pb * e.v - pa * e.t
def upF {α : Type} (g : Nat → α) (i : Nat) (x : α) : Nat → α := fun j => if j = i then x else g j
theorem upF_same {α : Type} {g : Nat → α} {i : Nat} {x : α} : upF g i x i = x := if_pos rfl
theorem upF_ne {α : Type} {g : Nat → α} {i j : Nat} {x : α} (h : j ≠ i) : upF g i x j = g j := if_neg h
/-- what is reached at each mark, by which edge, and the mark bettered last -/
structure Sta (S : Type) where
  r : Nat → Option Int
  c : Nat → Option (Ed S)
  ch : Option Nat
def better (x : Int) : Option Int → Bool
  | none => true
  | some y => decide (x > y)
def relax (pa pb : Int) (q : Sta S) (e : Ed S) : Sta S :=
  match q.r e.f with
  | none => q
  | some x => if better (x + gn pa pb e) (q.r e.l) = true then ⟨upF q.r e.l (some (x + gn pa pb e)), upF q.c e.l (some e), some e.l⟩ else q
def pass (pa pb : Int) (es : List (Ed S)) (r : Nat → Option Int) (c : Nat → Option (Ed S)) : Sta S := es.foldl (relax pa pb) ⟨r, c, none⟩

theorem relax_none {pa pb : Int} {q : Sta S} {e : Ed S} (h : q.r e.f = none) : relax pa pb q e = q := by
  unfold relax
  rw [h]
theorem relax_some {pa pb : Int} {q : Sta S} {e : Ed S} {x : Int} (h : q.r e.f = some x) : relax pa pb q e = if better (x + gn pa pb e) (q.r e.l) = true then ⟨upF q.r e.l (some (x + gn pa pb e)), upF q.c e.l (some e), some e.l⟩ else q := by
  unfold relax
  rw [h]
/-- a mark once changed stays told -/
theorem fold_ch {pa pb : Int} : ∀ (es : List (Ed S)) (q : Sta S), q.ch ≠ none → (es.foldl (relax pa pb) q).ch ≠ none
  | [], q, h => h
  | e :: es, q, h => by
    refine fold_ch es _ ?_
    unfold relax
    split
    · exact h
    · split
      · intro z
        cases z
      · exact h
/-- no change: all stays, and no edge betters -/
theorem fold_none {pa pb : Int} : ∀ (es : List (Ed S)) (q : Sta S), (es.foldl (relax pa pb) q).ch = none → es.foldl (relax pa pb) q = q ∧ ∀ e ∈ es, ∀ x, q.r e.f = some x → better (x + gn pa pb e) (q.r e.l) = false
  | [], q, _ => ⟨rfl, fun e h => nomatch h⟩
  | e :: es, q, h => by
    have hq : (relax pa pb q e).ch = none := by
      cases z : (relax pa pb q e).ch with
      | none => rfl
      | some m => exact absurd h (fold_ch es _ (by rw [z]; intro z; cases z))
    have he : relax pa pb q e = q ∧ ∀ x, q.r e.f = some x → better (x + gn pa pb e) (q.r e.l) = false := by
      cases z : q.r e.f with
      | none => exact ⟨relax_none z, fun x hx => nomatch hx⟩
      | some x =>
        rw [relax_some z] at hq ⊢
        cases zb : better (x + gn pa pb e) (q.r e.l) with
        | true =>
          rw [zb, if_pos rfl] at hq
          cases hq
        | false => exact ⟨if_neg (by intro z; cases z), fun x' hx => by cases hx; exact zb⟩
    rw [List.foldl_cons, he.1] at h ⊢
    obtain ⟨h1, h2⟩ := fold_none es q h
    refine ⟨h1, fun e' he' => ?_⟩
    rcases List.mem_cons.mp he' with rfl | he'
    · exact he.2
    · exact h2 e' he'
end

/-! ### all marks reached -/
section
variable {S : Type}
/-- the mark from which a mark was reached -/
def prd (c : Nat → Option (Ed S)) (m : Nat) : Nat := match c m with
  | some e => e.f
  | none => m
def prdN (c : Nat → Option (Ed S)) : Nat → Nat → Nat
  | 0, m => m
  | k + 1, m => prd c (prdN c k m)
theorem prdN_add (c : Nat → Option (Ed S)) (j : Nat) (m : Nat) : ∀ k, prdN c (k + j) m = prdN c k (prdN c j m)
  | 0 => by rw [Nat.zero_add]; rfl
  | k + 1 => by
    rw [show k + 1 + j = (k + j) + 1 by omega]
    unfold prdN
    rw [prdN_add c j m k]
structure Inv (pa pb : Int) (es : List (Ed S)) (k i now : Nat) (R : Nat → Int) (c : Nat → Option (Ed S)) (tau lp : Nat → Nat) : Prop where
  i1 : ∀ v e, c v = some e → e ∈ es ∧ e.l = v ∧ R v ≤ R e.f + gn pa pb e ∧ (tau v ≤ tau e.f → R v < R e.f + gn pa pb e)
  i2 : ∀ v, 1 ≤ lp v → ∃ e, c v = some e
  i3 : ∀ v e, c v = some e → lp v ≤ lp e.f + 1
  i4 : ∀ e ∈ es, R e.l < R e.f + gn pa pb e → k ≤ lp e.f + 1
  i4' : ∀ e ∈ es.take i, R e.l < R e.f + gn pa pb e → k ≤ lp e.f
  i5 : ∀ v, lp v ≤ k ∧ tau v ≤ now
/-- one more edge -/
theorem Inv.step {pa pb : Int} {es : List (Ed S)} {k i now : Nat} {R : Nat → Int} {c : Nat → Option (Ed S)} {tau lp : Nat → Nat} (I : Inv pa pb es k i now R c tau lp) {e : Ed S} (he : es[i]? = some e) :
    (R e.f + gn pa pb e > R e.l → Inv pa pb es k (i + 1) (now + 1) (upF R e.l (R e.f + gn pa pb e)) (upF c e.l (some e)) (upF tau e.l (now + 1)) (upF lp e.l k)) ∧ (¬ R e.f + gn pa pb e > R e.l → Inv pa pb es k (i + 1) now R c tau lp) := by
  have hm : e ∈ es := List.mem_of_getElem? he
  have ht : es.take (i + 1) = es.take i ++ [e] := by
    rw [List.take_add_one, he]
    rfl
  refine ⟨fun hb => ?_, fun hb => ?_⟩
  · have hl4 := I.i4 e hm (by omega)
    refine ⟨fun v e' hv => ?_, fun v hv => ?_, fun v e' hv => ?_, fun e' he' hv => ?_, fun e' he' hv => ?_, fun v => ?_⟩
    · by_cases q : v = e.l
      · subst q
        rw [upF_same] at hv
        cases hv
        refine ⟨hm, rfl, ?_, ?_⟩
        · rw [upF_same]
          by_cases z : e.f = e.l
          · rw [z, upF_same]
            rw [z] at hb
            omega
          · rw [upF_ne z]
            omega
        · intro hle
          rw [upF_same]
          by_cases z : e.f = e.l
          · rw [z, upF_same]
            rw [z] at hb
            omega
          · rw [upF_same, upF_ne z] at hle
            have := (I.i5 e.f).2
            omega
      · rw [upF_ne q] at hv
        obtain ⟨h1, h2, h3, h4⟩ := I.i1 v e' hv
        refine ⟨h1, h2, ?_, ?_⟩
        · rw [upF_ne q]
          by_cases z : e'.f = e.l
          · rw [z, upF_same]
            rw [z] at h3
            omega
          · rw [upF_ne z]
            exact h3
        · rw [upF_ne q, upF_ne q]
          by_cases z : e'.f = e.l
          · intro _
            rw [z, upF_same]
            rw [z] at h3
            omega
          · rw [upF_ne z, upF_ne z]
            exact h4
    · by_cases q : v = e.l
      · subst q
        exact ⟨e, upF_same⟩
      · rw [upF_ne q] at hv ⊢
        exact I.i2 v hv
    · by_cases q : v = e.l
      · subst q
        rw [upF_same] at hv ⊢
        cases hv
        by_cases z : e.f = e.l
        · rw [z, upF_same]
          omega
        · rw [upF_ne z]
          omega
      · rw [upF_ne q] at hv ⊢
        have h3 := I.i3 v e' hv
        by_cases z : e'.f = e.l
        · rw [z, upF_same]
          have := (I.i5 v).1
          omega
        · rw [upF_ne z]
          exact h3
    · by_cases z : e'.f = e.l
      · rw [z, upF_same]
        omega
      · rw [upF_ne z] at hv ⊢
        refine I.i4 e' he' ?_
        by_cases q : e'.l = e.l
        · rw [q, upF_same] at hv
          rw [q]
          omega
        · rw [upF_ne q] at hv
          exact hv
    · by_cases z : e'.f = e.l
      · rw [z, upF_same]
        omega
      · rw [upF_ne z] at hv ⊢
        rw [ht] at he'
        rcases List.mem_append.mp he' with he' | he'
        · refine I.i4' e' he' ?_
          by_cases q : e'.l = e.l
          · rw [q, upF_same] at hv
            rw [q]
            omega
          · rw [upF_ne q] at hv
            exact hv
        · rw [List.mem_singleton.mp he', upF_same] at hv
          omega
    · by_cases q : v = e.l
      · subst q
        rw [upF_same, upF_same]
        omega
      · rw [upF_ne q, upF_ne q]
        have := I.i5 v
        omega
  · refine ⟨I.i1, I.i2, I.i3, I.i4, fun e' he' hv => ?_, I.i5⟩
    rw [ht] at he'
    rcases List.mem_append.mp he' with he' | he'
    · exact I.i4' e' he' hv
    · rw [List.mem_singleton.mp he'] at hv
      omega
/-- all edges from the i-th one on -/
theorem Inv.fold {pa pb : Int} {es : List (Ed S)} {k : Nat} : ∀ (fs : List (Ed S)) (i now : Nat) (R : Nat → Int) (c : Nat → Option (Ed S)) (tau lp : Nat → Nat) (ch : Option Nat), es.drop i = fs → Inv pa pb es k i now R c tau lp → (∀ m, ch = some m → lp m = k) →
    ∃ now' R' c' tau' lp' ch', fs.foldl (relax pa pb) ⟨fun v => some (R v), c, ch⟩ = ⟨fun v => some (R' v), c', ch'⟩ ∧ Inv pa pb es k es.length now' R' c' tau' lp' ∧ ∀ m, ch' = some m → lp' m = k
  | [], i, now, R, c, tau, lp, ch, hd, I, hc => by
    have hi : es.length ≤ i := List.drop_eq_nil_iff.mp hd
    have : es.take es.length = es.take i := by rw [List.take_of_length_le hi, List.take_length]
    exact ⟨now, R, c, tau, lp, ch, rfl, ⟨I.i1, I.i2, I.i3, I.i4, by rw [this]; exact I.i4', I.i5⟩, hc⟩
  | e :: fs, i, now, R, c, tau, lp, ch, hd, I, hc => by
    have he : es[i]? = some e := by
      have := congrArg (fun l => l[0]?) hd
      simpa using this
    have hd' : es.drop (i + 1) = fs := by
      rw [← List.tail_drop, hd]
      rfl
    have st := I.step he
    rw [List.foldl_cons, relax_some (x := R e.f) rfl]
    by_cases hb : R e.f + gn pa pb e > R e.l
    · rw [if_pos (by show decide _ = true; exact decide_eq_true hb)]
      have hq : (upF (fun v => some (R v)) e.l (some (R e.f + gn pa pb e)) : Nat → Option Int) = fun v => some (upF R e.l (R e.f + gn pa pb e) v) := by
        funext v
        unfold upF
        split <;> rfl
      show ∃ now' R' c' tau' lp' ch', fs.foldl (relax pa pb) ⟨upF (fun v => some (R v)) e.l (some (R e.f + gn pa pb e)), upF c e.l (some e), some e.l⟩ = _ ∧ _
      rw [hq]
      refine Inv.fold fs (i + 1) (now + 1) _ _ _ _ _ hd' (st.1 hb) fun m hm => ?_
      cases hm
      exact upF_same
    · rw [if_neg (by show ¬ decide _ = true; rw [decide_eq_false hb]; intro z; cases z)]
      exact Inv.fold fs (i + 1) now _ _ _ _ _ hd' (st.2 hb) hc
/-- a whole pass -/
theorem Inv.pass {pa pb : Int} {es : List (Ed S)} {k now : Nat} {R : Nat → Int} {c : Nat → Option (Ed S)} {tau lp : Nat → Nat} (I : Inv pa pb es k es.length now R c tau lp) :
    ∃ now' R' c' tau' lp' ch', Hn.pass pa pb es (fun v => some (R v)) c = ⟨fun v => some (R' v), c', ch'⟩ ∧ Inv pa pb es (k + 1) es.length now' R' c' tau' lp' ∧ ∀ m, ch' = some m → lp' m = k + 1 :=
  Inv.fold es 0 now R c tau lp none rfl ⟨I.i1, I.i2, I.i3, fun e he h => by
    have := I.i4' e (by rw [List.take_length]; exact he) h
    omega, (fun e he => nomatch he), fun v => by have := I.i5 v; omega⟩ fun _ h => nomatch h
theorem Inv.start {pa pb : Int} {es : List (Ed S)} : Inv pa pb es 0 es.length 0 (fun _ => 0) (fun _ => none) (fun _ => 0) (fun _ => 0) :=
  ⟨(fun _ _ h => nomatch h), fun _ h => absurd h (by omega), (fun _ _ h => nomatch h), fun _ _ _ => by omega, fun _ _ _ => by omega, fun _ => by omega⟩
/-- a walk along edges from a mark to a mark -/
def Wk : Nat → List (Ed S) → Nat → Prop
  | a, [], b => a = b
  | a, e :: w, b => e.f = a ∧ Wk e.l w b
theorem Wk.append : ∀ {u w : List (Ed S)} {a b c : Nat}, Wk a u b → Wk b w c → Wk a (u ++ w) c
  | [], w, a, b, c, h, h' => by
    have h : a = b := h
    rw [h]
    exact h'
  | e :: u, w, a, b, c, h, h' => ⟨h.1, Wk.append h.2 h'⟩
theorem Wk.tele (X : Nat → Int) : ∀ {w : List (Ed S)} {a b : Nat}, Wk a w b → (w.map fun e => X e.l - X e.f).sum = X b - X a
  | [], a, b, h => by
    have h : a = b := h
    rw [h]
    show (0 : Int) = X b - X b
    omega
  | e :: w, a, b, h => by
    rw [List.map_cons, List.sum_cons, Wk.tele X h.2, h.1]
    omega
def tn (w : List (Ed S)) : Int := (w.map (·.t)).sum
def wo (w : List (Ed S)) : Int := (w.map (·.v)).sum
theorem gn_sum (pa pb : Int) : ∀ w : List (Ed S), (w.map (gn pa pb)).sum = pb * wo w - pa * tn w
  | [] => by
    show (0 : Int) = pb * 0 - pa * 0
    rw [Int.mul_zero, Int.mul_zero]
    rfl
  | e :: w => by
    have := gn_sum pa pb w
    unfold wo tn at *
    rw [List.map_cons, List.sum_cons, this, List.map_cons, List.sum_cons, List.map_cons, List.sum_cons, Int.mul_add, Int.mul_add]
    unfold gn
    omega
/-- at a pace at which no edge gains more than a difference, no closed walk gains -/
theorem pot_sum {pa pb : Int} {X : Nat → Int} : ∀ {w : List (Ed S)} {a b : Nat}, Wk a w b → (∀ e ∈ w, X e.f + gn pa pb e ≤ X e.l) → (w.map (gn pa pb)).sum ≤ X b - X a
  | [], a, b, h, _ => by
    have h : a = b := h
    rw [h]
    show (0 : Int) ≤ X b - X b
    omega
  | e :: w, a, b, h, hp => by
    have h1 := pot_sum h.2 fun e' he' => hp e' (List.mem_cons_of_mem _ he')
    have h2 := hp e List.mem_cons_self
    have h3 := h.1
    rw [List.map_cons, List.sum_cons, ← h3]
    omega
/-- the edges of a closed walk that gains -/
structure Loop (pa pb : Int) (es : List (Ed S)) (n : Nat) (w : List (Ed S)) : Prop where
  ne : w ≠ []
  mem : ∀ e ∈ w, e ∈ es
  len : w.length ≤ n
  wk : ∃ a, Wk a w a
  gain : 0 < (w.map (gn pa pb)).sum
theorem pigeon : ∀ (n : Nat) (g : Nat → Nat), (∀ i, i ≤ n → g i < n) → ∃ i j, i < j ∧ j ≤ n ∧ g i = g j
  | 0, g, h => absurd (h 0 (Nat.le_refl 0)) (Nat.not_lt_zero _)
  | n + 1, g, h => by
    by_cases q : ∃ i, i ≤ n ∧ g i = g (n + 1)
    · obtain ⟨i, hi, e⟩ := q
      exact ⟨i, n + 1, by omega, Nat.le_refl _, e⟩
    · have q' : ∀ i, i ≤ n → g i ≠ g (n + 1) := fun i hi e => q ⟨i, hi, e⟩
      obtain ⟨i, j, h1, h2, h3⟩ := pigeon n (fun i => if g i = n then g (n + 1) else g i) fun i hi => by
        have a := h i (by omega)
        have b := h (n + 1) (Nat.le_refl _)
        have d := q' i hi
        show (if g i = n then g (n + 1) else g i) < n
        split <;> omega
      have a := q' i (by omega)
      have b := q' j (by omega)
      refine ⟨i, j, h1, by omega, ?_⟩
      have h3 : (if g i = n then g (n + 1) else g i) = (if g j = n then g (n + 1) else g j) := h3
      split at h3 <;> split at h3 <;> omega
/-- the edges come again behind n marks -/
structure Ring (c : Nat → Option (Ed S)) (n m : Nat) : Prop where
  al : ∀ i, ∃ e, c (prdN c i m) = some e ∧ prdN c i m < n
  ag : ∃ p, 1 ≤ p ∧ p ≤ n ∧ prdN c (n + p) m = prdN c n m ∧ ∀ q, 1 ≤ q → q < p → prdN c (n + q) m ≠ prdN c n m
theorem least_of {P : Nat → Prop} : ∀ n, P n → ∃ k, k ≤ n ∧ P k ∧ ∀ j, j < k → ¬ P j := by
  intro n
  induction n using Nat.strongRecOn with
  | ind n ih =>
    intro h
    by_cases q : ∃ j, j < n ∧ P j
    · obtain ⟨j, hj, pj⟩ := q
      obtain ⟨k, a, b, d⟩ := ih j hj pj
      exact ⟨k, by omega, b, d⟩
    · exact ⟨n, Nat.le_refl n, h, fun j hj pj => q ⟨j, hj, pj⟩⟩
theorem Inv.ring {pa pb : Int} {es : List (Ed S)} {n now m : Nat} {R : Nat → Int} {c : Nat → Option (Ed S)} {tau lp : Nat → Nat} (I : Inv pa pb es (n + 1) es.length now R c tau lp) (hm : lp m = n + 1) (hes : ∀ e ∈ es, e.f < n ∧ e.l < n) : Ring c n m := by
  have a1 : ∀ i, i ≤ n → n + 1 ≤ lp (prdN c i m) + i := by
    intro i
    induction i with
    | zero => intro _; show n + 1 ≤ lp m + 0; omega
    | succ i ih =>
      intro hi
      have h := ih (by omega)
      obtain ⟨e, he⟩ := I.i2 (prdN c i m) (by omega)
      have h3 := I.i3 _ _ he
      have : prdN c (i + 1) m = e.f := by
        show prd c (prdN c i m) = e.f
        unfold prd
        rw [he]
      rw [this]
      omega
  have a2 : ∀ i, i ≤ n → ∃ e, c (prdN c i m) = some e ∧ prdN c i m < n := fun i hi => by
    have := a1 i hi
    obtain ⟨e, he⟩ := I.i2 (prdN c i m) (by omega)
    obtain ⟨h1, h2, _⟩ := I.i1 _ _ he
    exact ⟨e, he, h2 ▸ (hes e h1).2⟩
  obtain ⟨i, j, h1, h2, h3⟩ := pigeon n (fun i => prdN c i m) fun i hi => by
    obtain ⟨e, _, h⟩ := a2 i hi
    exact h
  have h3 : prdN c i m = prdN c j m := h3
  have per : ∀ a, i ≤ a → prdN c (a + (j - i)) m = prdN c a m := fun a ha => by
    obtain ⟨b, rfl⟩ : ∃ b, a = b + i := ⟨a - i, by omega⟩
    rw [show b + i + (j - i) = b + j by omega, prdN_add, prdN_add, h3]
  have al : ∀ i, ∃ e, c (prdN c i m) = some e ∧ prdN c i m < n := by
    intro k
    induction k using Nat.strongRecOn with
    | ind k ih =>
      by_cases q : k ≤ n
      · exact a2 k q
      · have := per (k - (j - i)) (by omega)
        rw [show k - (j - i) + (j - i) = k by omega] at this
        rw [this]
        exact ih _ (by omega)
  refine ⟨al, ?_⟩
  obtain ⟨k, b1, b2, b3⟩ := least_of (P := fun q => prdN c (n + (q + 1)) m = prdN c n m) (j - i - 1) (by
    show prdN c (n + (j - i - 1 + 1)) m = prdN c n m
    rw [show j - i - 1 + 1 = j - i by omega]
    exact per n (by omega))
  refine ⟨k + 1, by omega, by omega, b2, fun q q1 q2 => ?_⟩
  have := b3 (q - 1) (by omega)
  rw [show n + (q - 1 + 1) = n + q by omega] at this
  exact this
/-- the edges of the ring, the last one first -/
def edAt (d : Ed S) (c : Nat → Option (Ed S)) (m : Nat) : Ed S := (c m).getD d
theorem Inv.loop {pa pb : Int} {es : List (Ed S)} {n now m p : Nat} {R : Nat → Int} {c : Nat → Option (Ed S)} {tau lp : Nat → Nat} {k i : Nat} (I : Inv pa pb es k i now R c tau lp) (al : ∀ i, ∃ e, c (prdN c i m) = some e) (p1 : 1 ≤ p) (pn : p ≤ n) (ag : prdN c p m = m) {w : List (Ed S)}
    (hl : w.length = p) (hw : ∀ i, i < p → w[i]? = c (prdN c i m)) : Loop pa pb es n w.reverse := by
  have stp : ∀ i e, c (prdN c i m) = some e → e.f = prdN c (i + 1) m := fun i e he => by
    show e.f = prd c (prdN c i m)
    unfold prd
    rw [he]
  have g : ∀ k, k ≤ p → (R m - R (prdN c k m) < ((w.take k).map (gn pa pb)).sum) ∨ (R m - R (prdN c k m) ≤ ((w.take k).map (gn pa pb)).sum ∧ (k = 0 ∨ tau (prdN c k m) < tau m)) := by
    intro k
    induction k with
    | zero =>
      intro _
      refine .inr ⟨?_, .inl rfl⟩
      show R m - R m ≤ 0
      omega
    | succ k ih =>
      intro hk
      obtain ⟨e, he⟩ := al k
      have hs := stp k e he
      obtain ⟨_, h2, h3, h4⟩ := I.i1 _ _ he
      have hsum : ((w.take (k + 1)).map (gn pa pb)).sum = ((w.take k).map (gn pa pb)).sum + gn pa pb e := by
        rw [List.take_add_one, hw k (by omega), he]
        simp
      rw [hsum, ← hs]
      rcases ih (by omega) with h | ⟨h, h0⟩
      · left; omega
      · by_cases z : tau (prdN c k m) ≤ tau e.f
        · have := h4 z
          left; omega
        · right
          refine ⟨by omega, .inr ?_⟩
          rcases h0 with rfl | h0
          · have : prdN c 0 m = m := rfl
            rw [this] at z
            omega
          · omega
  have gg := g p (Nat.le_refl p)
  rw [ag, ← hl, List.take_length] at gg
  have key : ∀ i, i < p → ∃ e, w[i]? = some e ∧ e ∈ es ∧ e.l = prdN c i m ∧ e.f = prdN c (i + 1) m := fun i hi => by
    obtain ⟨e, he⟩ := al i
    have := I.i1 _ _ he
    exact ⟨e, by rw [hw i hi, he], this.1, this.2.1, stp i e he⟩
  refine ⟨?_, ?_, ?_, ?_, ?_⟩
  · intro z
    have := congrArg List.length z
    rw [List.length_reverse] at this
    simp at this
    subst this
    simp at hl
    omega
  · intro e he
    rw [List.mem_reverse] at he
    obtain ⟨i, hi, rfl⟩ := List.mem_iff_getElem.mp he
    obtain ⟨e, h1, h2, _⟩ := key i (by omega)
    rw [List.getElem?_eq_getElem hi] at h1
    cases h1
    exact h2
  · rw [List.length_reverse]
    omega
  · have wk : ∀ k, k ≤ p → Wk (prdN c k m) (w.take k).reverse m := by
      intro k
      induction k with
      | zero =>
        intro _
        show m = m
        rfl
      | succ k ih =>
        intro hk
        obtain ⟨e, h1, h2, h3, h4⟩ := key k (by omega)
        rw [List.take_add_one, h1]
        show Wk _ (List.take k w ++ [e]).reverse m
        rw [List.reverse_append]
        refine ⟨h4, ?_⟩
        rw [h3]
        exact ih (by omega)
    have := wk p (Nat.le_refl p)
    rw [ag, ← hl, List.take_length] at this
    exact ⟨m, this⟩
  · rw [List.map_reverse, List.sum_reverse]
    rcases gg with h | ⟨h, h0 | h0⟩
    · omega
    · omega
    · omega
end

/-! ### settled -/
section
variable {S : Type}
theorem fold_keep {pa pb : Int} {I : (Nat → Option Int) → Prop} {es : List (Ed S)} (h : ∀ r e x, e ∈ es → I r → r e.f = some x → better (x + gn pa pb e) (r e.l) = true → I (upF r e.l (some (x + gn pa pb e)))) :
    ∀ (fs : List (Ed S)) (q : Sta S), (∀ e ∈ fs, e ∈ es) → I q.r → I (fs.foldl (relax pa pb) q).r
  | [], q, _, hq => hq
  | e :: fs, q, hm, hq => by
    rw [List.foldl_cons]
    refine fold_keep h fs _ (fun e' he' => hm e' (List.mem_cons_of_mem _ he')) ?_
    cases z : q.r e.f with
    | none => rw [relax_none z]; exact hq
    | some x =>
      rw [relax_some z]
      cases zb : better (x + gn pa pb e) (q.r e.l) with
      | true => exact h q.r e x (hm e List.mem_cons_self) hq z zb
      | false => exact hq
theorem fold_mu {pa pb : Int} {I : (Nat → Option Int) → Prop} {mu : (Nat → Option Int) → Nat} {es : List (Ed S)} (h : ∀ r e x, e ∈ es → I r → r e.f = some x → better (x + gn pa pb e) (r e.l) = true → I (upF r e.l (some (x + gn pa pb e))) ∧ mu (upF r e.l (some (x + gn pa pb e))) < mu r) :
    ∀ (fs : List (Ed S)) (q : Sta S), (∀ e ∈ fs, e ∈ es) → I q.r → mu (fs.foldl (relax pa pb) q).r ≤ mu q.r ∧ (q.ch = none → (fs.foldl (relax pa pb) q).ch ≠ none → mu (fs.foldl (relax pa pb) q).r < mu q.r)
  | [], q, _, hq => ⟨Nat.le_refl _, fun a b => absurd a b⟩
  | e :: fs, q, hm, hq => by
    rw [List.foldl_cons]
    have hm' := fun e' he' => hm e' (List.mem_cons_of_mem _ he')
    cases z : q.r e.f with
    | none => rw [relax_none z]; exact fold_mu h fs q hm' hq
    | some x =>
      rw [relax_some z]
      cases zb : better (x + gn pa pb e) (q.r e.l) with
      | true =>
        rw [if_pos rfl]
        obtain ⟨h1, h2⟩ := h q.r e x (hm e List.mem_cons_self) hq z zb
        have h3 := (fold_mu h fs ⟨upF q.r e.l (some (x + gn pa pb e)), upF q.c e.l (some e), some e.l⟩ hm' h1).1
        exact ⟨Nat.le_of_lt (Nat.lt_of_le_of_lt h3 h2), fun _ _ => Nat.lt_of_le_of_lt h3 h2⟩
      | false =>
        rw [if_neg (by intro z; cases z)]
        exact fold_mu h fs q hm' hq
def sumN : Nat → (Nat → Nat) → Nat
  | 0, _ => 0
  | n + 1, f => sumN n f + f n
theorem sumN_le {f g : Nat → Nat} : ∀ n, (∀ v, v < n → f v ≤ g v) → sumN n f ≤ sumN n g
  | 0, _ => Nat.le_refl _
  | n + 1, h => Nat.add_le_add (sumN_le n fun v hv => h v (by omega)) (h n (by omega))
theorem sumN_lt {f g : Nat → Nat} : ∀ n u, u < n → (∀ v, v < n → f v ≤ g v) → f u < g u → sumN n f < sumN n g
  | 0, u, hu, _, _ => absurd hu (Nat.not_lt_zero _)
  | n + 1, u, hu, h, hl => by
    by_cases q : u = n
    · subst q
      exact Nat.add_lt_add_of_le_of_lt (sumN_le u fun v hv => h v (by omega)) hl
    · exact Nat.add_lt_add_of_lt_of_le (sumN_lt n u (by omega) (fun v hv => h v (by omega)) hl) (h n (by omega))
/-- how many marks are reached -/
def cnt (n : Nat) (r : Nat → Option Int) : Nat := sumN n fun v => if (r v).isSome = true then 1 else 0
theorem cnt_le (n : Nat) (r : Nat → Option Int) : cnt n r ≤ n := by
  have : ∀ n, sumN n (fun v => if (r v).isSome = true then 1 else 0) ≤ n := by
    intro n
    induction n with
    | zero => exact Nat.le_refl _
    | succ n ih =>
      show sumN n _ + (if (r n).isSome = true then 1 else 0) ≤ n + 1
      split <;> omega
  exact this n
/-- what is reached is what some walk gains -/
def Att (pa pb : Int) (es : List (Ed S)) (r0 r : Nat → Option Int) : Prop := ∀ v x, r v = some x → ∃ u x0 w, r0 u = some x0 ∧ Wk u w v ∧ (∀ e ∈ w, e ∈ es) ∧ x = x0 + (w.map (gn pa pb)).sum
def Lo (n : Nat) (G : Int) (r : Nat → Option Int) : Prop := ∀ v x, r v = some x → -((cnt n r : Nat) * G) ≤ x
def Up (X : Nat → Int) (C : Int) (r : Nat → Option Int) : Prop := ∀ v x, r v = some x → x ≤ X v + C
def Ge (r0 r : Nat → Option Int) : Prop := ∀ v x, r0 v = some x → ∃ y, r v = some y ∧ x ≤ y
structure Set0 (pa pb : Int) (es : List (Ed S)) (n : Nat) (X : Nat → Int) (C G : Int) (r0 r : Nat → Option Int) : Prop where
  at_ : Att pa pb es r0 r
  lo : Lo n G r
  up : Up X C r
  ge : Ge r0 r
def mu0 (n : Nat) (X : Nat → Int) (C G : Int) (r : Nat → Option Int) : Nat := sumN n fun v => match r v with
  | none => (X v + C + n * G + 1).toNat
  | some x => (X v + C - x).toNat
theorem Set0.step {pa pb : Int} {es : List (Ed S)} {n : Nat} {X : Nat → Int} {C G : Int} {r0 r : Nat → Option Int} (hX : ∀ e ∈ es, X e.f + gn pa pb e ≤ X e.l) (hn : ∀ e ∈ es, e.l < n) (hG : ∀ e ∈ es, -G ≤ gn pa pb e) (hG0 : 0 ≤ G) {e : Ed S} {x : Int} (he : e ∈ es) (I : Set0 pa pb es n X C G r0 r) (hx : r e.f = some x) (hb : better (x + gn pa pb e) (r e.l) = true) :
    Set0 pa pb es n X C G r0 (upF r e.l (some (x + gn pa pb e))) ∧ mu0 n X C G (upF r e.l (some (x + gn pa pb e))) < mu0 n X C G r := by
  have hXe := hX e he
  have hln := hn e he
  have hGe := hG e he
  have hup := I.up e.f x hx
  have hlo := I.lo e.f x hx
  have hcn : cnt n r ≤ cnt n (upF r e.l (some (x + gn pa pb e))) := sumN_le n fun v _ => by
    show (if (r v).isSome = true then 1 else 0) ≤ (if (upF r e.l (some (x + gn pa pb e)) v).isSome = true then 1 else 0)
    by_cases q : v = e.l
    · rw [q, upF_same]
      show (if (r e.l).isSome = true then 1 else 0) ≤ 1
      split <;> omega
    · rw [upF_ne q]
      exact Nat.le_refl _
  have hlow : -((cnt n (upF r e.l (some (x + gn pa pb e))) : Nat) * G) ≤ x + gn pa pb e ∧ ∀ v y, r v = some y → -((cnt n (upF r e.l (some (x + gn pa pb e))) : Nat) * G) ≤ y := by
    have h2 : ∀ v y, r v = some y → -((cnt n (upF r e.l (some (x + gn pa pb e))) : Nat) * G) ≤ y := fun v y hy => by
      have a := I.lo v y hy
      have b : (cnt n r : Int) * G ≤ (cnt n (upF r e.l (some (x + gn pa pb e))) : Int) * G := Int.mul_le_mul_of_nonneg_right (by omega) hG0
      omega
    refine ⟨?_, h2⟩
    cases z : r e.l with
    | none =>
      have hc1 : cnt n r < cnt n (upF r e.l (some (x + gn pa pb e))) := sumN_lt n e.l hln (fun v _ => by
        show (if (r v).isSome = true then 1 else 0) ≤ (if (upF r e.l (some (x + gn pa pb e)) v).isSome = true then 1 else 0)
        by_cases q : v = e.l
        · rw [q, upF_same]
          show (if (r e.l).isSome = true then 1 else 0) ≤ 1
          split <;> omega
        · rw [upF_ne q]
          exact Nat.le_refl _) (by
        show (if (r e.l).isSome = true then 1 else 0) < (if (upF r e.l (some (x + gn pa pb e)) e.l).isSome = true then 1 else 0)
        rw [upF_same, z]
        show 0 < 1
        omega)
      have b : ((cnt n r : Int) + 1) * G ≤ (cnt n (upF r e.l (some (x + gn pa pb e))) : Int) * G := Int.mul_le_mul_of_nonneg_right (by omega) hG0
      rw [Int.add_mul] at b
      omega
    | some y =>
      rw [z] at hb
      have := h2 e.l y z
      have hb : x + gn pa pb e > y := of_decide_eq_true hb
      omega
  refine ⟨⟨fun v y hy => ?_, fun v y hy => ?_, fun v y hy => ?_, fun v y hy => ?_⟩, ?_⟩
  · by_cases q : v = e.l
    · subst q
      rw [upF_same] at hy
      cases hy
      obtain ⟨u, x0, w, h1, h2, h3, h4⟩ := I.at_ e.f x hx
      refine ⟨u, x0, w ++ [e], h1, h2.append ⟨rfl, rfl⟩, fun e' he' => ?_, ?_⟩
      · rcases List.mem_append.mp he' with q | q
        · exact h3 e' q
        · rw [List.mem_singleton.mp q]; exact he
      · rw [List.map_append, List.sum_append, h4]
        simp
        omega
    · rw [upF_ne q] at hy
      exact I.at_ v y hy
  · by_cases q : v = e.l
    · subst q
      rw [upF_same] at hy
      cases hy
      exact hlow.1
    · rw [upF_ne q] at hy
      exact hlow.2 v y hy
  · by_cases q : v = e.l
    · subst q
      rw [upF_same] at hy
      cases hy
      omega
    · rw [upF_ne q] at hy
      exact I.up v y hy
  · obtain ⟨z, hz, hyz⟩ := I.ge v y hy
    by_cases q : v = e.l
    · subst q
      rw [upF_same]
      refine ⟨_, rfl, ?_⟩
      rw [hz] at hb
      have hb : x + gn pa pb e > z := of_decide_eq_true hb
      omega
    · rw [upF_ne q]
      exact ⟨z, hz, hyz⟩
  · refine sumN_lt n e.l hln (fun v _ => ?_) ?_
    · by_cases q : v = e.l
      · subst q
        rw [upF_same]
        cases z : r e.l with
        | none =>
          have c1 := cnt_le n (upF r e.l (some (x + gn pa pb e)))
          have c2 : ((cnt n (upF r e.l (some (x + gn pa pb e))) : Nat) : Int) * G ≤ (n : Int) * G := Int.mul_le_mul_of_nonneg_right (by omega) hG0
          have c3 := hlow.1
          show (X e.l + C - (x + gn pa pb e)).toNat ≤ (X e.l + C + n * G + 1).toNat
          omega
        | some y =>
          rw [z] at hb
          have hb : x + gn pa pb e > y := of_decide_eq_true hb
          show (X e.l + C - (x + gn pa pb e)).toNat ≤ (X e.l + C - y).toNat
          omega
      · rw [upF_ne q]
        exact Nat.le_refl _
    · show (match upF r e.l (some (x + gn pa pb e)) e.l with | none => (X e.l + C + n * G + 1).toNat | some x => (X e.l + C - x).toNat) < (match r e.l with | none => (X e.l + C + n * G + 1).toNat | some x => (X e.l + C - x).toNat)
      rw [upF_same]
      cases z : r e.l with
      | none =>
        have c1 := cnt_le n (upF r e.l (some (x + gn pa pb e)))
        have c2 : ((cnt n (upF r e.l (some (x + gn pa pb e))) : Nat) : Int) * G ≤ (n : Int) * G := Int.mul_le_mul_of_nonneg_right (by omega) hG0
        have c3 := hlow.1
        show (X e.l + C - (x + gn pa pb e)).toNat < (X e.l + C + n * G + 1).toNat
        omega
      | some y =>
        rw [z] at hb
        have hb : x + gn pa pb e > y := of_decide_eq_true hb
        have := I.up e.l y z
        show (X e.l + C - (x + gn pa pb e)).toNat < (X e.l + C - y).toNat
        omega
/-- a whole pass -/
theorem Set0.pass {pa pb : Int} {es : List (Ed S)} {n : Nat} {X : Nat → Int} {C G : Int} {r0 r : Nat → Option Int} {c : Nat → Option (Ed S)} (hX : ∀ e ∈ es, X e.f + gn pa pb e ≤ X e.l) (hn : ∀ e ∈ es, e.l < n) (hG : ∀ e ∈ es, -G ≤ gn pa pb e) (hG0 : 0 ≤ G) (I : Set0 pa pb es n X C G r0 r) :
    Set0 pa pb es n X C G r0 (Hn.pass pa pb es r c).r ∧ ((Hn.pass pa pb es r c).ch ≠ none → mu0 n X C G (Hn.pass pa pb es r c).r < mu0 n X C G r) :=
  ⟨fold_keep (I := Set0 pa pb es n X C G r0) (fun r e x he I hx hb => (I.step hX hn hG hG0 he hx hb).1) es ⟨r, c, none⟩ (fun _ h => h) I,
   (fold_mu (I := Set0 pa pb es n X C G r0) (mu := mu0 n X C G) (fun r e x he I hx hb => I.step hX hn hG hG0 he hx hb) es ⟨r, c, none⟩ (fun _ h => h) I).2 rfl⟩
/-- no edge leads further -/
def Stab (pa pb : Int) (es : List (Ed S)) (r : Nat → Option Int) : Prop := ∀ e ∈ es, ∀ x, r e.f = some x → ∃ y, r e.l = some y ∧ x + gn pa pb e ≤ y
theorem pass_stab {pa pb : Int} {es : List (Ed S)} {r : Nat → Option Int} {c : Nat → Option (Ed S)} (h : (Hn.pass pa pb es r c).ch = none) : Hn.pass pa pb es r c = ⟨r, c, none⟩ ∧ Stab pa pb es r := by
  obtain ⟨h1, h2⟩ := fold_none es ⟨r, c, none⟩ h
  refine ⟨h1, fun e he x hx => ?_⟩
  have := h2 e he x hx
  cases z : r e.l with
  | none =>
    have this : better (x + gn pa pb e) (r e.l) = false := this
    rw [z] at this
    cases this
  | some y =>
    have this : better (x + gn pa pb e) (r e.l) = false := this
    rw [z] at this
    have := of_decide_eq_false this
    exact ⟨y, rfl, by omega⟩
/-- lower bound of all gains -/
theorem gain_bd (pa pb : Int) : ∀ es : List (Ed S), ∃ G, 0 ≤ G ∧ ∀ e ∈ es, -G ≤ gn pa pb e
  | [] => ⟨0, Int.le_refl 0, fun _ h => nomatch h⟩
  | e :: es => by
    obtain ⟨G, h0, h⟩ := gain_bd pa pb es
    refine ⟨G + (if gn pa pb e < 0 then -gn pa pb e else 0), by split <;> omega, fun e' he' => ?_⟩
    rcases List.mem_cons.mp he' with rfl | he'
    · split <;> omega
    · have := h e' he'
      split <;> omega
end

/-! ### gaining, as a function -/
section
variable {S : Type}
/-- the state behind k passes, each of which betters some mark; none if one doesn't -/
def runs (pa pb : Int) (es : List (Ed S)) : Nat → Option (Sta S)
  | 0 => some ⟨fun _ => some 0, fun _ => none, none⟩
  | k + 1 => match runs pa pb es k with
    | none => none
    | some q => match (pass pa pb es q.r q.c).ch with
      | none => none
      | some _ => some (pass pa pb es q.r q.c)
/-- behind how many edges the mark comes again -/
def per (c : Nat → Option (Ed S)) (n m : Nat) : Nat := (((List.range n).find? fun q => decide (prdN c (n + (q + 1)) m = prdN c n m)).getD 0) + 1
/-- the edges of the closed walk, the last one first -/
def clos (c : Nat → Option (Ed S)) (n m : Nat) : List (Ed S) := (List.range (per c n m)).filterMap fun i => c (prdN c (n + i) m)
def gaining (n : Nat) (es : List (Ed S)) (pa pb : Int) : Option (List (Ed S)) := match runs pa pb es (n + 1) with
  | none => none
  | some q => some (clos q.c n (q.ch.getD 0)).reverse
theorem runs_inv {pa pb : Int} {es : List (Ed S)} : ∀ {k : Nat} {q : Sta S}, runs pa pb es k = some q → ∃ now R tau lp, q.r = (fun v => some (R v)) ∧ Inv pa pb es k es.length now R q.c tau lp ∧ (1 ≤ k → ∃ m, q.ch = some m ∧ lp m = k)
  | 0, q, h => by
    cases h
    exact ⟨0, fun _ => 0, fun _ => 0, fun _ => 0, rfl, Inv.start, fun h => absurd h (by omega)⟩
  | k + 1, q, h => by
    unfold runs at h
    cases z : runs pa pb es k with
    | none => rw [z] at h; cases h
    | some q0 =>
      rw [z] at h
      replace h : (match (pass pa pb es q0.r q0.c).ch with | none => none | some _ => some (pass pa pb es q0.r q0.c)) = some q := h
      obtain ⟨now, R, tau, lp, hr, I, _⟩ := runs_inv z
      obtain ⟨now', R', c', tau', lp', ch', hp, I', hc⟩ := I.pass
      rw [hr, hp] at h
      cases ch' with
      | none => cases h
      | some m =>
        cases h
        exact ⟨now', R', tau', lp', rfl, I', fun _ => ⟨m, rfl, hc m rfl⟩⟩
/-- a run that ends ahead: at the marks reached no edge gains -/
theorem runs_none {pa pb : Int} {es : List (Ed S)} : ∀ {k : Nat}, runs pa pb es k = none → ∃ R : Nat → Int, ∀ e ∈ es, R e.f + gn pa pb e ≤ R e.l
  | 0, h => by cases h
  | k + 1, h => by
    unfold runs at h
    cases z : runs pa pb es k with
    | none => exact runs_none z
    | some q0 =>
      rw [z] at h
      replace h : (match (pass pa pb es q0.r q0.c).ch with | none => none | some _ => some (pass pa pb es q0.r q0.c)) = none := h
      obtain ⟨now, R, tau, lp, hr, I, _⟩ := runs_inv z
      cases zc : (pass pa pb es q0.r q0.c).ch with
      | some m =>
        rw [zc] at h
        cases h
      | none =>
        obtain ⟨_, h2⟩ := pass_stab zc
        refine ⟨R, fun e he => ?_⟩
        obtain ⟨y, h3, h4⟩ := h2 e he (R e.f) (by rw [hr])
        rw [hr] at h3
        cases h3
        exact h4
theorem runs_stop {pa pb : Int} {es : List (Ed S)} {k : Nat} (h : runs pa pb es k = none) : ∀ j, runs pa pb es (k + j) = none
  | 0 => h
  | j + 1 => by
    show (match runs pa pb es (k + j) with | none => none | some q => match (pass pa pb es q.r q.c).ch with | none => none | some _ => some (pass pa pb es q.r q.c)) = none
    rw [runs_stop h j]
theorem runs_next {pa pb : Int} {es : List (Ed S)} {k : Nat} {q : Sta S} (h : runs pa pb es k = some q) : runs pa pb es (k + 1) = match (pass pa pb es q.r q.c).ch with | none => none | some _ => some (pass pa pb es q.r q.c) := by
  show (match runs pa pb es k with | none => none | some q => match (pass pa pb es q.r q.c).ch with | none => none | some _ => some (pass pa pb es q.r q.c)) = _
  rw [h]
theorem gaining_stop {pa pb : Int} {es : List (Ed S)} {n k : Nat} (h : runs pa pb es k = none) (hk : k ≤ n + 1) : gaining n es pa pb = none := by
  have := runs_stop h (n + 1 - k)
  rw [show k + (n + 1 - k) = n + 1 by omega] at this
  unfold gaining
  rw [this]
theorem gaining_end {pa pb : Int} {es : List (Ed S)} {n m : Nat} {q : Sta S} (h : runs pa pb es (n + 1) = some q) (hm : q.ch = some m) : gaining n es pa pb = some (clos q.c n m).reverse := by
  unfold gaining
  rw [h]
  show some (clos q.c n (q.ch.getD 0)).reverse = _
  rw [hm]
  rfl
theorem per_spec {c : Nat → Option (Ed S)} {n m : Nat} (h : Ring c n m) : 1 ≤ per c n m ∧ per c n m ≤ n ∧ prdN c (n + per c n m) m = prdN c n m ∧ ∀ q, 1 ≤ q → q < per c n m → prdN c (n + q) m ≠ prdN c n m := by
  obtain ⟨p, p1, pn, pe, pl⟩ := h.ag
  have : (List.range n).find? (fun q => decide (prdN c (n + (q + 1)) m = prdN c n m)) = some (p - 1) := by
    rw [List.find?_range_eq_some]
    refine ⟨?_, ?_, fun j hj => ?_⟩
    · rw [show n + (p - 1 + 1) = n + p by omega]
      exact decide_eq_true pe
    · rw [List.mem_range]; omega
    · have := pl (j + 1) (by omega) (by omega)
      rw [decide_eq_false this]
      rfl
  unfold per
  rw [this]
  show 1 ≤ p - 1 + 1 ∧ p - 1 + 1 ≤ n ∧ prdN c (n + (p - 1 + 1)) m = prdN c n m ∧ ∀ q, 1 ≤ q → q < p - 1 + 1 → prdN c (n + q) m ≠ prdN c n m
  rw [show p - 1 + 1 = p by omega]
  exact ⟨p1, pn, pe, pl⟩
theorem fm_all {α β : Type} {f : α → Option β} : ∀ (xs : List α), (∀ x ∈ xs, ∃ y, f x = some y) → (xs.filterMap f).length = xs.length ∧ ∀ i : Nat, (xs.filterMap f)[i]? = (xs[i]?).bind f
  | [], _ => ⟨rfl, fun i => by simp⟩
  | x :: xs, h => by
    obtain ⟨y, hy⟩ := h x List.mem_cons_self
    obtain ⟨h1, h2⟩ := fm_all xs fun z hz => h z (List.mem_cons_of_mem _ hz)
    rw [List.filterMap_cons_some hy]
    refine ⟨by rw [List.length_cons, List.length_cons, h1], fun i => ?_⟩
    cases i with
    | zero => show some y = f x; rw [hy]
    | succ i => exact h2 i
theorem clos_at {c : Nat → Option (Ed S)} {n m : Nat} (h : Ring c n m) : (clos c n m).length = per c n m ∧ ∀ i, i < per c n m → (clos c n m)[i]? = c (prdN c (n + i) m) := by
  obtain ⟨h1, h2⟩ := fm_all (f := fun i => c (prdN c (n + i) m)) (List.range (per c n m)) fun i _ => by
    obtain ⟨e, he, _⟩ := h.al (n + i)
    exact ⟨e, he⟩
  rw [List.length_range] at h1
  refine ⟨h1, fun i hi => ?_⟩
  show ((List.range (per c n m)).filterMap _)[i]? = _
  rw [h2, List.getElem?_range hi]
  rfl
theorem runs_ring {pa pb : Int} {es : List (Ed S)} {n : Nat} {q : Sta S} (h : runs pa pb es (n + 1) = some q) (hes : ∀ e ∈ es, e.f < n ∧ e.l < n) : ∃ m, q.ch = some m ∧ Ring q.c n m := by
  obtain ⟨now, R, tau, lp, _, I, hm⟩ := runs_inv h
  obtain ⟨m, h1, h2⟩ := hm (by omega)
  exact ⟨m, h1, I.ring h2 hes⟩
theorem gaining_some {pa pb : Int} {es : List (Ed S)} {n : Nat} {w : List (Ed S)} (h : gaining n es pa pb = some w) (hes : ∀ e ∈ es, e.f < n ∧ e.l < n) : Loop pa pb es n w := by
  unfold gaining at h
  cases z : runs pa pb es (n + 1) with
  | none => rw [z] at h; cases h
  | some q =>
    rw [z] at h
    cases h
    obtain ⟨m, h1, hR⟩ := runs_ring z hes
    obtain ⟨now, R, tau, lp, _, I, _⟩ := runs_inv z
    obtain ⟨p1, pn, pe, _⟩ := per_spec hR
    obtain ⟨c1, c2⟩ := clos_at hR
    rw [h1]
    refine I.loop (n := n) (m := prdN q.c n m) (p := per q.c n m) (fun i => ?_) p1 pn ?_ c1 fun i hi => ?_
    · obtain ⟨e, he, _⟩ := hR.al (i + n)
      rw [prdN_add] at he
      exact ⟨e, he⟩
    · rw [← prdN_add, Nat.add_comm]
      exact pe
    · rw [← prdN_add, Nat.add_comm]
      exact c2 i hi
theorem gaining_none {pa pb : Int} {es : List (Ed S)} {n : Nat} (h : gaining n es pa pb = none) : ∃ R : Nat → Int, ∀ e ∈ es, R e.f + gn pa pb e ≤ R e.l := by
  unfold gaining at h
  cases z : runs pa pb es (n + 1) with
  | none => exact runs_none z
  | some q => rw [z] at h; cases h
end
end Hn

/-! Edges of a clock, rings, plans: plainly. -/
namespace Hn
open PySem
abbrev Stp := Option (Str × Int)
def mdN (n : Nat) (x : Int) : Nat := (x % (n : Int)).toNat
theorem mdN_int {n : Nat} (h : 1 ≤ n) (x : Int) : ((mdN n x : Nat) : Int) = x % (n : Int) := Int.toNat_of_nonneg (mod_bd h x).1
theorem mdN_lt {n : Nat} (h : 1 ≤ n) (x : Int) : mdN n x < n := by
  have := mod_bd h x
  have := mdN_int h x
  omega
/-- the edge that leads from the mark x on by len hours -/
def mkE (n : Nat) (x len v : Int) (s : Stp) : Ed Stp := ⟨mdN n x, mdN n (x + len), ((mdN n x : Nat) + len) / (n : Int), v, s⟩
theorem mkE_len {n : Nat} (h : 1 ≤ n) (x len v : Int) (s : Stp) : (((mkE n x len v s).f : Nat) : Int) + len = ((mkE n x len v s).l : Nat) + n * (mkE n x len v s).t := by
  show ((mdN n x : Nat) : Int) + len = ((mdN n (x + len) : Nat) : Int) + n * (((mdN n x : Nat) + len) / (n : Int))
  rw [mdN_int h, mdN_int h]
  have e : (x + len) % (n : Int) = (x % (n : Int) + len) % (n : Int) := by rw [Int.emod_add_emod]
  rw [e]
  have := Int.emod_add_mul_ediv (x % (n : Int) + len) n
  omega
theorem ext_per {n : Nat} {P : Int} {A : Int → Int} (h : 1 ≤ n) (k q : Int) : ext n P A (k + n * q) = ext n P A k + q * P := by
  unfold ext
  rw [Int.add_mul_emod_self_left, Int.add_mul_ediv_left _ _ (by omega : (n : Int) ≠ 0), Int.add_mul]
  omega
theorem ext_in {n : Nat} {P : Int} {A : Int → Int} {k : Int} (h0 : 0 ≤ k) (h1 : k < (n : Int)) : ext n P A k = A k := by
  unfold ext
  rw [Int.emod_eq_of_lt h0 h1, Int.ediv_eq_zero_of_lt h0 h1]
  omega
theorem mod_split {n : Nat} (x : Int) : x = x % (n : Int) + n * (x / (n : Int)) := by
  have := Int.emod_add_mul_ediv x n
  omega
/-- an edge is kept just if so many lie between its marks -/
theorem mkE_sat {n : Nat} {P : Int} {A : Int → Int} (h : 1 ≤ n) (x len v : Int) (s : Stp) : A ((mkE n x len v s).f : Nat) + gn P 1 (mkE n x len v s) ≤ A ((mkE n x len v s).l : Nat) ↔ v ≤ ext n P A (x + len) - ext n P A x := by
  have e1 : ext n P A x = A (x % (n : Int)) + x / (n : Int) * P := rfl
  have e2 : ext n P A (x + len) = A ((x + len) % (n : Int)) + (x % (n : Int) + len) / (n : Int) * P + x / (n : Int) * P := by
    have e3 : x + len = (x % (n : Int) + len) + n * (x / (n : Int)) := by
      have := mod_split (n := n) x
      omega
    rw [e3, ext_per h]
    unfold ext
    rw [Int.add_mul_emod_self_left]
  show A ((mdN n x : Nat) : Int) + (1 * v - P * (((mdN n x : Nat) + len) / (n : Int))) ≤ A ((mdN n (x + len) : Nat) : Int) ↔ _
  rw [mdN_int h, mdN_int h, e1, e2, Int.mul_comm P]
  omega
def upI (a b : Int) : Int := -((-a) / b)
theorem upI_le {a b k : Int} (hb : 0 < b) : upI a b ≤ k ↔ a ≤ k * b := by
  unfold upI
  have := Int.le_ediv_iff_mul_le (a := -k) (b := -a) hb
  rw [Int.neg_mul] at this
  omega
theorem upI_ge {a b : Int} (hb : 0 < b) : a ≤ upI a b * b := (upI_le hb).mp (Int.le_refl _)
theorem upI_lt {a b k : Int} (hb : 0 < b) : k < upI a b ↔ k * b < a := by
  have := upI_le (a := a) (k := k) hb
  omega
theorem upI_mono {a a' b : Int} (hb : 0 < b) (h : a ≤ a') : upI a b ≤ upI a' b := (upI_le hb).mpr (Int.le_trans h (upI_ge hb))
theorem upI_add {a b : Int} (hb : 0 < b) (k : Int) : upI (a + k * b) b = upI a b + k := by
  unfold upI
  rw [show -(a + k * b) = -a + (-k) * b by rw [Int.neg_mul]; omega, Int.add_mul_ediv_right _ _ (by omega)]
  omega
theorem upI_nn {a b : Int} (hb : 0 < b) (h : 0 ≤ a) : 0 ≤ upI a b := by
  have := (upI_lt (a := a) (b := b) (k := -1) hb).mpr (by omega)
  omega

/-! ### the edges of needs alone -/
def nE (s d : List Int) (h : Int) : Ed Stp := mkE s.length (h - wd s h + 1) (wd s h) (cyc d h) (some ("need", h))
def kE (n : Nat) (v h : Int) : Ed Stp := mkE n h 1 v (some ("keep", h))
def needEs (s d : List Int) : List (Ed Stp) := (List.range s.length).flatMap fun (h : Nat) => [nE s d h, kE s.length 0 h]
theorem mem_needEs {s d : List Int} {e : Ed Stp} : e ∈ needEs s d ↔ ∃ h : Nat, h < s.length ∧ (e = nE s d h ∨ e = kE s.length 0 h) := by
  unfold needEs
  rw [List.mem_flatMap]
  constructor
  · rintro ⟨h, h1, h2⟩
    refine ⟨h, List.mem_range.mp h1, ?_⟩
    simpa using h2
  · rintro ⟨h, h1, h2⟩
    refine ⟨h, List.mem_range.mpr h1, ?_⟩
    simpa using h2
/-- what is known of each such edge -/
structure NeE (s d : List Int) (e : Ed Stp) (len : Int) : Prop where
  fl : e.f < s.length ∧ e.l < s.length
  ln : (e.f : Int) + len = e.l + s.length * e.t
  l1 : 1 ≤ len
  t0 : 0 ≤ e.t
  t1 : e.t ≤ 1
theorem needE_of {s d : List Int} (g : Good s) {e : Ed Stp} (he : e ∈ needEs s d) : ∃ len, NeE s d e len := by
  obtain ⟨h, hh, q⟩ := mem_needEs.mp he
  have hn := g.ne
  have key : ∀ x len v st, 1 ≤ len → len ≤ (s.length : Int) → NeE s d (mkE s.length x len v st) len := fun x len v st l1 l2 => by
    have a := mkE_len hn x len v st
    have b : (mkE s.length x len v st).f < s.length := mdN_lt hn _
    have c : (mkE s.length x len v st).l < s.length := mdN_lt hn _
    have tt : (mkE s.length x len v st).t = (((mkE s.length x len v st).f : Nat) + len) / (s.length : Int) := rfl
    refine ⟨⟨b, c⟩, a, l1, ?_, ?_⟩
    · rw [tt]
      exact Int.ediv_nonneg (by omega) (by omega)
    · rw [tt]
      have : (((mkE s.length x len v st).f : Nat) + len) / (s.length : Int) < 2 := Int.ediv_lt_of_lt_mul (by omega) (by omega)
      omega
  rcases q with rfl | rfl
  · exact ⟨wd s h, key _ _ _ _ (wd_pos g _) (wd_le _)⟩
  · exact ⟨1, key _ _ _ _ (by omega) (by omega)⟩
theorem need_fl {s d : List Int} (g : Good s) : ∀ e ∈ needEs s d, e.f < s.length ∧ e.l < s.length := fun e he => let ⟨_, h⟩ := needE_of g he; h.fl
/-- a closed walk leads on by a day at least, by one a step at most -/
theorem need_turn {s d : List Int} (g : Good s) {w : List (Ed Stp)} (hw : ∀ e ∈ w, e ∈ needEs s d) : ∀ {a b : Nat}, Wk a w b → (w.length : Int) ≤ (b : Int) - a + s.length * tn w ∧ tn w ≤ w.length ∧ 0 ≤ tn w := by
  induction w with
  | nil =>
    intro a b h
    have h : a = b := h
    subst h
    unfold tn
    simp
  | cons e w ih =>
    intro a b h
    obtain ⟨len, q⟩ := needE_of g (hw e List.mem_cons_self)
    obtain ⟨h1, h2, h3⟩ := ih (fun e he => hw e (List.mem_cons_of_mem _ he)) h.2
    have ht : tn (e :: w) = e.t + tn w := by
      unfold tn
      rw [List.map_cons, List.sum_cons]
    have a1 := q.ln
    have a2 := q.l1
    have a3 := q.t0
    have a4 := q.t1
    have a5 := h.1
    rw [ht, List.length_cons, Int.mul_add]
    omega
/-- begins by their sums: enough for needs -/
def Enf (s d : List Int) (P : Int) (A : Int → Int) : Prop := A 0 = 0 ∧ A (s.length : Int) = P ∧ mono s.length A ∧ enough s.length (thF s.length s (cyc (byS s.length A))) (cyc d) = true
theorem enuf_iff {n : Nat} {a b : Int → Int} : enough n a b = true ↔ ∀ h : Nat, h < n → b h ≤ a h := by
  unfold enough
  rw [List.all_eq_true]
  constructor
  · intro q h hh
    exact of_decide_eq_true (q h (List.mem_range.mpr hh))
  · intro q h hh
    exact decide_eq_true (q h (List.mem_range.mp hh))
/-- sums that go on round about never fall -/
theorem ext_mono {n : Nat} {P : Int} {A : Int → Int} (hn : 1 ≤ n) (h0 : A 0 = 0) (hP : A (n : Int) = P) (m : mono n A) (x : Int) : ext n P A x ≤ ext n P A (x + 1) := by
  have := ext_step hn h0 hP x
  have hb := mod_bd hn x
  have e : cyc (byS n A) x = A (x % (n : Int) + 1) - A (x % (n : Int)) := cyc_rowOf _ hn x
  have hm := m (x % (n : Int)).toNat (by omega)
  rw [Int.toNat_of_nonneg hb.1] at hm
  omega
theorem ext_mono' {n : Nat} {P : Int} {A : Int → Int} (hn : 1 ≤ n) (h0 : A 0 = 0) (hP : A (n : Int) = P) (m : mono n A) (x : Int) : ∀ k : Nat, ext n P A x ≤ ext n P A (x + k)
  | 0 => by
    rw [show x + ((0 : Nat) : Int) = x by omega]
    exact Int.le_refl _
  | k + 1 => by
    have a := ext_mono' hn h0 hP m x k
    have b := ext_mono hn h0 hP m (x + k)
    rw [show x + ((k + 1 : Nat) : Int) = x + (k : Int) + 1 by omega]
    omega
theorem ext_le {n : Nat} {P : Int} {A : Int → Int} (hn : 1 ≤ n) (h0 : A 0 = 0) (hP : A (n : Int) = P) (m : mono n A) {x y : Int} (h : x ≤ y) : ext n P A x ≤ ext n P A y := by
  have := ext_mono' hn h0 hP m x (y - x).toNat
  rw [show x + (((y - x).toNat : Nat) : Int) = y by omega] at this
  exact this
/-- what is there at an hour, for any way to write it -/
theorem enf_at {s d : List Int} {P : Int} {A : Int → Int} (g : Good s) (E : Enf s d P A) (h : Int) : cyc d (h % (s.length : Int)) ≤ ext s.length P A (h + 1) - ext s.length P A (h + 1 - wd s h) := by
  have hb := mod_bd g.ne h
  have q := enuf_iff.mp E.2.2.2 (h % (s.length : Int)).toNat (by omega)
  rw [Int.toNat_of_nonneg hb.1, th_win g E.1 E.2.1, wd_mod] at q
  have e1 := ext_per (n := s.length) (P := P) (A := A) g.ne (h % (s.length : Int) + 1) (h / (s.length : Int))
  have e2 := ext_per (n := s.length) (P := P) (A := A) g.ne (h % (s.length : Int) + 1 - wd s h) (h / (s.length : Int))
  have e3 := mod_split (n := s.length) h
  rw [show h % (s.length : Int) + 1 + s.length * (h / (s.length : Int)) = h + 1 by omega] at e1
  rw [show h % (s.length : Int) + 1 - wd s h + s.length * (h / (s.length : Int)) = h + 1 - wd s h by omega] at e2
  omega
/-- enough just if all edges are kept -/
theorem enf_iff {s d : List Int} {P : Int} {A : Int → Int} (g : Good s) (h0 : A 0 = 0) (hP : A (s.length : Int) = P) : Enf s d P A ↔ ∀ e ∈ needEs s d, A (e.f : Int) + gn P 1 e ≤ A (e.l : Int) := by
  have hn := g.ne
  constructor
  · intro E e he
    obtain ⟨h, hh, q⟩ := mem_needEs.mp he
    rcases q with rfl | rfl
    · refine (mkE_sat hn _ _ _ _).mpr ?_
      have := enf_at g E h
      rw [Int.emod_eq_of_lt (by omega) (by omega)] at this
      rw [show (h : Int) - wd s h + 1 + wd s h = h + 1 by omega, show (h : Int) - wd s h + 1 = h + 1 - wd s h by omega]
      exact this
    · refine (mkE_sat hn _ _ _ _).mpr ?_
      have := ext_mono hn E.1 E.2.1 E.2.2.1 h
      omega
  · intro q
    refine ⟨h0, hP, fun j hj => ?_, enuf_iff.mpr fun h hh => ?_⟩
    · have := (mkE_sat hn _ _ _ _).mp (q (kE s.length 0 j) (mem_needEs.mpr ⟨j, hj, .inr rfl⟩))
      have e := ext_step hn h0 hP j
      have e' : cyc (byS s.length A) (j : Int) = A ((j : Int) % (s.length : Int) + 1) - A ((j : Int) % (s.length : Int)) := cyc_rowOf _ hn _
      rw [Int.emod_eq_of_lt (by omega) (by omega)] at e'
      omega
    · have := (mkE_sat hn _ _ _ _).mp (q (nE s d h) (mem_needEs.mpr ⟨h, hh, .inl rfl⟩))
      rw [th_win g h0 hP]
      rw [show (h : Int) - wd s h + 1 + wd s h = h + 1 by omega, show (h : Int) - wd s h + 1 = h + 1 - wd s h by omega] at this
      exact this
/-- the sums whose differences are those of what is reached -/
def potA (n : Nat) (P : Int) (R : Nat → Int) : Int → Int := fun k => if k = (n : Int) then P else R k.toNat - R 0
theorem potA_0 {n : Nat} {P : Int} {R : Nat → Int} (h : 1 ≤ n) : potA n P R 0 = 0 := by
  unfold potA
  rw [if_neg (by omega)]
  show R 0 - R 0 = 0
  omega
theorem potA_n {n : Nat} {P : Int} {R : Nat → Int} : potA n P R (n : Int) = P := if_pos rfl
theorem potA_at {n : Nat} {P : Int} {R : Nat → Int} {k : Nat} (h : k < n) : potA n P R (k : Int) = R k - R 0 := by
  unfold potA
  rw [if_neg (by omega), Int.toNat_natCast]
theorem pot_enf {s d : List Int} {P : Int} {R : Nat → Int} (g : Good s) (h : ∀ e ∈ needEs s d, R e.f + gn P 1 e ≤ R e.l) : Enf s d P (potA s.length P R) := by
  refine (enf_iff g (potA_0 g.ne) potA_n).mpr fun e he => ?_
  obtain ⟨h1, h2⟩ := need_fl g e he
  rw [potA_at h1, potA_at h2]
  have := h e he
  omega
/-- a pace at which nothing gains: so many people, rounded up, are enough -/
theorem pace_enf {s d : List Int} {pa pb P : Int} {R : Nat → Int} (g : Good s) (hb : 0 < pb) (hP : pa ≤ P * pb) (h : ∀ e ∈ needEs s d, R e.f + gn pa pb e ≤ R e.l) : ∃ A, Enf s d P A := by
  refine ⟨_, pot_enf (R := fun m => upI (R m) pb) g fun e he => ?_⟩
  obtain ⟨len, q⟩ := needE_of g he
  have a := h e he
  unfold gn at a ⊢
  show upI (R e.f) pb + (1 * e.v - P * e.t) ≤ upI (R e.l) pb
  rw [← upI_add hb]
  refine upI_mono hb ?_
  have b : pa * e.t ≤ P * pb * e.t := Int.mul_le_mul_of_nonneg_right hP q.t0
  have c : (1 * e.v - P * e.t) * pb = pb * e.v - P * pb * e.t := by
    rw [Int.one_mul, Int.sub_mul, Int.mul_comm e.v, Int.mul_assoc P e.t, Int.mul_comm e.t, ← Int.mul_assoc]
  rw [c]
  omega
/-- a closed walk: no plan has fewer people -/
theorem enf_walk {s d : List Int} {P : Int} {A : Int → Int} (g : Good s) (E : Enf s d P A) {w : List (Ed Stp)} {a : Nat} (hw : ∀ e ∈ w, e ∈ needEs s d) (h : Wk a w a) : wo w ≤ P * tn w := by
  have := pot_sum (pa := P) (pb := 1) (X := fun m => A (m : Int)) h fun e he => (enf_iff g E.1 E.2.1).mp E e (hw e he)
  rw [gn_sum] at this
  omega
theorem enf_nn {s d : List Int} {P : Int} {A : Int → Int} (E : Enf s d P A) : 0 ≤ P := by
  have := mono_le E.2.2.1 (i := 0) (j := s.length) (by omega) (Nat.le_refl _)
  have a : A ((0 : Nat) : Int) = 0 := E.1
  have b := E.2.1
  omega
/-- one more is enough, too -/
theorem enf_up {s d : List Int} {P Q : Int} {A : Int → Int} (g : Good s) (h : P ≤ Q) (E : Enf s d P A) : ∃ B, Enf s d Q B := by
  refine pace_enf (pa := P) (pb := 1) (R := fun m => A (m : Int)) g (by omega) (by omega) fun e he => (enf_iff g E.1 E.2.1).mp E e he

/-! ### rings -/
def stp (s : List Int) (h k : Int) : Int := wd s k + (k - wd s k - h) % (s.length : Int)
def hops (s : List Int) : Int → List Int → Int
  | _, [] => 0
  | h, k :: r => stp s h k + hops s k r
def lastH (h : Int) : List Int → Int
  | [] => h
  | k :: r => lastH k r
def wnd (s r : List Int) : Int := hops s (lastH 0 r) r / (s.length : Int)
def sumD (d : List Int) (r : List Int) : Int := (r.map (cyc d)).sum
def ringB (s d r : List Int) : Int := upI (sumD d r) (wnd s r)
theorem stp_pos {s : List Int} (g : Good s) (h k : Int) : 1 ≤ stp s h k := by
  have a := wd_pos g k
  have b := mod_bd g.ne (k - wd s k - h)
  unfold stp
  omega
theorem stp_mod {s : List Int} (h k : Int) : ∃ q, stp s h k = k - h + s.length * q := by
  refine ⟨-((k - wd s k - h) / (s.length : Int)), ?_⟩
  have := mod_split (n := s.length) (k - wd s k - h)
  unfold stp
  rw [Int.mul_neg]
  omega
theorem hops_mod {s : List Int} : ∀ (r : List Int) (h : Int), ∃ q, hops s h r = lastH h r - h + s.length * q
  | [], h => ⟨0, by
    show (0 : Int) = h - h + _
    rw [Int.mul_zero]
    omega⟩
  | k :: r, h => by
    obtain ⟨q1, e1⟩ := stp_mod (s := s) h k
    obtain ⟨q2, e2⟩ := hops_mod r k
    refine ⟨q1 + q2, ?_⟩
    show stp s h k + hops s k r = lastH k r - h + _
    rw [e1, e2, Int.mul_add]
    omega
theorem hops_pos {s : List Int} (g : Good s) : ∀ (r : List Int) (h : Int), (r.length : Int) ≤ hops s h r
  | [], h => Int.le_refl 0
  | k :: r, h => by
    have a := stp_pos g h k
    have b := hops_pos g r k
    show ((r.length + 1 : Nat) : Int) ≤ stp s h k + hops s k r
    omega
theorem lastH_ne : ∀ {r : List Int} {h h' : Int}, r ≠ [] → lastH h r = lastH h' r
  | [], _, _, z => absurd rfl z
  | _ :: _, _, _, _ => rfl
theorem wnd_eq {s r : List Int} (g : Good s) (hr : r ≠ []) : hops s (lastH 0 r) r = s.length * wnd s r ∧ 1 ≤ wnd s r := by
  obtain ⟨q, e⟩ := hops_mod (s := s) r (lastH 0 r)
  rw [lastH_ne (h := lastH 0 r) (h' := 0) hr] at e
  have hn := g.ne
  have e' : hops s (lastH 0 r) r = s.length * q := by omega
  have w : wnd s r = q := by
    unfold wnd
    rw [e', Int.mul_ediv_cancel_left _ (by omega)]
  rw [w]
  refine ⟨e', ?_⟩
  have hp := hops_pos g r (lastH 0 r)
  have : 1 ≤ r.length := by
    cases r with
    | nil => exact absurd rfl hr
    | cons a b => rw [List.length_cons]; omega
  rcases Int.lt_or_le q 1 with z | z
  · have := Int.mul_nonpos_of_nonneg_of_nonpos (a := (s.length : Int)) (b := q) (by omega) (by omega)
    omega
  · exact z
/-- the windows of a ring lie one behind another -/
theorem ring_ext {s d : List Int} {P : Int} {A : Int → Int} (g : Good s) (E : Enf s d P A) : ∀ (r : List Int) (h y : Int), (∀ k ∈ r, 0 ≤ k ∧ k < (s.length : Int)) → y % (s.length : Int) = h % (s.length : Int) → sumD d r ≤ ext s.length P A (y + hops s h r + 1) - ext s.length P A (y + 1)
  | [], h, y, _, _ => by
    show (0 : Int) ≤ ext s.length P A (y + 0 + 1) - ext s.length P A (y + 1)
    rw [show y + 0 + 1 = y + 1 by omega]
    omega
  | k :: r, h, y, hk, hy => by
    obtain ⟨q, e⟩ := stp_mod (s := s) h k
    have hkk := hk k List.mem_cons_self
    have hy' : (y + stp s h k) % (s.length : Int) = k % (s.length : Int) := by
      rw [e, show y + (k - h + s.length * q) = (y - h + k) + s.length * q by omega, Int.add_mul_emod_self_left, show y - h + k = k + (y - h) by omega]
      have : (s.length : Int) ∣ y - h := Int.dvd_of_emod_eq_zero (Int.emod_eq_emod_iff_emod_sub_eq_zero.mp hy)
      obtain ⟨z, hz⟩ := this
      rw [hz, Int.add_mul_emod_self_left]
    have ih := ring_ext g E r k (y + stp s h k) (fun k hk' => hk k (List.mem_cons_of_mem _ hk')) hy'
    have a := enf_at g E (y + stp s h k)
    have w1 : wd s (y + stp s h k) = wd s k := by rw [← wd_mod s (y + stp s h k), hy', wd_mod]
    rw [hy', Int.emod_eq_of_lt hkk.1 hkk.2, w1] at a
    have b : ext s.length P A (y + 1) ≤ ext s.length P A (y + stp s h k + 1 - wd s k) := by
      refine ext_le g.ne E.1 E.2.1 E.2.2.1 ?_
      have := (mod_bd g.ne (k - wd s k - h)).1
      unfold stp
      omega
    have c : sumD d (k :: r) = cyc d k + sumD d r := by
      unfold sumD
      rw [List.map_cons, List.sum_cons]
    show sumD d (k :: r) ≤ ext s.length P A (y + (stp s h k + hops s k r) + 1) - _
    rw [c, show y + (stp s h k + hops s k r) + 1 = y + stp s h k + hops s k r + 1 by omega]
    omega
/-- no plan with fewer people than a ring asks for is enough -/
theorem ring_le {s d r : List Int} {P : Int} {A : Int → Int} (g : Good s) (E : Enf s d P A) (hr : r ≠ []) (hk : ∀ k ∈ r, 0 ≤ k ∧ k < (s.length : Int)) : sumD d r ≤ P * wnd s r ∧ ringB s d r ≤ P := by
  have h := ring_ext g E r (lastH 0 r) (lastH 0 r) hk rfl
  obtain ⟨e, w1⟩ := wnd_eq g hr
  rw [e, show lastH 0 r + s.length * wnd s r + 1 = (lastH 0 r + 1) + s.length * wnd s r by omega, ext_per g.ne, Int.mul_comm (wnd s r)] at h
  refine ⟨by omega, ?_⟩
  unfold ringB
  exact (upI_le (by omega)).mpr (by omega)
def isNd : Stp → Option Int
  | some (x, h) => if x = ("need" : Str) then some h else none
  | none => none
/-- the hours of the needs along a walk -/
def needHs (w : List (Ed Stp)) : List Int := w.filterMap fun e => isNd e.s
theorem isNd_n {s d : List Int} {h : Int} : isNd (nE s d h).s = some h := rfl
theorem isNd_k {n : Nat} {v h : Int} : isNd (kE n v h).s = none := by
  show (if ("keep" : Str) = ("need" : Str) then some h else none) = none
  rw [if_neg (by decide +kernel)]
/-- the hours behind the last need -/
def trl : Int → List (Ed Stp) → Int
  | g, [] => g
  | g, e :: w => match isNd e.s with
    | some _ => trl 0 w
    | none => trl (g + 1) w
theorem trl_ne : ∀ {w : List (Ed Stp)} (g g' : Int), needHs w ≠ [] → trl g w = trl g' w
  | [], _, _, h => absurd rfl h
  | e :: w, g, g', h => by
    unfold trl
    cases z : isNd e.s with
    | some k => rfl
    | none =>
      refine trl_ne _ _ ?_
      unfold needHs at h ⊢
      rw [List.filterMap_cons_none (f := fun e : Ed Stp => isNd e.s) z] at h
      exact h
theorem walk_hops {s d : List Int} (g : Good s) : ∀ {w : List (Ed Stp)} {a b : Nat} (h y : Int), (∀ e ∈ w, e ∈ needEs s d) → Wk a w b → 0 ≤ y → (s.length : Int) ∣ (a : Int) - h - 1 - y →
    hops s h (needHs w) + trl y w ≤ y + ((b : Int) - a + s.length * tn w) ∧ 0 ≤ trl y w ∧ (s.length : Int) ∣ (b : Int) - lastH h (needHs w) - 1 - trl y w ∧ wo w = sumD d (needHs w)
  | [], a, b, h, y, _, hk, hy, hd => by
    have hk : a = b := hk
    subst hk
    show 0 + y ≤ y + ((a : Int) - a + s.length * 0) ∧ 0 ≤ y ∧ _ ∣ (a : Int) - h - 1 - y ∧ (0 : Int) = 0
    rw [Int.mul_zero]
    exact ⟨by omega, hy, hd, rfl⟩
  | e :: w, a, b, h, y, hw, hk, hy, hd => by
    have he := hw e List.mem_cons_self
    have hw' := fun e he => hw e (List.mem_cons_of_mem _ he)
    have ht : tn (e :: w) = e.t + tn w := by
      unfold tn
      rw [List.map_cons, List.sum_cons]
    have hwo : wo (e :: w) = e.v + wo w := by
      unfold wo
      rw [List.map_cons, List.sum_cons]
    obtain ⟨k, hkn, q⟩ := mem_needEs.mp he
    have hf := hk.1
    rcases q with rfl | rfl
    · have hH : needHs (nE s d k :: w) = (k : Int) :: needHs w := List.filterMap_cons_some isNd_n
      have hT : trl y (nE s d k :: w) = trl 0 w := by
        show (match isNd (nE s d k).s with | some _ => trl 0 w | none => trl (y + 1) w) = _
        rw [isNd_n]
      have ln : (((nE s d k).f : Nat) : Int) + wd s k = ((nE s d k).l : Nat) + s.length * (nE s d k).t := mkE_len g.ne _ _ _ _
      have hff : (((nE s d k).f : Nat) : Int) = ((k : Int) - wd s k + 1) % (s.length : Int) := mdN_int g.ne _
      have hll : (((nE s d k).l : Nat) : Int) = ((k : Int) - wd s k + 1 + wd s k) % (s.length : Int) := mdN_int g.ne _
      have dv : (s.length : Int) ∣ ((nE s d k).l : Nat) - (k : Int) - 1 - 0 := by
        rw [hll]
        have := mod_split (n := s.length) ((k : Int) - wd s k + 1 + wd s k)
        exact ⟨-(((k : Int) - wd s k + 1 + wd s k) / (s.length : Int)), by rw [Int.mul_neg]; omega⟩
      obtain ⟨i1, i2, i3, i4⟩ := walk_hops g (k : Int) 0 hw' hk.2 (Int.le_refl 0) dv
      have gp : ((k : Int) - wd s k - h) % (s.length : Int) ≤ y := by
        have e1 : (s.length : Int) ∣ (k : Int) - wd s k - h - y := by
          obtain ⟨z, hz⟩ := hd
          have := mod_split (n := s.length) ((k : Int) - wd s k + 1)
          refine ⟨z + ((k : Int) - wd s k + 1) / (s.length : Int), ?_⟩
          rw [Int.mul_add]
          omega
        obtain ⟨z, hz⟩ := e1
        rw [show (k : Int) - wd s k - h = y + s.length * z by omega, Int.add_mul_emod_self_left]
        rcases Int.lt_or_le y (s.length : Int) with c | c
        · rw [Int.emod_eq_of_lt hy c]
          exact Int.le_refl _
        · have := (mod_bd g.ne y).2
          omega
      rw [hH, hT, ht, hwo]
      refine ⟨?_, i2, i3, ?_⟩
      · show stp s h k + hops s k (needHs w) + trl 0 w ≤ _
        unfold stp
        rw [Int.mul_add]
        omega
      · unfold sumD at i4 ⊢
        rw [List.map_cons, List.sum_cons, i4]
        rfl
    · have hH : needHs (kE s.length 0 k :: w) = needHs w := List.filterMap_cons_none isNd_k
      have hT : trl y (kE s.length 0 k :: w) = trl (y + 1) w := by
        show (match isNd (kE s.length 0 k).s with | some _ => trl 0 w | none => trl (y + 1) w) = _
        rw [isNd_k]
      have ln : (((kE s.length 0 k).f : Nat) : Int) + 1 = ((kE s.length 0 k).l : Nat) + s.length * (kE s.length 0 k).t := mkE_len g.ne _ _ _ _
      have dv : (s.length : Int) ∣ ((kE s.length 0 k).l : Nat) - h - 1 - (y + 1) := by
        obtain ⟨z, hz⟩ := hd
        refine ⟨z - (kE s.length 0 k).t, ?_⟩
        rw [Int.mul_sub]
        omega
      obtain ⟨i1, i2, i3, i4⟩ := walk_hops g h (y + 1) hw' hk.2 (by omega) dv
      rw [hH, hT, ht, hwo]
      refine ⟨?_, i2, i3, ?_⟩
      · rw [Int.mul_add]
        omega
      · rw [← i4]
        show 0 + wo w = wo w
        omega
/-- the ring of a closed walk winds no more than the walk turns -/
theorem loop_ring {s d : List Int} (g : Good s) {w : List (Ed Stp)} {a : Nat} (hw : ∀ e ∈ w, e ∈ needEs s d) (h : Wk a w a) (hr : needHs w ≠ []) : wnd s (needHs w) ≤ tn w ∧ wo w = sumD d (needHs w) ∧ ∀ k ∈ needHs w, 0 ≤ k ∧ k < (s.length : Int) := by
  obtain ⟨_, i2, i3, i4⟩ := walk_hops g ((a : Int) - 1) 0 hw h (Int.le_refl 0) ⟨0, by rw [Int.mul_zero]; omega⟩
  rw [lastH_ne hr (h' := 0)] at i3
  obtain ⟨j1, _, _, _⟩ := walk_hops g (lastH 0 (needHs w)) (trl 0 w) hw h i2 i3
  rw [trl_ne (trl 0 w) 0 hr] at j1
  obtain ⟨e, _⟩ := wnd_eq (s := s) g hr
  refine ⟨?_, i4, fun k hk => ?_⟩
  · have hn := g.ne
    rw [e] at j1
    refine Int.le_of_mul_le_mul_left (a := (s.length : Int)) ?_ (by omega)
    omega
  · unfold needHs at hk
    obtain ⟨e, he, hek⟩ := List.mem_filterMap.mp hk
    obtain ⟨j, hj, q⟩ := mem_needEs.mp (hw e he)
    rcases q with rfl | rfl
    · rw [isNd_n] at hek
      cases hek
      omega
    · rw [isNd_k] at hek
      cases hek
end Hn

/-! The fewest people, plainly. -/
namespace Hn
open PySem
def fct : Nat → Nat
  | 0 => 1
  | n + 1 => (n + 1) * fct n
theorem fct_pos : ∀ n, 0 < fct n
  | 0 => Nat.one_pos
  | n + 1 => Nat.mul_pos (Nat.succ_pos n) (fct_pos n)
theorem fct_dvd : ∀ {n k : Nat}, 1 ≤ k → k ≤ n → k ∣ fct n
  | 0, k, h1, h2 => absurd h1 (by omega)
  | n + 1, k, h1, h2 => by
    by_cases q : k = n + 1
    · subst q
      exact Nat.dvd_mul_right _ _
    · exact Nat.dvd_trans (fct_dvd h1 (by omega)) (Nat.dvd_mul_left _ _)
/-- two integers without a common divisor -/
def fr (x y : Int) : Int × Int := (x / (Int.gcd x y : Int), y / (Int.gcd x y : Int))
structure FrOk (x y : Int) (g : Int) : Prop where
  g1 : 1 ≤ g
  ex : x = g * (fr x y).1
  ey : y = g * (fr x y).2
  p2 : 1 ≤ (fr x y).2
  le : (fr x y).2 ≤ y
theorem fr_ok {x y : Int} (hy : 1 ≤ y) : FrOk x y (Int.gcd x y) := by
  have g0 : 0 < Int.gcd x y := Int.gcd_pos_of_ne_zero_right _ (by omega)
  have ex : x = (Int.gcd x y : Int) * (fr x y).1 := (Int.mul_ediv_cancel' (Int.gcd_dvd_left x y)).symm
  have ey : y = (Int.gcd x y : Int) * (fr x y).2 := (Int.mul_ediv_cancel' (Int.gcd_dvd_right x y)).symm
  have p2 : 1 ≤ (fr x y).2 := by
    rcases Int.lt_or_le (fr x y).2 1 with z | z
    · have := Int.mul_nonpos_of_nonneg_of_nonpos (a := (Int.gcd x y : Int)) (b := (fr x y).2) (by omega) (by omega)
      omega
    · exact z
  refine ⟨by omega, ex, ey, p2, ?_⟩
  have : 1 * (fr x y).2 ≤ (Int.gcd x y : Int) * (fr x y).2 := Int.mul_le_mul_of_nonneg_right (by omega) (by omega)
  omega
theorem fr_nn {x y : Int} (hx : 0 ≤ x) : 0 ≤ (fr x y).1 := Int.ediv_nonneg hx (by omega)
/-- the best ring, as the program looks for it -/
inductive BR (n : Nat) (es : List (Ed Stp)) : Int → Int → List Int → List Int → Prop
  | stop {pa pb : Int} {r : List Int} : gaining n es pa pb = none → BR n es pa pb r r
  | go {pa pb : Int} {r q : List Int} {w : List (Ed Stp)} : gaining n es pa pb = some w → BR n es (fr (wo w) (tn w)).1 (fr (wo w) (tn w)).2 (needHs w) q → BR n es pa pb r q
theorem BR.det {n : Nat} {es : List (Ed Stp)} {pa pb : Int} {r q q' : List Int} (h : BR n es pa pb r q) : BR n es pa pb r q' → q = q' := by
  induction h with
  | stop e =>
    intro h'
    cases h' with
    | stop _ => rfl
    | go e' _ => rw [e] at e'; cases e'
  | go e _ ih =>
    intro h'
    cases h' with
    | stop e' => rw [e] at e'; cases e'
    | go e' h' =>
      rw [e] at e'
      cases e'
      exact ih h'
/-- a ring by which a pace is told -/
structure Bst (s d : List Int) (M pa pb : Int) (r : List Int) : Prop where
  a0 : 0 ≤ pa
  b1 : 1 ≤ pb
  bn : pb ≤ (s.length : Int)
  bd : pa ≤ s.length * M * pb
  ne : r ≠ []
  le : r.length ≤ s.length
  hs : ∀ k ∈ r, 0 ≤ k ∧ k < (s.length : Int)
  up : upI pa pb ≤ ringB s d r
def muB (n : Nat) (M pa pb : Int) : Nat := (n * M * (fct n : Int) - pa * ((fct n : Int) / pb)).toNat
theorem stp_self {s : List Int} (g : Good s) (h : Int) : stp s h h = s.length := by
  have a := wd_pos g h
  have b := wd_le (s := s) h
  unfold stp
  rw [show h - wd s h - h = -wd s h by omega]
  rcases Int.lt_or_le (wd s h) (s.length : Int) with c | c
  · have e : (-wd s h) % (s.length : Int) = s.length - wd s h := by
      rw [show -wd s h = (s.length - wd s h) + s.length * (-1) by omega, Int.add_mul_emod_self_left, Int.emod_eq_of_lt (by omega) (by omega)]
    omega
  · have e : wd s h = s.length := by omega
    rw [e, show -(s.length : Int) = 0 + s.length * (-1) by omega, Int.add_mul_emod_self_left, Int.zero_emod]
    omega
theorem wnd_one {s : List Int} (g : Good s) (h : Int) : wnd s [h] = 1 := by
  have hn := g.ne
  show (stp s h h + 0) / (s.length : Int) = 1
  rw [stp_self g, Int.add_zero, Int.ediv_self (by omega)]
theorem bst_start {s d : List Int} (g : Good s) {M : Int} {h : Nat} (hh : h < s.length) (hM : cyc d h = M) (h0 : 0 ≤ M) : Bst s d M M 1 [(h : Int)] := by
  have hn := g.ne
  refine ⟨h0, Int.le_refl 1, by omega, ?_, (fun z => nomatch z), hn, fun k hk => ?_, ?_⟩
  · have : 1 * M ≤ (s.length : Int) * M := Int.mul_le_mul_of_nonneg_right (by omega) h0
    omega
  · rw [List.mem_singleton.mp hk]
    omega
  · unfold ringB
    rw [wnd_one g]
    refine upI_mono (by omega) ?_
    show M ≤ cyc d h + 0
    omega
theorem le_sum_v {s d : List Int} {M : Int} (hM : ∀ h : Nat, h < s.length → cyc d h ≤ M) (h0 : 0 ≤ M) : ∀ {w : List (Ed Stp)}, (∀ e ∈ w, e ∈ needEs s d) → wo w ≤ w.length * M
  | [], _ => by
    show (0 : Int) ≤ ((0 : Nat) : Int) * M
    rw [show ((0 : Nat) : Int) * M = 0 from Int.zero_mul M]
    exact Int.le_refl 0
  | e :: w, hw => by
    have ih := le_sum_v hM h0 (w := w) fun e he => hw e (List.mem_cons_of_mem _ he)
    have hv : e.v ≤ M := by
      obtain ⟨h, hh, q⟩ := mem_needEs.mp (hw e List.mem_cons_self)
      rcases q with rfl | rfl
      · exact hM h hh
      · exact h0
    have hwo : wo (e :: w) = e.v + wo w := by
      unfold wo
      rw [List.map_cons, List.sum_cons]
    rw [hwo, List.length_cons, show ((w.length + 1 : Nat) : Int) = (w.length : Int) + 1 by omega, Int.add_mul]
    omega
theorem wo_pos_ne {s d : List Int} : ∀ {w : List (Ed Stp)}, (∀ e ∈ w, e ∈ needEs s d) → needHs w = [] → wo w = 0
  | [], _, _ => rfl
  | e :: w, hw, hr => by
    obtain ⟨h, hh, q⟩ := mem_needEs.mp (hw e List.mem_cons_self)
    rcases q with rfl | rfl
    · exfalso
      unfold needHs at hr
      rw [List.filterMap_cons_some (f := fun e : Ed Stp => isNd e.s) isNd_n] at hr
      cases hr
    · unfold needHs at hr
      rw [List.filterMap_cons_none (f := fun e : Ed Stp => isNd e.s) isNd_k] at hr
      have ih := wo_pos_ne (w := w) (fun e he => hw e (List.mem_cons_of_mem _ he)) hr
      have hwo : wo (kE s.length 0 h :: w) = 0 + wo w := by
        unfold wo
        rw [List.map_cons, List.sum_cons]
        rfl
      omega
/-- a gaining walk leads to a better pace -/
theorem bst_step {s d : List Int} (g : Good s) {M pa pb : Int} (hM : ∀ h : Nat, h < s.length → cyc d h ≤ M) (h0 : 0 ≤ M) (a0 : 0 ≤ pa) (b1 : 1 ≤ pb) (bn : pb ≤ (s.length : Int)) (bd : pa ≤ s.length * M * pb) {w : List (Ed Stp)} (hw : gaining s.length (needEs s d) pa pb = some w) :
    1 ≤ tn w ∧ 0 < wo w ∧ Bst s d M (fr (wo w) (tn w)).1 (fr (wo w) (tn w)).2 (needHs w) ∧ muB s.length M (fr (wo w) (tn w)).1 (fr (wo w) (tn w)).2 < muB s.length M pa pb := by
  have L := gaining_some hw (need_fl g)
  obtain ⟨a, wk⟩ := L.wk
  have hn := g.ne
  obtain ⟨t1, t2, t3⟩ := need_turn g L.mem wk
  have hlen : 1 ≤ w.length := by
    cases z : w with
    | nil => exact absurd z L.ne
    | cons x y => rw [List.length_cons]; omega
  have tw1 : 1 ≤ tn w := by
    rcases Int.lt_or_le (tn w) 1 with z | z
    · have : tn w = 0 := by omega
      rw [this, Int.mul_zero] at t1
      omega
    · exact z
  have gain := L.gain
  rw [gn_sum] at gain
  have pt : 0 ≤ pa * tn w := Int.mul_nonneg a0 (by omega)
  have wo0 : 0 < wo w := by
    rcases Int.lt_or_le 0 (wo w) with z | z
    · exact z
    · have := Int.mul_nonpos_of_nonneg_of_nonpos (a := pb) (b := wo w) (by omega) z
      omega
  have hne : needHs w ≠ [] := fun z => by
    have := wo_pos_ne L.mem z
    omega
  obtain ⟨r1, r2, r3⟩ := loop_ring g L.mem wk hne
  have F := fr_ok (x := wo w) (y := tn w) tw1
  obtain ⟨x', hx'⟩ : ∃ x', (fr (wo w) (tn w)).1 = x' := ⟨_, rfl⟩
  obtain ⟨y', hy'⟩ : ∃ y', (fr (wo w) (tn w)).2 = y' := ⟨_, rfl⟩
  obtain ⟨c, hc⟩ : ∃ c : Int, (Int.gcd (wo w) (tn w) : Int) = c := ⟨_, rfl⟩
  have x0 : 0 ≤ x' := by
    rw [← hx']
    exact fr_nn (by omega)
  have f1 := F.g1
  have f2 := F.ex
  have f3 := F.ey
  have f4 := F.p2
  have f5 := F.le
  rw [hc] at f1
  rw [hc, hx'] at f2
  rw [hc, hy'] at f3
  rw [hy'] at f4 f5
  rw [hx', hy']
  have hwl := L.len
  have hwM := le_sum_v hM h0 L.mem
  have hb2 : wo w ≤ s.length * M * tn w := by
    have a1 : (w.length : Int) * M ≤ (s.length : Int) * M := Int.mul_le_mul_of_nonneg_right (by omega) h0
    have a2 : 0 ≤ (s.length : Int) * M := Int.mul_nonneg (by omega) h0
    have a3 : (s.length : Int) * M * 1 ≤ (s.length : Int) * M * tn w := Int.mul_le_mul_of_nonneg_left tw1 a2
    omega
  have hb3 : x' ≤ s.length * M * y' := by
    refine Int.le_of_mul_le_mul_left (a := c) ?_ (by omega)
    rw [← f2]
    calc wo w ≤ s.length * M * tn w := hb2
      _ = s.length * M * (c * y') := by rw [← f3]
      _ = c * (s.length * M * y') := by rw [Int.mul_left_comm]
  have cross : pa * y' < pb * x' := by
    refine Int.lt_of_mul_lt_mul_left (a := c) ?_ (by omega)
    have e1 : c * (pa * y') = pa * tn w := by rw [Int.mul_left_comm, ← f3]
    have e2 : c * (pb * x') = pb * wo w := by rw [Int.mul_left_comm, ← f2]
    omega
  refine ⟨tw1, wo0, ⟨x0, f4, by omega, hb3, hne, ?_, r3, ?_⟩, ?_⟩
  · have : (needHs w).length ≤ w.length := List.length_filterMap_le _ _
    omega
  · obtain ⟨e, w1⟩ := wnd_eq (s := s) g hne
    have k0 : 0 ≤ ringB s d (needHs w) := upI_nn (by omega) (by rw [← r2]; omega)
    have k1 : wo w ≤ ringB s d (needHs w) * wnd s (needHs w) := by
      rw [r2]
      exact upI_ge (by omega)
    refine (upI_le (by omega)).mpr ?_
    refine Int.le_of_mul_le_mul_left (a := c) ?_ (by omega)
    rw [← f2]
    have k2 : ringB s d (needHs w) * wnd s (needHs w) ≤ ringB s d (needHs w) * tn w := Int.mul_le_mul_of_nonneg_left r1 k0
    have k3 : c * (ringB s d (needHs w) * y') = ringB s d (needHs w) * tn w := by rw [Int.mul_left_comm, ← f3]
    omega
  · obtain ⟨N, hN⟩ : ∃ N : Int, ((fct s.length : Nat) : Int) = N := ⟨_, rfl⟩
    have N0 : 0 < N := by
      have := fct_pos s.length
      omega
    have dv : ∀ z : Int, 1 ≤ z → z ≤ (s.length : Int) → z * (N / z) = N := fun z z1 z2 => by
      refine Int.mul_ediv_cancel' ?_
      have := fct_dvd (n := s.length) (k := z.toNat) (by omega) (by omega)
      rw [← hN]
      have := Int.natCast_dvd_natCast.mpr this
      rw [show ((z.toNat : Nat) : Int) = z by omega] at this
      exact this
    unfold muB
    rw [hN]
    have u1 := dv pb b1 bn
    have u2 := dv y' f4 (by omega)
    obtain ⟨u, hu⟩ : ∃ u, N / pb = u := ⟨_, rfl⟩
    obtain ⟨u', hu'⟩ : ∃ u', N / y' = u' := ⟨_, rfl⟩
    rw [hu] at u1 ⊢
    rw [hu'] at u2 ⊢
    have up0 : 0 < u' := by
      rcases Int.lt_or_le 0 u' with z | z
      · exact z
      · have := Int.mul_nonpos_of_nonneg_of_nonpos (a := y') (b := u') (by omega) z
        omega
    have lt : pa * u < x' * u' := by
      refine Int.lt_of_mul_lt_mul_left (a := pb * y') ?_ (Int.mul_nonneg (by omega) (by omega))
      have e1 : pb * y' * (pa * u) = N * (pa * y') := by
        rw [← u1]
        rw [show pb * y' * (pa * u) = pb * (y' * (pa * u)) from Int.mul_assoc _ _ _, show pb * u * (pa * y') = pb * (u * (pa * y')) from Int.mul_assoc _ _ _]
        congr 1
        rw [Int.mul_left_comm, Int.mul_comm y' u, Int.mul_left_comm u pa y', Int.mul_comm u y']
      have e2 : pb * y' * (x' * u') = N * (pb * x') := by
        rw [← u2]
        rw [show pb * y' * (x' * u') = pb * (y' * (x' * u')) from Int.mul_assoc _ _ _, show y' * u' * (pb * x') = y' * (u' * (pb * x')) from Int.mul_assoc _ _ _]
        rw [Int.mul_left_comm pb y', Int.mul_left_comm pb x', Int.mul_left_comm u' pb x', Int.mul_left_comm x' pb u', Int.mul_comm u' x']
      rw [e1, e2]
      exact Int.mul_lt_mul_of_pos_left cross N0
    have le2 : x' * u' ≤ s.length * M * N := by
      calc x' * u' ≤ s.length * M * y' * u' := Int.mul_le_mul_of_nonneg_right hb3 (by omega)
        _ = s.length * M * N := by rw [Int.mul_assoc (s.length * M), u2]
    omega
/-- at the end: as many as the ring asks for are enough -/
theorem bst_end {s d : List Int} (g : Good s) {M pa pb : Int} {r : List Int} (B : Bst s d M pa pb r) (h : gaining s.length (needEs s d) pa pb = none) : ∃ A, Enf s d (ringB s d r) A := by
  obtain ⟨R, hR⟩ := gaining_none h
  exact pace_enf g (by have := B.b1; omega) ((upI_le (by have := B.b1; omega)).mp B.up) hR
/-- what the program's search tells -/
structure BestOk (s d r : List Int) : Prop where
  ne : r ≠ []
  le : r.length ≤ s.length
  hs : ∀ k ∈ r, 0 ≤ k ∧ k < (s.length : Int)
  en : ∃ A, Enf s d (ringB s d r) A
theorem br_ok {s d : List Int} (g : Good s) {M : Int} (hM : ∀ h : Nat, h < s.length → cyc d h ≤ M) (h0 : 0 ≤ M) : ∀ {pa pb : Int} {r q : List Int}, BR s.length (needEs s d) pa pb r q → Bst s d M pa pb r → BestOk s d q := by
  intro pa pb r q h
  induction h with
  | stop e => exact fun B => ⟨B.ne, B.le, B.hs, bst_end g B e⟩
  | go e _ ih => exact fun B => ih (bst_step g hM h0 B.a0 B.b1 B.bn B.bd e).2.2.1
/-- the fewest people: there is a plan, and none with fewer -/
def Few (s d : List Int) (F : Int) : Prop := (∃ A, Enf s d F A) ∧ ∀ P A, Enf s d P A → F ≤ P
theorem best_few {s d r : List Int} (g : Good s) (B : BestOk s d r) : Few s d (ringB s d r) := ⟨B.en, fun _ _ E => (ring_le g E B.ne B.hs).2⟩
theorem Few.uniq {s d : List Int} {F G : Int} (a : Few s d F) (b : Few s d G) : F = G := by
  obtain ⟨A, ha⟩ := a.1
  obtain ⟨B, hb⟩ := b.1
  have := a.2 _ _ hb
  have := b.2 _ _ ha
  omega
/-- nothing is needed -/
theorem few_zero {s d : List Int} (g : Good s) (h : ∀ h : Nat, h < s.length → cyc d h ≤ 0) : Few s d 0 := by
  refine ⟨⟨_, pot_enf (R := fun _ => 0) g fun e he => ?_⟩, fun P A E => enf_nn E⟩
  obtain ⟨k, hk, q⟩ := mem_needEs.mp he
  unfold gn
  rcases q with rfl | rfl
  · have : (nE s d k).v = cyc d k := rfl
    have := h k hk
    omega
  · have : (kE s.length 0 k).v = 0 := rfl
    omega
theorem few_enf {s d : List Int} (g : Good s) {F P : Int} (h : Few s d F) : (∃ A, Enf s d P A) ↔ F ≤ P := by
  constructor
  · rintro ⟨A, hA⟩
    exact h.2 P A hA
  · intro q
    obtain ⟨A, hA⟩ := h.1
    exact enf_up g q hA
/-- what is reached in the end is told by the walks alone -/
theorem sett_uniq {S : Type} {pa pb : Int} {es : List (Ed S)} {r0 r r' : Nat → Option Int} (a : Att pa pb es r0 r) (a' : Att pa pb es r0 r') (b : Stab pa pb es r) (b' : Stab pa pb es r') (c : Ge r0 r) (c' : Ge r0 r') : r = r' := by
  have key : ∀ {r r' : Nat → Option Int}, Att pa pb es r0 r → Stab pa pb es r' → Ge r0 r' → ∀ v x, r v = some x → ∃ y, r' v = some y ∧ x ≤ y := by
    intro r r' a b c v x hx
    obtain ⟨u, x0, w, h1, h2, h3, h4⟩ := a v x hx
    obtain ⟨y0, h5, h6⟩ := c u x0 h1
    have go : ∀ (w : List (Ed S)) (u : Nat) (y0 : Int), Wk u w v → (∀ e ∈ w, e ∈ es) → r' u = some y0 → ∃ y, r' v = some y ∧ y0 + (w.map (gn pa pb)).sum ≤ y := by
      intro w
      induction w with
      | nil =>
        intro u y0 hw _ hy
        have hw : u = v := hw
        subst hw
        exact ⟨y0, hy, by show y0 + 0 ≤ y0; omega⟩
      | cons e w ih =>
        intro u y0 hw hm hy
        rw [← hw.1] at hy
        obtain ⟨y1, h7, h8⟩ := b e (hm e List.mem_cons_self) y0 hy
        obtain ⟨y, h9, h10⟩ := ih e.l y1 hw.2 (fun e he => hm e (List.mem_cons_of_mem _ he)) h7
        refine ⟨y, h9, ?_⟩
        rw [List.map_cons, List.sum_cons]
        omega
    obtain ⟨y, h7, h8⟩ := go w u y0 h2 h3 h5
    exact ⟨y, h7, by omega⟩
  funext v
  cases z : r v with
  | none =>
    cases z' : r' v with
    | none => rfl
    | some y =>
      obtain ⟨x, h1, _⟩ := key a' b c v y z'
      rw [z] at h1
      cases h1
  | some x =>
    obtain ⟨y, h1, h2⟩ := key a b' c' v x z
    obtain ⟨x', h3, h4⟩ := key a' b c v y h1
    rw [z] at h3
    cases h3
    rw [h1]
    congr 1
    omega
end Hn

/-! Edges in the heap. -/
namespace Hn
open PySem PySem.Spec PyProof.Rows L2 Evl
/-- a step: none, or a word and an hour -/
def StV (H : Hp) (v : V) : Stp → Prop
  | none => v = .non
  | some (w, h) => ∃ t, v = .ref t ∧ H t = some (.tup [.str w, .int h])
/-- an edge -/
def EdV (H : Hp) (v : V) (e : Ed Stp) : Prop := ∃ t sv, v = .ref t ∧ H t = some (.tup [.int (e.f : Int), .int (e.l : Int), .int e.t, .int e.v, sv]) ∧ StV H sv e.s
theorem StV.mono {H H' : Hp} {v : V} {s : Stp} (e : Xl H H') (h : StV H v s) : StV H' v s := by
  cases s with
  | none => exact h
  | some p =>
    obtain ⟨t, rfl, ht⟩ := h
    exact ⟨t, rfl, e _ _ ht rfl⟩
theorem EdV.mono {H H' : Hp} {v : V} {e : Ed Stp} (x : Xl H H') (h : EdV H v e) : EdV H' v e :=
  let ⟨t, sv, h1, h2, h3⟩ := h
  ⟨t, sv, h1, x _ _ h2 rfl, h3.mono x⟩
/-- a list of edges -/
def EdL (H : Hp) (l : Addr) (es : List (Ed Stp)) : Prop := ∃ vs : List V, H l = some (.lst vs) ∧ vs.length = es.length ∧ ∀ (i : Nat) v, vs[i]? = some v → ∃ e, es[i]? = some e ∧ EdV H v e
theorem EdL.ex {H H' : Hp} {l : Addr} {es : List (Ed Stp)} (x : Ex H H') (h : EdL H l es) : EdL H' l es :=
  let ⟨vs, h1, h2, h3⟩ := h
  ⟨vs, x _ _ h1, h2, fun i v hv => let ⟨e, a, b⟩ := h3 i v hv; ⟨e, a, b.mono (.of x)⟩⟩
theorem mv_edl {H H' : Hp} {l : Addr} {es : List (Ed Stp)} (h : EdL H l es) (x : Ex H H') : EdL H' l es := h.ex x
theorem mv_edv {H H' : Hp} {v : V} {e : Ed Stp} (h : EdV H v e) (x : Xl H H') : EdV H' v e := h.mono x
/-- limits: an integer or None -/
def optI : Option Int → V
  | none => .non
  | some i => .int i
def optN : Option Nat → V
  | none => .non
  | some i => .int (i : Int)
def rwO (n : Nat) (r : Nat → Option Int) : List V := (List.range n).map fun i => optI (r i)
theorem rwO_length (n : Nat) (r : Nat → Option Int) : (rwO n r).length = n := by
  unfold rwO
  rw [List.length_map, List.length_range]
theorem rwO_at {n : Nat} {r : Nat → Option Int} {i : Nat} (h : i < n) : (rwO n r)[i]? = some (optI (r i)) := by
  unfold rwO
  rw [List.getElem?_map, List.getElem?_range h]
  rfl
theorem rwS_at {n : Nat} {R : Nat → Int} {i : Nat} (h : i < n) : (rwO n fun v => some (R v))[i]? = some (.int (R i)) := rwO_at h
theorem at_rwS {n : Nat} {R : Nat → Int} {i : Nat} (h : i < n) : atI (rwO n fun v => some (R v)) (i : Int) = some (.int (R i)) := atI_nat (rwS_at h)
theorem at_rwS0 {n : Nat} {R : Nat → Int} (h : 0 < n) : atI (rwO n fun v => some (R v)) 0 = some (.int (R 0)) := atI_nat (j := 0) (rwS_at h)
theorem set_map_up {α : Type} {n : Nat} {f : Nat → α} {b : Nat} {x : α} : ((List.range n).map f).set b x = (List.range n).map (upF f b x) := by
  refine List.ext_getElem? fun i => ?_
  rw [List.getElem?_set, List.getElem?_map, List.getElem?_map, List.length_map, List.length_range]
  by_cases hb : b = i
  · subst hb
    rw [if_pos rfl]
    by_cases hn : b < n
    · rw [if_pos hn, List.getElem?_range hn]
      show some x = some (upF f b x b)
      rw [upF_same]
    · rw [if_neg hn, List.getElem?_eq_none (by rw [List.length_range]; omega)]
      rfl
  · rw [if_neg hb]
    cases z : (List.range n)[i]? with
    | none => rfl
    | some j =>
      have hj : j = i := by
        have := List.getElem?_eq_some_iff.mp z
        obtain ⟨_, h⟩ := this
        rw [List.getElem_range] at h
        exact h.symm
      subst hj
      show some (f j) = some (upF f b x j)
      rw [upF_ne (fun q => hb q.symm)]
theorem rwO_set {n : Nat} {r : Nat → Option Int} {b : Nat} {x : Int} : (rwO n r).set b (.int x) = rwO n (upF r b (some x)) := by
  unfold rwO
  rw [set_map_up]
  refine List.map_congr_left fun i _ => ?_
  show upF (fun i => optI (r i)) b (.int x) i = optI (upF r b (some x) i)
  by_cases h : i = b
  · rw [h, upF_same, upF_same]
    rfl
  · rw [upF_ne h, upF_ne h]
/-- by which edge each mark was reached -/
def CamV (H : Hp) (v : V) : Option (Ed Stp) → Prop
  | none => v = .non
  | some e => EdV H v e
theorem CamV.mono {H H' : Hp} {v : V} {c : Option (Ed Stp)} (x : Xl H H') (h : CamV H v c) : CamV H' v c := by
  cases c with
  | none => exact h
  | some e => exact EdV.mono x h
def CamL (H : Hp) (p : Addr) (n : Nat) (c : Nat → Option (Ed Stp)) : Prop := ∃ vs : List V, H p = some (.lst vs) ∧ vs.length = n ∧ ∀ (i : Nat) v, vs[i]? = some v → CamV H v (c i)
theorem CamL.put {H : Hp} {p : Addr} {n b : Nat} {c : Nat → Option (Ed Stp)} {vs : List V} {v : V} {e : Ed Stp} (h : CamL H p n c) (hp : H p = some (.lst vs)) (he : EdV H v e) : CamL (upd H p (.lst (vs.set b v))) p n (upF c b (some e)) := by
  obtain ⟨ws, h1, h2, h3⟩ := h
  rw [hp] at h1
  cases h1
  have x : Xl H (upd H p (.lst (vs.set b v))) := Xl.set hp
  refine ⟨_, upd_same, by rw [List.length_set]; exact h2, fun i u hu => ?_⟩
  rw [List.getElem?_set] at hu
  by_cases q : b = i
  · subst q
    rw [if_pos rfl] at hu
    rw [upF_same]
    split at hu
    · cases hu
      exact EdV.mono x he
    · cases hu
  · rw [if_neg q] at hu
    rw [upF_ne (fun z => q z.symm)]
    exact (h3 i u hu).mono x
theorem CamL.start {H : Hp} {p : Addr} {n : Nat} (h : H p = some (.lst (List.replicate n .non))) : CamL H p n fun _ => none := by
  refine ⟨_, h, List.length_replicate, fun i v hv => ?_⟩
  rw [List.getElem?_replicate] at hv
  split at hv
  · cases hv
    rfl
  · cases hv
/-- all but what stands at p and q stands as it stood -/
def Mv2 (p q : Addr) (H H' : Hp) : Prop := ∀ a o, a ≠ p → a ≠ q → H a = some o → H' a = some o
theorem Mv2.refl (p q : Addr) (H : Hp) : Mv2 p q H H := fun _ _ _ _ h => h
theorem Mv2.trans {p q : Addr} {H H1 H2 : Hp} (x : Mv2 p q H H1) (y : Mv2 p q H1 H2) : Mv2 p q H H2 := fun a o h1 h2 h => y a o h1 h2 (x a o h1 h2 h)
theorem Mv2.l {p q : Addr} {H : Hp} {o : HO} : Mv2 p q H (upd H p o) := fun a o' h1 _ h => by rw [upd_ne h1]; exact h
theorem Mv2.r {p q : Addr} {H : Hp} {o : HO} : Mv2 p q H (upd H q o) := fun a o' _ h2 h => by rw [upd_ne h2]; exact h
theorem Mv2.xl {p q : Addr} {H H' : Hp} {xs ys : List V} (x : Mv2 p q H H') (hp : H p = some (.lst xs)) (hq : H q = some (.lst ys)) : Xl H H' := fun a o h n => by
  refine x a o ?_ ?_ h
  · exact ne_of h hp (by intro z; rw [z] at n; cases n)
  · exact ne_of h hq (by intro z; rw [z] at n; cases n)
theorem Mv2.ex {p q : Addr} {H0 H H' : Hp} (e : Ex H0 H) (x : Mv2 p q H H') (hp : H0 p = none) (hq : H0 q = none) : Ex H0 H' := fun a o h => by
  refine x a o ?_ ?_ (e a o h)
  · intro z; rw [z, hp] at h; cases h
  · intro z; rw [z, hq] at h; cases h
theorem Mv2.ex' {p q : Addr} {H H' : Hp} (e : Ex H H') : Mv2 p q H H' := fun a o _ _ h => e a o h
/-- marks within, turns that are small -/
def EdOk (n : Nat) (es : List (Ed Stp)) : Prop := ∀ e ∈ es, e.f < n ∧ e.l < n ∧ -(2 ^ 64) < e.t ∧ e.t < 2 ^ 64
theorem edv_in {H : Hp} {l : Addr} {es : List (Ed Stp)} {vs : List V} (h : EdL H l es) (hl : H l = some (.lst vs)) {i : Nat} {v : V} (hv : vs[i]? = some v) : ∃ e, es[i]? = some e ∧ EdV H v e := by
  obtain ⟨ws, h1, h2, h3⟩ := h
  rw [hl] at h1
  cases h1
  exact h3 i v hv
theorem optI_non {x : Option Int} : (optI x = .non) ↔ x = none := by
  cases x with
  | none => exact ⟨fun _ => rfl, fun _ => rfl⟩
  | some i => exact ⟨(fun h => nomatch h), (fun h => nomatch h)⟩
theorem CamL.at {H : Hp} {p : Addr} {n : Nat} {c : Nat → Option (Ed Stp)} (h : CamL H p n c) {i : Nat} {e : Ed Stp} (hi : i < n) (he : c i = some e) : ∃ vs t sv, H p = some (.lst vs) ∧ vs[i]? = some (.ref t) ∧ H t = some (.tup [.int (e.f : Int), .int (e.l : Int), .int e.t, .int e.v, sv]) ∧ EdV H (.ref t) e := by
  obtain ⟨vs, h1, h2, h3⟩ := h
  have hv : vs[i]? = some vs[i] := List.getElem?_eq_getElem (by omega)
  have := h3 i _ hv
  rw [he] at this
  obtain ⟨t, sv, e1, e2, e3⟩ := id this
  rw [e1] at hv
  exact ⟨vs, t, sv, h1, hv, e2, t, sv, rfl, e2, e3⟩
theorem CamL.ex {H H' : Hp} {p : Addr} {n : Nat} {c : Nat → Option (Ed Stp)} (x : Ex H H') (h : CamL H p n c) : CamL H' p n c :=
  let ⟨vs, h1, h2, h3⟩ := h
  ⟨vs, x _ _ h1, h2, fun i v hv => (h3 i v hv).mono (.of x)⟩
theorem EdL.at {H : Hp} {l : Addr} {es : List (Ed Stp)} (h : EdL H l es) {i : Nat} {e : Ed Stp} (he : es[i]? = some e) : ∃ vs t sv, H l = some (.lst vs) ∧ vs[i]? = some (.ref t) ∧ H t = some (.tup [.int (e.f : Int), .int (e.l : Int), .int e.t, .int e.v, sv]) ∧ StV H sv e.s := by
  obtain ⟨vs, h1, h2, h3⟩ := h
  have hi := (List.getElem?_eq_some_iff.mp he).1
  have hv : vs[i]? = some vs[i] := List.getElem?_eq_getElem (by omega)
  obtain ⟨e', he', t, sv, e1, e2, e3⟩ := h3 i _ hv
  rw [he] at he'
  cases he'
  rw [e1] at hv
  exact ⟨vs, t, sv, h1, hv, e2, e3⟩
theorem EdL.push {H : Hp} {p : Addr} {es : List (Ed Stp)} {vs : List V} {v : V} {e : Ed Stp} (h : EdL H p es) (hp : H p = some (.lst vs)) (hv : EdV H v e) : EdL (upd H p (.lst (vs ++ [v]))) p (es ++ [e]) := by
  obtain ⟨ws, h1, h2, h3⟩ := h
  rw [hp] at h1
  cases h1
  have x : Xl H (upd H p (.lst (vs ++ [v]))) := Xl.set hp
  refine ⟨_, upd_same, by rw [List.length_append, List.length_append, h2]; rfl, fun i u hu => ?_⟩
  by_cases hi : i < vs.length
  · rw [List.getElem?_append_left hi] at hu
    obtain ⟨e', a, b⟩ := h3 i u hu
    exact ⟨e', by rw [List.getElem?_append_left (by omega)]; exact a, b.mono x⟩
  · rw [List.getElem?_append_right (by omega)] at hu
    have : i = vs.length := by
      have := (List.getElem?_eq_some_iff.mp hu).1
      rw [List.length_singleton] at this
      omega
    subst this
    rw [Nat.sub_self] at hu
    cases hu
    exact ⟨e, by rw [List.getElem?_append_right (by omega), h2, Nat.sub_self]; rfl, hv.mono x⟩
theorem EdL.nil {H : Hp} {p : Addr} (h : H p = some (.lst [])) : EdL H p [] := ⟨[], h, rfl, fun i v hv => by simp at hv⟩
theorem needEs_len (s d : List Int) : (needEs s d).length = 2 * s.length := by
  unfold needEs
  have : ∀ n : Nat, ((List.range n).flatMap fun (h : Nat) => [nE s d h, kE s.length 0 h]).length = 2 * n := by
    intro n
    induction n with
    | zero => rfl
    | succ n ih =>
      rw [List.range_succ, List.flatMap_append, List.length_append, ih]
      show 2 * n + 2 = _
      omega
  exact this _
theorem need_ok {s d : List Int} (g : Good s) : EdOk s.length (needEs s d) := fun e he => by
  obtain ⟨len, q⟩ := needE_of g he
  have a := q.t0
  have b := q.t1
  exact ⟨q.fl.1, q.fl.2, by omega, by omega⟩
/-- the heap without what stands at p -/
def del (H : Hp) (p : Addr) : Hp := fun a => if a = p then none else H a
theorem del_same {H : Hp} {p : Addr} : del H p p = none := if_pos rfl
theorem del_ne {H : Hp} {p a : Addr} (h : a ≠ p) : del H p a = H a := if_neg h
theorem del_ex {H : Hp} {p : Addr} : Ex (del H p) H := fun a o h => by
  by_cases q : a = p
  · rw [q, del_same] at h; cases h
  · rw [del_ne q] at h; exact h
theorem ex_del {H0 H : Hp} {p : Addr} (e : Ex H0 H) (h : H0 p = none) : Ex H0 (del H p) := fun a o q => by
  rw [del_ne (fun z => by rw [z, h] at q; cases q)]
  exact e a o q
/-- the edges of a closed walk, or None -/
def GaV (H : Hp) (v : V) : Option (List (Ed Stp)) → Prop
  | none => v = .non
  | some w => ∃ p, v = .ref p ∧ EdL H p w
theorem GaV.ex {H H' : Hp} {v : V} {w : Option (List (Ed Stp))} (x : Ex H H') (h : GaV H v w) : GaV H' v w := by
  cases w with
  | none => exact h
  | some w =>
    obtain ⟨p, rfl, h⟩ := h
    exact ⟨p, rfl, h.ex x⟩
/-- while -/
theorem r_while {c : TT} {tb : TS} {D : Ends} {σ : L2.St} {H : Hp} (W : Nat → L2.St → Hp → Prop) (m : Nat) (h0 : W m σ H)
    (hs : ∀ m σ H, W m σ H → c σ H fun b H1 => if b = true then ∃ N : L2.St → Hp → Prop, (∀ σ' H', N σ' H' → ∃ m', m' < m ∧ W m' σ' H') ∧ tb { D with nx := N, ct := N, bk := D.nx } σ H1 else D.nx σ H1) : tWhile c tb D σ H := ⟨W, ⟨m, h0⟩, hs⟩
/-- the turn of a while whose test holds -/
theorem r_turn {tb : TS} {D : Ends} {σ : L2.St} {H1 : Hp} {W : Nat → L2.St → Hp → Prop} {m : Nat} (h : tb { D with nx := fun σ' H' => ∃ m', m' < m ∧ W m' σ' H', ct := fun σ' H' => ∃ m', m' < m ∧ W m' σ' H', bk := D.nx } σ H1) :
    ∃ N : L2.St → Hp → Prop, (∀ σ' H', N σ' H' → ∃ m', m' < m ∧ W m' σ' H') ∧ tb { D with nx := N, ct := N, bk := D.nx } σ H1 := ⟨_, fun _ _ z => z, h⟩
theorem rep_flat {x : V} : ∀ n : Nat, (List.replicate n [x]).flatten = List.replicate n x
  | 0 => rfl
  | n + 1 => by
    rw [List.replicate_succ, List.flatten_cons, rep_flat n, List.replicate_succ]
    rfl
theorem r_rep1 {H : Hp} {Q : VK} {l : Addr} {x : V} {n : Nat} (h : H l = some (.lst [x])) (hn : n ≤ 1000) (q : ∀ p, H p = none → Q (.ref p) (upd H p (.lst (List.replicate n x)))) : rRep (.ref l) (.int (n : Int)) H Q := by
  refine ⟨l, n, [x], rfl, rfl, h, by omega, by omega, ?_, fun p np => ?_⟩
  · rw [Int.toNat_natCast]
    exact line_le (by rw [List.length_singleton]; omega)
  · rw [Int.toNat_natCast]
    rw [rep_flat n]
    exact q p np
end Hn

/-! Rings, read. -/
namespace Hn
open PySem PySem.Spec PyProof.Rows L2 Evl
theorem cut_last1 {xs : List V} (h : 1 ≤ xs.length) : cutV xs (some (-1)) none = xs.drop (xs.length - 1) := by
  unfold cutV
  rw [HT.sIx_none]
  have e : HT.sIx xs.length 0 (some (-1)) = xs.length - 1 := by
    show HT.sIx xs.length 0 (some (-1)) = xs.length - 1
    unfold HT.sIx
    simp only []
    split <;> omega
  rw [e, List.take_of_length_le (by rw [List.length_drop]; omega)]
/-- the hour ahead of the i-th one of a ring -/
def prevH (r : List Int) (i : Nat) : Int := if i = 0 then r.getD (r.length - 1) 0 else r.getD (i - 1) 0
theorem ring_shift {r : List Int} (h : 1 ≤ r.length) : ((r.map V.int).drop ((r.map V.int).length - 1) ++ (r.map V.int).take ((r.map V.int).length - 1)).length = r.length ∧ ∀ i, i < r.length → ((r.map V.int).drop ((r.map V.int).length - 1) ++ (r.map V.int).take ((r.map V.int).length - 1))[i]? = some (.int (prevH r i)) := by
  rw [List.length_map]
  have l1 : ((r.map V.int).drop (r.length - 1)).length = 1 := by
    rw [List.length_drop, List.length_map]
    omega
  refine ⟨by rw [List.length_append, l1, List.length_take, List.length_map]; omega, fun i hi => ?_⟩
  unfold prevH
  by_cases hi0 : i = 0
  · rw [if_pos hi0, hi0, List.getElem?_append_left (by omega), List.getElem?_drop, List.getElem?_map, Nat.add_zero, List.getElem?_eq_getElem (by omega), List.getD_eq_getElem?_getD, List.getElem?_eq_getElem (by omega)]
    rfl
  · rw [if_neg hi0, List.getElem?_append_right (by omega), l1, List.getElem?_take, if_pos (by omega), List.getElem?_map, List.getElem?_eq_getElem (by omega), List.getD_eq_getElem?_getD, List.getElem?_eq_getElem (by omega)]
    rfl
theorem lastH_get : ∀ {r : List Int} {h : Int}, r ≠ [] → lastH h r = r.getD (r.length - 1) 0
  | [], _, z => absurd rfl z
  | [k], _, _ => rfl
  | k :: k2 :: r, h, _ => by
    show lastH k (k2 :: r) = _
    rw [lastH_get (r := k2 :: r) (fun z => nomatch z)]
    show (k2 :: r).getD ((k2 :: r).length - 1) 0 = (k :: k2 :: r).getD ((k2 :: r).length) 0
    rw [List.getD_eq_getElem?_getD, List.getD_eq_getElem?_getD, List.length_cons]
    rfl
theorem hops_list {s : List Int} : ∀ (r : List Int) (h : Int), hops s h r = ((List.range r.length).map fun i => stp s (if i = 0 then h else r.getD (i - 1) 0) (r.getD i 0)).sum
  | [], _ => rfl
  | k :: r, h => by
    show stp s h k + hops s k r = _
    rw [hops_list r k, List.length_cons, List.range_succ_eq_map, List.map_cons, List.sum_cons, List.map_map]
    congr 1
    congr 1
    refine List.map_congr_left fun i _ => ?_
    show stp s (if i = 0 then k else r.getD (i - 1) 0) (r.getD i 0) = stp s (if i + 1 = 0 then h else (k :: r).getD (i + 1 - 1) 0) ((k :: r).getD (i + 1) 0)
    rw [if_neg (show ¬ i + 1 = 0 by omega), Nat.add_sub_cancel]
    congr 1
    by_cases q : i = 0
    · rw [if_pos q, q]
      rfl
    · rw [if_neg q]
      obtain ⟨j, rfl⟩ : ∃ j, i = j + 1 := ⟨i - 1, by omega⟩
      rfl
theorem wnd_list {s r : List Int} (h : r ≠ []) : ((List.range r.length).map fun i => stp s (prevH r i) (r.getD i 0)).sum / (s.length : Int) = wnd s r := by
  unfold wnd
  rw [hops_list, lastH_get h]
  rfl
theorem hops_le {s : List Int} (g : Good s) : ∀ (r : List Int) (h : Int), hops s h r ≤ 2 * s.length * r.length
  | [], _ => by
    show (0 : Int) ≤ 2 * s.length * ((0 : Nat) : Int)
    omega
  | k :: r, h => by
    have a := hops_le g r k
    have b := wd_le (s := s) k
    have c := mod_bd g.ne (k - wd s k - h)
    show stp s h k + hops s k r ≤ 2 * s.length * ((r.length + 1 : Nat) : Int)
    unfold stp
    rw [show ((r.length + 1 : Nat) : Int) = (r.length : Int) + 1 by omega, Int.mul_add]
    omega
theorem wnd_small {s r : List Int} (g : Good s) (h : r ≠ []) (hl : r.length ≤ 100000) : wnd s r < 2 ^ 30 := by
  obtain ⟨e, _⟩ := wnd_eq g h
  have a := hops_le g r (lastH 0 r)
  have hn := g.ne
  rw [e] at a
  have b : wnd s r ≤ 2 * r.length := by
    refine Int.le_of_mul_le_mul_left (a := (s.length : Int)) ?_ (by omega)
    rw [show (s.length : Int) * (2 * (r.length : Int)) = 2 * s.length * r.length by rw [← Int.mul_assoc, Int.mul_comm (s.length : Int) 2]]
    exact a
  omega
theorem k_index {X : Cx} {K : PySem.W.Frag} (h : X.K = K) : MtR X "list.index" (rIndex K) := h ▸ mt_index
/-- the place of an integer in a list -/
theorem r_index {K : PySem.W.Frag} {H : Hp} {Q : VK} {a : Addr} {ns : List Int} {m : Int} (h : SqL K H a (ns.map V.int)) (hm : m ∈ ns) (q : ∀ j : Nat, j < ns.length → ns.getD j 0 = m → (∀ i, i < j → ns.getD i 0 ≠ m) → Q (.int (j : Int)) H) : rIndex K (.ref a) [.int m] H Q := by
  obtain ⟨j0, hj0, e0⟩ := List.mem_iff_getElem.mp hm
  obtain ⟨j, h1, h2, h3⟩ := least_of (P := fun j => j < ns.length ∧ ns.getD j 0 = m) j0 ⟨hj0, by rw [List.getD_eq_getElem?_getD, List.getElem?_eq_getElem hj0]; exact e0⟩
  refine ⟨a, _, _, j, .int m, rfl, rfl, h, rfl, flat_ints ns, ?_, ?_, fun i z hi hz => ?_, q j h2.1 h2.2 fun i hi e => h3 i hi ⟨by omega, e⟩⟩
  · rw [List.getElem?_map, List.getElem?_eq_getElem h2.1]
    have := h2.2
    rw [List.getD_eq_getElem?_getD, List.getElem?_eq_getElem h2.1] at this
    show some (V.int ns[j]) = some (V.int m)
    rw [show ns[j] = m from this]
  · show eqV (.int m) (.int m) = true
    simp [eqV]
  · obtain rfl := int_at hz
    have := h3 i hi
    have hne : ns.getD i 0 ≠ m := fun e => this ⟨by omega, e⟩
    exact decide_eq_false hne
theorem fm_range {α : Type} (f : α → Option Int) : ∀ (w : List α), ((List.range w.length).filter fun i => ((w[i]?).bind f).isSome).map (fun i => V.int (((w[i]?).bind f).getD 0)) = (w.filterMap f).map V.int
  | [] => rfl
  | a :: w => by
    have ih := fm_range f w
    rw [List.length_cons, List.range_succ_eq_map, List.filter_cons, List.filter_map]
    cases z : f a with
    | none =>
      rw [List.filterMap_cons_none z, ← ih]
      rw [if_neg (by show ¬ (f a).isSome = true; rw [z]; decide), List.map_map]
      rfl
    | some k =>
      rw [List.filterMap_cons_some z, List.map_cons, ← ih]
      rw [if_pos (by show (f a).isSome = true; rw [z]; rfl), List.map_cons, List.map_map]
      show V.int ((f a).getD 0) :: _ = _
      rw [z]
      rfl
theorem ne_len {α : Type} {r : List α} (h : r ≠ []) : 1 ≤ r.length := by
  cases r with
  | nil => exact absurd rfl h
  | cons a b => rw [List.length_cons]; omega
theorem prevH_in {r : List Int} {n i : Nat} (h : ∀ k ∈ r, 0 ≤ k ∧ k < (n : Int)) (hi : i < r.length) : (0 ≤ prevH r i ∧ prevH r i < (n : Int)) ∧ 0 ≤ r.getD i 0 ∧ r.getD i 0 < (n : Int) := by
  refine ⟨?_, h _ (gD_mem hi)⟩
  unfold prevH
  split
  · exact h _ (gD_mem (by omega))
  · exact h _ (gD_mem (by omega))
theorem fil_one {p : Nat → Bool} {k : Nat} : ∀ n, (∀ i, i < n → p i = decide (i = k)) → (List.range n).filter p = if k < n then [k] else []
  | 0, _ => rfl
  | n + 1, h => by
    rw [List.range_succ, List.filter_append, fil_one n (fun i hi => h i (by omega)), List.filter_cons, List.filter_nil, h n (by omega)]
    by_cases q : n = k
    · subst q
      rw [if_neg (by omega), if_pos (by simp), if_pos (by omega)]
      rfl
    · rw [decide_eq_false q]
      by_cases q2 : k < n
      · rw [if_pos q2, if_pos (show k < n + 1 by omega)]
        rfl
      · rw [if_neg q2, if_neg (show ¬ k < n + 1 by omega)]
        rfl
/-- the one number of hours that leads there -/
theorem hop_fil {n : Nat} {w x : Int} (hn : 1 ≤ n) : ((List.range n).filter fun (i : Nat) => decide ((x + (w + (i : Int))) % (n : Int) = 0)).map (fun (i : Nat) => w + (i : Int)) = [w + (-x - w) % (n : Int)] := by
  have hb := mod_bd hn (-x - w)
  have e : ∀ i : Nat, i < n → ((x + (w + (i : Int))) % (n : Int) = 0 ↔ i = ((-x - w) % (n : Int)).toNat) := fun i hi => by
    have sp := mod_split (n := n) (-x - w)
    constructor
    · intro z
      obtain ⟨q, hq⟩ := Int.dvd_of_emod_eq_zero z
      have : (-x - w) % (n : Int) = (i : Int) := by
        rw [show -x - w = (i : Int) + (n : Int) * (-q) by rw [Int.mul_neg]; omega, Int.add_mul_emod_self_left, Int.emod_eq_of_lt (by omega) (by omega)]
      omega
    · intro z
      refine Int.emod_eq_zero_of_dvd ⟨-((-x - w) / (n : Int)), ?_⟩
      rw [Int.mul_neg]
      omega
  rw [fil_one (k := ((-x - w) % (n : Int)).toNat) n fun i hi => by rw [Bool.eq_iff_iff, decide_eq_true_iff, decide_eq_true_iff]; exact e i hi, if_pos (by omega)]
  show [w + (((-x - w) % (n : Int)).toNat : Int)] = _
  rw [Int.toNat_of_nonneg hb.1]
theorem r_isiLst {K : PySem.W.Frag} {H : Hp} {Q : VK} {a : Addr} {xs : List V} (h : H a = some (.lst xs)) (q : Q (.bl true) H) : rIsi K [.ref a, .ty "list"] H Q := ⟨.ref a, .ty "list", _, _, true, rfl, .ty _, .base (.lst h), kit_ty (by decide +kernel), q⟩
/-- needs as begins: enough -/
def sgA (d : List Int) : Int → Int := fun k => Sg k.toNat (cyc d)
theorem self_enf {s d : List Int} (g : Good s) (hl : d.length = s.length) (nn : ∀ i, 0 ≤ cyc d i) : Enf s d d.sum (sgA d) := by
  have hn := g.ne
  have h0 : sgA d 0 = 0 := rfl
  have hP : sgA d (s.length : Int) = d.sum := by
    show Sg ((s.length : Int)).toNat (cyc d) = d.sum
    rw [Int.toNat_natCast, ← hl, ← sum_cyc]
  have hm : mono s.length (sgA d) := mono_Sg fun j _ => nn _
  refine ⟨h0, hP, hm, enuf_iff.mpr fun h hh => ?_⟩
  rw [th_win g h0 hP]
  have a := ext_step hn h0 hP (h : Int)
  have e : byS s.length (sgA d) = d := by
    unfold sgA
    rw [← row_byS, ← hl, ← row_cyc]
  rw [e] at a
  have b := ext_le hn h0 hP hm (x := (h : Int) + 1 - wd s h) (y := h) (by have := wd_pos g h; omega)
  omega
theorem zero_up (n : Nat) (X : Nat → Int) : ∃ C, ∀ v, 0 ≤ (if v < n then X v else 0) + C := by
  induction n with
  | zero => exact ⟨0, fun v => by rw [if_neg (by omega)]; omega⟩
  | succ n ih =>
    obtain ⟨C, h⟩ := ih
    have hC : 0 ≤ C := by
      have := h n
      rw [if_neg (by omega)] at this
      omega
    refine ⟨C + (if X n < 0 then -X n else 0), fun v => ?_⟩
    by_cases q : v = n
    · rw [q, if_pos (by omega)]
      split <;> omega
    · have := h v
      by_cases q2 : v < n
      · rw [if_pos q2] at this
        rw [if_pos (by omega)]
        split <;> omega
      · rw [if_neg (by omega)]
        split <;> omega
end Hn

/-! Values as trees, without a heap; what stands for what; what a def's names hold. -/
namespace Wx
open PySem PySem.Spec PyProof.Rows L2 Evl Hn

/-- the classes of the package -/
inductive Cn where
  | Clock | Needs | Plan | House | Book | Desk | Endless
  deriving DecidableEq
/-- a value as a tree -/
inductive PV where
  | non | bl (b : Bool) | int (i : Int) | str (x : Str) | ty (n : String) | cls (c : Cn)
  | lst (xs : List PV) | tup (xs : List PV) | ins (c : Cn) (fs : List (Str × PV)) | bag | scr (ns : List Int)
abbrev Fz := Addr → Prop
/-- the script's list -/
def ScrOk (K : PySem.W.Frag) (F : Fz) (H : Hp) (a : Addr) (xs : List V) : Prop := (H a = some (.lst xs) ∧ F a) ∨ (∃ o, H a = some (.frz o (.lst xs))) ∨ ∀ H', SqL K H' a xs
theorem ScrOk.sq {K : PySem.W.Frag} {F : Fz} {H : Hp} {a : Addr} {xs : List V} (h : ScrOk K F H a xs) : SqL K H a xs := by
  rcases h with ⟨h, _⟩ | ⟨o, h⟩ | h
  · exact .inl (.inl h)
  · exact .inl (.inr ⟨o, h⟩)
  · exact h H
mutual
/-- v stands for the tree x in the heap H, all of whose lists are held -/
inductive Rv (K : PySem.W.Frag) (d : Cn → Addr) (F : Fz) (H : Hp) : V → PV → Prop
  | non : Rv K d F H .non .non
  | bl (b : Bool) : Rv K d F H (.bl b) (.bl b)
  | int (i : Int) : Rv K d F H (.int i) (.int i)
  | str (x : Str) : Rv K d F H (.str x) (.str x)
  | ty (n : String) : Rv K d F H (.ty n) (.ty n)
  | cls (c : Cn) : Rv K d F H (.ref (d c)) (.cls c)
  | lst {a : Addr} {vs : List V} {xs : List PV} : H a = some (.lst vs) → F a → Rvs K d F H vs xs → Rv K d F H (.ref a) (.lst xs)
  | tup {a : Addr} {vs : List V} {xs : List PV} : SqT K H a vs → Rvs K d F H vs xs → Rv K d F H (.ref a) (.tup xs)
  | ins {a dx : Addr} {c : Cn} {gs : List (Str × V)} {fs : List (Str × PV)} : H a = some (.ins (d c) dx gs) → Rvf K d F H gs fs → Rv K d F H (.ref a) (.ins c fs)
  | bag {b : Addr} : Bag H b → Rv K d F H (.ref b) .bag
  | scr {a : Addr} {ns : List Int} : ScrOk K F H a (ns.map V.int) → ns.length ≤ 63 → Rv K d F H (.ref a) (.scr ns)
inductive Rvs (K : PySem.W.Frag) (d : Cn → Addr) (F : Fz) (H : Hp) : List V → List PV → Prop
  | nil : Rvs K d F H [] []
  | cons {v : V} {x : PV} {vs : List V} {xs : List PV} : Rv K d F H v x → Rvs K d F H vs xs → Rvs K d F H (v :: vs) (x :: xs)
inductive Rvf (K : PySem.W.Frag) (d : Cn → Addr) (F : Fz) (H : Hp) : List (Str × V) → List (Str × PV) → Prop
  | nil : Rvf K d F H [] []
  | cons {f : Str} {v : V} {x : PV} {vs : List (Str × V)} {xs : List (Str × PV)} : Rv K d F H v x → Rvf K d F H vs xs → Rvf K d F H ((f, v) :: vs) ((f, x) :: xs)
end
/-- what may be written -/
def isMu : HO → Bool
  | .lst _ => true
  | .dK _ => true
  | .dT _ => true
  | _ => false
/-- what is never written stands as it stood -/
def Xm (H H' : Hp) : Prop := ∀ a o, H a = some o → isMu o = false → H' a = some o
theorem Xm.refl (H : Hp) : Xm H H := fun _ _ h _ => h
theorem Xm.of {H H' : Hp} (e : Ex H H') : Xm H H' := fun a o h _ => e a o h
theorem tup_xm {K : PySem.W.Frag} {H H' : Hp} {a : Addr} {xs : List V} (e : Xm H H') (h : SqT K H a xs) : SqT K H' a xs := by
  rcases h with (h | ⟨o, h⟩) | h
  · exact .inl (.inl (e _ _ h rfl))
  · exact .inl (.inr ⟨o, e _ _ h rfl⟩)
  · exact .inr h
theorem bag_xm {H H' : Hp} {b : Addr} (e : Xm H H') (h : Bag H b) : Bag H' b :=
  let ⟨l, o, cs, h1, h2, h3, h4⟩ := h
  ⟨l, o, cs, e _ _ h1 rfl, e _ _ h2 rfl, h3, h4⟩
/-- what is never written, and every held list, stands as it stood -/
def Stb (F : Fz) (H H' : Hp) : Prop := ∀ a o, H a = some o → (isMu o = false ∨ F a) → H' a = some o
section
variable {K : PySem.W.Frag} {d : Cn → Addr} {F F' F1 F2 : Fz} {H H' H1 H2 H0 : Hp}
theorem Stb.xl (e : Stb F H H') : Xm H H' := fun a o h n => e a o h (.inl n)
theorem Stb.of (e : Ex H H') : Stb F H H' := fun a o h _ => e a o h
theorem Stb.refl : Stb F H H := fun _ _ h _ => h
/-- a list that is not held is written -/
theorem Stb.set {a : Addr} {vs : List V} {o : HO} (ha : H a = some (.lst vs)) (nf : ¬ F a) : Stb F H (upd H a o) := fun b q hb z => by
  have ne : b ≠ a := by
    rintro rfl
    rw [ha] at hb
    cases hb
    rcases z with z | z
    · cases z
    · exact nf z
  rw [upd_ne ne]
  exact hb
theorem sqL_stb {a : Addr} {vs : List V} (e : Stb F H H') (f : F a) (h : SqL K H a vs) : SqL K H' a vs := by
  rcases h with (h | ⟨o, h⟩) | h
  · exact .inl (.inl (e _ _ h (.inr f)))
  · exact .inl (.inr ⟨o, e _ _ h (.inl rfl)⟩)
  · exact .inr h
theorem ScrOk.mono {a : Addr} {xs : List V} (h : ScrOk K F H a xs) (e : Stb F H H') (f : ∀ a, F a → F' a) : ScrOk K F' H' a xs := by
  rcases h with ⟨h, q⟩ | ⟨o, h⟩ | h
  · exact .inl ⟨e _ _ h (.inr q), f _ q⟩
  · exact .inr (.inl ⟨o, e _ _ h (.inl rfl)⟩)
  · exact .inr (.inr h)
mutual
theorem Rv.mono (e : Stb F H H') (f : ∀ a, F a → F' a) : ∀ {v : V} {x : PV}, Rv K d F H v x → Rv K d F' H' v x
  | _, _, .non => .non
  | _, _, .bl b => .bl b
  | _, _, .int i => .int i
  | _, _, .str x => .str x
  | _, _, .ty n => .ty n
  | _, _, .cls c => .cls c
  | _, _, .lst h1 h2 h3 => .lst (e _ _ h1 (.inr h2)) (f _ h2) (Rvs.mono e f h3)
  | _, _, .tup h1 h2 => .tup (tup_xm e.xl h1) (Rvs.mono e f h2)
  | _, _, .ins h1 h2 => .ins (e _ _ h1 (.inl rfl)) (Rvf.mono e f h2)
  | _, _, .bag h => .bag (bag_xm e.xl h)
  | _, _, .scr h1 h2 => .scr (h1.mono e f) h2
theorem Rvs.mono (e : Stb F H H') (f : ∀ a, F a → F' a) : ∀ {vs : List V} {xs : List PV}, Rvs K d F H vs xs → Rvs K d F' H' vs xs
  | _, _, .nil => .nil
  | _, _, .cons a b => .cons (Rv.mono e f a) (Rvs.mono e f b)
theorem Rvf.mono (e : Stb F H H') (f : ∀ a, F a → F' a) : ∀ {vs : List (Str × V)} {xs : List (Str × PV)}, Rvf K d F H vs xs → Rvf K d F' H' vs xs
  | _, _, .nil => .nil
  | _, _, .cons a b => .cons (Rv.mono e f a) (Rvf.mono e f b)
end
theorem Rvs.length : ∀ {vs : List V} {xs : List PV}, Rvs K d F H vs xs → vs.length = xs.length
  | _, _, .nil => rfl
  | _, _, .cons _ b => by rw [List.length_cons, List.length_cons, b.length]
theorem Rvs.get : ∀ {vs : List V} {xs : List PV} {i : Nat} {x : PV}, Rvs K d F H vs xs → xs[i]? = some x → ∃ v, vs[i]? = some v ∧ Rv K d F H v x
  | _, _, _, _, .nil, h => by simp at h
  | _, _, 0, _, .cons a b, h => by simp at h; subst h; exact ⟨_, rfl, a⟩
  | _, _, i + 1, _, .cons a b, h => by
    obtain ⟨v, h1, h2⟩ := Rvs.get (i := i) b (by simpa using h)
    exact ⟨v, by simpa using h1, h2⟩
theorem Rvs.getV : ∀ {vs : List V} {xs : List PV} {i : Nat} {v : V}, Rvs K d F H vs xs → vs[i]? = some v → ∃ x, xs[i]? = some x ∧ Rv K d F H v x
  | _, _, _, _, .nil, h => by simp at h
  | _, _, 0, _, .cons a b, h => by simp at h; subst h; exact ⟨_, rfl, a⟩
  | _, _, i + 1, _, .cons a b, h => by
    obtain ⟨v, h1, h2⟩ := Rvs.getV (i := i) b (by simpa using h)
    exact ⟨v, by simpa using h1, h2⟩
theorem Rvs.append : ∀ {vs ws : List V} {xs ys : List PV}, Rvs K d F H vs xs → Rvs K d F H ws ys → Rvs K d F H (vs ++ ws) (xs ++ ys)
  | _, _, _, _, .nil, s => s
  | _, _, _, _, .cons a b, s => .cons a (b.append s)
theorem Rvs.take : ∀ {vs : List V} {xs : List PV} (n : Nat), Rvs K d F H vs xs → Rvs K d F H (vs.take n) (xs.take n)
  | _, _, 0, _ => .nil
  | _, _, _ + 1, .nil => .nil
  | _, _, n + 1, .cons a b => .cons a (b.take n)
theorem Rvs.drop : ∀ {vs : List V} {xs : List PV} (n : Nat), Rvs K d F H vs xs → Rvs K d F H (vs.drop n) (xs.drop n)
  | _, _, 0, r => r
  | _, _, _ + 1, .nil => .nil
  | _, _, n + 1, .cons _ b => b.drop n
theorem Rvs.set {x : PV} {v : V} (r : Rv K d F H v x) : ∀ {vs : List V} {xs : List PV} (i : Nat), Rvs K d F H vs xs → Rvs K d F H (vs.set i v) (xs.set i x)
  | _, _, _, .nil => .nil
  | _, _, 0, .cons _ b => .cons r b
  | _, _, i + 1, .cons a b => .cons a (b.set r i)
theorem Rvs.reverse : ∀ {vs : List V} {xs : List PV}, Rvs K d F H vs xs → Rvs K d F H vs.reverse xs.reverse
  | _, _, .nil => .nil
  | _, _, .cons a b => by
    rw [List.reverse_cons, List.reverse_cons]
    exact b.reverse.append (.cons a .nil)
theorem Rvs.eraseIdx : ∀ {vs : List V} {xs : List PV} (i : Nat), Rvs K d F H vs xs → Rvs K d F H (vs.eraseIdx i) (xs.eraseIdx i)
  | _, _, _, .nil => .nil
  | _, _, 0, .cons _ b => b
  | _, _, i + 1, .cons a b => .cons a (b.eraseIdx i)
theorem Rvs.rep {x : PV} {v : V} (r : Rv K d F H v x) : ∀ n : Nat, Rvs K d F H (List.replicate n v) (List.replicate n x)
  | 0 => .nil
  | n + 1 => .cons r (Rvs.rep r n)
theorem Rvs.flat {vs : List V} {xs : List PV} (r : Rvs K d F H vs xs) : ∀ n : Nat, Rvs K d F H (List.replicate n vs).flatten (List.replicate n xs).flatten
  | 0 => .nil
  | n + 1 => by
    rw [List.replicate_succ, List.replicate_succ, List.flatten_cons, List.flatten_cons]
    exact r.append (r.flat n)
def cutP (xs : List PV) (lo hi : Option Int) : List PV := (xs.drop (HT.sIx xs.length 0 lo)).take (HT.sIx xs.length xs.length hi - HT.sIx xs.length 0 lo)
theorem Rvs.ints : ∀ {vs : List V} {ns : List Int}, Rvs K d F H vs (ns.map PV.int) → vs = ns.map V.int
  | [], [], _ => rfl
  | [], _ :: _, h => by cases h
  | _ :: _, [], h => by cases h
  | v :: vs, n :: ns, .cons a b => by
    cases a
    rw [List.map_cons, b.ints]
theorem Rvs.of_ints : ∀ (ns : List Int), Rvs K d F H (ns.map V.int) (ns.map PV.int)
  | [] => .nil
  | n :: ns => .cons (.int n) (Rvs.of_ints ns)
theorem Rvs.bools : ∀ {vs : List V} {ns : List Bool}, Rvs K d F H vs (ns.map PV.bl) → vs = ns.map V.bl
  | [], [], _ => rfl
  | [], _ :: _, h => by cases h
  | _ :: _, [], h => by cases h
  | v :: vs, n :: ns, .cons a b => by
    cases a
    rw [List.map_cons, b.bools]
theorem Rvs.strs : ∀ {vs : List V} {ns : List Str}, Rvs K d F H vs (ns.map PV.str) → vs = ns.map V.str
  | [], [], _ => rfl
  | [], _ :: _, h => by cases h
  | _ :: _, [], h => by cases h
  | v :: vs, n :: ns, .cons a b => by
    cases a
    rw [List.map_cons, b.strs]
theorem Rvf.look : ∀ {gs : List (Str × V)} {fs : List (Str × PV)} {f : Str} {x : PV}, Rvf K d F H gs fs → fs.lookup f = some x → ∃ v, gs.lookup f = some v ∧ Rv K d F H v x
  | _, _, _, _, .nil, h => by simp at h
  | _, _, f, _, .cons (f := g) a b, h => by
    rw [List.lookup_cons] at h ⊢
    cases e : (f == g) with
    | true =>
      rw [e] at h
      simp at h
      subst h
      exact ⟨_, rfl, a⟩
    | false =>
      rw [e] at h
      exact b.look h
theorem Rvf.none : ∀ {gs : List (Str × V)} {fs : List (Str × PV)} {f : Str}, Rvf K d F H gs fs → fs.lookup f = none → gs.lookup f = none
  | _, _, _, .nil, _ => rfl
  | _, _, f, .cons (f := g) a b, h => by
    rw [List.lookup_cons] at h ⊢
    cases e : (f == g) with
    | true => rw [e] at h; simp at h
    | false =>
      rw [e] at h
      exact b.none h
theorem Rvf.length : ∀ {gs : List (Str × V)} {fs : List (Str × PV)}, Rvf K d F H gs fs → gs.length = fs.length
  | _, _, .nil => rfl
  | _, _, .cons _ b => by rw [List.length_cons, List.length_cons, b.length]

/-! ### steps -/
/-- what is known stands; new held lists are new -/
structure Step (F : Fz) (H : Hp) (F' : Fz) (H' : Hp) : Prop where
  ex : Ex H H'
  up : ∀ a, F a → F' a
  nw : ∀ a, F' a → F a ∨ H a = none
  dm : ∀ a, F' a → H' a ≠ none
theorem Step.trans (a : Step F H F1 H1) (b : Step F1 H1 F2 H2) : Step F H F2 H2 :=
  ⟨a.ex.trans b.ex, fun x h => b.up x (a.up x h), fun x h => (b.nw x h).elim (fun z => a.nw x z) fun z => .inr (fresh_back a.ex z), b.dm⟩
def Dom (F : Fz) (H : Hp) : Prop := ∀ a, F a → H a ≠ none
theorem Step.refl (h : Dom F H) : Step F H F H := ⟨Ex.refl H, fun _ h => h, fun _ h => .inl h, h⟩
theorem Step.to (h : Dom F H) (e : Ex H H') : Step F H F H' := ⟨e, fun _ h => h, fun _ h => .inl h, fun a f z => h a f (fresh_back e z)⟩
theorem Rv.step {v : V} {x : PV} (s : Step F H F' H') (h : Rv K d F H v x) : Rv K d F' H' v x := h.mono (.of s.ex) s.up
theorem Rvs.step {v : List V} {x : List PV} (s : Step F H F' H') (h : Rvs K d F H v x) : Rvs K d F' H' v x := h.mono (.of s.ex) s.up
/-- one more is held -/
def plus (F : Fz) (p : Addr) : Fz := fun a => F a ∨ a = p
theorem Step.keep {p : Addr} (s : Step F H F' H') (n : H p = none) (h : H' p ≠ none) : Step F H (plus F' p) H' :=
  ⟨s.ex, fun a f => .inl (s.up a f), fun a f => f.elim (s.nw a) fun e => .inr (e ▸ n), fun a f => f.elim (s.dm a) fun e => e ▸ h⟩
/-- a new object -/
theorem Step.new {p : Addr} {o : HO} (dm : Dom F H) (n : H p = none) : Step F H F (upd H p o) := Step.to dm (Ex.new n)

/-! ### results -/
def notL : PV → Prop
  | .lst _ => False
  | _ => True
/-- what an expression gives: held | a new list, or no list | a list for a look -/
abbrev RR := Fz → Hp → Fz → Hp → V → PV → Prop
def rS (K : PySem.W.Frag) (d : Cn → Addr) : RR := fun _ _ F' H' v x => Rv K d F' H' v x
def rN (K : PySem.W.Frag) (d : Cn → Addr) : RR := fun _ H F' H' v x => (notL x ∧ Rv K d F' H' v x) ∨ ∃ p vs xs, v = .ref p ∧ x = .lst xs ∧ H p = none ∧ H' p = some (.lst vs) ∧ ¬ F' p ∧ Rvs K d F' H' vs xs
def Rw (K : PySem.W.Frag) (d : Cn → Addr) (F : Fz) (H : Hp) (v : V) (x : PV) : Prop := Rv K d F H v x ∨ ∃ p vs xs, v = .ref p ∧ x = .lst xs ∧ H p = some (.lst vs) ∧ Rvs K d F H vs xs
def rW (K : PySem.W.Frag) (d : Cn → Addr) : RR := fun _ _ F' H' v x => Rw K d F' H' v x
theorem Rw.step {v : V} {x : PV} (s : Step F H F' H') (h : Rw K d F H v x) : Rw K d F' H' v x := by
  rcases h with h | ⟨p, vs, xs, rfl, rfl, h1, h2⟩
  · exact .inl (h.step s)
  · exact .inr ⟨p, vs, xs, rfl, rfl, s.ex _ _ h1, h2.step s⟩
theorem Rw.lst {v : V} {xs : List PV} (h : Rw K d F H v (.lst xs)) : ∃ p vs, v = .ref p ∧ H p = some (.lst vs) ∧ Rvs K d F H vs xs := by
  rcases h with h | ⟨p, vs, ys, rfl, e, h1, h2⟩
  · cases h with
    | lst h1 h2 h3 => exact ⟨_, _, rfl, h1, h3⟩
  · cases e
    exact ⟨p, vs, rfl, h1, h2⟩
theorem Rw.of {v : V} {x : PV} (h : Rw K d F H v x) (n : notL x) : Rv K d F H v x := by
  rcases h with h | ⟨p, vs, ys, rfl, rfl, h1, h2⟩
  · exact h
  · exact n.elim
theorem Rv.tupE {v : V} {xs : List PV} (h : Rv K d F H v (.tup xs)) : ∃ p vs, v = .ref p ∧ SqT K H p vs ∧ Rvs K d F H vs xs := by
  cases h with
  | tup h1 h2 => exact ⟨_, _, rfl, h1, h2⟩
theorem Rv.insE {v : V} {c : Cn} {fs : List (Str × PV)} (h : Rv K d F H v (.ins c fs)) : ∃ p dx gs, v = .ref p ∧ H p = some (.ins (d c) dx gs) ∧ Rvf K d F H gs fs := by
  cases h with
  | ins h1 h2 => exact ⟨_, _, _, rfl, h1, h2⟩
/-- results of a later part are results of the whole -/
structure ROk (R : RR) : Prop where
  back : ∀ {F H F1 H1 F2 H2 v x}, Step F H F1 H1 → R F1 H1 F2 H2 v x → R F H F2 H2 v x
theorem okS : ROk (rS K d) := ⟨fun _ h => h⟩
theorem okW : ROk (rW K d) := ⟨fun _ h => h⟩
theorem okN : ROk (rN K d) := ⟨fun s h => by
  rcases h with h | ⟨p, vs, xs, h1, h2, h3, h4⟩
  · exact .inl h
  · exact .inr ⟨p, vs, xs, h1, h2, fresh_back s.ex h3, h4⟩⟩
/-- every result that is as rN tells is one that R tells, by and by -/
theorem rN_S {v : V} {x : PV} (s : Step F H F' H') (h : rN K d F H F' H' v x) : ∃ F2, Step F H F2 H' ∧ Rv K d F2 H' v x := by
  rcases h with h | ⟨p, vs, xs, rfl, rfl, h1, h2, h3, h4⟩
  · exact ⟨F', s, h.2⟩
  · exact ⟨plus F' p, s.keep h1 (by rw [h2]; intro z; cases z), .lst h2 (.inr rfl) (h4.mono .refl fun a z => .inl z)⟩
theorem rN_W {v : V} {x : PV} (h : rN K d F H F' H' v x) : Rw K d F' H' v x := by
  rcases h with h | ⟨p, vs, xs, rfl, rfl, h1, h2, h3, h4⟩
  · exact .inl h.2
  · exact .inr ⟨p, vs, xs, rfl, rfl, h2, h4⟩

/-! ### what a def's names hold -/
inductive Tag where
  | sh | ow | no
  deriving DecidableEq
structure EnvR (K : PySem.W.Frag) (d : Cn → Addr) (ts : List Tag) (H0 : Hp) (F0 F : Fz) (H : Hp) (σ : L2.St) (ρ : List PV) : Prop where
  st : Step F0 H0 F H
  ls : σ.length = ts.length
  lr : ρ.length = ts.length
  sh : ∀ i : Nat, ts[i]? = some .sh → ∃ v x, σ[i]? = some (some v) ∧ ρ[i]? = some x ∧ Rv K d F H v x
  ow : ∀ i : Nat, ts[i]? = some .ow → ∃ a vs xs, σ[i]? = some (some (.ref a)) ∧ ρ[i]? = some (.lst xs) ∧ H a = some (.lst vs) ∧ ¬ F a ∧ H0 a = none ∧ Rvs K d F H vs xs
  ap : ∀ (i j : Nat) (a : Addr), ts[i]? = some .ow → ts[j]? = some .ow → σ[i]? = some (some (.ref a)) → σ[j]? = some (some (.ref a)) → i = j
variable {ts ts' : List Tag} {F0 : Fz} {σ : L2.St} {ρ : List PV}
theorem EnvR.dm (E : EnvR K d ts H0 F0 F H σ ρ) : Dom F H := E.st.dm
theorem EnvR.step (E : EnvR K d ts H0 F0 F H σ ρ) (s : Step F H F' H') : EnvR K d ts H0 F0 F' H' σ ρ where
  st := E.st.trans s
  ls := E.ls
  lr := E.lr
  sh := fun i h => let ⟨v, x, h1, h2, h3⟩ := E.sh i h; ⟨v, x, h1, h2, h3.step s⟩
  ow := fun i h => by
    obtain ⟨a, vs, xs, h1, h2, h3, h4, h5, h6⟩ := E.ow i h
    refine ⟨a, vs, xs, h1, h2, s.ex _ _ h3, fun z => ?_, h5, h6.step s⟩
    rcases s.nw a z with z | z
    · exact h4 z
    · rw [h3] at z
      cases z
  ap := E.ap
/-- what is held when all is shared for a while -/
def allF (ts : List Tag) (σ : L2.St) (F : Fz) : Fz := fun a => F a ∨ ∃ i : Nat, ts[i]? = some .ow ∧ σ[i]? = some (some (.ref a))
def shr (ts : List Tag) : List Tag := ts.map fun t => match t with | .ow => .sh | t => t
/-- tags may be told less of: ow as sh or no, sh as no -/
def cv1 : Tag → Tag → Bool
  | _, .no => true
  | .sh, .sh => true
  | .ow, .sh => true
  | .ow, .ow => true
  | _, _ => false
def cv : List Tag → List Tag → Bool
  | [], [] => true
  | a :: as, b :: bs => cv1 a b && cv as bs
  | _, _ => false
theorem cv_get : ∀ {as bs : List Tag}, cv as bs = true → as.length = bs.length ∧ ∀ (i : Nat) (b : Tag), bs[i]? = some b → ∃ a, as[i]? = some a ∧ cv1 a b = true
  | [], [], _ => ⟨rfl, fun i b h => by simp at h⟩
  | [], _ :: _, h => by cases h
  | _ :: _, [], h => by cases h
  | a :: as, b :: bs, h => by
    have h1 : (cv1 a b && cv as bs) = true := h
    rw [Bool.and_eq_true] at h1
    obtain ⟨l, g⟩ := cv_get h1.2
    refine ⟨by rw [List.length_cons, List.length_cons, l], fun i c hc => ?_⟩
    cases i with
    | zero =>
      simp at hc
      subst hc
      exact ⟨a, rfl, h1.1⟩
    | succ i =>
      obtain ⟨x, hx, q⟩ := g i c (by simpa using hc)
      exact ⟨x, by simpa using hx, q⟩
theorem cv_shr : ∀ ts : List Tag, cv ts (shr ts) = true
  | [] => rfl
  | a :: as => by
    show (cv1 a _ && cv as (shr as)) = true
    rw [cv_shr as]
    cases a <;> rfl
/-- the names seen otherwise: some are held from now on -/
theorem EnvR.conv (E : EnvR K d ts H0 F0 F H σ ρ) (c : cv ts ts' = true) : ∃ F', (∀ a, F a → F' a) ∧ EnvR K d ts' H0 F0 F' H σ ρ := by
  obtain ⟨cl, cg⟩ := cv_get c
  let F' : Fz := fun a => F a ∨ ∃ i : Nat, ts[i]? = some .ow ∧ ts'[i]? = some .sh ∧ σ[i]? = some (some (.ref a))
  have up : ∀ a, F a → F' a := fun a h => .inl h
  have nwo : ∀ a, F' a → F a ∨ (H0 a = none ∧ H a ≠ none) := fun a h => h.elim .inl fun ⟨i, h1, _, h2⟩ => by
    obtain ⟨b, vs, xs, g1, g2, g3, g4, g5, g6⟩ := E.ow i h1
    rw [h2] at g1
    cases g1
    exact .inr ⟨g5, by rw [g3]; intro z; cases z⟩
  refine ⟨F', up, ⟨⟨E.st.ex, fun a h => up a (E.st.up a h), fun a h => (nwo a h).elim (E.st.nw a) fun z => .inr z.1, fun a h => (nwo a h).elim (E.dm a) fun z => z.2⟩, by rw [E.ls, cl], by rw [E.lr, cl], fun i h => ?_, fun i h => ?_, fun i j a h1 h2 h3 h4 => ?_⟩⟩
  · obtain ⟨t, ht, q⟩ := cg i _ h
    cases t with
    | sh =>
      obtain ⟨v, x, h1, h2, h3⟩ := E.sh i ht
      exact ⟨v, x, h1, h2, h3.mono .refl up⟩
    | ow =>
      obtain ⟨a, vs, xs, h1, h2, h3, h4, h5, h6⟩ := E.ow i ht
      exact ⟨_, _, h1, h2, .lst h3 (.inr ⟨i, ht, h, h1⟩) (h6.mono .refl up)⟩
    | no => cases q
  · obtain ⟨t, ht, q⟩ := cg i _ h
    cases t with
    | ow =>
      obtain ⟨a, vs, xs, h1, h2, h3, h4, h5, h6⟩ := E.ow i ht
      refine ⟨a, vs, xs, h1, h2, h3, fun z => ?_, h5, h6.mono .refl up⟩
      rcases z with z | ⟨j, g1, g2, g3⟩
      · exact h4 z
      · have := E.ap i j a ht g1 h1 g3
        subst this
        rw [h] at g2
        cases g2
    | sh => cases q
    | no => cases q
  · have oo : ∀ k : Nat, ts'[k]? = some .ow → ts[k]? = some .ow := fun k hk => by
      obtain ⟨t, ht, q⟩ := cg k _ hk
      cases t with
      | ow => exact ht
      | sh => cases q
      | no => cases q
    exact E.ap i j a (oo i h1) (oo j h2) h3 h4
end
end Wx

/-! Expressions told by trees: what a reading asks follows from what its tree program asks. -/
namespace Wx
open PySem PySem.Spec PyProof.Rows L2 Evl Hn

abbrev WE := List PV → (PV → Prop) → Prop
abbrev WT := List PV → (Bool → Prop) → Prop
abbrev WA := List PV → (List PV → Prop) → Prop
abbrev W1 := PV → (PV → Prop) → Prop
abbrev W2 := PV → PV → (PV → Prop) → Prop
abbrev WC := List PV → (PV → Prop) → Prop
section
variable (K : PySem.W.Frag) (d : Cn → Addr)
def Sim (R : RR) (ts : List Tag) (te : TE) (we : WE) : Prop := ∀ (H0 : Hp) (F0 F : Fz) (H : Hp) (σ : L2.St) (ρ : List PV) (Q : VK) (P : PV → Prop), EnvR K d ts H0 F0 F H σ ρ → we ρ P →
  (∀ x v F' H', Step F H F' H' → R F H F' H' v x → P x → Q v H') → te σ H Q
def SimT (ts : List Tag) (tt : TT) (wt : WT) : Prop := ∀ (H0 : Hp) (F0 F : Fz) (H : Hp) (σ : L2.St) (ρ : List PV) (Q : Bool → Hp → Prop) (P : Bool → Prop), EnvR K d ts H0 F0 F H σ ρ → wt ρ P →
  (∀ b H', Ex H H' → P b → Q b H') → tt σ H Q
/-- arguments, each held -/
def SimA (ts : List Tag) (ta : TA) (wa : WA) : Prop := ∀ (H0 : Hp) (F0 F : Fz) (H : Hp) (σ : L2.St) (ρ : List PV) (Q : List V → Hp → Prop) (P : List PV → Prop), EnvR K d ts H0 F0 F H σ ρ → wa ρ P →
  (∀ xs vs F' H', Step F H F' H' → Rvs K d F' H' vs xs → P xs → Q vs H') → ta σ H Q
/-- arguments for a look -/
inductive Rws (F : Fz) (H : Hp) : List V → List PV → Prop
  | nil : Rws F H [] []
  | cons {v : V} {x : PV} {vs : List V} {xs : List PV} : Rw K d F H v x → Rws F H vs xs → Rws F H (v :: vs) (x :: xs)
def SimAW (ts : List Tag) (ta : TA) (wa : WA) : Prop := ∀ (H0 : Hp) (F0 F : Fz) (H : Hp) (σ : L2.St) (ρ : List PV) (Q : List V → Hp → Prop) (P : List PV → Prop), EnvR K d ts H0 F0 F H σ ρ → wa ρ P →
  (∀ xs vs F' H', Step F H F' H' → Rws K d F' H' vs xs → P xs → Q vs H') → ta σ H Q
def OpS (R : RR) (r : R2) (w : W2) : Prop := ∀ (F : Fz) (H : Hp) (v u : V) (x y : PV) (Q : VK) (P : PV → Prop), Dom F H → Rw K d F H v x → Rw K d F H u y → w x y P →
  (∀ z v' F' H', Step F H F' H' → R F H F' H' v' z → P z → Q v' H') → r v u H Q
def UnS (r : V → Hp → VK → Prop) (w : W1) : Prop := ∀ (F : Fz) (H : Hp) (v : V) (x : PV) (Q : VK) (P : PV → Prop), Dom F H → Rw K d F H v x → w x P →
  (∀ z v' F' H', Step F H F' H' → rN K d F H F' H' v' z → P z → Q v' H') → r v H Q
def CaS (R : RR) (r : List V → Hp → VK → Prop) (w : WC) : Prop := ∀ (F : Fz) (H : Hp) (vs : List V) (xs : List PV) (Q : VK) (P : PV → Prop), Dom F H → Rws K d F H vs xs → w xs P →
  (∀ z v' F' H', Step F H F' H' → R F H F' H' v' z → P z → Q v' H') → r vs H Q
def SlS (r : V → Option Int → Option Int → Hp → VK → Prop) (w : PV → Option Int → Option Int → (PV → Prop) → Prop) : Prop := ∀ (F : Fz) (H : Hp) (v : V) (lo hi : Option Int) (x : PV) (Q : VK) (P : PV → Prop), Dom F H → Rw K d F H v x → w x lo hi P →
  (∀ z v' F' H', Step F H F' H' → rN K d F H F' H' v' z → P z → Q v' H') → r v lo hi H Q
end
section
variable {K : PySem.W.Frag} {d : Cn → Addr} {F F' F0 : Fz} {H H' H0 : Hp} {v u : V} {ts : List Tag} {R : RR} {te ta tb tc : TE} {we wa wb wc : WE}
theorem Rw.intE {a : Int} (h : Rw K d F H v (.int a)) : v = .int a := by cases h.of trivial; rfl
theorem Rw.blE {a : Bool} (h : Rw K d F H v (.bl a)) : v = .bl a := by cases h.of trivial; rfl
theorem Rw.strE {a : Str} (h : Rw K d F H v (.str a)) : v = .str a := by cases h.of trivial; rfl
theorem Rw.tyE {a : String} (h : Rw K d F H v (.ty a)) : v = .ty a := by cases h.of trivial; rfl
theorem Rw.nonE (h : Rw K d F H v .non) : v = .non := by cases h.of trivial; rfl
theorem Rw.tupE {xs : List PV} (h : Rw K d F H v (.tup xs)) : ∃ p vs, v = .ref p ∧ SqT K H p vs ∧ Rvs K d F H vs xs := (h.of trivial).tupE
theorem Rw.insE {c : Cn} {fs : List (Str × PV)} (h : Rw K d F H v (.ins c fs)) : ∃ p dx gs, v = .ref p ∧ H p = some (.ins (d c) dx gs) ∧ Rvf K d F H gs fs := (h.of trivial).insE
theorem Rws.one {vs : List V} {x : PV} (h : Rws K d F H vs [x]) : ∃ v, vs = [v] ∧ Rw K d F H v x := by
  cases h with
  | cons a b => cases b; exact ⟨_, rfl, a⟩
theorem Rws.two {vs : List V} {x y : PV} (h : Rws K d F H vs [x, y]) : ∃ v u, vs = [v, u] ∧ Rw K d F H v x ∧ Rw K d F H u y := by
  cases h with
  | cons a b =>
    obtain ⟨u, rfl, q⟩ := b.one
    exact ⟨_, u, rfl, a, q⟩
theorem fin_val {x : PV} {Q : VK} {P : PV → Prop} (dm : Dom F H) (r : Rv K d F H v x) (p : P x) (k : ∀ z v' F' H', Step F H F' H' → rN K d F H F' H' v' z → P z → Q v' H') (n : notL x := by exact trivial) : Q v H :=
  k x v F H (Step.refl dm) (.inl ⟨n, r⟩) p
theorem fin_lst {p : Addr} {vs : List V} {xs : List PV} {Q : VK} {P : PV → Prop} (dm : Dom F H) (n : H p = none) (r : Rvs K d F H vs xs) (pp : P (.lst xs)) (k : ∀ z v' F' H', Step F H F' H' → rN K d F H F' H' v' z → P z → Q v' H') : Q (.ref p) (upd H p (.lst vs)) :=
  k (.lst xs) _ F _ (Step.new dm n) (.inr ⟨p, vs, xs, rfl, rfl, n, upd_same, fun f => dm p f n, r.mono (.of (Ex.new n)) fun _ h => h⟩) pp
theorem fin_tup {p : Addr} {vs : List V} {xs : List PV} {Q : VK} {P : PV → Prop} (dm : Dom F H) (n : H p = none) (r : Rvs K d F H vs xs) (pp : P (.tup xs)) (k : ∀ z v' F' H', Step F H F' H' → rN K d F H F' H' v' z → P z → Q v' H') : Q (.ref p) (upd H p (.tup vs)) :=
  k (.tup xs) _ F _ (Step.new dm n) (.inl ⟨(trivial : notL (.tup xs)), .tup (.inl (.inl upd_same)) (r.mono (.of (Ex.new n)) fun _ h => h)⟩) pp

/-! ### coercions -/
theorem sim_NS (h : Sim K d (rN K d) ts te we) : Sim K d (rS K d) ts te we := fun H0 F0 F H σ ρ Q P E hw k => h H0 F0 F H σ ρ Q P E hw fun x v F' H' s r p => by
  obtain ⟨F2, s2, r2⟩ := rN_S s r
  exact k x v F2 H' s2 r2 p
theorem sim_SW (h : Sim K d (rS K d) ts te we) : Sim K d (rW K d) ts te we := fun H0 F0 F H σ ρ Q P E hw k => h H0 F0 F H σ ρ Q P E hw fun x v F' H' s r p => k x v F' H' s (.inl r) p
theorem sim_NW (h : Sim K d (rN K d) ts te we) : Sim K d (rW K d) ts te we := fun H0 F0 F H σ ρ Q P E hw k => h H0 F0 F H σ ρ Q P E hw fun x v F' H' s r p => k x v F' H' s (rN_W r) p
/-- a held thing that is no list -/
def wNL (we : WE) : WE := fun ρ P => we ρ fun x => notL x ∧ P x
theorem sim_SN (h : Sim K d (rS K d) ts te we) : Sim K d (rN K d) ts te (wNL we) := fun H0 F0 F H σ ρ Q P E hw k => h H0 F0 F H σ ρ Q _ E hw fun x v F' H' s r p => k x v F' H' s (.inl ⟨p.1, r⟩) p.2
/-- what says nothing of the heap -/
def scalP : PV → Prop
  | .non => True
  | .bl _ => True
  | .int _ => True
  | .str _ => True
  | .ty _ => True
  | _ => False
theorem scal_any {x : PV} (h : scalP x) (r : Rv K d F H v x) : Rv K d F' H' v x := by
  cases r with
  | non => exact .non
  | bl b => exact .bl b
  | int i => exact .int i
  | str x => exact .str x
  | ty n => exact .ty n
  | cls c => exact h.elim
  | lst a b c => exact h.elim
  | tup a b => exact h.elim
  | ins a b => exact h.elim
  | bag a => exact h.elim
  | scr a b => exact h.elim
/-- all names are held while it is reckoned; what comes is a scalar -/
def wScal (we : WE) : WE := fun ρ P => we ρ fun x => scalP x ∧ P x
theorem sim_scal (h : Sim K d (rS K d) (shr ts) te we) : Sim K d (rN K d) ts te (wScal we) := fun H0 F0 F H σ ρ Q P E hw k => by
  obtain ⟨F1, up, E1⟩ := E.conv (cv_shr ts)
  refine h H0 F0 F1 H σ ρ Q _ E1 hw fun x v F' H' s r p => k x v F H' (Step.to E.dm s.ex) (.inl ⟨?_, scal_any p.1 r⟩) p.2
  cases x <;> first | exact trivial | exact p.1.elim

/-! ### names and constants -/
def wVar (i : Nat) : WE := fun ρ P => P (ρ.getD i .non)
theorem getD_of {ρ : List PV} {i : Nat} {x : PV} (h : ρ[i]? = some x) : ρ.getD i .non = x := by rw [List.getD_eq_getElem?_getD, h]; rfl
theorem sim_var {i : Nat} (h : ts[i]? = some .sh) : Sim K d (rS K d) ts (tVar i) (wVar i) := fun H0 F0 F H σ ρ Q P E hw k => by
  obtain ⟨v, x, h1, h2, h3⟩ := E.sh i h
  have hw' : P (ρ.getD i .non) := hw
  rw [getD_of h2] at hw'
  exact ⟨v, h1, k x v F H (Step.refl E.dm) h3 hw'⟩
theorem sim_varO {i : Nat} (h : ts[i]? = some .ow) : Sim K d (rW K d) ts (tVar i) (wVar i) := fun H0 F0 F H σ ρ Q P E hw k => by
  obtain ⟨a, vs, xs, h1, h2, h3, h4, h5, h6⟩ := E.ow i h
  have hw' : P (ρ.getD i .non) := hw
  rw [getD_of h2] at hw'
  exact ⟨_, h1, k _ _ F H (Step.refl E.dm) (.inr ⟨a, vs, xs, rfl, rfl, h3, h6⟩) hw'⟩
def wC (x : PV) : WE := fun _ P => P x
theorem sim_int {i : Int} : Sim K d (rN K d) ts (tC (.int i)) (wC (.int i)) := fun H0 F0 F H σ ρ Q P E hw k => fin_val E.dm (.int i) hw k
theorem sim_bl {i : Bool} : Sim K d (rN K d) ts (tC (.bl i)) (wC (.bl i)) := fun H0 F0 F H σ ρ Q P E hw k => fin_val E.dm (.bl i) hw k
theorem sim_str {i : Str} : Sim K d (rN K d) ts (tC (.str i)) (wC (.str i)) := fun H0 F0 F H σ ρ Q P E hw k => fin_val E.dm (.str i) hw k
theorem sim_non : Sim K d (rN K d) ts (tC .non) (wC .non) := fun H0 F0 F H σ ρ Q P E hw k => fin_val E.dm .non hw k
theorem sim_ty {n : String} : Sim K d (rN K d) ts (tC (.ty n)) (wC (.ty n)) := fun H0 F0 F H σ ρ Q P E hw k => fin_val E.dm (.ty n) hw k
theorem sim_cls {a : Addr} (c : Cn) (e : d c = a := by rfl) : Sim K d (rN K d) ts (tC (.ref a)) (wC (.cls c)) := fun H0 F0 F H σ ρ Q P E hw k => by
  subst e
  exact fin_val E.dm (.cls c) hw k

/-! ### operators -/
def wOp (w : W2) (wa wb : WE) : WE := fun ρ P => wa ρ fun x => wb ρ fun y => w x y P
theorem sim_op {r : R2} {w : W2} (o : ROk R) (hr : OpS K d R r w) (ha : Sim K d (rW K d) ts ta wa) (hb : Sim K d (rW K d) ts tb wb) : Sim K d R ts (tOp r ta tb) (wOp w wa wb) := fun H0 F0 F H σ ρ Q P E hw k =>
  ha H0 F0 F H σ ρ _ _ E hw fun x v F1 H1 s1 r1 h1 => hb H0 F0 F1 H1 σ ρ _ _ (E.step s1) h1 fun y u F2 H2 s2 r2 h2 =>
    hr F2 H2 v u x y _ _ s2.dm (Rw.step s2 r1) r2 h2 fun z v' F3 H3 s3 r3 p => k z v' F3 H3 ((s1.trans s2).trans s3) (o.back (s1.trans s2) r3) p
def wUn (w : W1) (wa : WE) : WE := fun ρ P => wa ρ fun x => w x P
theorem sim_un {r : V → Hp → VK → Prop} {w : W1} (hr : UnS K d r w) (ha : Sim K d (rW K d) ts ta wa) : Sim K d (rN K d) ts (tUn r ta) (wUn w wa) := fun H0 F0 F H σ ρ Q P E hw k =>
  ha H0 F0 F H σ ρ _ _ E hw fun x v F1 H1 s1 r1 h1 => hr F1 H1 v x _ _ s1.dm r1 h1 fun z v' F3 H3 s3 r3 p => k z v' F3 H3 (s1.trans s3) (okN.back s1 r3) p
def wNeg : W1 := fun x P => match x with
  | .int a => P (.int (-a))
  | _ => False
theorem uns_neg : UnS K d (rU fun i => .int (-i)) wNeg := fun F H v x Q P dm rx h k => by
  cases x with
  | int a => cases rx.intE; exact ⟨a, rfl, fin_val dm (.int _) h k⟩
  | _ => exact h.elim
def orR (r s : R2) : R2 := fun x y H Q => r x y H Q ∨ s x y H Q
theorem op_or {X : Cx} {f : Value → Value → Sem Value} {r s : R2} (a : OpR X f r) (b : OpR X f s) : OpR X f (orR r s) := fun pins st σ H x y v u Q I rx ry h => h.elim (a pins st σ H x y v u Q I rx ry) (b pins st σ H x y v u Q I rx ry)
/-- two ints give an int, where C -/
def wII (C : Int → Int → Prop) (g : Int → Int → Int) : W2 := fun x y P => match x, y with
  | .int a, .int b => C a b ∧ P (.int (g a b))
  | _, _ => False
theorem ops_II {C : Int → Int → Prop} {g : Int → Int → Int} : OpS K d (rN K d) (rI C fun i j => .int (g i j)) (wII C g) := fun F H v u x y Q P dm rx ry h k => by
  cases x with
  | int a => cases y with
    | int b => cases rx.intE; cases ry.intE; exact ⟨a, b, rfl, rfl, h.1, fin_val dm (.int _) h.2 k⟩
    | _ => exact h.elim
  | _ => exact h.elim
def wI0 (g : Int → Int → Int) : W2 := fun x y P => match x, y with
  | .int a, .int b => P (.int (g a b))
  | _, _ => False
theorem ops_I0 {g : Int → Int → Int} : OpS K d (rN K d) (rI0 fun i j => .int (g i j)) (wI0 g) := fun F H v u x y Q P dm rx ry h k => by
  cases x with
  | int a => cases y with
    | int b => cases rx.intE; cases ry.intE; exact ⟨a, b, rfl, rfl, fin_val dm (.int _) h k⟩
    | _ => exact h.elim
  | _ => exact h.elim
def wIB (g : Int → Int → Bool) : W2 := fun x y P => match x, y with
  | .int a, .int b => P (.bl (g a b))
  | _, _ => False
theorem ops_IB {g : Int → Int → Bool} : OpS K d (rN K d) (rI0 fun i j => .bl (g i j)) (wIB g) := fun F H v u x y Q P dm rx ry h k => by
  cases x with
  | int a => cases y with
    | int b => cases rx.intE; cases ry.intE; exact ⟨a, b, rfl, rfl, fin_val dm (.bl _) h k⟩
    | _ => exact h.elim
  | _ => exact h.elim
/-- + of ints, lists, tuples, texts -/
def rAddU (K : PySem.W.Frag) : R2 := orR (rI0 fun i j => .int (i + j)) (orR rCat (orR (rCatA K) rAddS))
theorem u_add {X : Cx} (h : X.K = K) : OpR X (binaryOp .Add) (rAddU K) := h ▸ op_or op_add (op_or op_cat (op_or op_catA k_addS))
def wAdd : W2 := fun x y P => match x, y with
  | .int a, .int b => P (.int (a + b))
  | .lst a, .lst b => a.length + b.length ≤ 100000 ∧ P (.lst (a ++ b))
  | .tup a, .tup b => a.length + b.length ≤ 100000 ∧ P (.tup (a ++ b))
  | .str a, .str b => a.length + b.length ≤ 100000 ∧ P (.str (a ++ b))
  | _, _ => False
theorem ops_add : OpS K d (rN K d) (rAddU K) wAdd := fun F H v u x y Q P dm rx ry h k => by
  cases x with
  | int a => cases y with
    | int b => cases rx.intE; cases ry.intE; exact .inl ⟨a, b, rfl, rfl, fin_val dm (.int _) h k⟩
    | _ => exact h.elim
  | lst a => cases y with
    | lst b =>
      obtain ⟨p, vs, rfl, h1, h2⟩ := rx.lst
      obtain ⟨q, us, rfl, h3, h4⟩ := ry.lst
      exact .inr (.inl ⟨p, q, vs, us, rfl, rfl, h1, h3, by rw [h2.length, h4.length]; exact sz_of h.1, fun r nr => fin_lst dm nr (h2.append h4) h.2 k⟩)
    | _ => exact h.elim
  | tup a => cases y with
    | tup b =>
      obtain ⟨p, vs, rfl, h1, h2⟩ := rx.tupE
      obtain ⟨q, us, rfl, h3, h4⟩ := ry.tupE
      refine .inr (.inr (.inl ⟨p, q, vs, us, rfl, rfl, h1, h3, by rw [h2.length, h4.length]; exact sz_of h.1, fun e => ?_, fun _ e => ?_, fun _ _ r nr => fin_tup dm nr (h2.append h4) h.2 k⟩))
      · subst e
        cases h2
        exact fin_val dm (.tup h3 h4) h.2 k
      · subst e
        cases h4
        have := h.2
        rw [List.append_nil] at this
        exact fin_val dm (.tup h1 h2) this k
    | _ => exact h.elim
  | str a => cases y with
    | str b => cases rx.strE; cases ry.strE; exact .inr (.inr (.inr ⟨a, b, rfl, rfl, sz_of h.1, fin_val dm (.str _) h.2 k⟩))
    | _ => exact h.elim
  | _ => exact h.elim
/-- * of ints; a list times an int -/
def rMulU : R2 := orR (rI CMulW fun i j => .int (i * j)) (orR (rI CMul fun i j => .int (i * j)) rRep)
theorem u_mul {X : Cx} : OpR X (binaryOp .Mult) rMulU := op_or op_mulW (op_or op_mul op_rep)
def wMul : W2 := fun x y P => match x, y with
  | .int a, .int b => (CMulW a b ∨ CMul a b) ∧ P (.int (a * b))
  | .lst a, .int b => -(2 ^ 63) ≤ b ∧ b < 2 ^ 63 ∧ a.length * b.toNat ≤ 100000 ∧ P (.lst (List.replicate b.toNat a).flatten)
  | _, _ => False
theorem ops_mul : OpS K d (rN K d) rMulU wMul := fun F H v u x y Q P dm rx ry h k => by
  cases x with
  | int a => cases y with
    | int b =>
      cases rx.intE
      cases ry.intE
      rcases h.1 with c | c
      · exact .inl ⟨a, b, rfl, rfl, c, fin_val dm (.int _) h.2 k⟩
      · exact .inr (.inl ⟨a, b, rfl, rfl, c, fin_val dm (.int _) h.2 k⟩)
    | _ => exact h.elim
  | lst a => cases y with
    | int b =>
      obtain ⟨p, vs, rfl, h1, h2⟩ := rx.lst
      cases ry.intE
      exact .inr (.inr ⟨p, b, vs, rfl, rfl, h1, h.1, h.2.1, by rw [h2.length]; exact sz_of h.2.2.1, fun r nr => fin_lst dm nr (h2.flat _) h.2.2.2 k⟩)
    | _ => exact h.elim
  | _ => exact h.elim
/-! ### == and in -/
mutual
/-- as data -/
def toD : PV → Option PyData
  | .non => some .none
  | .bl b => some (.bool b)
  | .int i => some (.int i)
  | .str x => some (.str x)
  | .lst xs => (toDs xs).map PyData.list
  | .tup xs => (toDs xs).map PyData.tuple
  | .ty _ => none
  | .cls _ => none
  | .ins _ _ => none
  | .bag => none
  | .scr _ => none
def toDs : List PV → Option (List PyData)
  | [] => some []
  | x :: xs => match toD x, toDs xs with
    | some a, some b => some (a :: b)
    | _, _ => none
end
mutual
theorem Rv.dp : ∀ {v : V} {x : PV} {e : PyData}, Rv K d F H v x → toD x = some e → Dp K H v e
  | _, _, e, .non, h => by simp only [toD] at h; cases h; exact .non
  | _, _, e, .bl b, h => by simp only [toD] at h; cases h; exact .bl b
  | _, _, e, .int b, h => by simp only [toD] at h; cases h; exact .int b
  | _, _, e, .str b, h => by simp only [toD] at h; cases h; exact .str b
  | _, _, e, .lst h1 h2 h3, h => by
    simp only [toD, Option.map_eq_some_iff] at h
    obtain ⟨ds, hd, rfl⟩ := h
    exact .lst (.inl (.inl h1)) (Rvs.dp h3 hd)
  | _, _, e, .tup h1 h3, h => by
    simp only [toD, Option.map_eq_some_iff] at h
    obtain ⟨ds, hd, rfl⟩ := h
    exact .tup h1 (Rvs.dp h3 hd)
  | _, _, e, .ty n, h => by simp only [toD] at h; cases h
  | _, _, e, .cls n, h => by simp only [toD] at h; cases h
  | _, _, e, .ins _ _, h => by simp only [toD] at h; cases h
  | _, _, e, .bag _, h => by simp only [toD] at h; cases h
  | _, _, e, .scr _ _, h => by simp only [toD] at h; cases h
theorem Rvs.dp : ∀ {vs : List V} {xs : List PV} {es : List PyData}, Rvs K d F H vs xs → toDs xs = some es → DpAll K H vs es
  | _, _, es, .nil, h => by simp only [toDs] at h; cases h; exact .nil
  | _, _, es, .cons (x := x) (xs := xs) a b, h => by
    simp only [toDs] at h
    cases e1 : toD x with
    | none => rw [e1] at h; cases h
    | some q =>
      cases e2 : toDs xs with
      | none => rw [e1, e2] at h; cases h
      | some qs =>
        rw [e1, e2] at h
        cases h
        exact .cons (Rv.dp a e1) (Rvs.dp b e2)
end
theorem Rw.dp {x : PV} {e : PyData} (h : Rw K d F H v x) (he : toD x = some e) : Dp K H v e := by
  rcases h with h | ⟨p, vs, xs, rfl, rfl, h1, h2⟩
  · exact h.dp he
  · simp only [toD, Option.map_eq_some_iff] at he
    obtain ⟨ds, hd, rfl⟩ := he
    exact .lst (.inl (.inl h1)) (h2.dp hd)
/-- data compared -/
def wEqD (neg : Bool) : W2 := fun x y P => ∃ a b, toD x = some a ∧ toD y = some b ∧ SeqAt.shaped a = true ∧ SeqAt.shaped b = true ∧ P (.bl (if neg then !PyData.eqv a b else PyData.eqv a b))
theorem ops_eqD : OpS K d (rN K d) (rEqD K) (wEqD false) := fun F H v u x y Q P dm rx ry h k => by
  obtain ⟨a, b, ha, hb, sa, sb, p⟩ := h
  exact ⟨a, b, rx.dp ha, ry.dp hb, sa, sb, fin_val dm (.bl _) p k⟩
theorem ops_neD : OpS K d (rN K d) (rNeD K) (wEqD true) := fun F H v u x y Q P dm rx ry h k => by
  obtain ⟨a, b, ha, hb, sa, sb, p⟩ := h
  exact ⟨a, b, rx.dp ha, ry.dp hb, sa, sb, fin_val dm (.bl _) p k⟩
/-- x in a list of data -/
def wInD (neg : Bool) : W2 := fun x y P => ∃ a bs, toD x = some a ∧ toD y = some (.list bs) ∧ SeqAt.shaped a = true ∧ SeqAt.shaped (.list bs) = true ∧ P (.bl (if neg then !bs.any fun z => PyData.eqv z a else bs.any fun z => PyData.eqv z a))
theorem ops_inD : OpS K d (rN K d) (rInD K) (wInD false) := fun F H v u x y Q P dm rx ry h k => by
  obtain ⟨a, b, ha, hb, sa, sb, p⟩ := h
  exact ⟨a, b, rx.dp ha, ry.dp hb, sa, sb, fin_val dm (.bl _) p k⟩
theorem ops_niD : OpS K d (rN K d) (rNotInD K) (wInD true) := fun F H v u x y Q P dm rx ry h k => by
  obtain ⟨a, b, ha, hb, sa, sb, p⟩ := h
  exact ⟨a, b, rx.dp ha, ry.dp hb, sa, sb, fin_val dm (.bl _) p k⟩
/-- is None, is not None -/
def isN : PV → Bool
  | .non => true
  | _ => false
def wIsN (neg : Bool) : W2 := fun x y P => match y with
  | .non => P (.bl (if neg then !isN x else isN x))
  | _ => False
theorem isN_dec {x : PV} (r : Rw K d F H v x) : decide (v = .non) = isN x := by
  rcases r with r | ⟨p, vs, xs, rfl, rfl, _⟩
  · cases r <;> simp [isN]
  · simp [isN]
theorem ops_isN : OpS K d (rN K d) rIsNon (wIsN false) := fun F H v u x y Q P dm rx ry h k => by
  cases y with
  | non =>
    cases ry.nonE
    have e : decide (v = .non) = isN x := isN_dec rx
    exact ⟨rfl, by rw [e]; exact fin_val dm (.bl _) h k⟩
  | _ => exact h.elim
theorem ops_notN : OpS K d (rN K d) rNotNon (wIsN true) := fun F H v u x y Q P dm rx ry h k => by
  cases y with
  | non =>
    cases ry.nonE
    have e : decide (v = .non) = isN x := isN_dec rx
    exact ⟨rfl, by rw [e]; exact fin_val dm (.bl _) h k⟩
  | _ => exact h.elim
/-! ### subscripts -/
def wIx : W2 := fun x y P => match x, y with
  | .lst xs, .int i => ∃ z, atI xs i = some z ∧ P z
  | .tup xs, .int i => ∃ z, atI xs i = some z ∧ P z
  | .str s, .int i => ∃ c, s.length ≤ 100000 ∧ atI s.cps.toList i = some c ∧ P (.str ⟨#[c]⟩)
  | _, _ => False
theorem Rvs.atI {vs : List V} {xs : List PV} {i : Int} {z : PV} (r : Rvs K d F H vs xs) (h : L2.atI xs i = some z) : ∃ v, L2.atI vs i = some v ∧ Rv K d F H v z := by
  unfold L2.atI at h ⊢
  rw [r.length]
  cases e : ixN xs.length i with
  | none => rw [e] at h; simp at h
  | some j =>
    rw [e] at h
    obtain ⟨v, h1, h2⟩ := r.get (i := j) (by simpa using h)
    exact ⟨v, by simpa using h1, h2⟩
theorem ops_ix : OpS K d (rS K d) (rIx K) wIx := fun F H v u x y Q P dm rx ry h k => by
  cases x with
  | lst a => cases y with
    | int b =>
      obtain ⟨p, vs, rfl, h1, h2⟩ := rx.lst
      cases ry.intE
      obtain ⟨z, hz, pz⟩ := h
      obtain ⟨w, hw, rw'⟩ := h2.atI hz
      exact .inl ⟨p, vs, b, w, rfl, rfl, .inl (.inl h1), hw, k z w F H (Step.refl dm) rw' pz⟩
    | _ => exact h.elim
  | tup a => cases y with
    | int b =>
      obtain ⟨p, vs, rfl, h1, h2⟩ := rx.tupE
      cases ry.intE
      obtain ⟨z, hz, pz⟩ := h
      obtain ⟨w, hw, rw'⟩ := h2.atI hz
      exact .inr (.inl ⟨p, vs, b, w, rfl, rfl, h1, hw, k z w F H (Step.refl dm) rw' pz⟩)
    | _ => exact h.elim
  | str a => cases y with
    | int b =>
      cases rx.strE
      cases ry.intE
      obtain ⟨c, hz, hc, pz⟩ := h
      exact .inr (.inr ⟨a, b, c, rfl, rfl, sz_of hz, hc, k _ _ F H (Step.refl dm) (.str _) pz⟩)
    | _ => exact h.elim
  | _ => exact h.elim
/-! ### tests -/
def wTest (we : WE) : WT := fun ρ P => we ρ fun x => match x with
  | .bl b => P b
  | _ => False
/-- all names are held while a test is reckoned -/
theorem simT_val {t : TT} {wt : WT} (h : SimT K d (shr ts) t wt) : SimT K d ts t wt := fun H0 F0 F H σ ρ Q P E hw k => by
  obtain ⟨F1, up, E1⟩ := E.conv (cv_shr ts)
  exact h H0 F0 F1 H σ ρ Q P E1 hw k
theorem simT_test (h : Sim K d (rS K d) ts te we) : SimT K d ts (tTest te) (wTest we) := fun H0 F0 F H σ ρ Q P E hw k =>
  h H0 F0 F H σ ρ _ _ E hw fun x v F' H' s r p => by
    cases x with
    | bl b => cases r; exact ⟨b, rfl, k b H' s.ex p⟩
    | _ => exact p.elim
theorem simT_B (h : Sim K d (rS K d) ts te we) : SimT K d ts (tB te) (wTest we) := fun H0 F0 F H σ ρ Q P E hw k =>
  h H0 F0 F H σ ρ _ _ E hw fun x v F' H' s r p => by
    cases x with
    | bl b => cases r; exact ⟨b, rfl, k b H' s.ex p⟩
    | _ => exact p.elim
def wTand (a b : WT) : WT := fun ρ P => a ρ fun c => if c = true then b ρ P else P false
def wTor (a b : WT) : WT := fun ρ P => a ρ fun c => if c = true then P true else b ρ P
def wTnot (a : WT) : WT := fun ρ P => a ρ fun c => P (!c)
def wTyes : WT := fun _ P => P true
theorem simT_and {t u : TT} {a b : WT} (ha : SimT K d ts t a) (hb : SimT K d ts u b) : SimT K d ts (tAnd t u) (wTand a b) := fun H0 F0 F H σ ρ Q P E hw k =>
  ha H0 F0 F H σ ρ _ _ E hw fun c H1 e p => by
    cases c with
    | true => exact hb H0 F0 F H1 σ ρ _ _ (E.step (Step.to E.dm e)) p fun c' H2 e2 p2 => k c' H2 (e.trans e2) p2
    | false => exact k false H1 e p
theorem simT_or {t u : TT} {a b : WT} (ha : SimT K d ts t a) (hb : SimT K d ts u b) : SimT K d ts (tOr t u) (wTor a b) := fun H0 F0 F H σ ρ Q P E hw k =>
  ha H0 F0 F H σ ρ _ _ E hw fun c H1 e p => by
    cases c with
    | true => exact k true H1 e p
    | false => exact hb H0 F0 F H1 σ ρ _ _ (E.step (Step.to E.dm e)) p fun c' H2 e2 p2 => k c' H2 (e.trans e2) p2
theorem simT_not {t : TT} {a : WT} (ha : SimT K d ts t a) : SimT K d ts (tNot t) (wTnot a) := fun H0 F0 F H σ ρ Q P E hw k =>
  ha H0 F0 F H σ ρ _ _ E hw fun c H1 e p => k _ H1 e p
theorem simT_yes : SimT K d ts tYes wTyes := fun H0 F0 F H σ ρ Q P E hw k => k true H (Ex.refl H) hw
/-! ### and, or, not as values; conditional expressions; chains -/
def wAndV (a b : WE) : WE := fun ρ P => a ρ fun x => match x with
  | .bl c => if c = true then b ρ P else P (.bl false)
  | _ => False
def wOrV (a b : WE) : WE := fun ρ P => a ρ fun x => match x with
  | .bl c => if c = true then P (.bl true) else b ρ P
  | _ => False
def wNotV (a : WE) : WE := fun ρ P => a ρ fun x => match x with
  | .bl c => P (.bl (!c))
  | _ => False
theorem sim_andV (ha : Sim K d (rS K d) ts ta wa) (hb : Sim K d (rN K d) ts tb wb) : Sim K d (rN K d) ts (tAndV ta tb) (wAndV wa wb) := fun H0 F0 F H σ ρ Q P E hw k =>
  ha H0 F0 F H σ ρ _ _ E hw fun x v F1 H1 s r p => by
    cases x with
    | bl c =>
      cases r
      refine ⟨c, rfl, ?_⟩
      cases c with
      | true => exact hb H0 F0 F1 H1 σ ρ _ _ (E.step s) p fun y u F2 H2 s2 r2 p2 => k y u F2 H2 (s.trans s2) (okN.back s r2) p2
      | false => exact k (.bl _) _ F1 H1 s (.inl ⟨trivial, .bl _⟩) p
    | _ => exact p.elim
theorem sim_orV (ha : Sim K d (rS K d) ts ta wa) (hb : Sim K d (rN K d) ts tb wb) : Sim K d (rN K d) ts (tOrV ta tb) (wOrV wa wb) := fun H0 F0 F H σ ρ Q P E hw k =>
  ha H0 F0 F H σ ρ _ _ E hw fun x v F1 H1 s r p => by
    cases x with
    | bl c =>
      cases r
      refine ⟨c, rfl, ?_⟩
      cases c with
      | true => exact k (.bl _) _ F1 H1 s (.inl ⟨trivial, .bl _⟩) p
      | false => exact hb H0 F0 F1 H1 σ ρ _ _ (E.step s) p fun y u F2 H2 s2 r2 p2 => k y u F2 H2 (s.trans s2) (okN.back s r2) p2
    | _ => exact p.elim
theorem sim_notV (ha : Sim K d (rS K d) ts ta wa) : Sim K d (rN K d) ts (tNotV ta) (wNotV wa) := fun H0 F0 F H σ ρ Q P E hw k =>
  ha H0 F0 F H σ ρ _ _ E hw fun x v F1 H1 s r p => by
    cases x with
    | bl c => cases r; exact ⟨c, rfl, k (.bl _) _ F1 H1 s (.inl ⟨trivial, .bl _⟩) p⟩
    | _ => exact p.elim
def wIf (t : WT) (a b : WE) : WE := fun ρ P => t ρ fun c => if c = true then a ρ P else b ρ P
theorem sim_if {t : TT} {wt : WT} (o : ROk R) (ht : SimT K d ts t wt) (ha : Sim K d R ts ta wa) (hb : Sim K d R ts tb wb) : Sim K d R ts (tIf t ta tb) (wIf wt wa wb) := fun H0 F0 F H σ ρ Q P E hw k =>
  ht H0 F0 F H σ ρ _ _ E hw fun c H1 e p => by
    have s := Step.to E.dm e
    cases c with
    | true => exact ha H0 F0 F H1 σ ρ _ _ (E.step s) p fun y u F2 H2 s2 r2 p2 => k y u F2 H2 (s.trans s2) (o.back s r2) p2
    | false => exact hb H0 F0 F H1 σ ρ _ _ (E.step s) p fun y u F2 H2 s2 r2 p2 => k y u F2 H2 (s.trans s2) (o.back s r2) p2
def wChain (w w' : W2) (wa wb wc : WE) : WE := fun ρ P => wa ρ fun x => wb ρ fun y => w x y fun z => match z with
  | .bl c => if c = true then wc ρ fun u => w' y u P else P (.bl false)
  | _ => False
theorem sim_chain {r r' : R2} {w w' : W2} (hr : OpS K d (rN K d) r w) (hr' : OpS K d (rN K d) r' w') (ha : Sim K d (rW K d) ts ta wa) (hb : Sim K d (rW K d) ts tb wb) (hc : Sim K d (rW K d) ts tc wc) : Sim K d (rN K d) ts (tChain r r' ta tb tc) (wChain w w' wa wb wc) := fun H0 F0 F H σ ρ Q P E hw k =>
  ha H0 F0 F H σ ρ _ _ E hw fun x v F1 H1 s1 r1 h1 => hb H0 F0 F1 H1 σ ρ _ _ (E.step s1) h1 fun y u F2 H2 s2 r2 h2 =>
    hr F2 H2 v u x y _ _ s2.dm (Rw.step s2 r1) r2 h2 fun z v' F3 H3 s3 r3 p => by
      have s123 := (s1.trans s2).trans s3
      cases z with
      | bl c =>
        have r3' : Rv K d F3 H3 v' (.bl c) := by
          rcases r3 with r3 | ⟨_, _, _, _, e, _⟩
          · exact r3.2
          · cases e
        cases r3'
        refine ⟨c, rfl, ?_⟩
        cases c with
        | true =>
          exact hc H0 F0 F3 H3 σ ρ _ _ (E.step s123) p fun z4 v4 F4 H4 s4 r4 h4 => hr' F4 H4 u v4 y z4 _ _ s4.dm (Rw.step (s3.trans s4) r2) r4 h4 fun z5 v5 F5 H5 s5 r5 p5 =>
            k z5 v5 F5 H5 ((s123.trans s4).trans s5) (okN.back (s123.trans s4) r5) p5
        | false => exact k (.bl _) _ F3 H3 s123 (.inl ⟨trivial, .bl _⟩) p
      | _ => exact p.elim
/-! ### argument lists; lists and tuples -/
def wNil : WA := fun _ P => P []
def wCons (we : WE) (wa : WA) : WA := fun ρ P => we ρ fun x => wa ρ fun xs => P (x :: xs)
theorem simA_nil : SimA K d ts tNil wNil := fun H0 F0 F H σ ρ Q P E hw k => k [] [] F H (Step.refl E.dm) .nil hw
theorem simA_cons {ta : TA} {wa : WA} (he : Sim K d (rS K d) ts te we) (ha : SimA K d ts ta wa) : SimA K d ts (tCons te ta) (wCons we wa) := fun H0 F0 F H σ ρ Q P E hw k =>
  he H0 F0 F H σ ρ _ _ E hw fun x v F1 H1 s1 r1 h1 => ha H0 F0 F1 H1 σ ρ _ _ (E.step s1) h1 fun xs vs F2 H2 s2 r2 h2 => k (x :: xs) (v :: vs) F2 H2 (s1.trans s2) (.cons (r1.step s2) r2) h2
theorem simAW_nil : SimAW K d ts tNil wNil := fun H0 F0 F H σ ρ Q P E hw k => k [] [] F H (Step.refl E.dm) .nil hw
theorem simAW_cons {ta : TA} {wa : WA} (he : Sim K d (rW K d) ts te we) (ha : SimAW K d ts ta wa) : SimAW K d ts (tCons te ta) (wCons we wa) := fun H0 F0 F H σ ρ Q P E hw k =>
  he H0 F0 F H σ ρ _ _ E hw fun x v F1 H1 s1 r1 h1 => ha H0 F0 F1 H1 σ ρ _ _ (E.step s1) h1 fun xs vs F2 H2 s2 r2 h2 => k (x :: xs) (v :: vs) F2 H2 (s1.trans s2) (.cons (Rw.step s2 r1) r2) h2
def wLst (wa : WA) : WE := fun ρ P => wa ρ fun xs => xs.length ≤ 1000 ∧ P (.lst xs)
def wTup (wa : WA) : WE := fun ρ P => wa ρ fun xs => xs.length ≤ 1000 ∧ P (.tup xs)
theorem sim_lst {ta : TA} {wa : WA} (ha : SimA K d ts ta wa) : Sim K d (rN K d) ts (tLst ta) (wLst wa) := fun H0 F0 F H σ ρ Q P E hw k =>
  ha H0 F0 F H σ ρ _ _ E hw fun xs vs F1 H1 s1 r1 h1 => ⟨by rw [r1.length]; exact sz_of (Nat.le_trans h1.1 (by decide)), fun p np => fin_lst s1.dm np r1 h1.2 fun z v' F' H' s r q => k z v' F' H' (s1.trans s) (okN.back s1 r) q⟩
theorem sim_tup {ta : TA} {wa : WA} (ha : SimA K d ts ta wa) : Sim K d (rN K d) ts (tTup ta) (wTup wa) := fun H0 F0 F H σ ρ Q P E hw k =>
  ha H0 F0 F H σ ρ _ _ E hw fun xs vs F1 H1 s1 r1 h1 => ⟨by rw [r1.length]; exact sz_of (Nat.le_trans h1.1 (by decide)), fun p np => fin_tup s1.dm np r1 h1.2 fun z v' F' H' s r q => k z v' F' H' (s1.trans s) (okN.back s1 r) q⟩
end
end Wx

/-! Slices, calls of built-ins, walks, comprehensions, targets. -/
namespace Wx
open PySem PySem.Spec PyProof.Rows L2 Evl Hn RZ
section
variable {K : PySem.W.Frag} {d : Cn → Addr} {F F' F0 : Fz} {H H' H0 : Hp} {v u : V} {ts ts' : List Tag} {R : RR} {te ta tb tc : TE} {we wa wb wc : WE}

/-! ### slices -/
theorem cutP_rel {vs : List V} {xs : List PV} {lo hi : Option Int} (r : Rvs K d F H vs xs) : Rvs K d F H (cutV vs lo hi) (cutP xs lo hi) := by
  unfold cutV cutP
  rw [r.length]
  exact (r.drop _).take _
theorem cut_whole {α : Type} {xs : List α} {a b : Nat} (h : a = 0 ∧ b = xs.length) : (xs.drop a).take (b - a) = xs := by
  rw [h.1, h.2, List.drop_zero, Nat.sub_zero, List.take_length]
def orS (r s : V → Option Int → Option Int → Hp → VK → Prop) : V → Option Int → Option Int → Hp → VK → Prop := fun x lo hi H Q => r x lo hi H Q ∨ s x lo hi H Q
theorem sl_or {X : Cx} {r s : V → Option Int → Option Int → Hp → VK → Prop} (a : SlR X r) (b : SlR X s) : SlR X (orS r s) := by
  intro pins st σ H x v vl vu lo hi sl Q I rx hs pl pu h
  exact h.elim (a pins st σ H x v vl vu lo hi sl Q I rx hs pl pu) (b pins st σ H x v vl vu lo hi sl Q I rx hs pl pu)
def rSlU (K : PySem.W.Frag) := orS (rSlL K) (orS (rSlA K) rSlS)
theorem u_sl {X : Cx} (h : X.K = K) : SlR X (rSlU K) := h ▸ sl_or sl_list (sl_or sl_tupA sl_str)
def wSl1 : PV → Option Int → Option Int → (PV → Prop) → Prop := fun x lo hi P => match x with
  | .lst xs => P (.lst (cutP xs lo hi))
  | .tup xs => P (.tup (cutP xs lo hi))
  | .str s => s.length ≤ 100000 ∧ P (.str (cutS s lo hi))
  | _ => False
theorem sls_sl : SlS K d (rSlU K) wSl1 := fun F H v lo hi x Q P dm rx h k => by
  cases x with
  | lst xs =>
    obtain ⟨p, vs, rfl, h1, h2⟩ := rx.lst
    exact .inl ⟨p, vs, rfl, .inl (.inl h1), fun q nq => fin_lst dm nq (cutP_rel h2) h k⟩
  | tup xs =>
    obtain ⟨p, vs, rfl, h1, h2⟩ := rx.tupE
    refine .inr (.inl ⟨p, vs, rfl, h1, fun e => ?_, fun _ q nq => fin_tup dm nq (cutP_rel h2) h k⟩)
    have h' : P (.tup (cutP xs lo hi)) := h
    have e' : cutP xs lo hi = xs := by
      unfold cutP
      rw [h2.length] at e
      exact cut_whole e
    rw [e'] at h'
    exact fin_val dm (.tup h1 h2) h' k
  | str s => cases rx.strE; exact .inr (.inr ⟨s, rfl, sz_of h.1, fin_val dm (.str _) h.2 k⟩)
  | _ => exact h.elim
abbrev WO := List PV → (Option Int → Prop) → Prop
def SimO (K : PySem.W.Frag) (d : Cn → Addr) (ts : List Tag) (to : TO) (wo : WO) : Prop := ∀ (H0 : Hp) (F0 F : Fz) (H : Hp) (σ : L2.St) (ρ : List PV) (Q : Option Int → Hp → Prop) (P : Option Int → Prop), EnvR K d ts H0 F0 F H σ ρ → wo ρ P →
  (∀ o F' H', Step F H F' H' → P o → Q o H') → to σ H Q
def wNoPart : WO := fun _ P => P none
def wPart (we : WE) : WO := fun ρ P => we ρ fun x => match x with
  | .int i => P (some i)
  | _ => False
theorem simO_none : SimO K d ts tNoPart wNoPart := fun H0 F0 F H σ ρ Q P E hw k => k none F H (Step.refl E.dm) hw
theorem simO_some (h : Sim K d (rW K d) ts te we) : SimO K d ts (tPart te) (wPart we) := fun H0 F0 F H σ ρ Q P E hw k => h H0 F0 F H σ ρ _ _ E hw fun x v F' H' s r p => by
  cases x with
  | int i => cases Rw.intE r; exact ⟨i, rfl, k _ F' H' s p⟩
  | _ => exact p.elim
def wSl (we : WE) (wl wh : WO) : WE := fun ρ P => we ρ fun x => wl ρ fun l => wh ρ fun h => wSl1 x l h P
theorem sim_sl {tl th : TO} {wl wh : WO} (he : Sim K d (rW K d) ts te we) (hl : SimO K d ts tl wl) (hh : SimO K d ts th wh) : Sim K d (rN K d) ts (L2.tSl (rSlU K) te tl th) (wSl we wl wh) := fun H0 F0 F H σ ρ Q P E hw k =>
  he H0 F0 F H σ ρ _ _ E hw fun x v F1 H1 s1 r1 h1 => hl H0 F0 F1 H1 σ ρ _ _ (E.step s1) h1 fun l F2 H2 s2 h2 => hh H0 F0 F2 H2 σ ρ _ _ (E.step (s1.trans s2)) h2 fun u F3 H3 s3 h3 =>
    sls_sl F3 H3 v l u x _ _ s3.dm (Rw.step (s2.trans s3) r1) h3 fun z v' F4 H4 s4 r4 p => k z v' F4 H4 ((s1.trans (s2.trans s3)).trans s4) (okN.back (s1.trans (s2.trans s3)) r4) p
/-- xs[::-1] -/
def orE (a b : TE) : TE := fun σ H Q => a σ H Q ∨ b σ H Q
theorem pe_alt {X : Cx} {e : Expr} (ha : PE X e ta) (hb : PE X e tb) : PE X e (orE ta tb) := ⟨fun pins s σ H Q I h => h.elim (ha.run pins s σ H Q I) (hb.run pins s σ H Q I)⟩
def wRev (we : WE) : WE := fun ρ P => we ρ fun x => match x with
  | .lst xs => P (.lst xs.reverse)
  | _ => False
def wRevT (we : WE) : WE := fun ρ P => we ρ fun x => match x with
  | .tup xs => P (.tup xs.reverse)
  | _ => False
theorem sim_revL (h : Sim K d (rW K d) ts te we) : Sim K d (rN K d) ts (tRevL K te) (wRev we) := fun H0 F0 F H σ ρ Q P E hw k => h H0 F0 F H σ ρ _ _ E hw fun x v F1 H1 s1 r1 h1 => by
  cases x with
  | lst xs =>
    obtain ⟨p, vs, rfl, h2, h3⟩ := Rw.lst r1
    exact ⟨p, vs, rfl, .inl (.inl h2), fun q nq => fin_lst s1.dm nq h3.reverse h1 fun z v' F' H' s r q => k z v' F' H' (s1.trans s) (okN.back s1 r) q⟩
  | _ => exact h1.elim
theorem sim_revT (h : Sim K d (rW K d) ts te we) : Sim K d (rN K d) ts (tRevT K te) (wRevT we) := fun H0 F0 F H σ ρ Q P E hw k => h H0 F0 F H σ ρ _ _ E hw fun x v F1 H1 s1 r1 h1 => by
  cases x with
  | tup xs =>
    obtain ⟨p, vs, rfl, h2, h3⟩ := Rw.tupE r1
    exact ⟨p, vs, rfl, h2, fun q nq => fin_tup s1.dm nq h3.reverse h1 fun z v' F' H' s r q => k z v' F' H' (s1.trans s) (okN.back s1 r) q⟩
  | _ => exact h1.elim
/-- either way, told by the tree -/
def wAlt (a b : WE) : WE := fun ρ P => a ρ P ∨ b ρ P
theorem sim_alt (ha : Sim K d R ts ta wa) (hb : Sim K d R ts tb wb) : Sim K d R ts (orE ta tb) (wAlt wa wb) := fun H0 F0 F H σ ρ Q P E hw k => hw.elim (fun z => .inl (ha H0 F0 F H σ ρ Q P E z k)) fun z => .inr (hb H0 F0 F H σ ρ Q P E z k)

/-! ### fields -/
def wFld (we : WE) (f : Str) : WE := fun ρ P => we ρ fun x => match x with
  | .ins c fs => ∃ z, fs.lookup f = some z ∧ P z
  | _ => False
theorem sim_fld {f : Str} {c : Cn} {C : Addr} (hC : d c = C) (cl : Cls K C) (na : NoAttr K C f) (h : Sim K d (rS K d) ts te we) : Sim K d (rS K d) ts (tFld K te f) (fun ρ P => wFld (fun ρ P => we ρ fun x => (∃ fs, x = .ins c fs) ∧ P x) f ρ P) := fun H0 F0 F H σ ρ Q P E hw k => h H0 F0 F H σ ρ _ _ E hw fun x v F1 H1 s1 r1 h1 => by
  obtain ⟨⟨fs, rfl⟩, z, hz, pz⟩ := h1
  obtain ⟨p, dx, gs, rfl, h2, h3⟩ := Rv.insE r1
  obtain ⟨w, hw', rw'⟩ := h3.look hz
  subst hC
  exact ⟨p, _, dx, gs, w, rfl, h2, cl, na, hw', k z w F1 H1 s1 rw' pz⟩

/-! ### built-ins called -/
def wCB (w : WC) (wa : WA) : WE := fun ρ P => wa ρ fun xs => w xs P
theorem sim_cb {rc : List V → Hp → VK → Prop} {w : WC} {ar : TA} {wr : WA} (o : ROk R) (hc : CaS K d R rc w) (ha : SimAW K d ts ar wr) : Sim K d R ts (tCB rc ar) (wCB w wr) := fun H0 F0 F H σ ρ Q P E hw k =>
  ha H0 F0 F H σ ρ _ _ E hw fun xs vs F1 H1 s1 r1 h1 => hc F1 H1 vs xs _ _ s1.dm r1 h1 fun z v' F3 H3 s3 r3 p => k z v' F3 H3 (s1.trans s3) (o.back s1 r3) p
def orC (r s : List V → Hp → VK → Prop) : List V → Hp → VK → Prop := fun xs H Q => r xs H Q ∨ s xs H Q
theorem ca_or {X : Cx} {f : Value} {r s : List V → Hp → VK → Prop} (a : CallR X f r) (b : CallR X f s) : CallR X f (orC r s) := by
  intro pins st σ H vs us Q I rx h
  exact h.elim (a pins st σ H vs us Q I rx) (b pins st σ H vs us Q I rx)
def rLenS : List V → Hp → VK → Prop := fun xs H Q => ∃ z, xs = [.str z] ∧ z.length ≤ sizeLine ∧ Q (.int z.length) H
theorem k_lenS {X : Cx} : CallR X (.builtin "len") rLenS := call_len_str
def rLenU (K : PySem.W.Frag) := orC (Hn.rLen K) rLenS
theorem u_len {X : Cx} (h : X.K = K) : CallR X (.builtin "len") (rLenU K) := ca_or (k_len h) k_lenS
def wLen : WC := fun xs P => match xs with
  | [.lst ys] => P (.int ys.length)
  | [.tup ys] => P (.int ys.length)
  | [.str s] => s.length ≤ 100000 ∧ P (.int s.length)
  | _ => False
theorem cas_len : CaS K d (rN K d) (rLenU K) wLen := fun F H vs xs Q P dm r h k => by
  unfold wLen at h
  split at h
  · obtain ⟨v, rfl, r1⟩ := r.one
    obtain ⟨p, vs, rfl, h2, h3⟩ := Rw.lst r1
    refine .inl ⟨p, vs, rfl, .inl (.inl (.inl h2)), ?_⟩
    show Q (.int (vs.length : Int)) H
    rw [h3.length]
    exact fin_val dm (.int _) h k
  · obtain ⟨v, rfl, r1⟩ := r.one
    obtain ⟨p, vs, rfl, h2, h3⟩ := Rw.tupE r1
    refine .inl ⟨p, vs, rfl, .inr h2, ?_⟩
    show Q (.int (vs.length : Int)) H
    rw [h3.length]
    exact fin_val dm (.int _) h k
  · obtain ⟨v, rfl, r1⟩ := r.one
    cases r1.strE
    exact .inr ⟨_, rfl, sz_of h.1, fin_val dm (.int _) h.2 k⟩
  · exact h.elim
def wListOf : WC := fun xs P => match xs with
  | [.lst ys] => P (.lst ys)
  | [.tup ys] => P (.lst ys)
  | _ => False
theorem cas_listOf : CaS K d (rN K d) (rListOf K) wListOf := fun F H vs xs Q P dm r h k => by
  unfold wListOf at h
  split at h
  · obtain ⟨v, rfl, r1⟩ := r.one
    obtain ⟨p, vs, rfl, h2, h3⟩ := Rw.lst r1
    exact ⟨p, vs, rfl, .inl (.inl (.inl h2)), fun q nq => fin_lst dm nq h3 h k⟩
  · obtain ⟨v, rfl, r1⟩ := r.one
    obtain ⟨p, vs, rfl, h2, h3⟩ := Rw.tupE r1
    exact ⟨p, vs, rfl, .inr h2, fun q nq => fin_lst dm nq h3 h k⟩
  · exact h.elim
def wTupOf : WC := fun xs P => match xs with
  | [.lst ys] => P (.tup ys)
  | [.tup ys] => P (.tup ys)
  | _ => False
theorem cas_tupOf : CaS K d (rN K d) (rTupOf K) wTupOf := fun F H vs xs Q P dm r h k => by
  unfold wTupOf at h
  split at h
  · obtain ⟨v, rfl, r1⟩ := r.one
    obtain ⟨p, vs, rfl, h2, h3⟩ := Rw.lst r1
    exact ⟨p, vs, rfl, .inl ⟨.inl (.inl h2), fun q nq => fin_tup dm nq h3 h k⟩⟩
  · obtain ⟨v, rfl, r1⟩ := r.one
    obtain ⟨p, vs, rfl, h2, h3⟩ := Rw.tupE r1
    exact ⟨p, vs, rfl, .inr ⟨h2, fin_val dm (.tup h2 h3) h k⟩⟩
  · exact h.elim
def wAbs : WC := fun xs P => match xs with
  | [.int i] => P (.int (if i < 0 then -i else i))
  | _ => False
theorem cas_abs : CaS K d (rN K d) rAbs wAbs := fun F H vs xs Q P dm r h k => by
  unfold wAbs at h
  split at h
  · obtain ⟨v, rfl, r1⟩ := r.one
    cases r1.intE
    exact ⟨_, rfl, fin_val dm (.int _) h k⟩
  · exact h.elim
def wInt1 : WC := fun xs P => match xs with
  | [.int i] => P (.int i)
  | [.bl b] => P (.int (if b then 1 else 0))
  | [.str a] => ∃ n, PySem.intText? a = some n ∧ a.length ≤ 640 ∧ P (.int n)
  | _ => False
def rIntU := orC rInt1 rIntS
theorem u_int {X : Cx} : CallR X (.type "int") rIntU := ca_or k_int1 k_intS
theorem cas_int : CaS K d (rN K d) rIntU wInt1 := fun F H vs xs Q P dm r h k => by
  unfold wInt1 at h
  split at h
  · obtain ⟨v, rfl, r1⟩ := r.one
    cases r1.intE
    exact .inl (.inl ⟨_, rfl, fin_val dm (.int _) h k⟩)
  · obtain ⟨v, rfl, r1⟩ := r.one
    cases r1.blE
    exact .inl (.inr ⟨_, rfl, fin_val dm (.int _) h k⟩)
  · obtain ⟨v, rfl, r1⟩ := r.one
    cases r1.strE
    obtain ⟨n, h1, h2, h3⟩ := h
    exact .inr ⟨_, n, rfl, h1, h2, fin_val dm (.int _) h3 k⟩
  · exact h.elim
/-- a row of ints, of truths -/
def wSum : WC := fun xs P => ∃ ns : List Int, (xs = [.lst (ns.map .int)] ∨ xs = [.tup (ns.map .int)]) ∧ P (.int ns.sum)
theorem cas_sum : CaS K d (rN K d) (rSumS K) wSum := fun F H vs xs Q P dm r h k => by
  obtain ⟨ns, rfl | rfl, p⟩ := h
  · obtain ⟨v, rfl, r1⟩ := r.one
    obtain ⟨q, vs, rfl, h2, h3⟩ := Rw.lst r1
    cases h3.ints
    exact ⟨q, ns, rfl, .inl (.inl (.inl h2)), fin_val dm (.int _) p k⟩
  · obtain ⟨v, rfl, r1⟩ := r.one
    obtain ⟨q, vs, rfl, h2, h3⟩ := Rw.tupE r1
    cases h3.ints
    exact ⟨q, ns, rfl, .inr h2, fin_val dm (.int _) p k⟩
def wAll : WC := fun xs P => ∃ bs : List Bool, xs = [.lst (bs.map .bl)] ∧ P (.bl (bs.all id))
theorem cas_all : CaS K d (rN K d) (rAll K) wAll := fun F H vs xs Q P dm r h k => by
  obtain ⟨ns, rfl, p⟩ := h
  obtain ⟨v, rfl, r1⟩ := r.one
  obtain ⟨q, vs, rfl, h2, h3⟩ := Rw.lst r1
  cases h3.bools
  exact ⟨q, ns, rfl, .inl (.inl h2), fin_val dm (.bl _) p k⟩
def wAny : WC := fun xs P => ∃ bs : List Bool, xs = [.lst (bs.map .bl)] ∧ P (.bl (bs.any id))
theorem cas_any : CaS K d (rN K d) (rAny K) wAny := fun F H vs xs Q P dm r h k => by
  obtain ⟨ns, rfl, p⟩ := h
  obtain ⟨v, rfl, r1⟩ := r.one
  obtain ⟨q, vs, rfl, h2, h3⟩ := Rw.lst r1
  cases h3.bools
  exact ⟨q, ns, rfl, .inl (.inl h2), fin_val dm (.bl _) p k⟩
def wMin : WC := fun xs P => ∃ ns : List Int, xs = [.lst (ns.map .int)] ∧ 0 < ns.length ∧ ∀ m, m ∈ ns → (∀ y, y ∈ ns → m ≤ y) → P (.int m)
theorem cas_min : CaS K d (rN K d) (rMin K) wMin := fun F H vs xs Q P dm r h k => by
  obtain ⟨ns, rfl, h0, p⟩ := h
  obtain ⟨v, rfl, r1⟩ := r.one
  obtain ⟨q, vs, rfl, h2, h3⟩ := Rw.lst r1
  cases h3.ints
  exact ⟨q, ns, rfl, .inl (.inl h2), h0, fun m h1 h2 => fin_val dm (.int _) (p m h1 h2) k⟩
def wMax : WC := fun xs P => ∃ ns : List Int, xs = [.lst (ns.map .int)] ∧ 0 < ns.length ∧ ∀ m, m ∈ ns → (∀ y, y ∈ ns → y ≤ m) → P (.int m)
theorem cas_max : CaS K d (rN K d) (rMax K) wMax := fun F H vs xs Q P dm r h k => by
  obtain ⟨ns, rfl, h0, p⟩ := h
  obtain ⟨v, rfl, r1⟩ := r.one
  obtain ⟨q, vs, rfl, h2, h3⟩ := Rw.lst r1
  cases h3.ints
  exact ⟨q, ns, rfl, .inl (.inl h2), h0, fun m h1 h2 => fin_val dm (.int _) (p m h1 h2) k⟩
def wMin2 : WC := fun xs P => match xs with
  | [.int i, .int j] => P (.int (if j < i then j else i))
  | _ => False
theorem cas_min2 : CaS K d (rN K d) rMin2 wMin2 := fun F H vs xs Q P dm r h k => by
  unfold wMin2 at h
  split at h
  · obtain ⟨v, u, rfl, r1, r2⟩ := r.two
    cases r1.intE
    cases r2.intE
    exact ⟨_, _, rfl, fin_val dm (.int _) h k⟩
  · exact h.elim
def wMax2 : WC := fun xs P => match xs with
  | [.int i, .int j] => P (.int (if j > i then j else i))
  | _ => False
theorem cas_max2 : CaS K d (rN K d) rMx2 wMax2 := fun F H vs xs Q P dm r h k => by
  unfold wMax2 at h
  split at h
  · obtain ⟨v, u, rfl, r1, r2⟩ := r.two
    cases r1.intE
    cases r2.intE
    exact ⟨_, _, rfl, fin_val dm (.int _) h k⟩
  · exact h.elim
def wRepr : WC := fun xs P => ∃ x e, xs = [x] ∧ toD x = some e ∧ e.showable = true ∧ e.hasDict = false ∧ e.depth ≤ 64 ∧ e.shown.length ≤ 12900041 ∧ P (.str e.shown)
theorem cas_repr : CaS K d (rN K d) (rRepr K) wRepr := fun F H vs xs Q P dm r h k => by
  obtain ⟨x, e, rfl, h1, h2, h3, h4, h5, h6⟩ := h
  obtain ⟨v, rfl, r1⟩ := r.one
  exact ⟨v, e, rfl, r1.dp h1, h2, h3, h4, h5, fin_val dm (.str _) h6 k⟩
def wStrI : WC := fun xs P => match xs with
  | [.int i] => i.natAbs.log2 < 1920 ∧ P (.str (txI i))
  | _ => False
theorem cas_str : CaS K d (rN K d) rStrI wStrI := fun F H vs xs Q P dm r h k => by
  unfold wStrI at h
  split at h
  · obtain ⟨v, rfl, r1⟩ := r.one
    cases r1.intE
    exact ⟨_, rfl, h.1, fin_val dm (.str _) h.2 k⟩
  · exact h.elim
/-! isinstance of built-in kinds -/
def tyP : PV → Option String
  | .non => some "NoneType"
  | .bl _ => some "bool"
  | .int _ => some "int"
  | .str _ => some "str"
  | .lst _ => some "list"
  | .tup _ => some "tuple"
  | _ => none
def subT (a b : String) : Bool := a == b || (a == "bool" && b == "int")
theorem tyP_ok {x : PV} {n : String} (h : Rw K d F H v x) (e : tyP x = some n) : TyX K H v (.type n) := by
  cases x with
  | non => cases e; cases h.nonE; exact .base .non
  | bl b => cases e; cases h.blE; exact .base (.bl b)
  | int b => cases e; cases h.intE; exact .base (.int b)
  | str b => cases e; cases h.strE; exact .base (.str b)
  | lst b =>
    cases e
    obtain ⟨p, vs, rfl, h1, _⟩ := h.lst
    exact .base (.lst h1)
  | tup b =>
    cases e
    obtain ⟨p, vs, rfl, h1, _⟩ := h.tupE
    rcases h1 with (h | ⟨o, h⟩) | ⟨o, its, n, h1, h2, _⟩
    · exact .base (.tup h)
    · exact .fTuple h
    · exact .kTuple h1 h2
  | _ => cases e
def wIsi : WC := fun xs P => match xs with
  | [x, .ty b] => ∃ a k, tyP x = some a ∧ kitB a b = some k ∧ P (.bl k)
  | _ => False
theorem cas_isi : CaS K d (rN K d) (rIsi K) wIsi := fun F H vs xs Q P dm r h k => by
  unfold wIsi at h
  split at h
  · obtain ⟨v, u, rfl, r1, r2⟩ := r.two
    cases r2.tyE
    obtain ⟨a, b, h1, h2, h3⟩ := h
    exact ⟨v, _, _, _, b, rfl, .ty _, tyP_ok r1 h1, kit_ty h2, fin_val dm (.bl _) h3 k⟩
  · exact h.elim
/-- isinstance(x, (A, B)) -/
def wIsiT (we : WE) (A B : String) : WE := fun ρ P => we ρ fun x => ∃ a k l, tyP x = some a ∧ kitB a A = some k ∧ kitB a B = some l ∧ P (.bl (k || l))
theorem sim_isiT {A B : String} (h : Sim K d (rW K d) ts te we) : Sim K d (rN K d) ts (tCB (rIsiT K) (tCons te (tCons (tTup (tCons (tC (.ty A)) (tCons (tC (.ty B)) tNil))) tNil))) (wIsiT we A B) := fun H0 F0 F H σ ρ Q P E hw k =>
  h H0 F0 F H σ ρ _ _ E hw fun x v F1 H1 s1 r1 ⟨a, b, l, h1, h2, h3, h4⟩ => ⟨szc rfl, fun p np => by
    have s2 := Step.new (o := .tup [.ty A, .ty B]) s1.dm np
    have ty := tyP_ok (Rw.step s2 r1) h1
    refine ⟨v, p, _, _, [.type A, .type B], b || l, rfl, upd_same, .cons (.ty _) (.cons (.ty _) .nil), ty, ?_, k (.bl _) _ F1 _ (s1.trans s2) (.inl ⟨trivial, .bl _⟩) h4⟩
    exact kitAny_cons (b := b) (kit_ty h2) (fun z => by
      subst z
      exact kitAny_cons (b := l) (kit_ty h3) (fun z => by subst z; rfl) (fun z => by subst z; rfl)) (fun z => by subst z; rfl)⟩
/-! ### what is walked -/
abbrev WI := List PV → (List PV → Prop) → Prop
/-- J gives xs one by one as long as Kp holds of the heap -/
def Items (K : PySem.W.Frag) (d : Cn → Addr) (Kp : Hp → Prop) (F : Fz) (H : Hp) (J : It) (xs : List PV) : Prop := ∃ (G : Hp → Prop) (Y : Nat → Hp → V → Hp → Prop), Walk J xs.length G Y ∧ (∀ H', Kp H' → G H') ∧
  ∀ i H2 F2 v H3, Kp H2 → (∀ a, F a → F2 a) → Stb F H H2 → Dom F2 H2 → Y i H2 v H3 → i < xs.length → Step F2 H2 F2 H3 ∧ ∃ x, xs[i]? = some x ∧ Rv K d F2 H3 v x
def keep (lp : Bool) (F : Fz) (H : Hp) : Hp → Prop := fun H' => if lp = true then Stb F H H' else Ex H H'
def SimI (K : PySem.W.Frag) (d : Cn → Addr) (lp : Bool) (ts : List Tag) (wi : TI) (ww : WI) : Prop := ∀ (H0 : Hp) (F0 F : Fz) (H : Hp) (σ : L2.St) (ρ : List PV) (R : It → Hp → Prop) (P : List PV → Prop), EnvR K d ts H0 F0 F H σ ρ → ww ρ P →
  (∀ xs F' H' J, Step F H F' H' → Items K d (keep lp F' H') F' H' J xs → P xs → R J H') → wi σ H R
/-- only what stands at a -/
def only (H : Hp) (a : Addr) : Hp := fun b => if b = a then H a else none
theorem only_ex {a : Addr} {o : HO} (h : H a = some o) (h' : H' a = some o) : Ex (only H a) H' := fun b q e => by
  unfold only at e
  split at e
  · subst b
    rw [h] at e
    rw [h', e]
  · cases e
def wSeqI (we : WE) : WI := fun ρ P => we ρ fun x => match x with
  | .lst xs => P xs
  | .tup xs => P xs
  | _ => False
theorem tup_only {a : Addr} {vs : List V} (h : SqT K H a vs) : SqT K (only H a) a vs := by
  rcases h with (h | ⟨o, h⟩) | h
  · exact .inl (.inl (by unfold only; rw [if_pos rfl]; exact h))
  · exact .inl (.inr ⟨o, by unfold only; rw [if_pos rfl]; exact h⟩)
  · exact .inr h
theorem tup_onlyEx {a : Addr} {vs : List V} (h : SqT K H a vs) (e : ∀ o, H a = some o → isMu o = false → H' a = some o) (z : H a = none ∨ ∃ o, H a = some o ∧ isMu o = false) : Ex (only H a) H' := fun b q hb => by
  unfold only at hb
  split at hb
  · subst b
    rcases z with z | ⟨o, z, n⟩
    · rw [z] at hb; cases hb
    · rw [z] at hb
      cases hb
      exact e _ z n
  · cases hb
/-- a tuple's part of the heap -/
theorem tup_part {a : Addr} {vs : List V} (h : SqT K H a vs) : ∃ Hs : Hp, SqT K Hs a vs ∧ ∀ H', Xm H H' → Ex Hs H' := by
  rcases h with (h | ⟨o, h⟩) | h
  · refine ⟨only H a, .inl (.inl (by unfold only; rw [if_pos rfl]; exact h)), fun H' e => only_ex h (e _ _ h rfl)⟩
  · refine ⟨only H a, .inl (.inr ⟨o, by unfold only; rw [if_pos rfl]; exact h⟩), fun H' e => only_ex h (e _ _ h rfl)⟩
  · exact ⟨fun _ => none, .inr h, fun H' e b q hb => by cases hb⟩
theorem goes_items {lp : Bool} {J : It} {Hs : Hp} {vs : List V} {xs : List PV} (g : Goes1 Hs vs.length (YAt vs) J) (r : Rvs K d F H vs xs) (e : ∀ H', keep lp F H H' → Ex Hs H') : Items K d (keep lp F H) F H J xs := by
  obtain ⟨G, w, hG⟩ := g
  rw [r.length] at w
  refine ⟨G, _, w, fun H' h => hG H' (e H' h), fun i H2 F2 v H3 kp up st dm y hi => ?_⟩
  obtain ⟨e1, e2⟩ := (y : H3 = H2 ∧ vs[i]? = some v)
  subst e1
  obtain ⟨x, hx, rx⟩ := r.getV e2
  exact ⟨Step.refl dm, x, hx, rx.mono st up⟩
theorem keep_xl {lp : Bool} {H' : Hp} (h : keep lp F H H') : Xm H H' := by
  unfold keep at h
  split at h
  · exact h.xl
  · exact .of h
theorem keep_lst {lp : Bool} {H' : Hp} {a : Addr} {vs : List V} (h : keep lp F H H') (ha : H a = some (.lst vs)) (f : lp = true → F a) : H' a = some (.lst vs) := by
  unfold keep at h
  split at h
  · next z => exact h _ _ ha (.inr (f z))
  · exact h _ _ ha
/-- a list or a tuple: held for a for, any for a comprehension -/
theorem simI_seq {lp : Bool} (h : Sim K d (if lp = true then rS K d else rW K d) ts te we) : SimI K d lp ts (iSeq K te) (wSeqI we) := fun H0 F0 F H σ ρ Q P E hw k => h H0 F0 F H σ ρ _ _ E hw fun x v F1 H1 s1 r1 h1 => by
  have rw1 : Rw K d F1 H1 v x := by
    cases lp with
    | true => exact .inl r1
    | false => exact r1
  cases x with
  | lst xs =>
    obtain ⟨p, vs, rfl, h2, h3⟩ := rw1.lst
    have fp : lp = true → F1 p := fun z => by
      subst z
      cases (show Rv K d F1 H1 (.ref p) (.lst xs) from r1) with
      | lst a b c => exact b
    exact ⟨p, vs, only H1 p, rfl, .inl (.inl (.inl (by unfold only; rw [if_pos rfl]; exact h2))), only_ex h2 h2, fun J g => k xs F1 H1 J s1 (goes_items g h3 fun H' kp => only_ex h2 (keep_lst kp h2 fp)) h1⟩
  | tup xs =>
    obtain ⟨p, vs, rfl, h2, h3⟩ := rw1.tupE
    obtain ⟨Hs, a1, a2⟩ := tup_part h2
    exact ⟨p, vs, Hs, rfl, .inr a1, a2 _ (Xm.refl _), fun J g => k xs F1 H1 J s1 (goes_items g h3 fun H' kp => a2 _ (keep_xl kp)) h1⟩
  | _ => exact h1.elim
def enumP (xs : List PV) : List PV := (List.range xs.length).map fun i => .tup [.int (i : Nat), xs.getD i .non]
def wEnum (wa : WA) : WI := fun ρ P => wa ρ fun zs => match zs with
  | [.lst xs] => P (enumP xs)
  | [.tup xs] => P (enumP xs)
  | _ => False
theorem enum_items {lp : Bool} {J : It} {Hs : Hp} {vs : List V} {xs : List PV} (g : Goes1 Hs vs.length (YEnum vs) J) (r : Rvs K d F H vs xs) (e : ∀ H', keep lp F H H' → Ex Hs H') : Items K d (keep lp F H) F H J (enumP xs) := by
  obtain ⟨G, w, hG⟩ := g
  have hl : (enumP xs).length = vs.length := by unfold enumP; rw [List.length_map, List.length_range, r.length]
  rw [← hl] at w
  refine ⟨G, _, w, fun H' h => hG H' (e H' h), fun i H2 F2 v H3 kp up st dm y hi => ?_⟩
  obtain ⟨T, z, x, e1, nT, e2, e3, e4⟩ := (y : ∃ T x y, v = .ref T ∧ H2 T = none ∧ H3 = upd H2 T (.tup [x, y]) ∧ some (.int (i : Nat)) = some x ∧ vs[i]? = some y)
  subst e1 e2
  obtain rfl := Option.some.inj e3
  obtain ⟨q, hq, rq⟩ := r.getV e4
  have s := Step.new (o := .tup [.int (i : Nat), x]) dm nT
  refine ⟨s, .tup [.int (i : Nat), q], ?_, .tup (.inl (.inl upd_same)) (.cons (.int _) (.cons ((rq.mono st up).step s) .nil))⟩
  unfold enumP
  rw [hl] at hi
  rw [List.getElem?_map, List.getElem?_range (by rw [← r.length]; exact hi)]
  show some (PV.tup [.int (i : Nat), xs.getD i .non]) = _
  rw [getD_of hq]
theorem simI_enum {lp : Bool} {ar : TA} {wa : WA} (h : SimA K d ts ar wa) : SimI K d lp ts (iEnumS K ar) (wEnum wa) := fun H0 F0 F H σ ρ Q P E hw k => h H0 F0 F H σ ρ _ _ E hw fun zs us F1 H1 s1 r1 h1 => by
  cases r1 with
  | nil => exact h1.elim
  | cons a b =>
    cases b with
    | cons c e =>
      split at h1
      · rename_i q; cases q
      · rename_i q; cases q
      · exact h1.elim
    | nil =>
      split at h1
      · rename_i xs q
        cases q
        cases a with
        | lst h2 h4 h3 =>
          rename_i p vs
          exact ⟨p, vs, only H1 p, rfl, .inl (.inl (.inl (by unfold only; rw [if_pos rfl]; exact h2))), only_ex h2 h2, fun J g => k _ F1 H1 J s1 (enum_items g h3 fun H' kp => only_ex h2 (keep_lst kp h2 fun _ => h4)) h1⟩
      · rename_i xs q
        cases q
        obtain ⟨p, vs, rfl, h2, h3⟩ := a.tupE
        obtain ⟨Hs, a1, a2⟩ := tup_part h2
        exact ⟨p, vs, Hs, rfl, .inr a1, a2 _ (Xm.refl _), fun J g => k _ F1 H1 J s1 (enum_items g h3 fun H' kp => a2 _ (keep_xl kp)) h1⟩
      · exact h1.elim
def zipP (xs ys : List PV) : List PV := (List.range (min xs.length ys.length)).map fun i => .tup [xs.getD i .non, ys.getD i .non]
def wZip (wa : WA) : WI := fun ρ P => wa ρ fun zs => match zs with
  | [.lst xs, .lst ys] => P (zipP xs ys)
  | [.tup xs, .tup ys] => P (zipP xs ys)
  | _ => False
theorem zip_items {Kp : Hp → Prop} {J : It} {G : Hp → Prop} {vs us : List V} {xs ys : List PV} (w : Walk J (min vs.length us.length) G (YPair (fun i => vs[i]?) (fun i => us[i]?))) (r : Rvs K d F H vs xs) (r' : Rvs K d F H us ys) (e : ∀ H', Kp H' → G H') : Items K d Kp F H J (zipP xs ys) := by
  have hl : (zipP xs ys).length = min vs.length us.length := by unfold zipP; rw [List.length_map, List.length_range, r.length, r'.length]
  rw [← hl] at w
  refine ⟨G, _, w, e, fun i H2 F2 v H3 kp up st dm y hi => ?_⟩
  obtain ⟨T, z, x, e1, nT, e2, e3, e4⟩ := y
  subst e1 e2
  obtain ⟨q, hq, rq⟩ := r.getV e3
  obtain ⟨q', hq', rq'⟩ := r'.getV e4
  have s := Step.new (o := .tup [z, x]) dm nT
  refine ⟨s, .tup [q, q'], ?_, .tup (.inl (.inl upd_same)) (.cons ((rq.mono st up).step s) (.cons ((rq'.mono st up).step s) .nil))⟩
  unfold zipP
  rw [hl] at hi
  rw [List.getElem?_map, List.getElem?_range (by rw [← r.length, ← r'.length]; exact hi)]
  show some (PV.tup [xs.getD i .non, ys.getD i .non]) = _
  rw [getD_of hq, getD_of hq']
theorem simI_zip {lp : Bool} {ar : TA} {wa : WA} (h : SimA K d ts ar wa) : SimI K d lp ts (iZipA K ar) (wZip wa) := fun H0 F0 F H σ ρ Q P E hw k => h H0 F0 F H σ ρ _ _ E hw fun zs us F1 H1 s1 r1 h1 => by
  split at h1
  · rename_i xs ys
    cases r1 with
    | cons a b =>
      cases b with
      | cons b c =>
        cases c
        cases a with
        | lst h2 h4 h3 =>
          cases b with
          | lst g2 g4 g3 =>
            exact ⟨_, _, _, _, rfl, .inl ⟨.inl (.inl h2), .inl (.inl g2), k _ F1 H1 _ s1 (zip_items (walk_zip rfl) h3 g3 fun H' kp => ⟨.inl (.inl (keep_lst kp h2 fun _ => h4)), .inl (.inl (keep_lst kp g2 fun _ => g4))⟩) h1⟩⟩
  · rename_i xs ys
    cases r1 with
    | cons a b =>
      cases b with
      | cons b c =>
        cases c
        obtain ⟨p, vs, rfl, h2, h3⟩ := a.tupE
        obtain ⟨p', vs', rfl, g2, g3⟩ := b.tupE
        exact ⟨_, _, _, _, rfl, .inr ⟨h2, g2, k _ F1 H1 _ s1 (zip_items (walk_zipT rfl) h3 g3 fun H' kp => ⟨tup_xm (keep_xl kp) h2, tup_xm (keep_xl kp) g2⟩) h1⟩⟩
  · exact h1.elim
def rangeP (lo : Int) (n : Nat) : List PV := (List.range n).map fun i => .int (lo + (i : Nat))
def wRng1 (wa : WA) : WI := fun ρ P => wa ρ fun zs => match zs with
  | [.int j] => -(2 ^ 62) ≤ j ∧ j < 2 ^ 62 ∧ P (rangeP 0 j.toNat)
  | _ => False
def wRng2 (wa : WA) : WI := fun ρ P => wa ρ fun zs => match zs with
  | [.int i, .int j] => (-(2 ^ 62) ≤ i ∧ i < 2 ^ 62 ∧ -(2 ^ 62) ≤ j ∧ j < 2 ^ 62) ∧ P (rangeP i (j - i).toNat)
  | _ => False
theorem range_items {Kp : Hp → Prop} {lo : Int} {n : Nat} : Items K d Kp F H (Itr lo n) (rangeP lo n) := by
  have hl : (rangeP lo n).length = n := by unfold rangeP; rw [List.length_map, List.length_range]
  have w := walk_range (lo := lo) (n := n)
  refine ⟨fun _ => True, _, by rw [hl]; exact w, fun _ _ => trivial, fun i H2 F2 v H3 kp up st dm y hi => ?_⟩
  obtain ⟨e1, e2⟩ := (y : H3 = H2 ∧ v = .int (lo + (i : Nat)))
  subst e1 e2
  rw [hl] at hi
  refine ⟨Step.refl dm, .int (lo + (i : Nat)), ?_, .int _⟩
  unfold rangeP
  rw [List.getElem?_map, List.getElem?_range hi]
  rfl
theorem simI_rng1 {lp : Bool} {ar : TA} {wa : WA} (h : SimAW K d ts ar wa) : SimI K d lp ts (iRng1 ar) (wRng1 wa) := fun H0 F0 F H σ ρ Q P E hw k => h H0 F0 F H σ ρ _ _ E hw fun zs us F1 H1 s1 r1 h1 => by
  split at h1
  · obtain ⟨v, rfl, r2⟩ := r1.one
    cases r2.intE
    exact ⟨_, rfl, h1.1, h1.2.1, k _ F1 H1 _ s1 range_items h1.2.2⟩
  · exact h1.elim
theorem simI_rng2 {lp : Bool} {ar : TA} {wa : WA} (h : SimAW K d ts ar wa) : SimI K d lp ts (iRng2 ar) (wRng2 wa) := fun H0 F0 F H σ ρ Q P E hw k => h H0 F0 F H σ ρ _ _ E hw fun zs us F1 H1 s1 r1 h1 => by
  split at h1
  · obtain ⟨v, u, rfl, r2, r3⟩ := r1.two
    cases r2.intE
    cases r3.intE
    exact ⟨_, _, rfl, h1.1, k _ F1 H1 _ s1 range_items h1.2⟩
  · exact h1.elim
/-! ### names stored -/
theorem EnvR.set {i : Nat} {x : PV} {σ : L2.St} {ρ : List PV} (E : EnvR K d ts H0 F0 F H σ ρ) (r : Rv K d F H v x) : EnvR K d (ts.set i .sh) H0 F0 F H (σ.set i (some v)) (ρ.set i x) where
  st := E.st
  ls := by rw [List.length_set, List.length_set, E.ls]
  lr := by rw [List.length_set, List.length_set, E.lr]
  sh := fun j h => by
    rw [List.getElem?_set] at h
    split at h
    · next e =>
      subst e
      split at h
      · next l => exact ⟨v, x, by rw [List.getElem?_set_self (by rw [E.ls]; exact l)], by rw [List.getElem?_set_self (by rw [E.lr]; exact l)], r⟩
      · cases h
    · next e =>
      obtain ⟨w, y, h1, h2, h3⟩ := E.sh j h
      exact ⟨w, y, by rw [List.getElem?_set_ne e]; exact h1, by rw [List.getElem?_set_ne e]; exact h2, h3⟩
  ow := fun j h => by
    rw [List.getElem?_set] at h
    split at h
    · split at h <;> cases h
    · next e =>
      obtain ⟨a, vs, xs, h1, h2, h3⟩ := E.ow j h
      exact ⟨a, vs, xs, by rw [List.getElem?_set_ne e]; exact h1, by rw [List.getElem?_set_ne e]; exact h2, h3⟩
  ap := fun j l a h1 h2 h3 h4 => by
    have o : ∀ m : Nat, (ts.set i .sh)[m]? = some .ow → i ≠ m ∧ ts[m]? = some .ow := fun m h => by
      rw [List.getElem?_set] at h
      split at h
      · split at h <;> cases h
      · next e => exact ⟨e, h⟩
    obtain ⟨n1, o1⟩ := o j h1
    obtain ⟨n2, o2⟩ := o l h2
    rw [List.getElem?_set_ne n1] at h3
    rw [List.getElem?_set_ne n2] at h4
    exact E.ap j l a o1 o2 h3 h4
/-- a new list is owned by a name -/
theorem EnvR.setO {i : Nat} {p : Addr} {vs : List V} {xs : List PV} {σ : L2.St} {ρ : List PV} (E : EnvR K d ts H0 F0 F H σ ρ) (h1 : H p = some (.lst vs)) (h2 : ¬ F p) (h3 : H0 p = none) (h4 : Rvs K d F H vs xs)
    (h5 : ∀ j : Nat, j ≠ i → ts[j]? = some .ow → σ[j]? ≠ some (some (.ref p))) : EnvR K d (ts.set i .ow) H0 F0 F H (σ.set i (some (.ref p))) (ρ.set i (.lst xs)) where
  st := E.st
  ls := by rw [List.length_set, List.length_set, E.ls]
  lr := by rw [List.length_set, List.length_set, E.lr]
  sh := fun j h => by
    rw [List.getElem?_set] at h
    split at h
    · split at h <;> cases h
    · next e =>
      obtain ⟨w, y, g1, g2, g3⟩ := E.sh j h
      exact ⟨w, y, by rw [List.getElem?_set_ne e]; exact g1, by rw [List.getElem?_set_ne e]; exact g2, g3⟩
  ow := fun j h => by
    rw [List.getElem?_set] at h
    split at h
    · next e =>
      subst e
      split at h
      · next l => exact ⟨p, vs, xs, by rw [List.getElem?_set_self (by rw [E.ls]; exact l)], by rw [List.getElem?_set_self (by rw [E.lr]; exact l)], h1, h2, h3, h4⟩
      · cases h
    · next e =>
      obtain ⟨a, vs, xs, g1, g2, g3⟩ := E.ow j h
      exact ⟨a, vs, xs, by rw [List.getElem?_set_ne e]; exact g1, by rw [List.getElem?_set_ne e]; exact g2, g3⟩
  ap := fun j l a g1 g2 g3 g4 => by
    have o : ∀ m : Nat, (ts.set i .ow)[m]? = some .ow → (i ≠ m → ts[m]? = some .ow ∧ (σ.set i (some (.ref p)))[m]? = σ[m]?) ∧ (i = m → (σ.set i (some (.ref p)))[m]? = some (some (.ref p))) := fun m h => by
      rw [List.getElem?_set] at h
      split at h
      · next e =>
        subst e
        split at h
        · next l => exact ⟨fun z => absurd rfl z, fun _ => by rw [List.getElem?_set_self (by rw [E.ls]; exact l)]⟩
        · cases h
      · next e => exact ⟨fun _ => ⟨h, by rw [List.getElem?_set_ne e]⟩, fun z => absurd z e⟩
    obtain ⟨a1, a2⟩ := o j g1
    obtain ⟨b1, b2⟩ := o l g2
    by_cases ej : i = j
    · by_cases el : i = l
      · rw [← ej, el]
      · rw [a2 ej] at g3
        cases g3
        obtain ⟨q1, q2⟩ := b1 el
        rw [q2] at g4
        exact absurd g4 (h5 l (Ne.symm el) q1)
    · by_cases el : i = l
      · rw [b2 el] at g4
        cases g4
        obtain ⟨q1, q2⟩ := a1 ej
        rw [q2] at g3
        exact absurd g3 (h5 j (Ne.symm ej) q1)
      · obtain ⟨q1, q2⟩ := a1 ej
        obtain ⟨q3, q4⟩ := b1 el
        rw [q2] at g3
        rw [q4] at g4
        exact E.ap j l a q1 q3 g3 g4
/-- a is owned by a name -/
def Own (ts : List Tag) (σ : L2.St) (a : Addr) : Prop := ∃ i : Nat, ts[i]? = some .ow ∧ σ[i]? = some (some (.ref a))
abbrev WG := PV → List PV → (List PV → Prop) → Prop
abbrev WGs := List PV → List PV → (List PV → Prop) → Prop
def SimG (K : PySem.W.Frag) (d : Cn → Addr) (is : List Nat) (ts : List Tag) (g : TG) (wg : WG) (ts' : List Tag) : Prop := ∀ (H0 : Hp) (F0 F : Fz) (H : Hp) (σ : L2.St) (ρ : List PV) (v : V) (x : PV) (Q : L2.St → Hp → Prop) (P : List PV → Prop), EnvR K d ts H0 F0 F H σ ρ → Rv K d F H v x → wg x ρ P →
  (∀ σ' ρ', EnvR K d ts' H0 F0 F H σ' ρ' → (∀ vs : List Nat, (∀ i ∈ is, i ∈ vs) → wipe σ' vs = wipe σ vs) → (∀ a, Own ts' σ' a → Own ts σ a) → P ρ' → Q σ' H) → g v σ H Q
def SimGs (K : PySem.W.Frag) (d : Cn → Addr) (is : List Nat) (ts : List Tag) (g : TGs) (wg : WGs) (ts' : List Tag) : Prop := ∀ (H0 : Hp) (F0 F : Fz) (H : Hp) (σ : L2.St) (ρ : List PV) (v : List V) (x : List PV) (Q : L2.St → Hp → Prop) (P : List PV → Prop), EnvR K d ts H0 F0 F H σ ρ → Rvs K d F H v x → wg x ρ P →
  (∀ σ' ρ', EnvR K d ts' H0 F0 F H σ' ρ' → (∀ vs : List Nat, (∀ i ∈ is, i ∈ vs) → wipe σ' vs = wipe σ vs) → (∀ a, Own ts' σ' a → Own ts σ a) → P ρ' → Q σ' H) → g v σ H Q
theorem wipe_gone {j : Nat} : ∀ {τ : L2.St} {ws : List Nat}, j ∈ ws → (wipe τ ws)[j]? = if j < τ.length then some none else none
  | _, [], hw => by cases hw
  | τ, b :: ws, hw => by
    show ((wipe τ ws).set b none)[j]? = _
    rw [List.getElem?_set, wipe_length]
    by_cases z : b = j
    · rw [if_pos z, z]
    · rw [if_neg z]
      refine wipe_gone ?_
      rcases List.mem_cons.mp hw with y | y
      · exact absurd y.symm z
      · exact y
theorem wipe_idem (σ : L2.St) (vs : List Nat) : wipe (wipe σ vs) vs = wipe σ vs := by
  refine List.ext_getElem? fun j => ?_
  by_cases hm : j ∈ vs
  · rw [wipe_gone hm, wipe_gone hm, wipe_length]
  · rw [wipe_out hm]
theorem wipe_set {σ : L2.St} {i : Nat} {o : Option V} : ∀ {vs : List Nat}, i ∈ vs → wipe (σ.set i o) vs = wipe σ vs
  | [], h => by cases h
  | a :: vs, h => by
    show (wipe (σ.set i o) vs).set a none = (wipe σ vs).set a none
    by_cases q : i ∈ vs
    · rw [wipe_set q]
    · have e : i = a := by
        rcases List.mem_cons.mp h with z | z
        · exact z
        · exact absurd z q
      subst e
      refine List.ext_getElem? fun j => ?_
      rw [List.getElem?_set, List.getElem?_set, wipe_length, wipe_length, List.length_set]
      by_cases hj : i = j
      · rw [if_pos hj, if_pos hj]
      · rw [if_neg hj, if_neg hj]
        by_cases hm : j ∈ vs
        · rw [wipe_gone hm, wipe_gone hm, List.length_set]
        · rw [wipe_out hm, wipe_out hm, List.getElem?_set_ne hj]
def wgName (i : Nat) : WG := fun x ρ P => P (ρ.set i x)
theorem simG_name {i : Nat} : SimG K d [i] ts (gName i) (wgName i) (ts.set i .sh) := fun H0 F0 F H σ ρ v x Q P E r hw k =>
  k _ _ (E.set r) (fun vs h => wipe_set (h i (List.mem_singleton.mpr rfl))) (fun a ⟨j, h1, h2⟩ => by
    rw [List.getElem?_set] at h1
    split at h1
    · split at h1 <;> cases h1
    · next e =>
      rw [List.getElem?_set_ne e] at h2
      exact ⟨j, h1, h2⟩) hw
def wgNil : WGs := fun xs ρ P => xs = [] ∧ P ρ
def wgCons (g : WG) (gs : WGs) : WGs := fun xs ρ P => match xs with
  | x :: r => g x ρ fun ρ' => gs r ρ' P
  | [] => False
theorem simGs_nil : SimGs K d [] ts gNil wgNil ts := fun H0 F0 F H σ ρ v x Q P E r hw k => by
  obtain ⟨rfl, hw⟩ := hw
  cases r
  exact ⟨rfl, k σ ρ E (fun _ _ => rfl) (fun _ h => h) hw⟩
theorem simGs_cons {is js : List Nat} {ts1 ts2 : List Tag} {g : TG} {gs : TGs} {wg : WG} {wgs : WGs} (h : SimG K d is ts g wg ts1) (hs : SimGs K d js ts1 gs wgs ts2) : SimGs K d (is ++ js) ts (gCons g gs) (wgCons wg wgs) ts2 := fun H0 F0 F H σ ρ v x Q P E r hw k => by
  cases r with
  | nil => exact hw.elim
  | cons a b =>
    exact ⟨_, _, rfl, h H0 F0 F H σ ρ _ _ _ _ E a hw fun σ1 ρ1 E1 w1 o1 h1 => hs H0 F0 F H σ1 ρ1 _ _ _ _ E1 b h1 fun σ2 ρ2 E2 w2 o2 h2 =>
      k σ2 ρ2 E2 (fun vs hv => (w2 vs fun i hi => hv i (List.mem_append_right _ hi)).trans (w1 vs fun i hi => hv i (List.mem_append_left _ hi))) (fun a z => o1 a (o2 a z)) h2⟩
def wgTup (n : Nat) (g : WGs) : WG := fun x ρ P => match x with
  | .tup xs => xs.length = n ∧ g xs ρ P
  | _ => False
theorem simG_tup {n : Nat} {is : List Nat} {gs : TGs} {wgs : WGs} (h : SimGs K d is ts gs wgs ts') : SimG K d is ts (gTup K n gs) (wgTup n wgs) ts' := fun H0 F0 F H σ ρ v x Q P E r hw k => by
  cases x with
  | tup xs =>
    obtain ⟨p, vs, rfl, h1, h2⟩ := r.tupE
    exact ⟨p, vs, rfl, h1, by rw [h2.length]; exact hw.1, h H0 F0 F H σ ρ vs xs Q P E h2 hw.2 k⟩
  | _ => exact hw.elim
/-! ### comprehensions -/
def wtag (ts : List Tag) : List Nat → List Tag
  | [] => ts
  | v :: vs => (wtag ts vs).set v .no
theorem EnvR.drop1 {i : Nat} {o : Option V} {σ : L2.St} {ρ : List PV} (E : EnvR K d ts H0 F0 F H σ ρ) : EnvR K d (ts.set i .no) H0 F0 F H (σ.set i o) ρ where
  st := E.st
  ls := by rw [List.length_set, List.length_set, E.ls]
  lr := by rw [List.length_set, E.lr]
  sh := fun j h => by
    rw [List.getElem?_set] at h
    split at h
    · split at h <;> cases h
    · next e =>
      obtain ⟨w, y, g1, g2, g3⟩ := E.sh j h
      exact ⟨w, y, by rw [List.getElem?_set_ne e]; exact g1, g2, g3⟩
  ow := fun j h => by
    rw [List.getElem?_set] at h
    split at h
    · split at h <;> cases h
    · next e =>
      obtain ⟨w, vs, xs, g1, g3⟩ := E.ow j h
      exact ⟨w, vs, xs, by rw [List.getElem?_set_ne e]; exact g1, g3⟩
  ap := fun j l a h1 h2 h3 h4 => by
    have o : ∀ m : Nat, (ts.set i .no)[m]? = some .ow → i ≠ m ∧ ts[m]? = some .ow := fun m h => by
      rw [List.getElem?_set] at h
      split at h
      · split at h <;> cases h
      · next e => exact ⟨e, h⟩
    obtain ⟨n1, o1⟩ := o j h1
    obtain ⟨n2, o2⟩ := o l h2
    rw [List.getElem?_set_ne n1] at h3
    rw [List.getElem?_set_ne n2] at h4
    exact E.ap j l a o1 o2 h3 h4
theorem EnvR.wipe {σ : L2.St} {ρ : List PV} (E : EnvR K d ts H0 F0 F H σ ρ) : ∀ vs : List Nat, EnvR K d (wtag ts vs) H0 F0 F H (L2.wipe σ vs) ρ
  | [] => E
  | _ :: vs => (E.wipe vs).drop1
def wLcL (wg : WG) (wt : WT) (we : WE) (ρ : List PV) : List PV → List PV → (List PV → Prop) → Prop
  | [], acc, P => P acc
  | x :: xs, acc, P => wg x ρ fun ρ2 => wt ρ2 fun b => if b = true then we ρ2 fun y => wLcL wg wt we ρ xs (acc ++ [y]) P else wLcL wg wt we ρ xs acc P
def wLc (ww : WI) (wg : WG) (wt : WT) (we : WE) : WE := fun ρ P => ww ρ fun xs => xs.length ≤ 100000 ∧ wLcL wg wt we ρ xs [] fun ys => P (.lst ys)
theorem sim_lc {is vs : List Nat} {ts2 : List Tag} {wi : TI} {ww : WI} {g : TG} {wg : WG} {tt : TT} {wt : WT} (hi : SimI K d false ts wi ww) (hg : SimG K d is (wtag ts vs) g wg ts2) (ht : SimT K d ts2 tt wt) (he : Sim K d (rS K d) ts2 te we)
    (hv : (is.all fun i => vs.contains i) = true := by rfl) : Sim K d (rN K d) ts (tLc wi g tt te vs) (wLc ww wg wt we) := fun H0 F0 F H σ ρ Q P E hw k => hi H0 F0 F H σ ρ _ _ E hw fun xs F1 H1 J s1 it hx => by
  have hv' : ∀ i ∈ is, i ∈ vs := fun i h => by
    have := List.all_eq_true.mp hv i h
    exact List.contains_iff_mem.mp this
  obtain ⟨hl, hx⟩ := hx
  obtain ⟨G, Y, w, hG, item⟩ := it
  have E1 := E.step s1
  intro D nD
  refine lc_it w (fun i H' => ∃ (F' : Fz) (as : List V) (acc : List PV), H' D = some (.lst as) ∧ ¬ F' D ∧ Rvs K d F' H' as acc ∧ as.length ≤ i ∧ Step F1 H1 F' H' ∧ wLcL wg wt we ρ (xs.drop i) acc fun ys => P (.lst ys)) ?_ ?_ ?_ ?_
  · exact ⟨F1, [], [], upd_same, fun f => s1.dm D f nD, .nil, Nat.le_refl _, Step.new s1.dm nD, hx⟩
  · rintro i H' _ ⟨F', as, acc, _, _, _, _, st, _⟩
    exact hG H' st.ex
  · rintro i x H' H'' hi' ⟨F', as, acc, a1, a2, a3, a4, st, hw2⟩ y
    obtain ⟨s2, z, hz, rz⟩ := item i H' F' x H'' st.ex st.up (.of st.ex) st.dm y hi'
    have dr : xs.drop i = z :: xs.drop (i + 1) := by
      obtain ⟨hlt, e⟩ := List.getElem?_eq_some_iff.mp hz
      rw [List.drop_eq_getElem_cons hlt, e]
    rw [dr] at hw2
    have Ew := ((E1.step (st.trans s2)).wipe vs)
    refine hg H0 F0 F' H'' (L2.wipe σ vs) ρ x z _ _ Ew rz hw2 fun σ2 ρ2 E2 wp _ h2 => ?_
    have wip : wipe σ2 vs = wipe σ vs := by
      rw [wp vs hv']
      have : ∀ (τ : L2.St) (l : List Nat), wipe (wipe τ vs) l = wipe (wipe τ vs) l := fun _ _ => rfl
      exact wipe_idem σ vs
    refine ⟨wip, ht H0 F0 F' H'' σ2 ρ2 _ _ E2 h2 fun b H3 e3 hb => ?_⟩
    have s3 := Step.to s2.dm e3
    have aD : H3 D = some (.lst as) := e3 _ _ (s2.ex _ _ a1)
    cases b with
    | true =>
      refine he H0 F0 F' H3 σ2 ρ2 _ _ (E2.step s3) hb fun q u F4 H4 s4 r4 h4 => ?_
      have aD4 : H4 D = some (.lst as) := s4.ex _ _ aD
      have nf4 : ¬ F4 D := fun f => (s4.nw D f).elim a2 fun z => by rw [aD] at z; cases z
      refine ⟨as, aD4, sz_lt (by omega), F4, as ++ [u], acc ++ [q], upd_same, nf4, ?_, by rw [List.length_append, List.length_singleton]; omega, ?_, h4⟩
      · have sb : Stb F4 H4 (upd H4 D (.lst (as ++ [u]))) := Stb.set aD4 nf4
        exact (((a3.step s2).step s3).step s4 |>.mono sb fun _ h => h).append (.cons (r4.mono sb fun _ h => h) .nil)
      · have s5 := ((st.trans s2).trans s3).trans s4
        exact ⟨Ex.mut s5.ex nD, s5.up, s5.nw, fun a f z => by
          by_cases ea : a = D
          · exact nf4 (ea ▸ f)
          · rw [upd_ne ea] at z
            exact s5.dm a f z⟩
    | false => exact ⟨F', as, acc, aD, a2, (a3.step s2).step s3, by omega, (st.trans s2).trans s3, hb⟩
  · rintro H' ⟨F', as, acc, a1, a2, a3, a4, st, hw2⟩
    rw [List.drop_length] at hw2
    exact k (.lst acc) (.ref D) F' H' (s1.trans st) (.inr ⟨D, as, acc, rfl, rfl, fresh_back s1.ex nD, a1, a2, a3⟩) hw2
end
end Wx

/-! Own calls, statements, defs. -/
namespace Wx
open PySem PySem.Spec PyProof.Rows L2 Evl Hn RZ
abbrev WF := List PV → (PV → Prop) → Prop
structure WEnds where
  nx : List PV → Prop
  rt : PV → Prop
  bk : List PV → Prop := fun _ => False
  ct : List PV → Prop := fun _ => False
abbrev WS := WEnds → List PV → Prop
section
variable (K : PySem.W.Frag) (d : Cn → Addr)
/-- a def that does as the tree program w tells -/
def spW (R : RR) (w : WF) : Sp := fun vs H Q _ => ∃ (F : Fz) (xs : List PV) (P : PV → Prop), Dom F H ∧ Rvs K d F H vs xs ∧ w xs P ∧ ∀ x v F' H', Step F H F' H' → R F H F' H' v x → P x → Q v H'
/-- what is held stays held, and as it was -/
def Gr (F : Fz) (H : Hp) (F' : Fz) (H' : Hp) : Prop := (∀ a, F a → F' a) ∧ Stb F H H'
def SimS (R : RR) (bt ct ts : List Tag) (t : TS) (w : WS) (ts' : List Tag) : Prop := ∀ (H0 : Hp) (F0 F : Fz) (H : Hp) (σ : L2.St) (ρ : List PV) (D : Ends) (D' : WEnds), EnvR K d ts H0 F0 F H σ ρ → w D' ρ →
  (∀ F' H' σ' ρ', Gr F H F' H' → EnvR K d ts' H0 F0 F' H' σ' ρ' → D'.nx ρ' → D.nx σ' H') →
  (∀ x v F' H', Step F0 H0 F' H' → R F0 H0 F' H' v x → D'.rt x → D.rt v H') →
  (∀ F' H' σ' ρ', Gr F H F' H' → EnvR K d bt H0 F0 F' H' σ' ρ' → D'.bk ρ' → D.bk σ' H') →
  (∀ F' H' σ' ρ', Gr F H F' H' → EnvR K d ct H0 F0 F' H' σ' ρ' → D'.ct ρ' → D.ct σ' H') → t D σ H
end
section
variable {K : PySem.W.Frag} {d : Cn → Addr} {F F' F0 F1 F2 : Fz} {H H' H0 H1 H2 Hs : Hp} {v u : V} {ts ts' ts1 ts2 bt ct : List Tag} {R : RR} {te ta tb tc : TE} {we wa wb wc : WE} {σ : L2.St} {ρ : List PV} {x : PV}

theorem Gr.refl : Gr F H F H := ⟨fun _ h => h, .refl⟩
theorem Gr.of (s : Step F H F' H') : Gr F H F' H' := ⟨s.up, .of s.ex⟩
theorem Gr.up (h : ∀ a, F a → F' a) : Gr F H F' H := ⟨h, .refl⟩
theorem Gr.trans (a : Gr F H F1 H1) (b : Gr F1 H1 F2 H2) : Gr F H F2 H2 := ⟨fun x h => b.1 x (a.1 x h), fun x o h z => b.2 x o (a.2 x o h z) (z.elim .inl fun f => .inr (a.1 x f))⟩
/-! ### own calls -/
def wCall (w : WF) (wa : WA) : WE := fun ρ P => wa ρ fun xs => w xs P
theorem sim_call {w : WF} {ar : TA} {wr : WA} {E : XK} (o : ROk R) (ha : SimA K d ts ar wr) : Sim K d R ts (tCall (spW K d R w) [] E ar) (wCall w wr) := fun H0 F0 F H σ ρ Q P E hw k =>
  ha H0 F0 F H σ ρ _ _ E hw fun xs vs F1 H1 s1 r1 h1 => ⟨F1, xs, P, s1.dm, by rw [List.append_nil]; exact r1, h1, fun x v F' H' s r p => k x v F' H' (s1.trans s) (o.back s1 r) p⟩
/-- o.m(..), o of the class c -/
def wMeth (c : Cn) (m : Str) (w : WF) (wo : WE) (wa : WA) : WE := fun ρ P => wo ρ fun x => (∃ fs, x = .ins c fs ∧ fs.lookup m = none) ∧ wa ρ fun xs => w (x :: xs) P
theorem sim_meth {w : WF} {m : Str} {to : TE} {wo : WE} {ar : TA} {wr : WA} {E : XK} {C : Addr} (c : Cn) (o : ROk R) (ho : Sim K d (rS K d) ts to wo) (ha : SimA K d ts ar wr) (hC : d c = C := by rfl) : Sim K d R ts (tMeth C m (spW K d R w) [] E to ar) (wMeth c m w wo wr) := fun H0 F0 F H σ ρ Q P E hw k =>
  ho H0 F0 F H σ ρ _ _ E hw fun x v F1 H1 s1 r1 ⟨⟨fs, ex, lk⟩, h1⟩ => by
    subst hC
    subst ex
    obtain ⟨p, dx, gs, rfl, h2, h3⟩ := Rv.insE r1
    refine ⟨p, dx, gs, rfl, h2, h3.none lk, ha H0 F0 F1 H1 σ ρ _ _ (E.step s1) h1 fun xs vs F2 H2 s2 r2 h4 => ⟨F2, .ins c fs :: xs, P, s2.dm, ?_, h4, fun x v F' H' s r q => k x v F' H' ((s1.trans s2).trans s) (o.back (s1.trans s2) r) q⟩⟩
    rw [List.append_nil]
    exact .cons (Rv.step s2 r1) r2
def wProp (c : Cn) (w : WF) (wo : WE) : WE := fun ρ P => wo ρ fun x => (∃ fs, x = .ins c fs) ∧ w [x] P
theorem sim_prop {w : WF} {to : TE} {wo : WE} {E : XK} {C : Addr} (c : Cn) (o : ROk R) (ho : Sim K d (rS K d) ts to wo) (hC : d c = C := by rfl) : Sim K d R ts (tProp C (spW K d R w) [] E to) (wProp c w wo) := fun H0 F0 F H σ ρ Q P E hw k =>
  ho H0 F0 F H σ ρ _ _ E hw fun x v F1 H1 s1 r1 ⟨⟨fs, ex⟩, h1⟩ => by
    subst hC
    subst ex
    obtain ⟨p, dx, gs, rfl, h2, h3⟩ := Rv.insE r1
    exact ⟨p, dx, gs, rfl, h2, F1, [.ins c fs], P, s1.dm, .cons r1 .nil, h1, fun x v F' H' s r q => k x v F' H' (s1.trans s) (o.back s1 r) q⟩
/-- C.m(..), a static method -/
def wStat (w : WF) (wo : WE) (wa : WA) (c : Cn) : WE := fun ρ P => wo ρ fun x => x = .cls c ∧ wa ρ fun xs => w xs P
theorem sim_stat {w : WF} {to : TE} {wo : WE} {ar : TA} {wr : WA} {C : Addr} (c : Cn) (o : ROk R) (ho : Sim K d (rS K d) ts to wo) (ha : SimA K d ts ar wr) (hC : d c = C := by rfl) : Sim K d R ts (tSMeth C (spW K d R w) to ar) (wStat w wo wr c) := fun H0 F0 F H σ ρ Q P E hw k =>
  ho H0 F0 F H σ ρ _ _ E hw fun x v F1 H1 s1 r1 ⟨ex, h1⟩ => by
    subst hC
    subst ex
    cases r1
    exact ⟨rfl, ha H0 F0 F1 H1 σ ρ _ _ (E.step s1) h1 fun xs vs F2 H2 s2 r2 h4 => ⟨F2, xs, P, s2.dm, r2, h4, fun x v F' H' s r q => k x v F' H' ((s1.trans s2).trans s) (o.back (s1.trans s2) r) q⟩⟩
/-- C(..): what the making promises -/
def MkS (K : PySem.W.Frag) (d : Cn → Addr) (c : Cn) (sp : Sp) (w : WF) : Prop := ∀ (F : Fz) (H : Hp) (vs : List V) (xs : List PV) (Q : V → Hp → Prop) (P : PV → Prop) (E : XK), Dom F H → Rvs K d F H vs xs → w xs P →
  (∀ x v F' H', Step F H F' H' → Rv K d F' H' v x → notL x → P x → Q v H') → ∀ y dx, H y = none → H dx = none → dx ≠ y → sp (.ref y :: (vs ++ [])) (upd (upd H dx (.own y)) y (.ins (d c) dx [])) (fun v H2 => v = .non ∧ Q (.ref y) H2) E
theorem sim_make {w : WF} {sp : Sp} {ar : TA} {wr : WA} {E : XK} {C : Addr} {c : Cn} (m : MkS K d c sp w) (ha : SimA K d ts ar wr) (hC : d c = C := by rfl) : Sim K d (rN K d) ts (tMake C sp [] E ar) (wCall w wr) := fun H0 F0 F H σ ρ Q P E hw k =>
  ha H0 F0 F H σ ρ _ _ E hw fun xs vs F1 H1 s1 r1 h1 y dx ny nd ne => by
    subst hC
    exact m F1 H1 vs xs Q P _ s1.dm r1 h1 (fun x v F' H' s r nl p => k x v F' H' (s1.trans s) (.inl ⟨nl, r⟩) p) y dx ny nd ne
/-- operators of own classes -/
def OwS (K : PySem.W.Frag) (d : Cn → Addr) (R : RR) (r : R2) (w : W2) : Prop := ∀ (F : Fz) (H : Hp) (v u : V) (x y : PV) (Q : VK) (P : PV → Prop), Dom F H → Rv K d F H v x → Rv K d F H u y → w x y P →
  (∀ z v' F' H', Step F H F' H' → R F H F' H' v' z → P z → Q v' H') → r v u H Q
theorem sim_own {r : R2} {w : W2} (o : ROk R) (hr : OwS K d R r w) (ha : Sim K d (rS K d) ts ta wa) (hb : Sim K d (rS K d) ts tb wb) : Sim K d R ts (tOp r ta tb) (wOp w wa wb) := fun H0 F0 F H σ ρ Q P E hw k =>
  ha H0 F0 F H σ ρ _ _ E hw fun x v F1 H1 s1 r1 h1 => hb H0 F0 F1 H1 σ ρ _ _ (E.step s1) h1 fun y u F2 H2 s2 r2 h2 =>
    hr F2 H2 v u x y _ _ s2.dm (Rv.step s2 r1) r2 h2 fun z v' F3 H3 s3 r3 p => k z v' F3 H3 ((s1.trans s2).trans s3) (o.back (s1.trans s2) r3) p
def wOwn (c : Cn) (w : WF) : W2 := fun x y P => (∃ fs gs, x = .ins c fs ∧ y = .ins c gs) ∧ w [x, y] P
theorem ows_own {w : WF} {C : Addr} {E : XK} (c : Cn) (hC : d c = C := by rfl) : OwS K d R (rOwn C (spW K d R w) E) (wOwn c w) := fun F H v u x y Q P dm rx ry h k => by
  obtain ⟨⟨fs, gs, rfl, rfl⟩, h⟩ := h
  subst hC
  obtain ⟨p, dx, as, rfl, h2, h3⟩ := rx.insE
  obtain ⟨q, dy, bs, rfl, g2, g3⟩ := ry.insE
  exact ⟨p, q, dx, dy, as, bs, rfl, rfl, h2, g2, F, _, P, dm, .cons rx (.cons ry .nil), h, k⟩
def wOwnNe (c : Cn) (w : WF) : W2 := fun x y P => (∃ fs gs, x = .ins c fs ∧ y = .ins c gs) ∧ w [x, y] fun z => match z with
  | .bl b => P (.bl (!b))
  | _ => False
theorem ows_ownNe {w : WF} {C : Addr} {E : XK} (c : Cn) (hC : d c = C := by rfl) : OwS K d (rN K d) (rOwnNe C (spW K d (rN K d) w) E) (wOwnNe c w) := fun F H v u x y Q P dm rx ry h k => by
  obtain ⟨⟨fs, gs, rfl, rfl⟩, h⟩ := h
  subst hC
  obtain ⟨p, dx, as, rfl, h2, h3⟩ := rx.insE
  obtain ⟨q, dy, bs, rfl, g2, g3⟩ := ry.insE
  refine ⟨p, q, dx, dy, as, bs, rfl, rfl, h2, g2, F, _, _, dm, .cons rx (.cons ry .nil), h, fun z v F' H' s r pz => ?_⟩
  cases z with
  | bl b =>
    rcases r with r | ⟨_, _, _, _, e, _⟩
    · cases r.2
      exact ⟨b, rfl, k (.bl (!b)) _ F' H' s (.inl ⟨trivial, .bl _⟩) pz⟩
    · cases e
  | _ => exact pz.elim
def wOwnI (c : Cn) (w : WF) : W2 := fun x y P => (∃ fs i, x = .ins c fs ∧ y = .int i) ∧ w [x, y] P
theorem ows_ownI {w : WF} {C : Addr} {E : XK} (c : Cn) (hC : d c = C := by rfl) : OwS K d R (rOwnI C (spW K d R w) E) (wOwnI c w) := fun F H v u x y Q P dm rx ry h k => by
  obtain ⟨⟨fs, i, rfl, rfl⟩, h⟩ := h
  subst hC
  obtain ⟨p, dx, as, rfl, h2, h3⟩ := rx.insE
  have ry' := ry
  cases ry
  exact ⟨p, i, dx, as, rfl, rfl, h2, F, _, P, dm, .cons rx (.cons ry' .nil), h, k⟩
def wOwnR (c : Cn) (w : WF) : W2 := fun x y P => (∃ fs i, y = .ins c fs ∧ x = .int i) ∧ w [y, x] P
theorem ows_ownR {w : WF} {C : Addr} {E : XK} (c : Cn) (hC : d c = C := by rfl) : OwS K d R (rOwnR C (spW K d R w) E) (wOwnR c w) := fun F H v u x y Q P dm rx ry h k => by
  obtain ⟨⟨fs, i, rfl, rfl⟩, h⟩ := h
  subst hC
  obtain ⟨p, dx, as, rfl, h2, h3⟩ := ry.insE
  have rx' := rx
  cases rx
  exact ⟨i, p, dx, as, rfl, rfl, h2, F, _, P, dm, .cons ry (.cons rx' .nil), h, k⟩
/-- c[i] by the own __getitem__ -/
def wIxO (c : Cn) (w : WF) (wa wb : WE) : WE := fun ρ P => wa ρ fun x => wb ρ fun y => (∃ fs, x = .ins c fs) ∧ w [x, y] P
theorem sim_ixO {w : WF} {C : Addr} (c : Cn) (o : ROk R) (ha : Sim K d (rS K d) ts ta wa) (hb : Sim K d (rS K d) ts tb wb) (hC : d c = C := by rfl) : Sim K d R ts (tIxO C (spW K d R w) ta tb) (wIxO c w wa wb) := fun H0 F0 F H σ ρ Q P E hw k =>
  ha H0 F0 F H σ ρ _ _ E hw fun x v F1 H1 s1 r1 h1 => hb H0 F0 F1 H1 σ ρ _ _ (E.step s1) h1 fun y u F2 H2 s2 r2 ⟨⟨fs, ex⟩, h2⟩ => by
    subst hC
    subst ex
    have r1' := Rv.step s2 r1
    obtain ⟨p, dx, as, rfl, g2, g3⟩ := r1'.insE
    exact ⟨p, dx, as, rfl, g2, F2, _, P, s2.dm, .cons r1' (.cons r2 .nil), h2, fun z v' F3 H3 s3 r3 p => k z v' F3 H3 ((s1.trans s2).trans s3) (o.back (s1.trans s2) r3) p⟩
/-- len of an own thing -/
def wLenO (c : Cn) (w : WF) : WC := fun xs P => ∃ fs, xs = [.ins c fs] ∧ w xs fun z => match z with
  | .int n => 0 ≤ n ∧ n < 2 ^ 63 ∧ P (.int n)
  | _ => False
theorem cas_lenO {w : WF} {C : Addr} {E : XK} (c : Cn) (hC : d c = C := by rfl) : CaS K d (rN K d) (rLenO C (spW K d (rN K d) w) E) (wLenO c w) := fun F H vs xs Q P dm r h k => by
  obtain ⟨fs, rfl, h⟩ := h
  subst hC
  obtain ⟨v, rfl, r1⟩ := r.one
  have r1' := r1.of trivial
  obtain ⟨p, dx, as, rfl, g2, g3⟩ := r1'.insE
  refine ⟨p, dx, as, rfl, g2, F, _, _, dm, .cons r1' .nil, h, fun z v F' H' s r pz => ?_⟩
  cases z with
  | int n =>
    rcases r with r | ⟨_, _, _, _, e, _⟩
    · cases r.2
      exact ⟨n, rfl, pz.1, pz.2.1, k (.int n) _ F' H' s (.inl ⟨trivial, .int _⟩) pz.2.2⟩
    · cases e
  | _ => exact pz.elim
/-- list(x) of an own thing: its own promise -/
def wListO (c : Cn) (f : List (Str × PV) → List PV → Prop) : WC := fun xs P => ∃ fs ys, xs = [.ins c fs] ∧ f fs ys ∧ P (.lst ys)

/-! ### statements -/
theorem simS_nil : SimS K d R bt ct ts tNext (fun D ρ => D.nx ρ) ts := fun H0 F0 F H σ ρ D D' E hw n r b c => n F H σ ρ .refl E hw
def wSeq (a b : WS) : WS := fun D ρ => a { D with nx := b D } ρ
theorem simS_seq {t t' : TS} {a b : WS} (h : SimS K d R bt ct ts t a ts1) (h' : SimS K d R bt ct ts1 t' b ts2) : SimS K d R bt ct ts (tSeq t t') (wSeq a b) ts2 := fun H0 F0 F H σ ρ D D' E hw n r b' c =>
  h H0 F0 F H σ ρ _ _ E hw (fun F1 H1 σ1 ρ1 g1 E1 h1 => h' H0 F0 F1 H1 σ1 ρ1 D D' E1 h1 (fun F2 H2 σ2 ρ2 g2 => n F2 H2 σ2 ρ2 (g1.trans g2)) r (fun F2 H2 σ2 ρ2 g2 => b' F2 H2 σ2 ρ2 (g1.trans g2)) fun F2 H2 σ2 ρ2 g2 => c F2 H2 σ2 ρ2 (g1.trans g2)) r b' c
/-- the ways meet in M -/
def wCut (a b : WS) : WS := fun D ρ => ∃ M : List PV → Prop, a { D with nx := M } ρ ∧ ∀ ρ', M ρ' → b D ρ'
theorem simS_cut {t t' : TS} {a b : WS} (h : SimS K d R bt ct ts t a ts1) (h' : SimS K d R bt ct ts1 t' b ts2) : SimS K d R bt ct ts (Evl.tCut t t') (wCut a b) ts2 := fun H0 F0 F H σ ρ D D' E hw n r b' c => by
  obtain ⟨M, h1, h2⟩ := hw
  exact ⟨fun σ' H' => ∃ F' ρ', Gr F H F' H' ∧ EnvR K d ts1 H0 F0 F' H' σ' ρ' ∧ M ρ', h H0 F0 F H σ ρ _ _ E h1 (fun F1 H1 σ1 ρ1 g1 E1 m1 => ⟨F1, ρ1, g1, E1, m1⟩) r b' c, fun σ' H' ⟨F1, ρ1, g1, E1, m1⟩ =>
    h' H0 F0 F1 H' σ' ρ1 D D' E1 (h2 _ m1) (fun F2 H2 σ2 ρ2 g2 => n F2 H2 σ2 ρ2 (g1.trans g2)) r (fun F2 H2 σ2 ρ2 g2 => b' F2 H2 σ2 ρ2 (g1.trans g2)) fun F2 H2 σ2 ρ2 g2 => c F2 H2 σ2 ρ2 (g1.trans g2)⟩
theorem simS_conv {t : TS} {a : WS} (c : cv ts ts1 = true) (h : SimS K d R bt ct ts1 t a ts2) : SimS K d R bt ct ts t a ts2 := fun H0 F0 F H σ ρ D D' E hw n r b' c' => by
  obtain ⟨F1, up, E1⟩ := E.conv c
  exact h H0 F0 F1 H σ ρ D D' E1 hw (fun F2 H2 σ2 ρ2 g2 => n F2 H2 σ2 ρ2 ((Gr.up up).trans g2)) r (fun F2 H2 σ2 ρ2 g2 => b' F2 H2 σ2 ρ2 ((Gr.up up).trans g2)) fun F2 H2 σ2 ρ2 g2 => c' F2 H2 σ2 ρ2 ((Gr.up up).trans g2)
theorem simS_after {t : TS} {a : WS} (h : SimS K d R bt ct ts t a ts1) (c : cv ts1 ts2 = true) : SimS K d R bt ct ts t a ts2 := fun H0 F0 F H σ ρ D D' E hw n r b' c' =>
  h H0 F0 F H σ ρ D D' E hw (fun F1 H1 σ1 ρ1 g1 E1 h1 => by
    obtain ⟨F2, up, E2⟩ := E1.conv c
    exact n F2 H1 σ1 ρ1 (g1.trans (.up up)) E2 h1) r b' c'
def wSet (i : Nat) (we : WE) : WS := fun D ρ => we ρ fun x => D.nx (ρ.set i x)
theorem simS_set {i : Nat} (h : Sim K d (rS K d) ts te we) : SimS K d R bt ct ts (tAsg te (gName i)) (wSet i we) (ts.set i .sh) := fun H0 F0 F H σ ρ D D' E hw n r b c =>
  h H0 F0 F H σ ρ _ _ E hw fun x v F1 H1 s1 r1 h1 => n F1 H1 _ _ (.of s1) ((E.step s1).set r1) h1
/-- a value that has come: held, or a new list of its own -/
def New (K : PySem.W.Frag) (d : Cn → Addr) (Hs : Hp) (F : Fz) (H : Hp) (k : Bool) (v : V) (x : PV) : Prop := if k = true then ∃ p vs xs, v = .ref p ∧ x = .lst xs ∧ Hs p = none ∧ H p = some (.lst vs) ∧ ¬ F p ∧ Rvs K d F H vs xs else Rv K d F H v x
def rK (K : PySem.W.Frag) (d : Cn → Addr) (k : Bool) : RR := if k = true then rN K d else rS K d
def tgK (k : Bool) : Tag := if k = true then .ow else .sh
def isL (k : Bool) (x : PV) : Prop := k = true → ∃ xs, x = .lst xs
theorem new_of {k : Bool} (h : rK K d k F H F' H' v x) (l : isL k x) : New K d H F' H' k v x := by
  cases k with
  | false => exact h
  | true =>
    obtain ⟨xs, rfl⟩ := l rfl
    rcases (show rN K d F H F' H' v (.lst xs) from h) with h | h
    · exact h.1.elim
    · exact h
theorem New.step {k : Bool} (s : Step F H F' H') (h : New K d Hs F H k v x) : New K d Hs F' H' k v x := by
  cases k with
  | false => exact Rv.step s h
  | true =>
    obtain ⟨p, vs, xs, h1, h2, h3, h4, h5, h6⟩ := h
    refine ⟨p, vs, xs, h1, h2, h3, s.ex _ _ h4, fun f => (s.nw p f).elim h5 fun z => ?_, h6.step s⟩
    rw [h4] at z
    cases z
/-- all that is owned was there before -/
def OwnIn (Hs : Hp) (ts : List Tag) (σ : L2.St) : Prop := ∀ (j : Nat) (a : Addr), ts[j]? = some .ow → σ[j]? = some (some (.ref a)) → Hs a ≠ none
theorem EnvR.ownIn (E : EnvR K d ts H0 F0 F H σ ρ) : OwnIn H ts σ := fun j a h1 h2 z => by
  obtain ⟨b, vs, xs, g1, g2, g3, _⟩ := E.ow j h1
  rw [h2] at g1
  cases g1
  rw [g3] at z
  cases z
theorem OwnIn.step (e : Ex H H') (h : OwnIn H ts σ) : OwnIn H' ts σ := fun j a h1 h2 z => h j a h1 h2 (fresh_back e z)
theorem EnvR.put {i : Nat} {k : Bool} (E : EnvR K d ts H0 F0 F H σ ρ) (n : New K d Hs F H k v x) (e0 : Ex H0 Hs) (o : OwnIn Hs ts σ) : EnvR K d (ts.set i (tgK k)) H0 F0 F H (σ.set i (some v)) (ρ.set i x) := by
  cases k with
  | false => exact E.set n
  | true =>
    obtain ⟨p, vs, xs, rfl, rfl, h3, h4, h5, h6⟩ := n
    exact E.setO h4 h5 (fresh_back e0 h3) h6 fun j _ h1 h2 => o j p h1 h2 h3
theorem OwnIn.put {i : Nat} {k : Bool} (h : OwnIn Hs ts σ) (n : k = true → ∃ p, v = .ref p ∧ Hs p ≠ none) : OwnIn Hs (ts.set i (tgK k)) (σ.set i (some v)) := fun j a h1 h2 => by
  rw [List.getElem?_set] at h1
  by_cases e : i = j
  · subst e
    rw [if_pos rfl] at h1
    split at h1
    · next l =>
      cases k with
      | false => cases h1
      | true =>
        obtain ⟨p, rfl, q⟩ := n rfl
        rw [List.getElem?_set] at h2
        rw [if_pos rfl] at h2
        split at h2
        · cases h2; exact q
        · cases h2
    · cases h1
  · rw [if_neg e] at h1
    rw [List.getElem?_set_ne e] at h2
    exact h j a h1 h2
/-- i = e, the new list e owned -/
def wSetO (i : Nat) (we : WE) : WS := fun D ρ => we ρ fun x => isL true x ∧ D.nx (ρ.set i x)
theorem simS_setO {i : Nat} (h : Sim K d (rN K d) ts te we) : SimS K d R bt ct ts (tAsg te (gName i)) (wSetO i we) (ts.set i .ow) := fun H0 F0 F H σ ρ D D' E hw n r b c =>
  h H0 F0 F H σ ρ _ _ E hw fun x v F1 H1 s1 r1 h1 => n F1 H1 _ _ (.of s1) ((E.step s1).put (k := true) (new_of (k := true) (F := F) (H := H) r1 h1.1) E.st.ex E.ownIn) h1.2
/-- i, j = a, b -/
def wPar (i j : Nat) (k l : Bool) (wa wb : WE) : WS := fun D ρ => wa ρ fun x => wb ρ fun y => isL k x ∧ isL l y ∧ D.nx ((ρ.set i x).set j y)
theorem New.have {k : Bool} (h : New K d Hs F H k v x) : k = true → ∃ p, v = .ref p ∧ H p ≠ none := fun e => by
  subst e
  obtain ⟨p, vs, xs, rfl, _, _, h4, _⟩ := h
  exact ⟨p, rfl, by rw [h4]; intro z; cases z⟩
theorem simS_par {i j : Nat} {k l : Bool} (ha : Sim K d (rK K d k) ts ta wa) (hb : Sim K d (rK K d l) ts tb wb) : SimS K d R bt ct ts (tPar i j (tCons ta (tCons tb tNil))) (wPar i j k l wa wb) ((ts.set i (tgK k)).set j (tgK l)) := fun H0 F0 F H σ ρ D D' E hw n r b c =>
  ha H0 F0 F H σ ρ _ _ E hw fun x v F1 H1 s1 r1 h1 => hb H0 F0 F1 H1 σ ρ _ _ (E.step s1) h1 fun y u F2 H2 s2 r2 ⟨lx, ly, h2⟩ => by
    have n1 := new_of r1 lx
    have E1 := ((E.step s1).step s2).put (i := i) (n1.step s2) E.st.ex E.ownIn
    exact ⟨v, u, rfl, n F2 H2 _ _ (.of (s1.trans s2)) (E1.put (i := j) (new_of r2 ly) (E.st.ex.trans s1.ex) ((E.ownIn.step s1.ex).put n1.have)) h2⟩
def wPar3 (i j m : Nat) (k l o : Bool) (wa wb wc : WE) : WS := fun D ρ => wa ρ fun x => wb ρ fun y => wc ρ fun z => isL k x ∧ isL l y ∧ isL o z ∧ D.nx (((ρ.set i x).set j y).set m z)
theorem simS_par3 {i j m : Nat} {k l o : Bool} (ha : Sim K d (rK K d k) ts ta wa) (hb : Sim K d (rK K d l) ts tb wb) (hc : Sim K d (rK K d o) ts tc wc) : SimS K d R bt ct ts (tPar3 i j m (tCons ta (tCons tb (tCons tc tNil)))) (wPar3 i j m k l o wa wb wc) (((ts.set i (tgK k)).set j (tgK l)).set m (tgK o)) := fun H0 F0 F H σ ρ D D' E hw n r b c =>
  ha H0 F0 F H σ ρ _ _ E hw fun x v F1 H1 s1 r1 h1 => hb H0 F0 F1 H1 σ ρ _ _ (E.step s1) h1 fun y u F2 H2 s2 r2 h2 => hc H0 F0 F2 H2 σ ρ _ _ ((E.step s1).step s2) h2 fun z q F3 H3 s3 r3 ⟨lx, ly, lz, h3⟩ => by
    have n1 := new_of r1 lx
    have n2 := new_of r2 ly
    have o1 := (E.ownIn.step s1.ex).put (i := i) n1.have
    have E1 := (((E.step s1).step s2).step s3).put (i := i) ((n1.step s2).step s3) E.st.ex E.ownIn
    have E2 := E1.put (i := j) (n2.step s3) (E.st.ex.trans s1.ex) o1
    exact ⟨v, u, q, rfl, n F3 H3 _ _ (.of ((s1.trans s2).trans s3)) (E2.put (i := m) (new_of r3 lz) ((E.st.ex.trans s1.ex).trans s2.ex) ((o1.step s2.ex).put n2.have)) h3⟩
/-- any target -/
def wAsg (we : WE) (wg : WG) : WS := fun D ρ => we ρ fun x => wg x ρ D.nx
theorem simS_asg {is : List Nat} {g : TG} {wg : WG} (h : Sim K d (rS K d) ts te we) (hg : SimG K d is ts g wg ts') : SimS K d R bt ct ts (tAsg te g) (wAsg we wg) ts' := fun H0 F0 F H σ ρ D D' E hw n r b c =>
  h H0 F0 F H σ ρ _ _ E hw fun x v F1 H1 s1 r1 h1 => hg H0 F0 F1 H1 σ ρ v x _ _ (E.step s1) r1 h1 fun σ' ρ' E' _ _ p => n F1 H1 σ' ρ' (.of s1) E' p
/-- i += e of ints, i -= e -/
def wAug (i : Nat) (f : Int → Int → Int) (we : WE) : WS := fun D ρ => we ρ fun y => match ρ.getD i .non, y with
  | .int a, .int b => D.nx (ρ.set i (.int (f a b)))
  | _, _ => False
theorem simS_aug {i : Nat} {f : Int → Int → Int} (hi : ts[i]? = some .sh) (h : Sim K d (rW K d) ts te we) : SimS K d R bt ct ts (tAug i te (ipI f)) (wAug i f we) (ts.set i .sh) := fun H0 F0 F H σ ρ D D' E hw n r b c => by
  obtain ⟨v, x, h1, h2, h3⟩ := E.sh i hi
  refine ⟨v, h1, h H0 F0 F H σ ρ _ _ E hw fun y u F1 H1 s1 r1 p => ?_⟩
  rw [getD_of h2] at p
  cases x with
  | int a => cases y with
    | int b =>
      cases h3
      cases Rw.intE r1
      exact ⟨a, b, rfl, rfl, n F1 H1 _ _ (.of s1) ((E.step s1).set (.int _)) p⟩
    | _ => exact p.elim
  | _ => exact p.elim
/-! #### lists of one's own are written -/
theorem EnvR.write {i : Nat} {a : Addr} {vs us : List V} {xs ys : List PV} (E : EnvR K d ts H0 F0 F H σ ρ) (hi : ts[i]? = some .ow) (hs : σ[i]? = some (some (.ref a))) (hx : Rvs K d F H us ys) : EnvR K d ts H0 F0 F (upd H a (.lst us)) σ (ρ.set i (.lst ys)) := by
  obtain ⟨b, vs', xs', g1, g2, g3, g4, g5, g6⟩ := E.ow i hi
  rw [hs] at g1
  cases g1
  have sb : Stb F H (upd H a (.lst us)) := Stb.set g3 g4
  refine ⟨⟨Ex.mut E.st.ex g5, E.st.up, E.st.nw, fun b f z => ?_⟩, E.ls, by rw [List.length_set, E.lr], fun j h => ?_, fun j h => ?_, E.ap⟩
  · by_cases e : b = a
    · exact g4 (e ▸ f)
    · rw [upd_ne e] at z
      exact E.dm b f z
  · obtain ⟨v, x, h1, h2, h3⟩ := E.sh j h
    have ne : i ≠ j := by rintro rfl; rw [hi] at h; cases h
    exact ⟨v, x, h1, by rw [List.getElem?_set_ne ne]; exact h2, h3.mono sb fun _ z => z⟩
  · by_cases e : i = j
    · subst e
      have li : i < ρ.length := (List.getElem?_eq_some_iff.mp g2).1
      exact ⟨a, us, ys, hs, by rw [List.getElem?_set_self li], upd_same, g4, g5, hx.mono sb fun _ z => z⟩
    · obtain ⟨b, ws, zs, h1, h2, h3, h4, h5, h6⟩ := E.ow j h
      have nb : b ≠ a := by
        rintro rfl
        exact e (E.ap i j b hi h hs h1)
      exact ⟨b, ws, zs, h1, by rw [List.getElem?_set_ne e]; exact h2, by rw [upd_ne nb]; exact h3, h4, h5, h6.mono sb fun _ z => z⟩
/-- xs.m(..) of an own list, xs in the slot i -/
def MuS (K : PySem.W.Frag) (d : Cn → Addr) (rm : V → List V → Hp → VK → Prop) (w : List PV → List PV → (List PV → Prop) → Prop) : Prop := ∀ (F : Fz) (H : Hp) (a : Addr) (vs as : List V) (xs zs : List PV) (Q : VK) (P : List PV → Prop), H a = some (.lst vs) → Rvs K d F H vs xs → Rvs K d F H as zs → w xs zs P →
  (∀ us ys v, Rvs K d F H us ys → P ys → Q v (upd H a (.lst us))) → rm (.ref a) as H Q
def wMut (i : Nat) (w : List PV → List PV → (List PV → Prop) → Prop) (wa : WA) : WS := fun D ρ => wa ρ fun zs => ∃ xs, ρ.getD i .non = .lst xs ∧ w xs zs fun ys => D.nx (ρ.set i (.lst ys))
theorem simS_mut {i : Nat} {T : String} {rm : V → List V → Hp → VK → Prop} {w : List PV → List PV → (List PV → Prop) → Prop} {ar : TA} {wr : WA} (hT : T = "list") (hi : ts[i]? = some .ow) (m : MuS K d rm w) (ha : SimA K d ts ar wr) : SimS K d R bt ct ts (tDrop (tBM K T rm (tVar i) ar)) (wMut i w wr) ts := fun H0 F0 F H σ ρ D D' E hw n r b c => by
  obtain ⟨a, vs, xs, g1, g2, g3, g4, g5, g6⟩ := E.ow i hi
  subst hT
  refine ⟨_, g1, ty_lst g3, ha H0 F0 F H σ ρ _ _ E hw fun zs as F1 H1 s1 r1 ⟨xs', e1, h1⟩ => ?_⟩
  rw [getD_of g2] at e1
  cases e1
  refine m F1 H1 a vs as xs zs _ _ (s1.ex _ _ g3) (g6.step s1) r1 h1 fun us ys v ru p => ?_
  have E1 := E.step s1
  have s2 : Stb F1 H1 (upd H1 a (.lst us)) := Stb.set (s1.ex _ _ g3) fun f => (s1.nw a f).elim g4 fun z => by rw [g3] at z; cases z
  exact n F1 _ _ _ ((Gr.of s1).trans ⟨fun _ h => h, s2⟩) (E1.write hi g1 ru (vs := vs) (xs := xs)) p
theorem simS_mut0 {i : Nat} {T : String} {rm : V → List V → Hp → VK → Prop} {w : List PV → List PV → (List PV → Prop) → Prop} (hT : T = "list") (hi : ts[i]? = some .ow) (m : MuS K d rm w) : SimS K d R bt ct ts (tDrop (tBM0 K T rm (tVar i))) (wMut i w wNil) ts := fun H0 F0 F H σ ρ D D' E hw n r b c => by
  obtain ⟨a, vs, xs, g1, g2, g3, g4, g5, g6⟩ := E.ow i hi
  subst hT
  obtain ⟨xs', e1, h1⟩ := hw
  rw [getD_of g2] at e1
  cases e1
  refine ⟨_, g1, ty_lst g3, m F H a vs [] xs [] _ _ g3 g6 .nil h1 fun us ys v ru p => ?_⟩
  exact n F _ _ _ ⟨fun _ h => h, Stb.set g3 g4⟩ (E.write hi g1 ru (vs := vs) (xs := xs)) p
def wAppend : List PV → List PV → (List PV → Prop) → Prop := fun xs zs P => match zs with
  | [y] => xs.length < 100000 ∧ P (xs ++ [y])
  | _ => False
theorem mus_append : MuS K d rAppend wAppend := fun F H a vs as xs zs Q P ha rx rz h k => by
  unfold wAppend at h
  split at h
  · cases rz with
    | cons r1 r2 =>
      cases r2
      exact ⟨a, vs, _, rfl, rfl, ha, by rw [rx.length]; exact sz_lt h.1, k _ _ _ (rx.append (.cons r1 .nil)) h.2⟩
  · exact h.elim
def wExtend : List PV → List PV → (List PV → Prop) → Prop := fun xs zs P => match zs with
  | [.lst ys] => xs.length + ys.length ≤ 100000 ∧ P (xs ++ ys)
  | _ => False
theorem mus_extend : MuS K d rExtend wExtend := fun F H a vs as xs zs Q P ha rx rz h k => by
  unfold wExtend at h
  split at h
  · cases rz with
    | cons r1 r2 =>
      cases r2
      cases r1 with
      | lst h1 h2 h3 => exact ⟨a, _, vs, _, rfl, rfl, ha, h1, by rw [rx.length, h3.length]; exact sz_of h.1, k _ _ _ (rx.append h3) h.2⟩
  · exact h.elim
def wInsert : List PV → List PV → (List PV → Prop) → Prop := fun xs zs P => match zs with
  | [.int i, y] => xs.length < 100000 ∧ 0 ≤ i ∧ i < 2 ^ 63 ∧ P (xs.take i.toNat ++ [y] ++ xs.drop i.toNat)
  | _ => False
theorem mus_insert : MuS K d rInsert wInsert := fun F H a vs as xs zs Q P ha rx rz h k => by
  unfold wInsert at h
  split at h
  · cases rz with
    | cons r1 r2 =>
      cases r1
      cases r2 with
      | cons r2 r3 =>
        cases r3
        exact ⟨a, vs, _, _, rfl, rfl, ha, by rw [rx.length]; exact sz_lt h.1, h.2.1, h.2.2.1, k _ _ _ (((rx.take _).append (.cons r2 .nil)).append (rx.drop _)) h.2.2.2⟩
  · exact h.elim
def wClear : List PV → List PV → (List PV → Prop) → Prop := fun xs zs P => zs = [] ∧ P []
theorem mus_clear : MuS K d rClear wClear := fun F H a vs as xs zs Q P ha rx rz h k => by
  obtain ⟨rfl, h⟩ := h
  cases rz
  exact ⟨a, vs, rfl, rfl, ha, k [] [] _ .nil h⟩
def wPop : List PV → List PV → (List PV → Prop) → Prop := fun xs zs P => zs = [] ∧ xs ≠ [] ∧ P xs.dropLast
/-- xs[i] = e -/
def wSub (i : Nat) (we wi : WE) : WS := fun D ρ => we ρ fun y => wi ρ fun j => match ρ.getD i .non, j with
  | .lst xs, .int k => ∃ m, ixN xs.length k = some m ∧ D.nx (ρ.set i (.lst (xs.set m y)))
  | _, _ => False
theorem simS_sub {i : Nat} {ti : TE} {wi : WE} (hi : ts[i]? = some .ow) (h : Sim K d (rS K d) ts te we) (hj : Sim K d (rW K d) ts ti wi) : SimS K d R bt ct ts (tAsg te (gSub (tVar i) ti rSetL)) (wSub i we wi) ts := fun H0 F0 F H σ ρ D D' E hw n r b c =>
  h H0 F0 F H σ ρ _ _ E hw fun y v F1 H1 s1 r1 h1 => by
    have E1 := E.step s1
    obtain ⟨a, vs, xs, g1, g2, g3, g4, g5, g6⟩ := E1.ow i hi
    refine ⟨_, g1, hj H0 F0 F1 H1 σ ρ _ _ E1 h1 fun j u F2 H2 s2 r2 p => ?_⟩
    rw [getD_of g2] at p
    cases j with
    | int k =>
      cases Rw.intE r2
      obtain ⟨m, hm, p⟩ := p
      exact ⟨a, vs, k, m, rfl, rfl, s2.ex _ _ g3, by rw [g6.length]; exact hm, n F2 _ _ _ ((Gr.of (s1.trans s2)).trans ⟨fun _ h => h, Stb.set (s2.ex _ _ g3) fun f => (s2.nw a f).elim g4 fun z => by rw [g3] at z; cases z⟩) ((E1.step s2).write hi g1 ((g6.step s2).set (Rv.step s2 r1) m) (vs := vs) (xs := xs)) p⟩
    | _ => exact p.elim
/-- xs[i] += e of ints -/
def wAugS (i : Nat) (f : Int → Int → Int) (wi we : WE) : WS := fun D ρ => wi ρ fun j => match ρ.getD i .non, j with
  | .lst xs, .int k => ∃ m a, ixN xs.length k = some m ∧ xs[m]? = some (.int a) ∧ we ρ fun y => match y with
    | .int b => D.nx (ρ.set i (.lst (xs.set m (.int (f a b)))))
    | _ => False
  | _, _ => False
theorem simS_augS {i : Nat} {f : Int → Int → Int} {ti : TE} {wi : WE} (hi : ts[i]? = some .ow) (hj : Sim K d (rW K d) ts ti wi) (h : Sim K d (rW K d) ts te we) : SimS K d R bt ct ts (tAugS (tVar i) ti te (rIxL K) (ipI f) rSetL) (wAugS i f wi we) ts := fun H0 F0 F H σ ρ D D' E hw n r b c => by
  obtain ⟨a, vs, xs, g1, g2, g3, g4, g5, g6⟩ := E.ow i hi
  refine ⟨_, g1, hj H0 F0 F H σ ρ _ _ E hw fun j u F1 H1 s1 r1 p => ?_⟩
  rw [getD_of g2] at p
  cases j with
  | int k =>
    cases Rw.intE r1
    obtain ⟨m, z, hm, hz, p⟩ := p
    have g6' := g6.step s1
    obtain ⟨w, hw', rw'⟩ := g6'.get hz
    cases rw'
    have g3' := s1.ex _ _ g3
    refine ⟨a, vs, k, .int z, rfl, rfl, .inl (.inl g3'), by unfold L2.atI; rw [g6'.length, hm]; exact hw', h H0 F0 F1 H1 σ ρ _ _ (E.step s1) p fun y q F2 H2 s2 r2 p2 => ?_⟩
    cases y with
    | int bb =>
      cases Rw.intE r2
      have s12 := s1.trans s2
      exact ⟨z, bb, rfl, rfl, a, vs, k, m, rfl, rfl, s2.ex _ _ g3', by rw [g6.length]; exact hm, n F2 _ _ _ ((Gr.of s12).trans ⟨fun _ h => h, Stb.set (s12.ex _ _ g3) fun f => (s12.nw a f).elim g4 fun z => by rw [g3] at z; cases z⟩) ((E.step s12).write hi g1 ((g6.step s12).set (.int _) m) (vs := vs) (xs := xs)) p2⟩
    | _ => exact p2.elim
  | _ => exact p.elim
def wDrop (we : WE) : WS := fun D ρ => we ρ fun _ => D.nx ρ
theorem simS_drop (h : Sim K d (rS K d) (shr ts) te we) : SimS K d R bt ct ts (tDrop te) (wDrop we) ts := fun H0 F0 F H σ ρ D D' E hw n r b c => by
  obtain ⟨F1, up, E1⟩ := E.conv (cv_shr ts)
  exact h H0 F0 F1 H σ ρ _ _ E1 hw fun x v F' H' s _ p => n F H' σ ρ (.of (Step.to E.dm s.ex)) (E.step (Step.to E.dm s.ex)) p
def wRet (we : WE) : WS := fun D ρ => we ρ D.rt
theorem simS_ret (o : ROk R) (h : Sim K d R ts te we) : SimS K d R bt ct ts (tRet te) (wRet we) ts' := fun H0 F0 F H σ ρ D D' E hw n r b c =>
  h H0 F0 F H σ ρ _ _ E hw fun x v F1 H1 s1 r1 h1 => r x v F1 H1 (E.st.trans s1) (o.back E.st r1) h1
/-- return xs, a list of one's own -/
theorem simS_retO {i : Nat} (hi : ts[i]? = some .ow) : SimS K d (rN K d) bt ct ts (tRet (tVar i)) (wRet (wVar i)) ts' := fun H0 F0 F H σ ρ D D' E hw n r b c => by
  obtain ⟨a, vs, xs, g1, g2, g3, g4, g5, g6⟩ := E.ow i hi
  have hw' : D'.rt (ρ.getD i .non) := hw
  rw [getD_of g2] at hw'
  exact ⟨_, g1, r (.lst xs) (.ref a) F H E.st (.inr ⟨a, vs, xs, rfl, rfl, g5, g3, g4, g6⟩) hw'⟩
theorem simS_retN (hR : ∀ F0 H0 F H, R F0 H0 F H .non .non) : SimS K d R bt ct ts tRetN (fun D _ => D.rt .non) ts' := fun H0 F0 F H σ ρ D D' E hw n r b c => r .non .non F H E.st (hR _ _ _ _) hw
def wIfS (wt : WT) (a b : WS) : WS := fun D ρ => wt ρ fun c => if c = true then a D ρ else b D ρ
theorem simS_if {tt : TT} {wt : WT} {t t' : TS} {a b : WS} (ht : SimT K d ts tt wt) (ha : SimS K d R bt ct ts t a ts1) (hb : SimS K d R bt ct ts t' b ts1) : SimS K d R bt ct ts (tIfS tt t t') (wIfS wt a b) ts1 := fun H0 F0 F H σ ρ D D' E hw n r b' c =>
  ht H0 F0 F H σ ρ _ _ E hw fun k H1 e p => by
    have s1 := Step.to E.dm e
    have E1 := E.step s1
    have g1 : Gr F H F H1 := .of s1
    cases k with
    | true => exact ha H0 F0 F H1 σ ρ D D' E1 p (fun F2 H2 σ2 ρ2 g2 => n F2 H2 σ2 ρ2 (g1.trans g2)) r (fun F2 H2 σ2 ρ2 g2 => b' F2 H2 σ2 ρ2 (g1.trans g2)) fun F2 H2 σ2 ρ2 g2 => c F2 H2 σ2 ρ2 (g1.trans g2)
    | false => exact hb H0 F0 F H1 σ ρ D D' E1 p (fun F2 H2 σ2 ρ2 g2 => n F2 H2 σ2 ρ2 (g1.trans g2)) r (fun F2 H2 σ2 ρ2 g2 => b' F2 H2 σ2 ρ2 (g1.trans g2)) fun F2 H2 σ2 ρ2 g2 => c F2 H2 σ2 ρ2 (g1.trans g2)
theorem simS_break (c : cv ts bt = true) : SimS K d R bt ct ts tBreak (fun D ρ => D.bk ρ) ts' := fun H0 F0 F H σ ρ D D' E hw n r b c' => by
  obtain ⟨F1, up, E1⟩ := E.conv c
  exact b F1 H σ ρ (.up up) E1 hw
theorem simS_cont (c : cv ts ct = true) : SimS K d R bt ct ts tCont (fun D ρ => D.ct ρ) ts' := fun H0 F0 F H σ ρ D D' E hw n r b c' => by
  obtain ⟨F1, up, E1⟩ := E.conv c
  exact c' F1 H σ ρ (.up up) E1 hw
theorem simS_never : SimS K d R bt ct ts tNever (fun _ _ => False) ts' := fun H0 F0 F H σ ρ D D' E hw n r b c => hw.elim
/-! #### loops -/
def wForL (wg : WG) (w : WS) (D : WEnds) : List PV → List PV → Prop
  | [], ρ => D.nx ρ
  | x :: xs, ρ => wg x ρ fun ρ2 => w { D with nx := wForL wg w D xs, ct := wForL wg w D xs, bk := D.nx } ρ2
def wFor (ww : WI) (wg : WG) (w : WS) : WS := fun D ρ => ww ρ fun xs => wForL wg w D xs ρ
theorem simS_for {is : List Nat} {wi : TI} {ww : WI} {g : TG} {wg : WG} {t : TS} {w : WS} (hi : SimI K d true ts wi ww) (hg : SimG K d is ts g wg ts1) (hb : SimS K d R ts ts ts1 t w ts2) (c : cv ts2 ts = true) : SimS K d R bt ct ts (tFor wi g t) (wFor ww wg w) ts := fun H0 F0 F H σ ρ D D' E hw n r b c' =>
  hi H0 F0 F H σ ρ _ _ E hw fun xs F1 H1 J s1 it hx => by
    obtain ⟨G, Y, wk, hG, item⟩ := it
    have stb : ∀ {H' : Hp}, keep true F1 H1 H' = Stb F1 H1 H' := rfl
    refine for_it wk (fun i σ' H' => ∃ F' ρ', EnvR K d ts H0 F0 F' H' σ' ρ' ∧ Gr F1 H1 F' H' ∧ wForL wg w D' (xs.drop i) ρ') ⟨F1, ρ, E.step s1, .refl, hx⟩ ?_ ?_ ?_
    · rintro i σ' H' _ ⟨F', ρ', _, g, _⟩
      exact hG H' g.2
    · rintro i v σ' H' H'' hlt ⟨F', ρ', E', g, hw'⟩ y
      obtain ⟨s2, z, hz, rz⟩ := item i H' F' v H'' g.2 g.1 g.2 E'.dm y hlt
      have dr : xs.drop i = z :: xs.drop (i + 1) := by
        obtain ⟨hl, e⟩ := List.getElem?_eq_some_iff.mp hz
        rw [List.drop_eq_getElem_cons hl, e]
      rw [dr] at hw'
      refine hg H0 F0 F' H'' σ' ρ' v z _ _ (E'.step s2) rz hw' fun σ2 ρ2 E2 _ _ h2 => ?_
      refine hb H0 F0 F' H'' σ2 ρ2 _ _ E2 h2 (fun F3 H3 σ3 ρ3 g3 E3 q => ?_) r (fun F3 H3 σ3 ρ3 g3 E3 q => n F3 H3 σ3 ρ3 ((Gr.of s1).trans ((g.trans (.of s2)).trans g3)) E3 q) fun F3 H3 σ3 ρ3 g3 E3 q => ⟨F3, ρ3, E3, (g.trans (.of s2)).trans g3, q⟩
      obtain ⟨F4, up4, E4⟩ := E3.conv c
      exact ⟨F4, ρ3, E4, ((g.trans (.of s2)).trans g3).trans (.up up4), q⟩
    · rintro σ' H' ⟨F', ρ', E', g, hw'⟩
      rw [List.drop_length] at hw'
      exact n F' H' σ' ρ' ((Gr.of s1).trans g) E' hw'
def wWhile (wt : WT) (w : WS) : WS := fun D ρ => ∃ I : Nat → List PV → Prop, (∃ m, I m ρ) ∧ ∀ m ρ, I m ρ → wt ρ fun b => if b = true then w { D with nx := fun ρ' => ∃ m', m' < m ∧ I m' ρ', ct := fun ρ' => ∃ m', m' < m ∧ I m' ρ', bk := D.nx } ρ else D.nx ρ
theorem simS_while {tt : TT} {wt : WT} {t : TS} {w : WS} (ht : SimT K d ts tt wt) (hb : SimS K d R ts ts ts t w ts2) (c : cv ts2 ts = true) : SimS K d R bt ct ts (tWhile tt t) (wWhile wt w) ts := fun H0 F0 F H σ ρ D D' E hw n r b c' => by
  obtain ⟨I, ⟨m0, i0⟩, turn⟩ := hw
  refine ⟨fun m σ' H' => ∃ F' ρ', Gr F H F' H' ∧ EnvR K d ts H0 F0 F' H' σ' ρ' ∧ I m ρ', ⟨m0, F, ρ, .refl, E, i0⟩, ?_⟩
  rintro m σ' H' ⟨F', ρ', g, E', hm⟩
  refine ht H0 F0 F' H' σ' ρ' _ _ E' (turn m ρ' hm) fun k H1 e p => ?_
  have s1 := Step.to E'.dm e
  have E1 := E'.step s1
  have g1 := g.trans (.of s1)
  cases k with
  | false => exact n F' H1 σ' ρ' g1 E1 p
  | true =>
    refine ⟨fun σ2 H2 => ∃ F2 ρ2, Gr F H F2 H2 ∧ EnvR K d ts H0 F0 F2 H2 σ2 ρ2 ∧ ∃ m', m' < m ∧ I m' ρ2, fun σ2 H2 ⟨F2, ρ2, g2, E2, m', hl, i2⟩ => ⟨m', hl, F2, ρ2, g2, E2, i2⟩, ?_⟩
    refine hb H0 F0 F' H1 σ' ρ' _ _ E1 p (fun F2 H2 σ2 ρ2 g2 E2 q => ?_) r (fun F2 H2 σ2 ρ2 g2 E2 q => n F2 H2 σ2 ρ2 (g1.trans g2) E2 q) fun F2 H2 σ2 ρ2 g2 E2 q => ⟨F2, ρ2, g1.trans g2, E2, q⟩
    obtain ⟨F3, up, E3⟩ := E2.conv c
    exact ⟨F3, ρ2, (g1.trans g2).trans (.up up), E3, q⟩
end
end Wx

/-! Equality and membership; defs as a whole. -/
namespace Wx
open PySem PySem.Spec PyProof.Rows L2 Evl Hn RZ
section
variable {K : PySem.W.Frag} {d : Cn → Addr} {F F' F0 : Fz} {H H' H0 : Hp} {v u : V} {ts ts' : List Tag} {R : RR} {te ta tb tc : TE} {we wa wb wc : WE}
/-- flat values -/
def flatP : PV → Option V
  | .non => some .non
  | .bl b => some (.bl b)
  | .int i => some (.int i)
  | .str s => some (.str s)
  | _ => none
def flatPs : List PV → Option (List V)
  | [] => some []
  | x :: xs => match flatP x, flatPs xs with
    | some a, some b => some (a :: b)
    | _, _ => none
theorem flatP_V {x : PV} {w : V} (h : flatP x = some w) : flatV w = true := by
  cases x <;> simp [flatP] at h <;> subst h <;> rfl
theorem Rv.flat {x : PV} {w : V} (r : Rv K d F H v x) (h : flatP x = some w) : v = w := by
  cases r <;> simp [flatP] at h <;> exact h
theorem Rw.flat {x : PV} {w : V} (r : Rw K d F H v x) (h : flatP x = some w) : v = w := by
  rcases r with r | ⟨p, vs, xs, rfl, rfl, _⟩
  · exact r.flat h
  · cases h
theorem Rvs.flat2 : ∀ {vs : List V} {xs : List PV} {ws : List V}, Rvs K d F H vs xs → flatPs xs = some ws → vs = ws ∧ ws.all flatV = true
  | _, _, _, .nil, h => by cases h; exact ⟨rfl, rfl⟩
  | _, _, ws, .cons (x := x) (xs := xs) a b, h => by
    simp only [flatPs] at h
    cases e1 : flatP x with
    | none => rw [e1] at h; cases h
    | some q =>
      cases e2 : flatPs xs with
      | none => rw [e1, e2] at h; cases h
      | some qs =>
        rw [e1, e2] at h
        cases h
        obtain ⟨h1, h2⟩ := b.flat2 e2
        rw [a.flat e1, h1]
        refine ⟨rfl, ?_⟩
        rw [List.all_cons, flatP_V e1, h2]
        rfl
/-- == : scalars of one kind at once, else as data -/
def wEq : W2 := fun x y P => match x, y with
  | .int a, .int b => P (.bl (decide (a = b)))
  | .str a, .str b => P (.bl (decide (a = b)))
  | .bl a, .bl b => P (.bl (decide (a = b)))
  | x, y => wEqD false x y P
def wNe : W2 := fun x y P => match x, y with
  | .int a, .int b => P (.bl (!decide (a = b)))
  | .str a, .str b => P (.bl (!decide (a = b)))
  | .bl a, .bl b => P (.bl (!decide (a = b)))
  | x, y => wEqD true x y P
def rEqU (K : PySem.W.Frag) : R2 := orR rEq (rEqD K)
def rNeU (K : PySem.W.Frag) : R2 := orR rNe (rNeD K)
theorem u_eq {X : Cx} (h : X.K = K) (hu : X.A.units + 64 < cLine) : OpR X (compareOp .Eq) (rEqU K) := h ▸ op_or op_eq (op_eqD hu)
theorem u_ne {X : Cx} (h : X.K = K) (hu : X.A.units + 64 < cLine) : OpR X (compareOp .NotEq) (rNeU K) := h ▸ op_or op_ne (op_neD hu)
theorem ops_eq : OpS K d (rN K d) (rEqU K) wEq := fun F H v u x y Q P dm rx ry h k => by
  unfold wEq at h
  split at h
  · cases rx.intE; cases ry.intE
    exact .inl (r_eqI (fin_val dm (.bl _) h k))
  · cases rx.strE; cases ry.strE
    exact .inl (r_eqS (fin_val dm (.bl _) h k))
  · cases rx.blE; cases ry.blE
    exact .inl (r_eqB (fin_val dm (.bl _) h k))
  · exact .inr (ops_eqD F H v u x y Q P dm rx ry h k)
theorem ops_ne : OpS K d (rN K d) (rNeU K) wNe := fun F H v u x y Q P dm rx ry h k => by
  unfold wNe at h
  split at h
  · cases rx.intE; cases ry.intE
    exact .inl (r_neI (fin_val dm (.bl _) h k))
  · cases rx.strE; cases ry.strE
    exact .inl (r_neS (fin_val dm (.bl _) h k))
  · cases rx.blE; cases ry.blE
    exact .inl (r_neB (fin_val dm (.bl _) h k))
  · exact .inr (ops_neD F H v u x y Q P dm rx ry h k)
/-- in : flat items, else items as data -/
def wIn (neg : Bool) : W2 := fun x y P => (∃ w ys ws, flatP x = some w ∧ (y = .lst ys ∨ y = .tup ys) ∧ flatPs ys = some ws ∧ P (.bl (if neg then !inV w ws else inV w ws))) ∨ wInD neg x y P
def rInU (K : PySem.W.Frag) : R2 := orR (rIn K false) (rInD K)
def rNiU (K : PySem.W.Frag) : R2 := orR (rIn K true) (rNotInD K)
theorem rin_of {neg : Bool} {x y : PV} {Q : VK} {P : PV → Prop} (dm : Dom F H) (rx : Rw K d F H v x) (ry : Rw K d F H u y) (h : ∃ w ys ws, flatP x = some w ∧ (y = .lst ys ∨ y = .tup ys) ∧ flatPs ys = some ws ∧ P (.bl (if neg then !inV w ws else inV w ws)))
    (k : ∀ z v' F' H', Step F H F' H' → rN K d F H F' H' v' z → P z → Q v' H') : rIn K neg v u H Q := by
  obtain ⟨w, ys, ws, h1, h2, h3, h4⟩ := h
  have e1 := rx.flat h1
  subst e1
  rcases h2 with rfl | rfl
  · obtain ⟨p, vs, rfl, g1, g2⟩ := ry.lst
    obtain ⟨e, fl⟩ := g2.flat2 h3
    subst e
    exact ⟨p, vs, rfl, .inl (.inl (.inl g1)), flatP_V h1, fl, fin_val dm (.bl _) h4 k⟩
  · obtain ⟨p, vs, rfl, g1, g2⟩ := ry.tupE
    obtain ⟨e, fl⟩ := g2.flat2 h3
    subst e
    exact ⟨p, vs, rfl, .inr g1, flatP_V h1, fl, fin_val dm (.bl _) h4 k⟩
theorem u_in {X : Cx} (h : X.K = K) (hu : X.A.units + 65 < cLine) : OpR X (compareOp .In) (rInU K) := h ▸ op_or op_in_seq (op_inD hu)
theorem u_ni {X : Cx} (h : X.K = K) (hu : X.A.units + 65 < cLine) : OpR X (compareOp .NotIn) (rNiU K) := h ▸ op_or op_notIn_seq (op_notInD hu)
theorem ops_in : OpS K d (rN K d) (rInU K) (wIn false) := fun F H v u x y Q P dm rx ry h k => h.elim (fun h => .inl (rin_of dm rx ry h k)) fun h => .inr (ops_inD F H v u x y Q P dm rx ry h k)
theorem ops_ni : OpS K d (rN K d) (rNiU K) (wIn true) := fun F H v u x y Q P dm rx ry h k => h.elim (fun h => .inl (rin_of dm rx ry h k)) fun h => .inr (ops_niD F H v u x y Q P dm rx ry h k)
/-- sign in text -/
def rInT : R2 := fun x y H Q => ∃ i j, x = .str i ∧ y = .str j ∧ Q (.bl (!(Builtin.Str.occurrences j i 0 j.length 1).isEmpty)) H
theorem u_inT {X : Cx} : OpR X (compareOp .In) rInT := op_in_str
def wInT : W2 := fun x y P => match x, y with
  | .str i, .str j => P (.bl (!(Builtin.Str.occurrences j i 0 j.length 1).isEmpty))
  | _, _ => False
theorem ops_inT : OpS K d (rN K d) rInT wInT := fun F H v u x y Q P dm rx ry h k => by
  unfold wInT at h
  split at h
  · cases rx.strE; cases ry.strE
    exact ⟨_, _, rfl, rfl, fin_val dm (.bl _) h k⟩
  · exact h.elim
/-- is True -/
def wIsB : W2 := fun x y P => match x, y with
  | .bl a, .bl b => P (.bl (decide (a = b)))
  | _, _ => False
def wIsnB : W2 := fun x y P => match x, y with
  | .bl a, .bl b => P (.bl (!decide (a = b)))
  | _, _ => False
theorem ops_isB : OpS K d (rN K d) rIsB wIsB := fun F H v u x y Q P dm rx ry h k => by
  unfold wIsB at h
  split at h
  · cases rx.blE; cases ry.blE
    exact ⟨_, _, rfl, rfl, fin_val dm (.bl _) h k⟩
  · exact h.elim
theorem ops_isnB : OpS K d (rN K d) L2.rNotB wIsnB := fun F H v u x y Q P dm rx ry h k => by
  unfold wIsnB at h
  split at h
  · cases rx.blE; cases ry.blE
    exact ⟨_, _, rfl, rfl, fin_val dm (.bl _) h k⟩
  · exact h.elim
/-- xs.index(x), flat items -/
def wIndexP (ys zs : List PV) (P : PV → Prop) : Prop := ∃ (ws : List V) (w : V) (j : Nat) (z : V) (x : PV), zs = [x] ∧ flatPs ys = some ws ∧ flatP x = some w ∧ ws[j]? = some z ∧ eqV z w = true ∧ (∀ (m : Nat) (z' : V), m < j → ws[m]? = some z' → eqV z' w = false) ∧ P (.int (j : Nat))
def wIndex (wo : WE) (wa : WA) : WE := fun ρ P => wo ρ fun y => ∃ ys, y = .lst ys ∧ wa ρ fun zs => wIndexP ys zs P
theorem sim_index {T : String} {to : TE} {wo : WE} {ar : TA} {wr : WA} (hT : T = "list") (ho : Sim K d (rW K d) ts to wo) (ha : SimAW K d ts ar wr) : Sim K d (rN K d) ts (tBM K T (rIndex K) to ar) (wIndex wo wr) := fun H0 F0 F H σ ρ Q P E hw k =>
  ho H0 F0 F H σ ρ _ _ E hw fun y v F1 H1 s1 r1 ⟨ys, ey, h1⟩ => by
    subst hT
    subst ey
    obtain ⟨p, vs, rfl, g1, g2⟩ := Rw.lst r1
    refine ⟨ty_lst g1, ha H0 F0 F1 H1 σ ρ _ _ (E.step s1) h1 fun zs us F2 H2 s2 r2 ⟨ws, w, j, z, x, e2, h3, h4, h5, h6, h7, h8⟩ => ?_⟩
    subst e2
    obtain ⟨q, rfl, r3⟩ := r2.one
    obtain ⟨e, fl⟩ := g2.flat2 h3
    subst e
    have e3 := r3.flat h4
    subst e3
    exact ⟨p, vs, q, j, z, rfl, rfl, .inl (.inl (s2.ex _ _ g1)), flatP_V h4, fl, h5, h6, h7, k (.int _) _ F2 H2 (s1.trans s2) (.inl ⟨trivial, .int _⟩) h8⟩
/-! comprehensions with two fors -/
def wLcB (wg : WG) (wt : WT) (we : WE) (ρ : List PV) : List PV → List PV → (List PV → Prop) → Prop
  | [], acc, P => P acc
  | x :: xs, acc, P => wg x ρ fun ρ2 => wt ρ2 fun b => if b = true then we ρ2 fun y => acc.length < 100000 ∧ wLcB wg wt we ρ xs (acc ++ [y]) P else wLcB wg wt we ρ xs acc P
def wLc2L (wg : WG) (wt : WT) (ww1 : WI) (wg1 : WG) (wt1 : WT) (we : WE) (ρ : List PV) : List PV → List PV → (List PV → Prop) → Prop
  | [], acc, P => P acc
  | x :: xs, acc, P => wg x ρ fun ρ2 => wt ρ2 fun b => if b = true then ww1 ρ2 fun ys => wLcB wg1 wt1 we ρ2 ys acc fun acc' => wLc2L wg wt ww1 wg1 wt1 we ρ xs acc' P else wLc2L wg wt ww1 wg1 wt1 we ρ xs acc P
def wLc2 (ww : WI) (wg : WG) (wt : WT) (ww1 : WI) (wg1 : WG) (wt1 : WT) (we : WE) : WE := fun ρ P => ww ρ fun xs => wLc2L wg wt ww1 wg1 wt1 we ρ xs [] fun ys => P (.lst ys)
/-- the state of a comprehension on its way -/
def LcSt (K : PySem.W.Frag) (d : Cn → Addr) (D : Addr) (F1 : Fz) (H1 : Hp) (H' : Hp) (acc : List PV) : Prop := ∃ (F' : Fz) (as : List V), H' D = some (.lst as) ∧ ¬ F' D ∧ Rvs K d F' H' as acc ∧ Step F1 H1 F' H'
theorem LcSt.push {D : Addr} {F1 : Fz} {H1 H4 : Hp} {F4 : Fz} {as : List V} {acc : List PV} {q : PV} {u : V} (nD : H1 D = none) (aD4 : H4 D = some (.lst as)) (nf4 : ¬ F4 D) (r : Rvs K d F4 H4 as acc) (r4 : Rv K d F4 H4 u q) (s5 : Step F1 H1 F4 H4) : LcSt K d D F1 H1 (upd H4 D (.lst (as ++ [u]))) (acc ++ [q]) := by
  have sb : Stb F4 H4 (upd H4 D (.lst (as ++ [u]))) := Stb.set aD4 nf4
  refine ⟨F4, as ++ [u], upd_same, nf4, (r.mono sb fun _ h => h).append (.cons (r4.mono sb fun _ h => h) .nil), ⟨Ex.mut s5.ex nD, s5.up, s5.nw, fun a f z => ?_⟩⟩
  by_cases ea : a = D
  · exact nf4 (ea ▸ f)
  · rw [upd_ne ea] at z
    exact s5.dm a f z
theorem own_wipe {σ : L2.St} {a : Addr} : ∀ {vs : List Nat}, Own (wtag ts vs) (L2.wipe σ vs) a → Own ts σ a
  | [], h => h
  | v :: vs, ⟨i, h1, h2⟩ => by
    have h1' : ((wtag ts vs).set v .no)[i]? = some .ow := h1
    have h2' : ((L2.wipe σ vs).set v none)[i]? = some (some (.ref a)) := h2
    rw [List.getElem?_set] at h1'
    split at h1'
    · split at h1' <;> cases h1'
    · next e =>
      rw [List.getElem?_set_ne e] at h2'
      exact own_wipe ⟨i, h1', h2'⟩
/-- the names behind a stretch in which what is held, and what they own, has stayed -/
theorem EnvR.grow {σ : L2.St} {ρ : List PV} (E : EnvR K d ts H0 F0 F H σ ρ) (st : Step F0 H0 F' H') (g : Gr F H F' H') (o : ∀ a, Own ts σ a → H' a = H a ∧ ¬ F' a) : EnvR K d ts H0 F0 F' H' σ ρ where
  st := st
  ls := E.ls
  lr := E.lr
  sh := fun i h => let ⟨v, x, h1, h2, h3⟩ := E.sh i h; ⟨v, x, h1, h2, h3.mono g.2 g.1⟩
  ow := fun i h => by
    obtain ⟨a, vs, xs, h1, h2, h3, h4, h5, h6⟩ := E.ow i h
    obtain ⟨q1, q2⟩ := o a ⟨i, h, h1⟩
    exact ⟨a, vs, xs, h1, h2, by rw [q1]; exact h3, q2, h5, h6.mono g.2 g.1⟩
  ap := E.ap
theorem sim_lc2 {is is1 vs vs1 : List Nat} {ts2 ts3 : List Tag} {wi wi1 : TI} {ww ww1 : WI} {g g1 : TG} {wg wg1 : WG} {tt tt1 : TT} {wt wt1 : WT} (hi : SimI K d false ts wi ww) (hg : SimG K d is (wtag ts vs) g wg ts2) (ht : SimT K d ts2 tt wt)
    (hi1 : SimI K d true ts2 wi1 ww1) (hg1 : SimG K d is1 (wtag ts2 vs1) g1 wg1 ts3) (ht1 : SimT K d ts3 tt1 wt1) (he : Sim K d (rS K d) ts3 te we)
    (hv : (is.all fun i => vs.contains i) = true := by rfl) (hv1 : (is1.all fun i => vs1.contains i) = true := by rfl) : Sim K d (rN K d) ts (tLc2 wi g tt wi1 g1 tt1 te vs vs1) (wLc2 ww wg wt ww1 wg1 wt1 we) := fun H0 F0 F H σ ρ Q P E hw k => hi H0 F0 F H σ ρ _ _ E hw fun xs F1 H1 J s1 it hx => by
  have hv' : ∀ i ∈ is, i ∈ vs := fun i h => List.contains_iff_mem.mp (List.all_eq_true.mp hv i h)
  have hv1' : ∀ i ∈ is1, i ∈ vs1 := fun i h => List.contains_iff_mem.mp (List.all_eq_true.mp hv1 i h)
  obtain ⟨G, Y, w, hG, item⟩ := it
  have E1 := E.step s1
  intro D nD
  refine ⟨fun i m H' => m = xs.length - i ∧ i ≤ xs.length ∧ ∃ acc, LcSt K d D F1 H1 H' acc ∧ wLc2L wg wt ww1 wg1 wt1 we ρ (xs.drop i) acc fun ys => P (.lst ys), ⟨xs.length, by simp, Nat.zero_le _, [], ⟨F1, [], upd_same, fun f => s1.dm D f nD, .nil, Step.new s1.dm nD⟩, hx⟩, ?_⟩
  rintro i m H' ⟨rfl, hi', acc, ⟨F', as, a1, a2, a3, st⟩, hw2⟩
  have hG' := hG H' st.ex
  by_cases hlt : i < xs.length
  · refine .inr ⟨w.goes i H' hlt hG', fun H' => ∃ acc, LcSt K d D F1 H1 H' acc ∧ wLc2L wg wt ww1 wg1 wt1 we ρ (xs.drop (i + 1)) acc fun ys => P (.lst ys), fun H2 q => ⟨xs.length - (i + 1), by omega, rfl, hlt, q⟩, fun x H'' y => ?_⟩
    have y' := w.yields i H' x H'' hlt hG' y
    obtain ⟨s2, z, hz, rz⟩ := item i H' F' x H'' st.ex st.up (.of st.ex) st.dm y' hlt
    have dr : xs.drop i = z :: xs.drop (i + 1) := by
      obtain ⟨hl, e⟩ := List.getElem?_eq_some_iff.mp hz
      rw [List.drop_eq_getElem_cons hl, e]
    rw [dr] at hw2
    refine hg H0 F0 F' H'' (L2.wipe σ vs) ρ x z _ _ ((E1.step (st.trans s2)).wipe vs) rz hw2 fun σ2 ρ2 E2 wp ow2 h2 => ?_
    refine ⟨by rw [wp vs hv']; exact wipe_idem σ vs, ht H0 F0 F' H'' σ2 ρ2 _ _ E2 h2 fun b H3 e3 hb => ?_⟩
    have s3 := Step.to s2.dm e3
    have aD : H3 D = some (.lst as) := e3 _ _ (s2.ex _ _ a1)
    cases b with
    | false => exact ⟨acc, ⟨F', as, aD, a2, (a3.step s2).step s3, (st.trans s2).trans s3⟩, hb⟩
    | true =>
      refine hi1 H0 F0 F' H3 σ2 ρ2 _ _ (E2.step s3) hb fun ys F4 H4 J1 s4 it1 hy => ?_
      obtain ⟨G1, Y1, w1, hG1, item1⟩ := it1
      have E4 := (E2.step s3).step s4
      have aD4 : H4 D = some (.lst as) := s4.ex _ _ aD
      have nf4 : ¬ F4 D := fun f => (s4.nw D f).elim a2 fun z => by rw [aD] at z; cases z
      -- the inner loop: what stood at H4 but D stays
      have nown : ∀ a, Own ts2 σ2 a → a ≠ D := fun a z => by
        obtain ⟨j, g1, g2⟩ := own_wipe (ow2 a z)
        rintro rfl
        exact E1.ownIn j a g1 g2 nD
      refine ⟨fun j m H' => m = ys.length - j ∧ j ≤ ys.length ∧ ∃ (F' : Fz) (as : List V) (acc : List PV), H' D = some (.lst as) ∧ ¬ F' D ∧ Rvs K d F' H' as acc ∧ Step F1 H1 F' H' ∧ Gr F4 H4 F' H' ∧ (∀ b o, b ≠ D → H4 b = some o → H' b = some o) ∧ (∀ a, F' a → F4 a ∨ H4 a = none) ∧ wLcB wg1 wt1 we ρ2 (ys.drop j) acc fun acc' => wLc2L wg wt ww1 wg1 wt1 we ρ (xs.drop (i + 1)) acc' fun ys => P (.lst ys), ?_, ?_⟩
      · exact ⟨ys.length, by simp, Nat.zero_le _, F4, as, acc, aD4, nf4, ((a3.step s2).step s3).step s4, ((st.trans s2).trans s3).trans s4, .refl, fun _ _ _ h => h, fun _ h => .inl h, hy⟩
      · rintro j m H5 ⟨rfl, hj, F5, as5, acc5, b1, b2, b3, st5, g5, k5, n5, hw5⟩
        have hG5 := hG1 H5 g5.2
        have own5 : ∀ a, Own ts2 σ2 a → H5 a = H4 a ∧ ¬ F5 a := fun a z => by
          obtain ⟨l, z1, z2⟩ := z
          obtain ⟨c, vs', xs', q1, q2, q3, q4, _⟩ := E4.ow l z1
          rw [z2] at q1
          cases q1
          refine ⟨by rw [k5 a _ (nown a ⟨l, z1, z2⟩) q3, q3], fun f => (n5 a f).elim q4 fun q => ?_⟩
          rw [q3] at q
          cases q
        have E5 := E4.grow (E1.st.trans st5) g5 own5
        by_cases hjl : j < ys.length
        · refine .inr ⟨w1.goes j H5 hjl hG5, fun H' => ∃ (F' : Fz) (as : List V) (acc : List PV), H' D = some (.lst as) ∧ ¬ F' D ∧ Rvs K d F' H' as acc ∧ Step F1 H1 F' H' ∧ Gr F4 H4 F' H' ∧ (∀ b o, b ≠ D → H4 b = some o → H' b = some o) ∧ (∀ a, F' a → F4 a ∨ H4 a = none) ∧ wLcB wg1 wt1 we ρ2 (ys.drop (j + 1)) acc fun acc' => wLc2L wg wt ww1 wg1 wt1 we ρ (xs.drop (i + 1)) acc' fun ys => P (.lst ys), fun H2 q => ⟨ys.length - (j + 1), by omega, rfl, hjl, q⟩, fun x H6 y => ?_⟩
          have y' := w1.yields j H5 x H6 hjl hG5 y
          obtain ⟨s6, z, hz, rz⟩ := item1 j H5 F5 x H6 g5.2 g5.1 g5.2 E5.dm y' hjl
          have dr : ys.drop j = z :: ys.drop (j + 1) := by
            obtain ⟨hl, e⟩ := List.getElem?_eq_some_iff.mp hz
            rw [List.drop_eq_getElem_cons hl, e]
          rw [dr] at hw5
          refine hg1 H0 F0 F5 H6 (L2.wipe σ2 vs1) ρ2 x z _ _ ((E5.step s6).wipe vs1) rz hw5 fun σ3 ρ3 E6 wp1 _ h6 => ?_
          refine ⟨by rw [wp1 vs1 hv1']; exact wipe_idem σ2 vs1, ht1 H0 F0 F5 H6 σ3 ρ3 _ _ E6 h6 fun c H7 e7 hc => ?_⟩
          have s7 := Step.to s6.dm e7
          have aD7 : H7 D = some (.lst as5) := e7 _ _ (s6.ex _ _ b1)
          have s57 := s6.trans s7
          cases c with
          | false => exact ⟨F5, as5, acc5, aD7, b2, b3.step s57, st5.trans s57, g5.trans (.of s57), fun b o nb h => s57.ex _ _ (k5 b o nb h), n5, hc⟩
          | true =>
            refine he H0 F0 F5 H7 σ3 ρ3 _ _ (E6.step s7) hc fun q u F8 H8 s8 r8 ⟨hl8, h8⟩ => ?_
            have aD8 : H8 D = some (.lst as5) := s8.ex _ _ aD7
            have s58 := s57.trans s8
            have nf8 : ¬ F8 D := fun f => (s8.nw D f).elim b2 fun z => by rw [aD7] at z; cases z
            have lp := LcSt.push nD aD8 nf8 (b3.step s58) r8 (st5.trans s58)
            have sb : Stb F8 H8 (upd H8 D (.lst (as5 ++ [u]))) := Stb.set aD8 nf8
            have st8 : Step F1 H1 F8 (upd H8 D (.lst (as5 ++ [u]))) := ⟨Ex.mut (st5.trans s58).ex nD, (st5.trans s58).up, (st5.trans s58).nw, fun a f z => by
              by_cases ea : a = D
              · exact nf8 (ea ▸ f)
              · rw [upd_ne ea] at z
                exact s58.dm a f z⟩
            refine ⟨as5, aD8, by rw [(b3.length)]; exact sz_lt hl8, F8, as5 ++ [u], acc5 ++ [q], upd_same, nf8, ((b3.step s58).mono sb fun _ h => h).append (.cons (r8.mono sb fun _ h => h) .nil), st8, (g5.trans (.of s58)).trans ⟨fun _ h => h, sb⟩, fun b o nb h => by rw [upd_ne nb]; exact s58.ex _ _ (k5 b o nb h), fun a f => ?_, h8⟩
            rcases s58.nw a f with z | z
            · exact n5 a z
            · by_cases ea : a = D
              · exact absurd (ea ▸ f) nf8
              · cases h4 : H4 a with
                | none => exact .inr rfl
                | some o =>
                  rw [k5 a o ea h4] at z
                  cases z
        · have e : j = ys.length := by omega
          subst e
          rw [List.drop_length] at hw5
          exact .inl ⟨w1.stops H5 hG5, acc5, ⟨F5, as5, b1, b2, b3, st5⟩, hw5⟩
  · have e : i = xs.length := by omega
    subst e
    rw [List.drop_length] at hw2
    exact .inl ⟨w.stops H' hG', k (.lst acc) (.ref D) F' H' (s1.trans st) (.inr ⟨D, as, acc, rfl, rfl, fresh_back s1.ex nD, a1, a2, a3⟩) hw2⟩
/-- text.join(texts) -/
def wJoin (wo we : WE) : WE := fun ρ P => wo ρ fun x => ∃ a : Str, x = .str a ∧ we ρ fun y => ∃ (ys : List Str), (y = .lst (ys.map .str) ∨ y = .tup (ys.map .str)) ∧ (ys.map (·.length)).sum + ys.length * a.length ≤ 16777216 ∧ P (.str (Txt.join a ys))
/-! ### sorted rows of ints -/
def wSorted : WC := fun xs P => ∃ ns : List Int, xs = [.lst (ns.map .int)] ∧ ns.length < 64 ∧ ∀ ms : List Int, ms.Perm ns → ms.Pairwise (· ≤ ·) → P (.lst (ms.map .int))
theorem cas_sorted : CaS K d (rN K d) (rSorted K) wSorted := fun F H vs xs Q P dm r h k => by
  obtain ⟨ns, rfl, h0, p⟩ := h
  obtain ⟨v, rfl, r1⟩ := r.one
  obtain ⟨q, vs, rfl, h2, h3⟩ := Rw.lst r1
  cases h3.ints
  exact ⟨q, ns, rfl, .inl (.inl h2), h0, fun ms l h1 h2 nl => fin_lst dm nl (Rvs.of_ints ms) (p ms h1 h2) k⟩
/-! ### list(range(n)) -/
def wLstRg (we : WE) : WE := fun ρ P => we ρ fun x => match x with
  | .int n => RgOk 0 n ∧ P (.lst (rangeP 0 n.toNat))
  | _ => False
theorem sim_lstRg (h : Sim K d (rW K d) ts te we) : Sim K d (rN K d) ts (tLstRg (tRg1 te)) (wLstRg we) := fun H0 F0 F H σ ρ Q P E hw k => h H0 F0 F H σ ρ _ _ E hw fun x v F1 H1 s1 r1 h1 => by
  cases x with
  | int n =>
    cases Rw.intE r1
    refine ⟨n, rfl, h1.1, fun q nq => ?_⟩
    have e : rgV 0 n = ((List.range n.toNat).map fun (i : Nat) => (0 : Int) + (i : Nat)).map V.int := by
      unfold rgV
      rw [Int.sub_zero, List.map_map]
      rfl
    have e2 : rangeP 0 n.toNat = ((List.range n.toNat).map fun (i : Nat) => (0 : Int) + (i : Nat)).map PV.int := by
      unfold rangeP
      rw [List.map_map]
      rfl
    have h2 := h1.2
    rw [e2] at h2
    rw [e]
    exact fin_lst s1.dm nq (Rvs.of_ints _) h2 fun z v' F' H' s r p => k z v' F' H' (s1.trans s) (okN.back s1 r) p
  | _ => exact h1.elim
end
/-! ### defs -/
section
variable {P : Program} {w : World} {K : PySem.W.Frag} {mg : Str → Option Value} {base : Heap} {d : Cn → Addr} {R : RR}
def wDef (n m : Nat) (ws : WS) : WF := fun xs P => xs.length = n ∧ ws { nx := fun _ => P .non, rt := P } (xs ++ List.replicate m .non)
def tags (n m : Nat) : List Tag := List.replicate n .sh ++ List.replicate m .no
def RNon (K : PySem.W.Frag) (d : Cn → Addr) (R : RR) : Prop := ∀ F0 H0 F H, R F0 H0 F H .non .non
theorem rnonS : RNon K d (rS K d) := fun _ _ _ _ => .non
theorem rnonN : RNon K d (rN K d) := fun _ _ _ _ => .inl ⟨trivial, .non⟩
theorem env_start {N : List Str} {F : Fz} {H : Hp} {vs : List V} {xs : List PV} {n m : Nat} (dm : Dom F H) (r : Rvs K d F H vs xs) (hn : xs.length = n) (hN : N.length = n + m) : EnvR K d (tags n m) H F F H (L2.start N vs) (xs ++ List.replicate m .non) := by
  have lv : vs.length = n := r.length.trans hn
  have e : N.length - vs.length = m := by omega
  refine ⟨Step.refl dm, ?_, ?_, fun i h => ?_, fun i h => ?_, fun i j a h => ?_⟩
  · unfold L2.start tags
    rw [List.length_append, List.length_map, List.length_replicate, List.length_append, List.length_replicate, List.length_replicate, e, lv]
  · unfold tags
    rw [List.length_append, List.length_replicate, List.length_append, List.length_replicate, List.length_replicate, hn]
  · have hi : i < n := by
      rcases Nat.lt_or_ge i n with z | z
      · exact z
      · unfold tags at h
        rw [List.getElem?_append_right (by rw [List.length_replicate]; exact z), List.getElem?_replicate] at h
        split at h <;> cases h
    obtain ⟨x, hx⟩ : ∃ x, xs[i]? = some x := ⟨xs[i], List.getElem?_eq_getElem (by omega)⟩
    obtain ⟨v, hv, rv⟩ := r.get hx
    refine ⟨v, x, ?_, ?_, rv⟩
    · unfold L2.start
      rw [List.getElem?_append_left (by rw [List.length_map]; omega), List.getElem?_map, hv]
      rfl
    · rw [List.getElem?_append_left (by omega), hx]
  · unfold tags at h
    rcases Nat.lt_or_ge i n with z | z
    · rw [List.getElem?_append_left (by rw [List.length_replicate]; exact z), List.getElem?_replicate] at h
      split at h <;> cases h
    · rw [List.getElem?_append_right (by rw [List.length_replicate]; exact z), List.getElem?_replicate] at h
      split at h <;> cases h
  · unfold tags at h
    rcases Nat.lt_or_ge i n with z | z
    · rw [List.getElem?_append_left (by rw [List.length_replicate]; exact z), List.getElem?_replicate] at h
      split at h <;> cases h
    · rw [List.getElem?_append_right (by rw [List.length_replicate]; exact z), List.getElem?_replicate] at h
      split at h <;> cases h
theorem run_w {N : List Str} {n m : Nat} {t : TS} {ws : WS} {ts' : List Tag} {H : Hp} {vs : List V} {Q : VK} {E : XK} (S : SimS K d R [] [] (tags n m) t ws ts') (hR : RNon K d R) (hN : N.length = n + m) (h : spW K d R (wDef n m ws) vs H Q E) : t { nx := fun _ H' => Q .non H', rt := Q } (L2.start N vs) H := by
  obtain ⟨F, xs, P, dm, r, ⟨hl, hw⟩, k⟩ := h
  exact S H F F H _ _ _ _ (env_start dm r hl hN) hw (fun F' H' σ' ρ' g E' p => k .non .non F' H' E'.st (hR _ _ _ _) p) (fun x v F' H' s rr p => k x v F' H' s rr p) (fun _ _ _ _ _ _ q => q.elim) (fun _ _ _ _ _ _ q => q.elim)
theorem okw_of {x qual : Str} {st : Stmt} {f : Addr} {N ps : List Str} {k n m : Nat} {ws : WS} {ts' : List Tag} (Df' : Df K x qual st f ps) (S : FnScope N ps (defScope st)) (hn : ps.length = n) (hN : N.length = n + m) (hR : RNon K d R)
    (hbody : ∀ (cdv : Value) (A : Around) (outer : List Env) (s : Shared) (H : Hp) (E : XK), Room k (A.deeper (envOfC qual (defScope st) s.heap.objs.size f cdv)) →
      ∃ t, PSs (cxOf CX0 P w K mg base N qual (defScope st) f cdv A outer s H E).nox (defBody st) t ∧ SimS K d R [] [] (tags n m) t ws ts') : Okf P w K mg base (k + 1) f ps (spW K d R (wDef n m ws)) :=
  okf_of Df' S (fun vs H Q E h => by
    obtain ⟨F, xs, P, dm, r, ⟨hl, _⟩, _⟩ := h
    rw [r.length, hl, hn]) fun cdv A outer s H vs Q E hr h => by
    obtain ⟨t, D, sim⟩ := hbody cdv A outer s H E hr
    exact ⟨t, D, run_w sim hR hN h⟩
theorem okwG_of {x qual : Str} {st : Stmt} {f : Addr} {N ps : List Str} {k n m : Nat} {ws : WS} {ts' : List Tag} (Df' : Df K x qual st f ps) (S : FnScope N ps (defScope st)) (hn : ps.length = n) (hN : N.length = n + m) (hR : RNon K d R)
    (hbody : ∀ (cdv : Value) (A : Around) (outer : List Env) (s : Shared) (H : Hp) (E : XK), NoG A s → Room k (A.deeper (envOfC qual (defScope st) s.heap.objs.size f cdv)) →
      ∃ t, PSs (cxOf CX0 P w K mg base N qual (defScope st) f cdv A outer s H E).nox (defBody st) t ∧ SimS K d R [] [] (tags n m) t ws ts') : OkP NoG P w K mg base (k + 1) f ps (spW K d R (wDef n m ws)) :=
  okP_of Df' S (fun vs H Q E h => by
    obtain ⟨F, xs, P, dm, r, ⟨hl, _⟩, _⟩ := h
    rw [r.length, hl, hn]) fun cdv A outer s H vs Q E hg hr h => by
    obtain ⟨t, D, sim⟩ := hbody cdv A outer s H E hg hr
    exact ⟨t, D, run_w sim hR hN h⟩
/-- the hand-made promise sp does as w tells -/
def Tells (K : PySem.W.Frag) (d : Cn → Addr) (R : RR) (sp : Sp) (w : WF) : Prop := ∀ vs H Q E, spW K d R w vs H Q E → sp vs H Q E
theorem okw_imp {k : Nat} {f : Addr} {ps : List Str} {sp : Sp} {w' : WF} (F : Okf P w K mg base k f ps sp) (h : Tells K d R sp w') : Okf P w K mg base k f ps (spW K d R w') := F.imp h
end
end Wx

/-! Hand-made promises told by trees: clocks, needs, plans, rows of ints, draws. -/
namespace Wx
open PySem PySem.Spec PyProof.Rows L2 Evl Hn RZ
abbrev iL (ns : List Int) : List PV := ns.map PV.int
def clkP (s : List Int) : PV := .ins .Clock [("kept_stays", .tup (iL s)), ("kept_widths", .tup (iL (wds s)))]
def ndP (s : List Int) : PV := .ins .Needs [("kept_row", .tup (iL s))]
def pnP (s : List Int) : PV := .ins .Plan [("kept_begins", .tup (iL s))]
section
variable {K : PySem.W.Frag} {d : Cn → Addr} {F F' F0 : Fz} {H H' H0 : Hp} {v u : V} {Q : VK} {P : PV → Prop} {s : List Int}
theorem Rvs.one {vs : List V} {x : PV} (h : Rvs K d F H vs [x]) : ∃ v, vs = [v] ∧ Rv K d F H v x := by
  cases h with
  | cons a b => cases b; exact ⟨_, rfl, a⟩
theorem Rvs.two {vs : List V} {x y : PV} (h : Rvs K d F H vs [x, y]) : ∃ v u, vs = [v, u] ∧ Rv K d F H v x ∧ Rv K d F H u y := by
  cases h with
  | cons a b =>
    obtain ⟨u, rfl, q⟩ := b.one
    exact ⟨_, u, rfl, a, q⟩
theorem Rvs.three {vs : List V} {x y z : PV} (h : Rvs K d F H vs [x, y, z]) : ∃ v u w, vs = [v, u, w] ∧ Rv K d F H v x ∧ Rv K d F H u y ∧ Rv K d F H w z := by
  cases h with
  | cons a b =>
    obtain ⟨u, w, rfl, q, r⟩ := b.two
    exact ⟨_, u, w, rfl, a, q, r⟩
theorem Rv.intE {a : Int} (h : Rv K d F H v (.int a)) : v = .int a := by cases h; rfl
theorem Rv.strE {a : Str} (h : Rv K d F H v (.str a)) : v = .str a := by cases h; rfl
theorem Rv.bagE (h : Rv K d F H v .bag) : ∃ b, v = .ref b ∧ Bag H b := by
  cases h with
  | bag h => exact ⟨_, rfl, h⟩
theorem Rv.intsL {ns : List Int} (h : Rv K d F H v (.lst (iL ns))) : ∃ a, v = .ref a ∧ H a = some (.lst (ns.map V.int)) := by
  cases h with
  | lst h1 h2 h3 =>
    cases h3.ints
    exact ⟨_, rfl, h1⟩
theorem Rv.intsT {ns : List Int} (h : Rv K d F H v (.tup (iL ns))) : ∃ a, v = .ref a ∧ SqT K H a (ns.map V.int) := by
  cases h with
  | tup h1 h3 =>
    cases h3.ints
    exact ⟨_, rfl, h1⟩
/-- a list or a tuple of ints -/
def seqP (x : PV) (ns : List Int) : Prop := x = .lst (iL ns) ∨ x = .tup (iL ns)
theorem Rv.seq {x : PV} {ns : List Int} (h : Rv K d F H v x) (e : seqP x ns) : ∃ a, v = .ref a ∧ Sq K H a (ns.map V.int) := by
  rcases e with rfl | rfl
  · obtain ⟨a, rfl, q⟩ := h.intsL
    exact ⟨a, rfl, .inl (.inl (.inl q))⟩
  · obtain ⟨a, rfl, q⟩ := h.intsT
    exact ⟨a, rfl, .inr q⟩
theorem clk_of (h : Rv K d F H v (clkP s)) (g : Good s) : Clk K (d .Clock) H v s := by
  obtain ⟨p, dx, gs, rfl, h1, h2⟩ := h.insE
  cases h2 with
  | cons a b =>
    cases b with
    | cons b c =>
      cases c
      obtain ⟨q1, rfl, e1⟩ := a.intsT
      obtain ⟨q2, rfl, e2⟩ := b.intsT
      exact ⟨p, dx, q1, q2, rfl, h1, e1, e2, g⟩
theorem of_clk (h : Clk K (d .Clock) H v s) : Rv K d F H v (clkP s) := by
  obtain ⟨p, dx, a, b, rfl, h1, h2, h3, g⟩ := h
  exact .ins h1 (.cons (.tup h2 (Rvs.of_ints _)) (.cons (.tup h3 (Rvs.of_ints _)) .nil))
theorem nd_of (h : Rv K d F H v (ndP s)) (g : GoodN s) : Hn.Rw K (d .Needs) "kept_row" H v s := by
  obtain ⟨p, dx, gs, rfl, h1, h2⟩ := h.insE
  cases h2 with
  | cons a b =>
    cases b
    obtain ⟨q1, rfl, e1⟩ := a.intsT
    exact ⟨p, dx, q1, rfl, h1, e1, g⟩
theorem of_nd (h : Hn.Rw K (d .Needs) "kept_row" H v s) : Rv K d F H v (ndP s) := by
  obtain ⟨p, dx, a, rfl, h1, h2, g⟩ := h
  exact .ins h1 (.cons (.tup h2 (Rvs.of_ints _)) .nil)
theorem pn_of (h : Rv K d F H v (pnP s)) (g : GoodN s) : Hn.Rw K (d .Plan) "kept_begins" H v s := by
  obtain ⟨p, dx, gs, rfl, h1, h2⟩ := h.insE
  cases h2 with
  | cons a b =>
    cases b
    obtain ⟨q1, rfl, e1⟩ := a.intsT
    exact ⟨p, dx, q1, rfl, h1, e1, g⟩
theorem of_pn (h : Hn.Rw K (d .Plan) "kept_begins" H v s) : Rv K d F H v (pnP s) := by
  obtain ⟨p, dx, a, rfl, h1, h2, g⟩ := h
  exact .ins h1 (.cons (.tup h2 (Rvs.of_ints _)) .nil)
/-! what a promise's answer gives -/
abbrev KN (K : PySem.W.Frag) (d : Cn → Addr) (F : Fz) (H : Hp) (P : PV → Prop) (Q : VK) : Prop := ∀ x v F' H', Step F H F' H' → rN K d F H F' H' v x → P x → Q v H'
theorem ret_int {i : Int} (dm : Dom F H) (k : KN K d F H P Q) (p : P (.int i)) (e : Ex H H') : Q (.int i) H' := k (.int i) _ F H' (Step.to dm e) (.inl ⟨trivial, .int i⟩) p
theorem ret_bl {i : Bool} (dm : Dom F H) (k : KN K d F H P Q) (p : P (.bl i)) (e : Ex H H') : Q (.bl i) H' := k (.bl i) _ F H' (Step.to dm e) (.inl ⟨trivial, .bl i⟩) p
theorem ret_str {i : Str} (dm : Dom F H) (k : KN K d F H P Q) (p : P (.str i)) (e : Ex H H') : Q (.str i) H' := k (.str i) _ F H' (Step.to dm e) (.inl ⟨trivial, .str i⟩) p
theorem ret_non (dm : Dom F H) (k : KN K d F H P Q) (p : P .non) (e : Ex H H') : Q .non H' := k .non _ F H' (Step.to dm e) (.inl ⟨trivial, .non⟩) p
theorem ret_ints {ns : List Int} (dm : Dom F H) (k : KN K d F H P Q) (p : P (.lst (iL ns))) : RetN (ns.map V.int) H Q := fun q H' nq e hq =>
  k (.lst (iL ns)) _ F H' (Step.to dm e) (.inr ⟨q, _, _, rfl, rfl, nq, hq, fun f => dm q f nq, Rvs.of_ints _⟩) p
theorem ret_clk {H' : Hp} (dm : Dom F H) (k : KN K d F H P Q) (p : P (clkP s)) (e : Ex H H') (c : Clk K (d .Clock) H' v s) : Q v H' := k (clkP s) v F H' (Step.to dm e) (.inl ⟨trivial, of_clk c⟩) p
theorem ret_nd {H' : Hp} (dm : Dom F H) (k : KN K d F H P Q) (p : P (ndP s)) (e : Ex H H') (c : Hn.Rw K (d .Needs) "kept_row" H' v s) : Q v H' := k (ndP s) v F H' (Step.to dm e) (.inl ⟨trivial, of_nd c⟩) p
theorem ret_pn {H' : Hp} (dm : Dom F H) (k : KN K d F H P Q) (p : P (pnP s)) (e : Ex H H') (c : Hn.Rw K (d .Plan) "kept_begins" H' v s) : Q v H' := k (pnP s) v F H' (Step.to dm e) (.inl ⟨trivial, of_pn c⟩) p
/-! draws -/
def w_take : WF := fun xs P => ∃ u : Int, xs = [.bag, .int u] ∧ 0 < u ∧ u < 1073741824 ∧ ∀ n : Int, 0 ≤ n → n < u → P (.int n)
theorem tells_take : Tells K d (rN K d) spTake w_take := fun vs H Q E ⟨F, xs, P, dm, r, ⟨u, ex, u0, u1, p⟩, k⟩ => by
  subst ex
  obtain ⟨v1, v2, rfl, r1, r2⟩ := r.two
  obtain ⟨b, rfl, hb⟩ := r1.bagE
  cases r2.intE
  exact ⟨b, u, rfl, hb, u0, u1, fun n n0 n1 => ret_int dm k (p n n0 n1) (Ex.refl _)⟩
def w_bag : WF := fun xs P => ∃ ns : List Int, xs = [.scr ns] ∧ P .bag
theorem tells_bag : Tells K d (rN K d) (spBag K) w_bag := fun vs H Q E ⟨F, xs, P, dm, r, ⟨ns, ex, p⟩, k⟩ => by
  subst ex
  obtain ⟨v1, rfl, r1⟩ := r.one
  cases r1 with
  | scr h1 h4 => exact ⟨_, ns, rfl, h1.sq, h4, fun b H' e hb => k .bag _ F H' (Step.to dm e) (.inl ⟨trivial, .bag hb⟩) p⟩
/-! making -/
def w_mkClock : WF := fun xs P => ∃ (x : PV) (s : List Int), xs = [x] ∧ seqP x s ∧ Good s ∧ P (clkP s)
theorem mk_Clock : MkS K d .Clock (spClkInit K (d .Clock)) w_mkClock := fun F H vs xs Q P E dm r ⟨x, s, ex, sx, g, p⟩ k => by
  subst ex
  obtain ⟨v, rfl, r1⟩ := r.one
  obtain ⟨a, rfl, hS⟩ := r1.seq sx
  exact mkClk (Q := fun u H' => Q (.ref u) H') ⟨a, s, rfl, hS, g, fun u H' e c => k (clkP s) _ F H' (Step.to dm e) (of_clk c) trivial p⟩
def w_mkNeeds : WF := fun xs P => ∃ (x : PV) (s : List Int), xs = [x] ∧ seqP x s ∧ GoodN s ∧ P (ndP s)
theorem mk_Needs : MkS K d .Needs (spRwInit K (d .Needs) "kept_row") w_mkNeeds := fun F H vs xs Q P E dm r ⟨x, s, ex, sx, g, p⟩ k => by
  subst ex
  obtain ⟨v, rfl, r1⟩ := r.one
  obtain ⟨a, rfl, hS⟩ := r1.seq sx
  exact mkRw (Q := fun u H' => Q (.ref u) H') ⟨a, s, rfl, hS, g, fun u H' e c => k (ndP s) _ F H' (Step.to dm e) (of_nd c) trivial p⟩
def w_mkPlan : WF := fun xs P => ∃ (x : PV) (s : List Int), xs = [x] ∧ seqP x s ∧ GoodN s ∧ P (pnP s)
theorem mk_Plan : MkS K d .Plan (spRwInit K (d .Plan) "kept_begins") w_mkPlan := fun F H vs xs Q P E dm r ⟨x, s, ex, sx, g, p⟩ k => by
  subst ex
  obtain ⟨v, rfl, r1⟩ := r.one
  obtain ⟨a, rfl, hS⟩ := r1.seq sx
  exact mkRw (Q := fun u H' => Q (.ref u) H') ⟨a, s, rfl, hS, g, fun u H' e c => k (pnP s) _ F H' (Step.to dm e) (of_pn c) trivial p⟩
/-! list(x) of an own row -/
def wListOwn (c : Cn) (f : Str) : WC := fun xs P => ∃ fs ys, xs = [.ins c fs] ∧ fs.lookup f = some (.tup ys) ∧ P (.lst ys)
/-! the law -/
theorem law_tells {R : RR} {w : WF} (h : ∀ ns : List Int, ns.length ≤ 63 → w [.scr ns] fun x => x = .bl true) (hR : ∀ F H F' H' v, R F H F' H' v (.bl true) → v = .bl true) : ∀ vs H Q E, spLaw K vs H Q E → spW K d R w vs H Q E := fun vs H Q E ⟨a, ns, e, hS, hl, k⟩ => by
  subst e
  refine ⟨fun b => b = a ∧ H a ≠ none, [.scr ns], _, fun b f => by rw [f.1]; exact f.2, .cons (.scr ?_ hl) .nil, h ns hl, fun x v F' H' s r p => ?_⟩
  · rcases hS with (q | ⟨o, q⟩) | q
    · exact .inl ⟨q, rfl, by rw [q]; intro y; cases y⟩
    · exact .inr (.inl ⟨o, q⟩)
    · exact .inr (.inr fun H' => .inr q)
  · subst p
    rw [hR _ _ _ _ _ r]
    exact k H'
theorem bl_S : ∀ (F : Fz) (H : Hp) (F' : Fz) (H' : Hp) (v : V), rS K d F H F' H' v (.bl true) → v = .bl true := fun _ _ _ _ v h => by cases (show Rv K d _ _ v (.bl true) from h); rfl
theorem bl_N : ∀ (F : Fz) (H : Hp) (F' : Fz) (H' : Hp) (v : V), rN K d F H F' H' v (.bl true) → v = .bl true := fun _ _ _ _ v h => by
  rcases h with h | ⟨_, _, _, _, e, _⟩
  · cases h.2; rfl
  · cases e
end
end Wx

/-! More forms: constants, fields of a class, texts joined, zips told at once, lists as targets. -/
namespace Wx
open PySem PySem.Spec PyProof.Rows L2 Evl Hn RZ
theorem _root_.L2.Room.units65 {k : Nat} {A : Around} (r : Room k A) : A.units + 65 < cLine := by have := r.un; omega
theorem _root_.L2.Room.units1 {k : Nat} {A : Around} (r : Room k A) : A.units + 1 < cLine := by have := r.un; omega
section
variable {K : PySem.W.Frag} {d : Cn → Addr} {F F' F0 : Fz} {H H' H0 : Hp} {v u : V} {ts ts' : List Tag} {R : RR} {te ta tb tc : TE} {we wa wb wc : WE}
theorem op_isnotBl {X : Cx} : OpR X (compareOp .IsNot) L2.rNotB := op_notBl
/-- a tuple of texts that the top has left -/
def KTup (K : PySem.W.Frag) (a : Addr) (xs : List Str) : Prop := ∃ (o : Obj) (its : Array Value) (n : Nat), K.lookup a = some o ∧ o.cls = .type "tuple" ∧ o.data = .seq its n ∧ its.size ≤ sizeLine ∧ Vals (xs.map V.str) its.toList
theorem Rvs.of_strs : ∀ (ns : List Str), Rvs K d F H (ns.map V.str) (ns.map PV.str)
  | [] => .nil
  | n :: ns => .cons (.str n) (Rvs.of_strs ns)
theorem sim_ktup {a : Addr} {xs : List Str} (h : KTup K a xs) : Sim K d (rN K d) ts (tC (.ref a)) (wC (.tup (xs.map PV.str))) := fun H0 F0 F H σ ρ Q P E hw k => fin_val E.dm (.tup (.inr h) (Rvs.of_strs xs)) hw k
def strV : Value → Str → Bool
  | .str x _, y => decide (x = y)
  | _, _ => false
def strsV : List Value → List Str → Bool
  | [], [] => true
  | v :: vs, x :: xs => strV v x && strsV vs xs
  | _, _ => false
def ktA (K : PySem.W.Frag) (n : Str) : Addr := match PySem.W.nsIn K mainGlobals n with
  | some (some (.ref a)) => a
  | _ => 0
def ktB (K : PySem.W.Frag) (n : Str) (xs : List Str) : Bool := (match PySem.W.nsIn K mainGlobals n with
  | some (some (.ref a)) => decide (a = ktA K n)
  | _ => false) && (match K.lookup (ktA K n) with
  | some ⟨.type "tuple", _, .seq its _, _⟩ => decide (its.size ≤ 1000) && strsV its.toList xs
  | _ => false)
theorem strsV_ok : ∀ {vs : List Value} {xs : List Str}, strsV vs xs = true → Vals (xs.map V.str) vs
  | [], [], _ => .nil
  | [], _ :: _, h => by cases h
  | _ :: _, [], h => by cases h
  | v :: vs, x :: xs, h => by
    obtain ⟨h1, h2⟩ := Bool.and_eq_true_iff.mp (show (strV v x && strsV vs xs) = true from h)
    refine .cons ?_ (strsV_ok h2)
    cases v with
    | str y t =>
      obtain rfl : y = x := of_decide_eq_true h1
      exact ⟨t, rfl⟩
    | _ => cases h1
theorem ktB_ok {n : Str} {xs : List Str} (h : ktB K n xs = true) : PySem.W.nsIn K mainGlobals n = some (some (.ref (ktA K n))) ∧ KTup K (ktA K n) xs := by
  obtain ⟨h1, h2⟩ := Bool.and_eq_true_iff.mp h
  constructor
  · split at h1
    · rename_i a e
      rw [e, of_decide_eq_true h1]
    · cases h1
  · split at h2
    · rename_i dd its m sl e
      obtain ⟨h3, h4⟩ := Bool.and_eq_true_iff.mp h2
      exact ⟨_, its, m, e, rfl, rfl, Nat.le_trans (of_decide_eq_true h3) (by decide), strsV_ok h4⟩
    · cases h2
/-- a field of a thing of the class c -/
def wFldC (c : Cn) (we : WE) (f : Str) : WE := fun ρ P => wFld (fun ρ P => we ρ fun x => (∃ fs, x = .ins c fs) ∧ P x) f ρ P
/-- isinstance(x, C), x of C or no own thing -/
def wIsiO (c : Cn) : WC := fun xs P => ∃ fs, xs = [.ins c fs, .cls c] ∧ P (.bl true)
theorem cas_isiO {C : Addr} (c : Cn) (h : IsC K C) (hC : d c = C := by rfl) : CaS K d (rN K d) (rIsi K) (wIsiO c) := fun F H vs xs Q P dm r ⟨fs, ex, p⟩ k => by
  subst ex
  subst hC
  obtain ⟨v, u, rfl, r1, r2⟩ := r.two
  obtain ⟨q, dx, gs, rfl, h1, h2⟩ := r1.insE
  cases r2.of trivial
  exact r_isiOwn h h1 (fin_val dm (.bl true) p k)
theorem Rvs.strsS {vs : List V} {ns : List Str} (r : Rvs K d F H vs (ns.map PV.str)) : vs = ns.map V.str := r.strs
theorem sim_join {to : TE} {wo : WE} (ho : Sim K d (rS K d) ts to wo) (he : Sim K d (rW K d) ts te we) : Sim K d (rN K d) ts (tM1 (rJoin K) to te) (wJoin wo we) := fun H0 F0 F H σ ρ Q P E hw k =>
  ho H0 F0 F H σ ρ _ _ E hw fun x v F1 H1 s1 r1 ⟨a, ex, h1⟩ => by
    subst ex
    cases (show Rv K d F1 H1 v (.str a) from r1)
    refine ⟨⟨a, rfl⟩, he H0 F0 F1 H1 σ ρ _ _ (E.step s1) h1 fun y u F2 H2 s2 r2 ⟨ys, ey, hs, p⟩ => ?_⟩
    have fin : Q (.str (Txt.join a ys)) H2 := fin_val s2.dm (.str _) p fun z v' F' H' s r q => k z v' F' H' ((s1.trans s2).trans s) (okN.back (s1.trans s2) r) q
    rcases ey with rfl | rfl
    · obtain ⟨q, vs, rfl, g1, g2⟩ := Rw.lst r2
      cases g2.strs
      exact ⟨a, q, ys, rfl, rfl, .inl (.inl (.inl g1)), hs, fin⟩
    · obtain ⟨q, vs, rfl, g1, g2⟩ := Rw.tupE r2
      cases g2.strs
      exact ⟨a, q, ys, rfl, rfl, .inr g1, hs, fin⟩
theorem okP_imp {P : Program} {w : World} {mg : Str → Option Value} {base : Heap} {Pre : Around → Shared → Prop} {k : Nat} {f : Addr} {ps : List Str} {sp sp' : Sp} (G : OkP Pre P w K mg base k f ps sp) (h : ∀ vs H Q E, sp' vs H Q E → sp vs H Q E) : OkP Pre P w K mg base k f ps sp' := by
  obtain ⟨fd, b, l, run⟩ := G
  exact ⟨fd, b, fun vs H Q E q => l vs H Q E (h _ _ _ _ q), fun A out s H ag us vs Q E pre room env bnd rel q => run A out s H ag us vs Q E pre room env bnd rel (h _ _ _ _ q)⟩
def wgLst (n : Nat) (g : WGs) : WG := fun x ρ P => match x with
  | .lst xs => xs.length = n ∧ g xs ρ P
  | _ => False
theorem simG_lst {n : Nat} {is : List Nat} {gs : TGs} {wgs : WGs} (h : SimGs K d is ts gs wgs ts') : SimG K d is ts (gLst K n gs) (wgLst n wgs) ts' := fun H0 F0 F H σ ρ v x Q P E r hw k => by
  cases x with
  | lst xs =>
    cases r with
    | lst h1 h2 h3 => exact ⟨_, _, rfl, .inl (.inl h1), by rw [h3.length]; exact hw.1, h H0 F0 F H σ ρ _ xs Q P E h3 hw.2 k⟩
  | _ => exact hw.elim
/-! list(zip(a, b)) -/
def wListZip (wa : WA) : WE := fun ρ P => wa ρ fun zs => match zs with
  | [.lst xs, .lst ys] => xs.length = ys.length ∧ 1 ≤ xs.length ∧ P (.lst (zipP xs ys))
  | [.tup xs, .lst ys] => xs.length = ys.length ∧ 1 ≤ xs.length ∧ P (.lst (zipP xs ys))
  | [.lst xs, .tup ys] => xs.length = ys.length ∧ 1 ≤ xs.length ∧ P (.lst (zipP xs ys))
  | [.tup xs, .tup ys] => xs.length = ys.length ∧ 1 ≤ xs.length ∧ P (.lst (zipP xs ys))
  | _ => False
def sqP (x : PV) (xs : List PV) : Prop := x = .lst xs ∨ x = .tup xs
theorem Rv.sqE {x : PV} {xs : List PV} (h : Rv K d F H v x) (e : sqP x xs) : ∃ a vs, v = .ref a ∧ Sq K H a vs ∧ Rvs K d F H vs xs := by
  rcases e with rfl | rfl
  · cases h with
    | lst h1 h2 h3 => exact ⟨_, _, rfl, .inl (.inl (.inl h1)), h3⟩
  · obtain ⟨p, vs, rfl, h1, h2⟩ := h.tupE
    exact ⟨p, vs, rfl, .inr h1, h2⟩
theorem rvs_by {vs : List V} {xs : List PV} (hl : vs.length = xs.length) (h : ∀ (i : Nat) (v : V) (x : PV), vs[i]? = some v → xs[i]? = some x → Rv K d F H v x) : Rvs K d F H vs xs := by
  induction vs generalizing xs with
  | nil =>
    cases xs with
    | nil => exact .nil
    | cons _ _ => cases hl
  | cons v vs ih =>
    cases xs with
    | nil => cases hl
    | cons x xs => exact .cons (h 0 v x rfl rfl) (ih (by simpa using hl) fun i a b h1 h2 => h (i + 1) a b (by simpa using h1) (by simpa using h2))
theorem zip_run {xs ys : List PV} {x y : PV} {Q : VK} {P : PV → Prop} (dm : Dom F H) (rx : Rv K d F H v x) (ry : Rv K d F H u y) (ex : sqP x xs) (ey : sqP y ys) (hl : xs.length = ys.length) (h1 : 1 ≤ xs.length) (p : P (.lst (zipP xs ys)))
    (k : ∀ z v' F' H', Step F H F' H' → rN K d F H F' H' v' z → P z → Q v' H') : rListZip K [v, u] H Q := by
  obtain ⟨a, vs, rfl, g1, g2⟩ := rx.sqE ex
  obtain ⟨b, us, rfl, g3, g4⟩ := ry.sqE ey
  refine ⟨a, b, vs, us, rfl, g1, g3, by rw [g2.length, g4.length, hl], by rw [g2.length]; exact h1, fun H' q ts e nq nt hq hq2 hl2 ht => ?_⟩
  have s := Step.to dm e
  refine k (.lst (zipP xs ys)) (.ref q) F H' s (.inr ⟨q, _, _, rfl, rfl, nq, hq2, fun f => dm q f nq, rvs_by ?_ fun i v' x' hv hx => ?_⟩) p
  · unfold zipP
    rw [List.length_map, List.length_map, List.length_range, hl2, g2.length, ← hl, Nat.min_self]
  · rw [List.getElem?_map] at hv
    cases e1 : ts[i]? with
    | none => rw [e1] at hv; cases hv
    | some t =>
      rw [e1] at hv
      cases hv
      have hi : i < ts.length := (List.getElem?_eq_some_iff.mp e1).1
      have hix : i < xs.length := by rw [← g2.length, ← hl2]; exact hi
      have hiy : i < ys.length := by rw [← hl]; exact hix
      obtain ⟨v1, e2, r1⟩ := g2.get (List.getElem?_eq_getElem hix)
      obtain ⟨v2, e3, r2⟩ := g4.get (List.getElem?_eq_getElem hiy)
      unfold zipP at hx
      rw [List.getElem?_map, List.getElem?_range (by omega)] at hx
      cases hx
      have g := ht i t v1 v2 e1 e2 e3
      show Rv K d F H' (.ref t) (.tup [xs.getD i .non, ys.getD i .non])
      rw [getD_of (List.getElem?_eq_getElem hix), getD_of (List.getElem?_eq_getElem hiy)]
      exact .tup (.inl (.inl g)) (.cons (r1.step s) (.cons (r2.step s) .nil))
theorem sim_listZip {ar : TA} {wr : WA} (ha : SimA K d ts ar wr) : Sim K d (rN K d) ts (tListZip K ar) (wListZip wr) := fun H0 F0 F H σ ρ Q P E hw k => ha H0 F0 F H σ ρ _ _ E hw fun zs us F1 H1 s1 r1 h1 => by
  have go : ∀ {x y : PV} {xs ys : List PV}, zs = [x, y] → sqP x xs → sqP y ys → xs.length = ys.length → 1 ≤ xs.length → P (.lst (zipP xs ys)) → rListZip K us H1 Q := fun {x y xs ys} e ex ey hl hm p => by
    subst e
    obtain ⟨v, u, rfl, ra, rb⟩ := r1.two
    exact zip_run s1.dm ra rb ex ey hl hm p fun z v' F' H' s r q => k z v' F' H' (s1.trans s) (okN.back s1 r) q
  split at h1
  · exact go rfl (.inl rfl) (.inl rfl) h1.1 h1.2.1 h1.2.2
  · exact go rfl (.inr rfl) (.inl rfl) h1.1 h1.2.1 h1.2.2
  · exact go rfl (.inl rfl) (.inr rfl) h1.1 h1.2.1 h1.2.2
  · exact go rfl (.inr rfl) (.inr rfl) h1.1 h1.2.1 h1.2.2
  · exact h1.elim
/-! several names at once, some of them lists of one's own -/
inductive NL (K : PySem.W.Frag) (d : Cn → Addr) (F : Fz) (H : Hp) : Hp → List Bool → List V → List PV → Prop
  | nil {Hb : Hp} : NL K d F H Hb [] [] []
  | cons {Hb Hm : Hp} {k : Bool} {v : V} {x : PV} {ks : List Bool} {vs : List V} {xs : List PV} : New K d Hb F H k v x → Ex Hb Hm → (k = true → ∃ p, v = .ref p ∧ Hm p ≠ none) → NL K d F H Hm ks vs xs → NL K d F H Hb (k :: ks) (v :: vs) (x :: xs)
theorem NL.step {Hb : Hp} {ks : List Bool} {vs : List V} {xs : List PV} (h : NL K d F H Hb ks vs xs) (s : Step F H F' H') : NL K d F' H' Hb ks vs xs := by
  induction h with
  | nil => exact .nil
  | cons a b c _ ih => exact .cons (a.step s) b c ih
def SimP (K : PySem.W.Frag) (d : Cn → Addr) (ks : List Bool) (ts : List Tag) (ta : TA) (wa : WA) : Prop := ∀ (H0 : Hp) (F0 F : Fz) (H : Hp) (σ : L2.St) (ρ : List PV) (Q : List V → Hp → Prop) (P : List PV → Prop), EnvR K d ts H0 F0 F H σ ρ → wa ρ P →
  (∀ xs vs F' H', Step F H F' H' → (isLs ks xs → NL K d F' H' H ks vs xs) → xs.length = ks.length → vs.length = ks.length → P xs → Q vs H') → ta σ H Q
where isLs : List Bool → List PV → Prop
  | k :: ks, x :: xs => isL k x ∧ isLs ks xs
  | _, _ => True
theorem simP_nil : SimP K d [] ts tNil wNil := fun H0 F0 F H σ ρ Q P E hw k => k [] [] F H (Step.refl E.dm) (fun _ => .nil) rfl rfl hw
theorem simP_cons {k : Bool} {ks : List Bool} {ta : TA} {wa : WA} (he : Sim K d (rK K d k) ts te we) (ha : SimP K d ks ts ta wa) : SimP K d (k :: ks) ts (tCons te ta) (wCons we wa) := fun H0 F0 F H σ ρ Q P E hw k' =>
  he H0 F0 F H σ ρ _ _ E hw fun x v F1 H1 s1 r1 h1 => ha H0 F0 F1 H1 σ ρ _ _ (E.step s1) h1 fun xs vs F2 H2 s2 r2 l1 l2 h2 =>
    k' (x :: xs) (v :: vs) F2 H2 (s1.trans s2) (fun ⟨z1, z2⟩ => .cons ((new_of r1 z1).step s2) s1.ex (new_of r1 z1).have (r2 z2)) (by rw [List.length_cons, l1]; rfl) (by rw [List.length_cons, l2]; rfl) h2
def gNames : List Nat → TGs
  | [] => gNil
  | i :: is => gCons (gName i) (gNames is)
def putTs (ts : List Tag) : List Nat → List Bool → List Tag
  | i :: is, k :: ks => putTs (ts.set i (tgK k)) is ks
  | _, _ => ts
def putR (ρ : List PV) : List Nat → List PV → List PV
  | i :: is, x :: xs => putR (ρ.set i x) is xs
  | _, _ => ρ
theorem put_all {Q : L2.St → Hp → Prop} : ∀ {is : List Nat} {ks : List Bool} {vs : List V} {xs : List PV} {ts : List Tag} {Hb : Hp} {σ : L2.St} {ρ : List PV}, EnvR K d ts H0 F0 F H σ ρ → OwnIn Hb ts σ → Ex H0 Hb → NL K d F H Hb ks vs xs → is.length = ks.length →
    (∀ σ', EnvR K d (putTs ts is ks) H0 F0 F H σ' (putR ρ is xs) → Q σ' H) → gNames is vs σ H Q
  | [], _, _, _, _, _, σ, ρ, E, o, e, .nil, _, q => ⟨rfl, q σ E⟩
  | [], _, _, _, _, _, _, _, _, _, _, .cons _ _ _ _, hl, _ => by cases hl
  | _ :: _, _, _, _, _, _, _, _, _, _, _, .nil, hl, _ => by cases hl
  | i :: is, _, _, _, _, _, σ, ρ, E, o, e, .cons a b c n, hl, q => ⟨_, _, rfl, put_all (E.put (i := i) a e o) ((o.step b).put c) (e.trans b) n (by simpa using hl) q⟩
def wTupO (is : List Nat) (ks : List Bool) (wa : WA) : WS := fun D ρ => wa ρ fun xs => SimP.isLs ks xs ∧ D.nx (putR ρ is xs)
theorem simS_tupO {bt ct : List Tag} {n : Nat} {ar : TA} {wa : WA} (is : List Nat) (ks : List Bool) (ha : SimP K d ks ts ar wa) (hl : is.length = ks.length := by rfl) (hn : ks.length = n := by rfl) (hz : Nat.ble ks.length 1000 = true := by rfl) : SimS K d R bt ct ts (tAsg (tTup ar) (gTup K n (gNames is))) (wTupO is ks wa) (putTs ts is ks) := fun H0 F0 F H σ ρ D D' E hw nx r b c =>
  ha H0 F0 F H σ ρ _ _ E hw fun xs vs F1 H1 s1 nl l1 l2 ⟨hL, p⟩ => by
    refine ⟨szc (by rw [l2]; exact hz), fun q nq => ?_⟩
    have s2 := Step.new (o := .tup vs) s1.dm nq
    have nl2 := (nl hL).step s2
    refine ⟨q, vs, rfl, .inl (.inl upd_same), by rw [l2, hn], put_all ((E.step s1).step s2) E.ownIn E.st.ex nl2 hl fun σ' E' => ?_⟩
    exact nx F1 _ σ' _ (.of (s1.trans s2)) E' p
/-! {k1: a, k2: b, k3: c}[y] -/
def wDict3 (k1 k2 k3 : Str) (w1 w2 w3 wy : WE) : WE := fun ρ P => w1 ρ fun x1 => w2 ρ fun x2 => w3 ρ fun x3 => wy ρ fun y => ∃ k, y = .str k ∧ ((k = k1 ∧ P x1) ∨ (k = k2 ∧ P x2) ∨ (k = k3 ∧ P x3))
theorem merge3 {k1 k2 k3 : Str} {a b c : V} (h12 : k1 ≠ k2) (h13 : k1 ≠ k3) (h23 : k2 ≠ k3) : mergeK [] [((.inr k1 : Key), a), (.inr k2, b), (.inr k3, c)] = [(.inr k1, a), (.inr k2, b), (.inr k3, c)] := by
  simp [mergeK, putK, h12, h13, h23]
theorem sim_dict3 {k1 k2 k3 : Str} {t1 t2 t3 ty : TE} {w1 w2 w3 wy : WE} (h1 : Sim K d (rS K d) ts t1 w1) (h2 : Sim K d (rS K d) ts t2 w2) (h3 : Sim K d (rS K d) ts t3 w3) (hy : Sim K d (rS K d) ts ty wy)
    (h12 : k1 ≠ k2 := by decide +kernel) (h13 : k1 ≠ k3 := by decide +kernel) (h23 : k2 ≠ k3 := by decide +kernel) : Sim K d (rS K d) ts (tDGet (tDisp [(tC (.str k1), t1), (tC (.str k2), t2), (tC (.str k3), t3)]) ty) (wDict3 k1 k2 k3 w1 w2 w3 wy) := fun H0 F0 F H σ ρ Q P E hw k => by
  intro p np
  have s0 := Step.new (o := .dK []) E.dm np
  have E0 := E.step s0
  have nfp : ¬ F p := fun f => E.dm p f np
  refine h1 H0 F0 F _ σ ρ _ _ E0 hw fun x1 v1 F1 H1 s1 r1 hw1 => h2 H0 F0 F1 H1 σ ρ _ _ (E0.step s1) hw1 fun x2 v2 F2 H2 s2 r2 hw2 => h3 H0 F0 F2 H2 σ ρ _ _ ((E0.step s1).step s2) hw2 fun x3 v3 F3 H3 s3 r3 hw3 => ?_
  have s := (s1.trans s2).trans s3
  have e3 : H3 p = some (.dK []) := s.ex _ _ upd_same
  have nf3 : ¬ F3 p := fun f => (s.nw p f).elim nfp fun z => by rw [upd_same] at z; cases z
  refine ⟨e3, [(.inr k1, v1), (.inr k2, v2), (.inr k3, v3)], rfl, by show 3 ≤ 15; decide, ?_⟩
  rw [merge3 h12 h13 h23]
  have sb : Stb F3 H3 (upd H3 p (.dK [(.inr k1, v1), (.inr k2, v2), (.inr k3, v3)])) := fun b o hb z => by
    have ne : b ≠ p := by
      rintro rfl
      rw [e3] at hb
      cases hb
      rcases z with z | z
      · cases z
      · exact nf3 z
    rw [upd_ne ne]
    exact hb
  have st : Step F H F3 (upd H3 p (.dK [(.inr k1, v1), (.inr k2, v2), (.inr k3, v3)])) := ⟨Ex.mut (s0.trans s).ex np, (s0.trans s).up, (s0.trans s).nw, fun a f z => by
    by_cases ea : a = p
    · exact nf3 (ea ▸ f)
    · rw [upd_ne ea] at z
      exact s.dm a f z⟩
  have m1 := (((show Rv K d F1 H1 v1 x1 from r1).step s2).step s3).mono sb (fun _ h => h)
  have m2 := ((show Rv K d F2 H2 v2 x2 from r2).step s3).mono sb (fun _ h => h)
  have m3 := (show Rv K d F3 H3 v3 x3 from r3).mono sb (fun _ h => h)
  refine hy H0 F0 F3 _ σ ρ _ _ (E.step st) hw3 fun y u F4 H4 s4 r4 ⟨kk, ey, hp⟩ => ?_
  subst ey
  cases (show Rv K d F4 H4 u (.str kk) from r4)
  have e4 : H4 p = some (.dK [(.inr k1, v1), (.inr k2, v2), (.inr k3, v3)]) := s4.ex _ _ upd_same
  have st4 := st.trans s4
  rcases hp with ⟨rfl, hp⟩ | ⟨rfl, hp⟩ | ⟨rfl, hp⟩
  · exact ⟨p, v1, rfl, .inl ⟨_, .inr kk, .inl e4, rfl, by simp [valV]⟩, k x1 v1 F4 H4 st4 (m1.step s4) hp⟩
  · exact ⟨p, v2, rfl, .inl ⟨_, .inr kk, .inl e4, rfl, by simp [valV, h12]⟩, k x2 v2 F4 H4 st4 (m2.step s4) hp⟩
  · exact ⟨p, v3, rfl, .inl ⟨_, .inr kk, .inl e4, rfl, by simp [valV, h13, h23]⟩, k x3 v3 F4 H4 st4 (m3.step s4) hp⟩
/-! C(.., k = v, ..) -/
def wMakeK (n m : Nat) (w : WF) (wa wk : WA) : WE := fun ρ P => wa ρ fun xs => wk ρ fun zs => xs.length = n ∧ zs.length = m ∧ w (xs ++ zs) P
theorem sim_makeK {n m : Nat} {w : WF} {sp : Sp} {ar tk : TA} {wr wk : WA} {E : XK} {C : Addr} {c : Cn} (mk : MkS K d c sp w) (ha : SimA K d ts ar wr) (hk : SimA K d ts tk wk) (hC : d c = C := by rfl) : Sim K d (rN K d) ts (tMakeK C n m sp (fun vs zs => vs ++ zs) E ar tk) (wMakeK n m w wr wk) := fun H0 F0 F H σ ρ Q P En hw k =>
  ha H0 F0 F H σ ρ _ _ En hw fun xs vs F1 H1 s1 r1 h1 => hk H0 F0 F1 H1 σ ρ _ _ (En.step s1) h1 fun zs us F2 H2 s2 r2 ⟨l1, l2, h2⟩ => by
    subst hC
    refine ⟨by rw [r1.length]; exact l1, by rw [r2.length]; exact l2, fun y dx ny nd ne => ?_⟩
    have := mk F2 H2 (vs ++ us) (xs ++ zs) Q P E s2.dm ((r1.step s2).append r2) h2 (fun x v F' H' s r nl p => k x v F' H' ((s1.trans s2).trans s) (.inl ⟨nl, r⟩) p) y dx ny nd ne
    rw [List.append_nil] at this
    exact this
/-! houses -/
def oP : Option Int → PV
  | none => .non
  | some i => .int i
abbrev oL (rs : List (Option Int)) : List PV := rs.map oP
theorem Rvs.opts : ∀ {vs : List V} {rs : List (Option Int)}, Rvs K d F H vs (oL rs) → vs = rs.map oV
  | [], [], _ => rfl
  | [], _ :: _, h => by cases h
  | _ :: _, [], h => by cases h
  | v :: vs, r :: rs, .cons a b => by
    have e : v = oV r := by
      cases r with
      | none => cases a; rfl
      | some i => cases a; rfl
    rw [List.map_cons, e, b.opts]
theorem Rvs.of_opts : ∀ (rs : List (Option Int)), Rvs K d F H (rs.map oV) (oL rs)
  | [] => .nil
  | none :: rs => .cons .non (Rvs.of_opts rs)
  | some i :: rs => .cons (.int i) (Rvs.of_opts rs)
def hsP (s ns : List Int) (rs : List (Option Int)) (ks : List Int) (ds : List (Option Int)) : PV := .ins .House [("own_clock", clkP s), ("own_needs", ndP ns), ("own_rooms", .tup (oL rs)), ("own_kept", .tup (iL ks)), ("own_doors", .tup (oL ds))]
theorem of_hs {s ns : List Int} {rs : List (Option Int)} {ks : List Int} {ds : List (Option Int)} (h : HsO K (d .Clock) (d .Needs) (d .House) H v s ns rs ks ds) : Rv K d F H v (hsP s ns rs ks ds) := by
  obtain ⟨p, dx, vc, vn, a, b, c, rfl, h1, h2, h3, h4, h5, h6⟩ := h
  exact .ins h1 (.cons (of_clk h2) (.cons (of_nd h3) (.cons (.tup h4 (Rvs.of_opts _)) (.cons (.tup h5 (Rvs.of_ints _)) (.cons (.tup h6 (Rvs.of_opts _)) .nil)))))
def seqO (x : PV) (rs : List (Option Int)) : Prop := x = .lst (oL rs) ∨ x = .tup (oL rs)
theorem Rv.seqO {x : PV} {rs : List (Option Int)} (h : Rv K d F H v x) (e : seqO x rs) : ∃ a, v = .ref a ∧ Sq K H a (rs.map oV) := by
  rcases e with rfl | rfl
  · cases h with
    | lst h1 h2 h3 =>
      cases h3.opts
      exact ⟨_, rfl, .inl (.inl (.inl h1))⟩
  · cases h with
    | tup h1 h3 =>
      cases h3.opts
      exact ⟨_, rfl, .inr h1⟩
def w_mkHouse : WF := fun xs P => ∃ (x y z : PV) (s ns : List Int) (rs : List (Option Int)) (ks : List Int) (ds : List (Option Int)), xs = [clkP s, ndP ns, x, y, z] ∧ seqO x rs ∧ seqP y ks ∧ seqO z ds ∧ GoodH s ns rs ks ds ∧ P (hsP s ns rs ks ds)
theorem mk_House : MkS K d .House (spHsInit K (d .Clock) (d .Needs) (d .House)) w_mkHouse := fun F H vs xs Q P E dm r ⟨x, y, z, s, ns, rs, ks, ds, ex, sx, sy, sz, g, p⟩ k => by
  subst ex
  cases r with
  | cons r1 r =>
    cases r with
    | cons r2 r =>
      obtain ⟨v3, v4, v5, rfl, r3, r4, r5⟩ := r.three
      obtain ⟨a, rfl, hA⟩ := r3.seqO sx
      obtain ⟨b, rfl, hB⟩ := r4.seq sy
      obtain ⟨c, rfl, hC⟩ := r5.seqO sz
      intro q dx nq nd ne
      exact ⟨H, q, dx, _, _, a, b, c, s, ns, rs, ks, ds, rfl, rfl, nq, nd, ne, clk_of r1 g.cs, nd_of r2 g.cn, hA, hB, hC, g, fun H' e o => ⟨rfl, k (hsP s ns rs ks ds) _ F H' (Step.to dm e) (of_hs o) trivial p⟩⟩
end
end Wx

/-! Tree programs reckoned with: comprehensions, loops, subscripts, equality of data. -/
namespace Wx
open PySem PySem.Spec PyProof.Rows L2 Evl Hn RZ
section
variable {wg : WG} {wt : WT} {we : WE} {ρ : List PV} {P : List PV → Prop} {α : Type}
/-- a comprehension whose items are F y of the ys that pass p -/
theorem lcl {ys : List α} {g : α → PV} {acc : List PV} (p : α → Bool) (F : α → PV)
    (h : ∀ y ∈ ys, ∀ (Kt : PV → Prop) (Kf : Prop), (p y = true → Kt (F y)) → (p y = false → Kf) → wg (g y) ρ fun ρ2 => wt ρ2 fun b => if b = true then we ρ2 Kt else Kf)
    (q : P (acc ++ (ys.filter p).map F)) : wLcL wg wt we ρ (ys.map g) acc P := by
  induction ys generalizing acc with
  | nil =>
    rw [List.filter_nil, List.map_nil, List.append_nil] at q
    exact q
  | cons y ys ih =>
    have ih' := fun acc q => ih (acc := acc) (fun z hz => h z (List.mem_cons_of_mem _ hz)) q
    refine h y List.mem_cons_self _ _ (fun py => ih' _ ?_) fun py => ih' _ ?_
    · rw [List.filter_cons, if_pos py, List.map_cons] at q
      rw [List.append_assoc]
      exact q
    · rw [List.filter_cons, if_neg (by rw [py]; exact Bool.false_ne_true)] at q
      exact q
/-- all items -/
theorem lcm {ys : List α} {g : α → PV} {acc : List PV} (F : α → PV)
    (h : ∀ y ∈ ys, ∀ (Kt : PV → Prop), Kt (F y) → wg (g y) ρ fun ρ2 => we ρ2 Kt) (q : P (acc ++ ys.map F)) : wLcL wg wTyes we ρ (ys.map g) acc P :=
  lcl (p := fun _ => true) F (fun y hy Kt Kf h1 _ => h y hy Kt (h1 rfl)) (by rw [List.filter_eq_self.mpr fun _ _ => rfl]; exact q)
/-- each item some one that R tells -/
theorem lca {xs : List PV} {acc : List PV} (R : PV → Prop)
    (h : ∀ x ∈ xs, ∀ (Kt : PV → Prop), (∀ z, R z → Kt z) → wg x ρ fun ρ2 => we ρ2 Kt) (q : ∀ zs : List PV, zs.length = xs.length → (∀ z ∈ zs, R z) → P (acc ++ zs)) : wLcL wg wTyes we ρ xs acc P := by
  induction xs generalizing acc with
  | nil =>
    have := q [] rfl (by simp)
    rw [List.append_nil] at this
    exact this
  | cons x xs ih =>
    refine h x List.mem_cons_self _ fun z hz => ih (fun y hy => h y (List.mem_cons_of_mem _ hy)) fun zs hl hr => ?_
    rw [List.append_assoc]
    refine q (z :: zs) (by rw [List.length_cons, List.length_cons, hl]) fun y hy => ?_
    rcases List.mem_cons.mp hy with rfl | hy
    · exact hz
    · exact hr y hy
theorem ints_pv {zs : List PV} {R : Int → Prop} (h : ∀ z ∈ zs, ∃ i, R i ∧ z = .int i) : ∃ ns : List Int, zs = iL ns ∧ ∀ i ∈ ns, R i := by
  induction zs with
  | nil => exact ⟨[], rfl, by simp⟩
  | cons z zs ih =>
    obtain ⟨ns, e, hr⟩ := ih fun y hy => h y (List.mem_cons_of_mem _ hy)
    obtain ⟨i, hi, rfl⟩ := h z List.mem_cons_self
    refine ⟨i :: ns, by rw [e]; rfl, fun j hj => ?_⟩
    rcases List.mem_cons.mp hj with rfl | hj
    · exact hi
    · exact hr j hj
/-- each item a drawn int -/
theorem lci {xs : List PV} {acc : List PV} (R : Int → Prop)
    (h : ∀ x ∈ xs, ∀ (Kt : PV → Prop), (∀ i : Int, R i → Kt (.int i)) → wg x ρ fun ρ2 => we ρ2 Kt) (q : ∀ ns : List Int, ns.length = xs.length → (∀ i ∈ ns, R i) → P (acc ++ iL ns)) : wLcL wg wTyes we ρ xs acc P :=
  lca (fun z => ∃ i, R i ∧ z = .int i) (fun x hx Kt hk => h x hx Kt fun i hi => hk _ ⟨i, hi, rfl⟩) fun zs hl hr => by
    obtain ⟨ns, rfl, h2⟩ := ints_pv hr
    exact q ns (by rw [← hl, List.length_map]) h2
/-- two fors -/
theorem lcb {ys : List α} {g : α → PV} {acc : List PV} (p : α → Bool) (F : α → PV) (hn : acc.length + ys.length ≤ 100000)
    (h : ∀ y ∈ ys, ∀ (Kt : PV → Prop) (Kf : Prop), (p y = true → Kt (F y)) → (p y = false → Kf) → wg (g y) ρ fun ρ2 => wt ρ2 fun b => if b = true then we ρ2 Kt else Kf)
    (q : P (acc ++ (ys.filter p).map F)) : wLcB wg wt we ρ (ys.map g) acc P := by
  induction ys generalizing acc with
  | nil =>
    rw [List.filter_nil, List.map_nil, List.append_nil] at q
    exact q
  | cons y ys ih =>
    rw [List.length_cons] at hn
    refine h y List.mem_cons_self _ _ (fun py => ⟨by omega, ih (by rw [List.length_append, List.length_singleton]; omega) (fun z hz => h z (List.mem_cons_of_mem _ hz)) ?_⟩) fun py => ih (by omega) (fun z hz => h z (List.mem_cons_of_mem _ hz)) ?_
    · rw [List.filter_cons, if_pos py, List.map_cons] at q
      rw [List.append_assoc]
      exact q
    · rw [List.filter_cons, if_neg (by rw [py]; exact Bool.false_ne_true)] at q
      exact q
end
/-! for -/
theorem forl {α : Type} {wg : WG} {w : WS} {D : WEnds} {ρ : List PV} {ys : List α} {g : α → PV} (I : Nat → List PV → Prop) (h0 : I 0 ρ)
    (hs : ∀ (i : Nat) (y : α) (ρ : List PV) (N : List PV → Prop), ys[i]? = some y → I i ρ → (∀ ρ', I (i + 1) ρ' → N ρ') → wg (g y) ρ fun ρ2 => w { D with nx := N, ct := N, bk := D.nx } ρ2)
    (hd : ∀ ρ, I ys.length ρ → D.nx ρ) : wForL wg w D (ys.map g) ρ := by
  have go : ∀ (zs : List α) (i : Nat) (ρ : List PV), ys.drop i = zs → i ≤ ys.length → I i ρ → wForL wg w D (zs.map g) ρ := by
    intro zs
    induction zs with
    | nil =>
      intro i ρ e hi h
      have : i = ys.length := by
        have := congrArg List.length e
        rw [List.length_drop, List.length_nil] at this
        omega
      subst this
      exact hd ρ h
    | cons z zs ih =>
      intro i ρ e hi h
      have hi2 : i < ys.length := by
        have := congrArg List.length e
        rw [List.length_drop, List.length_cons] at this
        omega
      rw [List.drop_eq_getElem_cons hi2] at e
      have ez : ys[i] = z := (List.cons.inj e).1
      have ezs := (List.cons.inj e).2
      refine hs i z ρ _ (by rw [List.getElem?_eq_getElem hi2, ez]) h fun ρ' h' => ih (i + 1) ρ' ezs hi2 h'
  exact go ys 0 ρ rfl (Nat.zero_le _) h0
/-- over values as they are -/
theorem forv {wg : WG} {w : WS} {D : WEnds} {ρ : List PV} {xs : List PV} (I : Nat → List PV → Prop) (h0 : I 0 ρ)
    (hs : ∀ (i : Nat) (x : PV) (ρ : List PV) (N : List PV → Prop), xs[i]? = some x → I i ρ → (∀ ρ', I (i + 1) ρ' → N ρ') → wg x ρ fun ρ2 => w { D with nx := N, ct := N, bk := D.nx } ρ2)
    (hd : ∀ ρ, I xs.length ρ → D.nx ρ) : wForL wg w D xs ρ := by
  have := forl (g := id) (ys := xs) I h0 hs hd
  rw [List.map_id] at this
  exact this
/-- range -/
theorem rangeP_eq (lo : Int) (n : Nat) : rangeP lo n = (List.range n).map fun (i : Nat) => PV.int (lo + (i : Int)) := rfl
theorem rangeP0 (n : Nat) : rangeP 0 n = (List.range n).map fun (i : Nat) => PV.int (i : Int) := by
  unfold rangeP
  refine List.map_congr_left fun i _ => ?_
  rw [Int.zero_add]
theorem forr {wg : WG} {w : WS} {D : WEnds} {ρ : List PV} {n : Nat} (I : Nat → List PV → Prop) (h0 : I 0 ρ)
    (hs : ∀ (i : Nat) (ρ : List PV) (N : List PV → Prop), i < n → I i ρ → (∀ ρ', I (i + 1) ρ' → N ρ') → wg (.int (i : Int)) ρ fun ρ2 => w { D with nx := N, ct := N, bk := D.nx } ρ2)
    (hd : ∀ ρ, I n ρ → D.nx ρ) : wForL wg w D (rangeP 0 n) ρ := by
  rw [rangeP0]
  refine forl I h0 (fun i y ρ N hy hI hN => ?_) fun ρ h => hd ρ (by rw [List.length_range] at h; exact h)
  obtain ⟨hi, e⟩ := List.getElem?_eq_some_iff.mp hy
  rw [List.length_range] at hi
  rw [List.getElem_range] at e
  subst e
  exact hs i ρ N hi hI hN
/-- while by an invariant with a measure -/
theorem whl {wt : WT} {w : WS} {D : WEnds} {ρ : List PV} (I : Nat → List PV → Prop) (m : Nat) (h0 : I m ρ)
    (hs : ∀ m ρ, I m ρ → wt ρ fun b => if b = true then w { D with nx := fun ρ' => ∃ m', m' < m ∧ I m' ρ', ct := fun ρ' => ∃ m', m' < m ∧ I m' ρ', bk := D.nx } ρ else D.nx ρ) : wWhile wt w D ρ := ⟨I, ⟨m, h0⟩, hs⟩
/-! subscripts -/
theorem at_iL {ns : List Int} {i : Int} (h0 : 0 ≤ i) (h1 : i < (ns.length : Int)) : L2.atI (iL ns) i = some (.int (ns.getD i.toNat 0)) := by
  obtain ⟨j, rfl⟩ : ∃ j : Nat, i = (j : Int) := ⟨i.toNat, by omega⟩
  have hj : j < ns.length := by omega
  refine atI_nat ?_
  rw [List.getElem?_map, List.getElem?_eq_getElem hj, Int.toNat_natCast, List.getD_eq_getElem?_getD, List.getElem?_eq_getElem hj]
  rfl
theorem ix_iL {ns : List Int} {i : Int} {P : PV → Prop} (h0 : 0 ≤ i) (h1 : i < (ns.length : Int)) (p : P (.int (ns.getD i.toNat 0))) : ∃ z, L2.atI (iL ns) i = some z ∧ P z := ⟨_, at_iL h0 h1, p⟩
theorem ix_cyc {ns : List Int} {i : Int} {P : PV → Prop} (h0 : 0 ≤ i) (h1 : i < (ns.length : Int)) (p : P (.int (cyc ns i))) : ∃ z, L2.atI (iL ns) i = some z ∧ P z := by
  refine ix_iL h0 h1 ?_
  have e : cyc ns i = ns.getD i.toNat 0 := by
    unfold cyc
    rw [Int.emod_eq_of_lt h0 h1]
  rw [← e]
  exact p
theorem ix_mod {ns : List Int} {i : Int} {P : PV → Prop} (h : 1 ≤ ns.length) (p : P (.int (cyc ns i))) : ∃ z, L2.atI (iL ns) (i % (ns.length : Int)) = some z ∧ P z := by
  have hb := mod_bd h i
  exact ix_iL hb.1 hb.2 p
theorem at_any {xs : List PV} {i : Int} (h0 : 0 ≤ i) (h1 : i < (xs.length : Int)) : L2.atI xs i = some (xs.getD i.toNat .non) := by
  obtain ⟨j, rfl⟩ : ∃ j : Nat, i = (j : Int) := ⟨i.toNat, by omega⟩
  have hj : j < xs.length := by omega
  refine atI_nat ?_
  rw [Int.toNat_natCast, List.getD_eq_getElem?_getD, List.getElem?_eq_getElem hj]
  rfl
theorem ix_any {xs : List PV} {i : Int} {P : PV → Prop} (h0 : 0 ≤ i) (h1 : i < (xs.length : Int)) (p : P (xs.getD i.toNat .non)) : ∃ z, L2.atI xs i = some z ∧ P z := ⟨_, at_any h0 h1, p⟩
/-! data -/
/-- data of weight at most w, of depth at most k -/
def PvD (x : PV) (w k : Nat) : Prop := ∃ e, toD x = some e ∧ Fine e w ∧ e.canLay0 = true ∧ e.depth ≤ k
theorem PvD.mono {x : PV} {w k w' k' : Nat} (h : PvD x w k) (hw : w ≤ w') (hk : k ≤ k') : PvD x w' k' :=
  let ⟨e, h1, h2, h3, h4⟩ := h
  ⟨e, h1, h2.mono hw, h3, Nat.le_trans h4 hk⟩
theorem pd_int {i : Int} (h : i.natAbs < 10 ^ 40) : PvD (.int i) 200 0 := ⟨.int i, by simp only [toD], fine_int h, rfl, Nat.le_refl _⟩
theorem pd_bl (b : Bool) : PvD (.bl b) 0 0 := ⟨.bool b, by simp only [toD], fine_bool b, rfl, Nat.le_refl _⟩
theorem pd_non : PvD .non 0 0 := ⟨.none, by simp only [toD], fine_none, rfl, Nat.le_refl _⟩
theorem pd_str {x : Str} {n : Nat} (h : Sml x n) : PvD (.str x) n 0 := ⟨.str x, by simp only [toD], fine_txt h, by
  simp only [PyData.canLay0]
  unfold PyData.strOk
  rw [Array.all_eq_true]
  intro i hi
  exact decide_eq_true (h.2 _ (by rw [← Array.getElem_toList]; exact List.getElem_mem _)), Nat.le_refl _⟩
theorem pd_all {w k : Nat} : ∀ {xs : List PV}, (∀ x ∈ xs, PvD x w k) → ∃ es, toDs xs = some es ∧ es.length = xs.length ∧ (∀ e ∈ es, Fine e w) ∧ PyData.canLayAll0 es = true ∧ PyData.depthAll es ≤ k
  | [], _ => ⟨[], by simp only [toDs], rfl, by simp, rfl, Nat.zero_le _⟩
  | x :: xs, h => by
    obtain ⟨e, h1, h2, h3, h4⟩ := h x List.mem_cons_self
    obtain ⟨es, g1, g2, g3, g4, g5⟩ := pd_all fun y hy => h y (List.mem_cons_of_mem _ hy)
    refine ⟨e :: es, by simp only [toDs, h1, g1], by rw [List.length_cons, List.length_cons, g2], fun z hz => ?_, ?_, ?_⟩
    · rcases List.mem_cons.mp hz with rfl | hz
      · exact h2
      · exact g3 z hz
    · simp only [PyData.canLayAll0, h3, g4, Bool.and_self]
    · simp only [PyData.depthAll]
      omega
theorem pd_lst {w k n : Nat} {xs : List PV} (h : ∀ x ∈ xs, PvD x w k) (hn : xs.length ≤ n) : PvD (.lst xs) (n * (w + 1)) (k + 1) := by
  obtain ⟨es, g1, g2, g3, g4, g5⟩ := pd_all h
  refine ⟨.list es, by simp only [toD, g1, Option.map_some], fine_list g3 (by rw [g2]; exact hn), by simp only [PyData.canLay0]; exact g4, ?_⟩
  simp only [PyData.depth]
  omega
theorem pd_tup {w k n : Nat} {xs : List PV} (h : ∀ x ∈ xs, PvD x w k) (hn : xs.length ≤ n) : PvD (.tup xs) (n * (w + 1)) (k + 1) := by
  obtain ⟨es, g1, g2, g3, g4, g5⟩ := pd_all h
  refine ⟨.tuple es, by simp only [toD, g1, Option.map_some], fine_tuple g3 (by rw [g2]; exact hn), by simp only [PyData.canLay0]; exact g4, ?_⟩
  simp only [PyData.depth]
  omega
theorem pd_iL {ns : List Int} {n : Nat} (h : ∀ z ∈ ns, z.natAbs < 10 ^ 40) (hn : ns.length ≤ n) : PvD (.lst (iL ns)) (n * 201) 1 :=
  pd_lst (fun x hx => by
    obtain ⟨z, hz, rfl⟩ := List.mem_map.mp hx
    exact pd_int (h z hz)) (by rw [List.length_map]; exact hn)
theorem PvD.shaped {x : PV} {w k : Nat} (h : PvD x w k) (hk : k ≤ 64) : ∃ e, toD x = some e ∧ SeqAt.shaped e = true ∧ Fine e w := by
  obtain ⟨e, h1, h2, h3, h4⟩ := h
  refine ⟨e, h1, ?_, h2⟩
  unfold SeqAt.shaped
  rw [h3, decide_eq_true (by omega : e.depth ≤ 64)]
  rfl
/-- the same data are alike -/
theorem eq_same {x : PV} {w k : Nat} {P : PV → Prop} (h : PvD x w k) (hk : k ≤ 64) (p : P (.bl true)) : wEqD false x x P := by
  obtain ⟨e, h1, h2, h3⟩ := h.shaped hk
  refine ⟨e, e, h1, h1, h2, h2, ?_⟩
  have q := SeqAt.eqv_refl e (SeqAt.canLay_of_shaped h2)
  simp only [q]
  exact p
theorem ne_same {x : PV} {w k : Nat} {P : PV → Prop} (h : PvD x w k) (hk : k ≤ 64) (p : P (.bl false)) : wEqD true x x P := by
  obtain ⟨e, h1, h2, h3⟩ := h.shaped hk
  refine ⟨e, e, h1, h1, h2, h2, ?_⟩
  have q := SeqAt.eqv_refl e (SeqAt.canLay_of_shaped h2)
  simp only [q]
  exact p
/-- the text of data -/
def shP (x : PV) : Str := match toD x with
  | some e => e.shown
  | none => ""
theorem repr_of {x : PV} {w k : Nat} {P : PV → Prop} (h : PvD x w k) (hw : w ≤ 300000) (hk : k ≤ 64) (p : P (.str (shP x))) : wRepr [x] P := by
  obtain ⟨e, h1, h2, h3, h4⟩ := h
  refine ⟨x, e, rfl, h1, h2.sh, h2.nd, Nat.le_trans h4 hk, h2.len hw, ?_⟩
  unfold shP at p
  rw [h1] at p
  exact p
theorem at0 {α : Type} {x : α} {xs : List α} : L2.atI (x :: xs) 0 = some x := by
  refine atI_nat (j := 0) ?_
  rfl
theorem at1 {α : Type} {x y : α} {xs : List α} : L2.atI (x :: y :: xs) 1 = some y := by
  refine atI_nat (j := 1) ?_
  rfl
theorem at2 {α : Type} {x y z : α} {xs : List α} : L2.atI (x :: y :: z :: xs) 2 = some z := by
  refine atI_nat (j := 2) ?_
  rfl
theorem at3 {α : Type} {x y z u : α} {xs : List α} : L2.atI (x :: y :: z :: u :: xs) 3 = some u := by
  refine atI_nat (j := 3) ?_
  rfl
theorem at4 {α : Type} {x y z u v : α} {xs : List α} : L2.atI (x :: y :: z :: u :: v :: xs) 4 = some v := by
  refine atI_nat (j := 4) ?_
  rfl
theorem flat_strs : ∀ xs : List Str, flatPs (xs.map PV.str) = some (xs.map V.str)
  | [] => rfl
  | x :: xs => by
    rw [List.map_cons, List.map_cons]
    simp only [flatPs, flatP, flat_strs xs]
theorem inV_str {x : Str} : ∀ xs : List Str, inV (.str x) (xs.map V.str) = xs.any fun y => y == x
  | [] => rfl
  | y :: xs => by
    have := inV_str (x := x) xs
    unfold inV at this ⊢
    rw [List.map_cons, List.any_cons, List.any_cons, this]
    rfl
/-- a text among texts -/
theorem in_strs {neg : Bool} {x : Str} {xs : List Str} {P : PV → Prop} (p : P (.bl (if neg then !xs.any (fun y => y == x) else xs.any fun y => y == x))) : wIn neg (.str x) (.tup (xs.map PV.str)) P := by
  refine .inl ⟨.str x, _, _, rfl, .inr rfl, flat_strs xs, ?_⟩
  rw [inV_str]
  exact p
theorem in_strsL {neg : Bool} {x : Str} {xs : List Str} {P : PV → Prop} (p : P (.bl (if neg then !xs.any (fun y => y == x) else xs.any fun y => y == x))) : wIn neg (.str x) (.lst (xs.map PV.str)) P := by
  refine .inl ⟨.str x, _, _, rfl, .inl rfl, flat_strs xs, ?_⟩
  rw [inV_str]
  exact p
theorem eqv_nil {es : List PyData} : PyData.eqv (.list es) (.list []) = es.isEmpty := by
  cases es <;> rfl
theorem eq_nil {xs : List PV} {w k : Nat} {P : PV → Prop} (h : PvD (.lst xs) w k) (hk : k ≤ 64) (p : P (.bl xs.isEmpty)) : wEqD false (.lst xs) (.lst []) P := by
  obtain ⟨e, h1, h2, h3⟩ := h.shaped hk
  obtain ⟨e', h1', h2', h3'⟩ := (pd_lst (w := 0) (k := 0) (n := 0) (xs := []) (by simp) (Nat.le_refl _)).shaped (by decide)
  refine ⟨e, e', h1, h1', h2, h2', ?_⟩
  simp only [toD] at h1 h1'
  cases hx : toDs xs with
  | none => rw [hx] at h1; cases h1
  | some es =>
    rw [hx] at h1
    cases h1
    cases h1'
    rw [if_neg Bool.false_ne_true, eqv_nil]
    rw [show es.isEmpty = xs.isEmpty from by
      cases xs with
      | nil => simp only [toDs] at hx; cases hx; rfl
      | cons x xs =>
        cases es with
        | nil =>
          simp only [toDs] at hx
          split at hx
          · cases hx
          · cases hx
        | cons e es => rfl]
    exact p
theorem ne_nil {xs : List PV} {w k : Nat} {P : PV → Prop} (h : PvD (.lst xs) w k) (hk : k ≤ 64) (p : P (.bl !xs.isEmpty)) : wEqD true (.lst xs) (.lst []) P := by
  obtain ⟨a, b, h1, h2, h3, h4, h5⟩ := eq_nil (P := fun x => x = .bl xs.isEmpty) h hk rfl
  refine ⟨a, b, h1, h2, h3, h4, ?_⟩
  rw [if_neg Bool.false_ne_true] at h5
  rw [if_pos rfl, PV.bl.inj h5]
  exact p
theorem all_of {α : Type} {ys : List α} {f : α → Bool} {P : PV → Prop} (p : P (.bl (ys.all f))) : wAll [.lst (ys.map fun y => .bl (f y))] P := by
  refine ⟨ys.map f, by rw [List.map_map]; rfl, ?_⟩
  rw [List.all_map]
  exact p
theorem all_true {α : Type} {ys : List α} {P : PV → Prop} (p : P (.bl true)) : wAll [.lst (ys.map fun _ => .bl true)] P :=
  all_of (f := fun _ => true) (by rw [show (ys.all fun _ => true) = true from List.all_eq_true.mpr fun _ _ => rfl]; exact p)
theorem sum_of {α : Type} {ys : List α} {f : α → Int} {P : PV → Prop} (p : P (.int (ys.map f).sum)) : wSum [.lst (ys.map fun y => .int (f y))] P :=
  ⟨ys.map f, .inl (by rw [List.map_map]; rfl), p⟩
theorem cut_tl {xs : List PV} : cutP xs (some 1) none = xs.drop 1 := by
  unfold cutP
  have e : HT.sIx xs.length 0 (some ((1 : Nat) : Int)) = min 1 xs.length := HT.sIx_nat xs.length 0 1
  rw [HT.sIx_none, show (some (1 : Int)) = some ((1 : Nat) : Int) from rfl, e, List.take_of_length_le (by rw [List.length_drop]; exact Nat.le_refl _)]
  rcases Nat.lt_or_ge xs.length 1 with h | h
  · rw [List.length_eq_zero_iff.mp (by omega : xs.length = 0)]
    rfl
  · rw [Nat.min_eq_left h]
theorem cut_hd {xs : List PV} : cutP xs none (some 1) = xs.take 1 := by
  unfold cutP
  have e : HT.sIx xs.length xs.length (some ((1 : Nat) : Int)) = min 1 xs.length := HT.sIx_nat xs.length xs.length 1
  rw [HT.sIx_none, show (some (1 : Int)) = some ((1 : Nat) : Int) from rfl, e, List.drop_zero, Nat.sub_zero]
  rcases Nat.lt_or_ge xs.length 1 with h | h
  · rw [List.length_eq_zero_iff.mp (by omega : xs.length = 0)]
    rfl
  · rw [Nat.min_eq_left h]
/-- round and round -/
def cyL {α : Type} (d : α) (xs : List α) (i : Int) : α := xs.getD (i % (xs.length : Int)).toNat d
theorem cyL_mod {α : Type} {d : α} {xs : List α} {i : Int} : cyL d xs (i % (xs.length : Int)) = cyL d xs i := by
  unfold cyL
  rw [Int.emod_emod_of_dvd _ (Int.dvd_refl _)]
theorem cyL_add {α : Type} {d : α} {xs : List α} {i : Int} : cyL d xs (i + (xs.length : Int)) = cyL d xs i := by
  unfold cyL
  rw [Int.add_emod_right]
theorem cyL_get {α : Type} {d : α} {xs : List α} {i : Nat} (h : i < xs.length) : cyL d xs (i : Int) = xs[i] := by
  unfold cyL
  rw [Int.emod_eq_of_lt (by omega) (by omega), Int.toNat_natCast, List.getD_eq_getElem?_getD, List.getElem?_eq_getElem h]
  rfl
theorem cyL_get? {α : Type} {d : α} {xs : List α} {i : Nat} (h : i < xs.length) : xs[i]? = some (cyL d xs (i : Int)) := by
  rw [cyL_get h, List.getElem?_eq_getElem h]
theorem cyL_mem {α : Type} {d : α} {xs : List α} (h : 1 ≤ xs.length) (i : Int) : cyL d xs i ∈ xs := by
  unfold cyL
  have := mod_bd h i
  rw [List.getD_eq_getElem?_getD, List.getElem?_eq_getElem (by omega)]
  exact List.getElem_mem _
theorem cyL_all {α : Type} {d : α} {xs : List α} {R : α → Prop} (h : ∀ x ∈ xs, R x) (h1 : 1 ≤ xs.length) (i : Int) : R (cyL d xs i) := h _ (cyL_mem h1 i)
theorem at_cyL {α : Type} {d : α} {f : α → PV} {xs : List α} {i : Int} (h0 : - (xs.length : Int) ≤ i) (h1 : i < (xs.length : Int)) : L2.atI (xs.map f) i = some (f (cyL d xs i)) := by
  have key : ∀ j : Nat, j < xs.length → (xs.map f)[j]? = some (f (cyL d xs (j : Int))) := fun j hj => by
    rw [List.getElem?_map, cyL_get? (d := d) hj]
    rfl
  rcases Int.lt_or_le i 0 with h | h
  · unfold L2.atI ixN
    rw [List.length_map, if_neg (by omega), if_pos h0]
    show (xs.map f)[(i + (xs.length : Int)).toNat]? = _
    rw [key _ (by omega), show ((i + (xs.length : Int)).toNat : Int) = i + (xs.length : Int) from by omega, cyL_add]
  · obtain ⟨j, rfl⟩ : ∃ j : Nat, i = (j : Int) := ⟨i.toNat, by omega⟩
    exact atI_nat (key j (by omega))
/-- side by side with the next -/
theorem zip_nx {α : Type} {d : α} {f : α → PV} {xs : List α} (h : 1 ≤ xs.length) : zipP (xs.map f) (cutP (xs.map f) (some 1) none ++ cutP (xs.map f) none (some 1)) = (List.range xs.length).map fun (i : Nat) => .tup [f (cyL d xs (i : Int)), f (cyL d xs ((i : Int) + 1))] := by
  rw [cut_tl, cut_hd]
  unfold zipP
  rw [show min (xs.map f).length ((xs.map f).drop 1 ++ (xs.map f).take 1).length = xs.length from by
    rw [List.length_append, List.length_drop, List.length_take, List.length_map]; omega]
  refine List.map_congr_left fun i hi => ?_
  have hi := List.mem_range.mp hi
  rw [List.getD_eq_getElem?_getD, List.getElem?_map, cyL_get? (d := d) hi]
  rw [List.getD_eq_getElem?_getD, List.getElem?_append, List.length_drop, List.length_map]
  congr 3
  split
  · next hh =>
    rw [List.getElem?_drop, List.getElem?_map, cyL_get? (d := d) (by omega : 1 + i < xs.length), show ((1 + i : Nat) : Int) = (i : Int) + 1 from by omega]
    rfl
  · next hh =>
    have e : i + 1 = xs.length := by omega
    rw [show i - (xs.length - 1) = 0 from by omega, List.getElem?_take_of_lt (by omega), List.getElem?_map, cyL_get? (d := d) (by omega : 0 < xs.length), show (i : Int) + 1 = ((0 : Nat) : Int) + (xs.length : Int) from by omega, cyL_add]
    rfl
theorem cut_m1 {xs : List PV} (h : 1 ≤ xs.length) : cutP xs (some (-1)) none = xs.drop (xs.length - 1) := by
  unfold cutP
  have e : HT.sIx xs.length 0 (some (-1)) = xs.length - 1 := by
    unfold HT.sIx
    simp only
    rw [if_pos (by decide)]
    omega
  rw [HT.sIx_none, e, List.take_of_length_le (by rw [List.length_drop]; exact Nat.le_refl _)]
theorem cut_im1 {xs : List PV} (h : 1 ≤ xs.length) : cutP xs none (some (-1)) = xs.take (xs.length - 1) := by
  unfold cutP
  have e : HT.sIx xs.length xs.length (some (-1)) = xs.length - 1 := by
    unfold HT.sIx
    simp only
    rw [if_pos (by decide)]
    omega
  rw [HT.sIx_none, e, List.drop_zero, Nat.sub_zero]
/-- side by side with the one ahead -/
theorem zip_pv {α : Type} {d : α} {f : α → PV} {xs : List α} (h : 1 ≤ xs.length) : zipP (cutP (xs.map f) (some (-1)) none ++ cutP (xs.map f) none (some (-1))) (xs.map f) = (List.range xs.length).map fun (i : Nat) => .tup [f (cyL d xs ((i : Int) - 1)), f (cyL d xs (i : Int))] := by
  rw [cut_m1 (by rw [List.length_map]; exact h), cut_im1 (by rw [List.length_map]; exact h), List.length_map]
  unfold zipP
  rw [show min ((xs.map f).drop (xs.length - 1) ++ (xs.map f).take (xs.length - 1)).length (xs.map f).length = xs.length from by
    rw [List.length_append, List.length_drop, List.length_take, List.length_map]; omega]
  refine List.map_congr_left fun i hi => ?_
  have hi := List.mem_range.mp hi
  rw [List.getD_eq_getElem?_getD (l := xs.map f), List.getElem?_map, cyL_get? (d := d) hi]
  rw [List.getD_eq_getElem?_getD, List.getElem?_append, List.length_drop, List.length_map]
  congr 3
  split
  · next hh =>
    have : i = 0 := by omega
    subst this
    rw [List.getElem?_drop, Nat.add_zero, List.getElem?_map, cyL_get? (d := d) (by omega : xs.length - 1 < xs.length), ← cyL_add (i := ((0 : Nat) : Int) - 1), show ((0 : Nat) : Int) - 1 + (xs.length : Int) = ((xs.length - 1 : Nat) : Int) from by omega]
    rfl
  · next hh =>
    rw [show i - (xs.length - (xs.length - 1)) = i - 1 from by omega, List.getElem?_take_of_lt (by omega), List.getElem?_map, cyL_get? (d := d) (by omega : i - 1 < xs.length), show ((i - 1 : Nat) : Int) = (i : Int) - 1 from by omega]
    rfl
end Wx

/-! Houses, their steps and ways, plainly. -/
namespace Wx
open PySem PySem.Spec PyProof.Rows L2 Evl Hn RZ
/-- the words of steps -/
inductive Wd where
  | need | room | keep | door
  deriving DecidableEq
def Wd.s : Wd → Str
  | .need => "need"
  | .room => "room"
  | .keep => "keep"
  | .door => "door"
/-- does it lead on (else back) -/
def Wd.on : Wd → Bool
  | .need => true
  | .keep => true
  | _ => false
structure Hs where
  s : List Int
  ns : List Int
  rs : List (Option Int)
  ks : List Int
  ds : List (Option Int)
abbrev Hs.p (X : Hs) : PV := hsP X.s X.ns X.rs X.ks X.ds
abbrev Hs.w (X : Hs) : PV := .tup [.lst (iL X.s), .lst (iL X.ns), .lst (oL X.rs), .lst (iL X.ks), .lst (oL X.ds)]
abbrev Hs.ok (X : Hs) : Prop := GoodH X.s X.ns X.rs X.ks X.ds
abbrev Hs.n (X : Hs) : Int := (X.s.length : Int)
theorem Hs.ok.pos {X : Hs} (g : X.ok) : 0 < X.n := by have := g.cs.ne; show (0 : Int) < (X.s.length : Int); omega
theorem Hs.ok.le {X : Hs} (g : X.ok) : X.n ≤ 48 := by have := g.cs.le; show (X.s.length : Int) ≤ 48; omega
def cyo (rs : List (Option Int)) (i : Int) : Option Int := rs.getD (i % (rs.length : Int)).toNat none
/-- a house's limit -/
def Hs.lim (X : Hs) : Wd → Int → Option Int
  | .need, h => some (cyc X.ns h)
  | .room, h => cyo X.rs h
  | .keep, h => some (cyc X.ks h)
  | .door, h => cyo X.ds h
/-- a step's hours: the mark ahead of them, how many -/
def Hs.fst (X : Hs) (w : Wd) (h : Int) : Int := match w with
  | .keep => h
  | .door => h
  | _ => (h - wd X.s h + 1) % X.n
def Hs.len (X : Hs) (w : Wd) (h : Int) : Int := match w with
  | .keep => 1
  | .door => 1
  | _ => wd X.s h
abbrev Stp4 := Wd × Int
/-- the marks, the length, the value of a step -/
def Hs.a (X : Hs) (t : Stp4) : Int := if t.1.on = true then X.fst t.1 t.2 else (X.fst t.1 t.2 + X.len t.1 t.2) % X.n
def Hs.b (X : Hs) (t : Stp4) : Int := if t.1.on = true then (X.fst t.1 t.2 + X.len t.1 t.2) % X.n else X.fst t.1 t.2
def Hs.l (X : Hs) (t : Stp4) : Int := if t.1.on = true then X.len t.1 t.2 else - X.len t.1 t.2
def Hs.v (X : Hs) (t : Stp4) : Int := if t.1.on = true then (X.lim t.1 t.2).getD 0 else - (X.lim t.1 t.2).getD 0
/-- a step of the house -/
def Hs.st (X : Hs) (t : Stp4) : Prop := 0 ≤ t.2 ∧ t.2 < X.n ∧ (X.lim t.1 t.2).isSome = true
def stP (t : Stp4) : PV := .tup [.str t.1.s, .int t.2]
abbrev stL (ts : List Stp4) : List PV := ts.map stP
abbrev cyS (ts : List Stp4) (i : Int) : Stp4 := cyL (.keep, 0) ts i
/-- one behind the other, and round -/
def Hs.Joins (X : Hs) (ts : List Stp4) : Prop := ∀ i : Int, X.b (cyS ts i) = X.a (cyS ts (i + 1))
noncomputable instance (X : Hs) (ts : List Stp4) : Decidable (X.Joins ts) := Classical.propDecidable _
noncomputable def Hs.joins (X : Hs) (ts : List Stp4) : Bool := decide (X.Joins ts)
theorem Hs.ok.div {X : Hs} (g : X.ok) (i : Int) : CDivW i X.n := by
  have h0 := g.pos
  have h1 := g.le
  refine ⟨h0, ?_⟩
  have : X.n.natAbs.log2 ≤ X.n.natAbs := Nat.log2_le_self _
  omega
theorem joins_up {X : Hs} {ts : List Stp4} (h : 1 ≤ ts.length) : ((List.range ts.length).all fun (i : Nat) => decide (X.b (cyS ts (i : Int)) = X.a (cyS ts ((i : Int) + 1)))) = X.joins ts := by
  unfold Hs.joins
  rw [Bool.eq_iff_iff, List.all_eq_true, decide_eq_true_eq]
  constructor
  · intro q i
    have hb := mod_bd h i
    have := of_decide_eq_true (q (i % (ts.length : Int)).toNat (List.mem_range.mpr (by omega)))
    rw [show (((i % (ts.length : Int)).toNat : Nat) : Int) = i % (ts.length : Int) from by omega] at this
    unfold cyS at this ⊢
    rw [cyL_mod] at this
    rw [this]
    rw [← cyL_mod (i := i % (ts.length : Int) + 1), Int.emod_add_emod, cyL_mod]
  · intro q i _
    exact decide_eq_true (q i)
theorem joins_dn {X : Hs} {ts : List Stp4} (h : 1 ≤ ts.length) : ((List.range ts.length).all fun (i : Nat) => decide (X.b (cyS ts ((i : Int) - 1)) = X.a (cyS ts (i : Int)))) = X.joins ts := by
  unfold Hs.joins
  rw [Bool.eq_iff_iff, List.all_eq_true, decide_eq_true_eq]
  constructor
  · intro q i
    have hb := mod_bd h (i + 1)
    have := of_decide_eq_true (q ((i + 1) % (ts.length : Int)).toNat (List.mem_range.mpr (by omega)))
    rw [show ((((i + 1) % (ts.length : Int)).toNat : Nat) : Int) = (i + 1) % (ts.length : Int) from by omega] at this
    unfold cyS at this ⊢
    rw [cyL_mod] at this
    rw [← this, ← cyL_mod (i := (i + 1) % (ts.length : Int) - 1), Int.emod_sub_emod, cyL_mod, show i + 1 - 1 = i from by omega]
  · intro q i _
    refine decide_eq_true ?_
    have := q ((i : Int) - 1)
    rw [show (i : Int) - 1 + 1 = i from by omega] at this
    exact this
def Hs.trn (X : Hs) (ts : List Stp4) : Int := (ts.map X.l).sum / X.n
def Hs.val (X : Hs) (ts : List Stp4) : Int := (ts.map X.v).sum
theorem Wd.s_inj {a b : Wd} : a.s = b.s ↔ a = b := by
  cases a <;> cases b <;> simp <;> decide +kernel
theorem sml_wd (w : Wd) : Sml w.s 4 := by
  cases w <;> exact sml_str _ (by decide +kernel)
theorem pd_stP {t : Stp4} (h : t.2.natAbs < 10 ^ 40) : PvD (stP t) 402 1 := (pd_tup (n := 2) (w := 200) (k := 0) (fun x hx => by
  rcases List.mem_cons.mp hx with rfl | hx
  · exact (pd_str (sml_wd t.1)).mono (by decide) (Nat.le_refl _)
  · rw [List.mem_singleton.mp hx]
    exact pd_int h) (Nat.le_refl _))
theorem pd_stL {ts : List Stp4} {n : Nat} (h : ∀ t ∈ ts, t.2.natAbs < 10 ^ 40) (hn : ts.length ≤ n) : PvD (.lst (stL ts)) (n * 403) 2 :=
  pd_lst (fun x hx => by
    obtain ⟨z, hz, rfl⟩ := List.mem_map.mp hx
    exact pd_stP (h z hz)) (by rw [List.length_map]; exact hn)
theorem cyo_lt {rs : List (Option Int)} {h : Int} (h0 : 0 ≤ h) (h1 : h < (rs.length : Int)) : cyo rs h = rs.getD h.toNat none := by
  unfold cyo
  rw [Int.emod_eq_of_lt h0 h1]
theorem at_oL {rs : List (Option Int)} {h : Int} (h0 : 0 ≤ h) (h1 : h < (rs.length : Int)) : L2.atI (oL rs) h = some (oP (cyo rs h)) := by
  rw [cyo_lt h0 h1]
  obtain ⟨j, rfl⟩ : ∃ j : Nat, h = (j : Int) := ⟨h.toNat, by omega⟩
  have hj : j < rs.length := by omega
  refine atI_nat ?_
  rw [List.getElem?_map, List.getElem?_eq_getElem hj, Int.toNat_natCast, List.getD_eq_getElem?_getD, List.getElem?_eq_getElem hj]
  rfl
theorem ix_oL {rs : List (Option Int)} {h : Int} {P : PV → Prop} (h0 : 0 ≤ h) (h1 : h < (rs.length : Int)) (p : P (oP (cyo rs h))) : ∃ z, L2.atI (oL rs) h = some z ∧ P z := ⟨_, at_oL h0 h1, p⟩
theorem fst_bd {X : Hs} (g : X.ok) {w : Wd} {h : Int} (h0 : 0 ≤ h) (h1 : h < X.n) : 0 ≤ X.fst w h ∧ X.fst w h < X.n := by
  have := mod_bd g.cs.ne (h - wd X.s h + 1)
  cases w <;> simp only [Hs.fst] <;> first | exact ⟨h0, h1⟩ | exact this
theorem isN_oP {r : Option Int} : isN (oP r) = !r.isSome := by cases r <;> rfl
theorem wd_in (w : Wd) {P : PV → Prop} (p : P (.bl false)) : wIn true (.str w.s) (.tup [.str "need", .str "room", .str "keep", .str "door"]) P := by
  refine in_strs (xs := ["need", "room", "keep", "door"]) ?_
  rw [if_pos rfl, show (([("need" : Str), "room", "keep", "door"]).any fun y => y == w.s) = true from by cases w <;> decide +kernel]
  exact p
def Wd.kd : Wd → Bool
  | .keep => true
  | .door => true
  | _ => false
theorem wd_kd (w : Wd) {P : PV → Prop} (p : P (.bl w.kd)) : wIn false (.str w.s) (.tup [.str "keep", .str "door"]) P := by
  refine in_strs (xs := ["keep", "door"]) ?_
  rw [if_neg Bool.false_ne_true, show (([("keep" : Str), "door"]).any fun y => y == w.s) = w.kd from by cases w <;> decide +kernel]
  exact p
theorem wd_nk (w : Wd) {P : PV → Prop} (p : P (.bl w.on)) : wIn false (.str w.s) (.tup [.str "need", .str "keep"]) P := by
  refine in_strs (xs := ["need", "keep"]) ?_
  rw [if_neg Bool.false_ne_true, show (([("need" : Str), "keep"]).any fun y => y == w.s) = w.on from by cases w <;> decide +kernel]
  exact p
theorem b_need (X : Hs) (h : Int) : ((h - wd X.s h + 1) % X.n + wd X.s h) % X.n = (h + 1) % X.n := by
  rw [Int.emod_add_emod]
  congr 1
  omega
/-- one step behind the other: from mark a to mark z -/
def Hs.run (X : Hs) : Int → List Stp4 → Int → Prop
  | a, [], z => a = z
  | a, t :: r, z => X.a t = a ∧ X.run (X.b t) r z
theorem run_app {X : Hs} {ts us : List Stp4} {a m z : Int} (h1 : X.run a ts m) (h2 : X.run m us z) : X.run a (ts ++ us) z := by
  induction ts generalizing a with
  | nil => cases (show a = m from h1); exact h2
  | cons t r ih => exact ⟨h1.1, ih h1.2⟩
def Hs.mark (X : Hs) : Int → List Stp4 → Nat → Int
  | a, _, 0 => a
  | a, [], _ + 1 => a
  | _, t :: r, i + 1 => X.mark (X.b t) r i
theorem run_get {X : Hs} : ∀ {ts : List Stp4} {a z : Int}, X.run a ts z → X.mark a ts ts.length = z ∧ ∀ (i : Nat) (h : i < ts.length), X.a ts[i] = X.mark a ts i ∧ X.b ts[i] = X.mark a ts (i + 1)
  | [], a, z, h => ⟨h, fun i hi => absurd hi (Nat.not_lt_zero _)⟩
  | t :: r, a, z, h => by
    obtain ⟨h3, h4⟩ := run_get h.2
    refine ⟨h3, fun i hi => ?_⟩
    cases i with
    | zero =>
      refine ⟨h.1, ?_⟩
      cases r <;> rfl
    | succ i => exact h4 i (by rw [List.length_cons] at hi; omega)
theorem run_joins {X : Hs} {ts : List Stp4} {m : Int} (h : X.run m ts m) (h1 : 1 ≤ ts.length) : X.joins ts = true := by
  obtain ⟨h3, h4⟩ := run_get h
  refine decide_eq_true fun i => ?_
  have hb := mod_bd h1 i
  obtain ⟨j, hj⟩ : ∃ j : Nat, i % (ts.length : Int) = (j : Int) := ⟨(i % (ts.length : Int)).toNat, by omega⟩
  have e1 : cyS ts i = cyS ts (j : Int) := by
    unfold cyS
    rw [← cyL_mod, hj]
  have e2 : cyS ts (i + 1) = cyS ts ((j : Int) + 1) := by
    unfold cyS
    rw [← cyL_mod, ← Int.emod_add_emod, hj, cyL_mod]
  have hj' : j < ts.length := by omega
  rw [e1, e2, cyS, cyL_get hj', (h4 j hj').2]
  rcases Nat.lt_or_ge (j + 1) ts.length with q | q
  · rw [show ((j : Int) + 1) = ((j + 1 : Nat) : Int) from by omega, cyS, cyL_get q, (h4 _ q).1]
  · have e : j + 1 = ts.length := by omega
    rw [show ((j : Int) + 1) = ((0 : Nat) : Int) + (ts.length : Int) from by omega, cyS, cyL_add, cyL_get (by omega), (h4 0 (by omega)).1, e, h3]
    cases ts <;> rfl
/-- from the hour p round to the need at h: the keeps between, then the need -/
def Hs.seg (X : Hs) (p h : Int) : List Stp4 := ((List.range ((h - wd X.s h - p) % X.n).toNat).map fun (k : Nat) => (Wd.keep, (p + 1 + (k : Int)) % X.n)) ++ [(Wd.need, h)]
def Hs.segs (X : Hs) : Int → List Int → List Stp4
  | _, [] => []
  | p, h :: r => X.seg p h ++ X.segs h r
theorem run_keeps (X : Hs) (p : Int) (m : Nat) : X.run ((p + 1) % X.n) ((List.range m).map fun (k : Nat) => (Wd.keep, (p + 1 + (k : Int)) % X.n)) ((p + 1 + (m : Int)) % X.n) := by
  induction m with
  | zero =>
    show (p + 1) % X.n = _
    congr 1
    omega
  | succ m ih =>
    rw [List.range_succ, List.map_append]
    refine run_app ih ⟨rfl, ?_⟩
    show ((p + 1 + (m : Int)) % X.n + 1) % X.n = _
    rw [Int.emod_add_emod]
    congr 1
    omega
theorem run_seg {X : Hs} (g : X.ok) (p h : Int) : X.run ((p + 1) % X.n) (X.seg p h) ((h + 1) % X.n) := by
  refine run_app (run_keeps X p _) ⟨?_, ?_⟩
  · show (h - wd X.s h + 1) % X.n = _
    have := mod_bd g.cs.ne (h - wd X.s h - p)
    rw [show ((((h - wd X.s h - p) % X.n).toNat : Nat) : Int) = (h - wd X.s h - p) % X.n from Int.toNat_of_nonneg this.1, Int.add_emod_emod]
    congr 1
    omega
  · exact b_need X h
theorem run_segs {X : Hs} (g : X.ok) : ∀ (r : List Int) (p : Int), X.run ((p + 1) % X.n) (X.segs p r) ((lastH p r + 1) % X.n)
  | [], p => rfl
  | h :: r, p => run_app (run_seg g p h) (run_segs g r h)
theorem sum_seg {X : Hs} (g : X.ok) (p h : Int) : ((X.seg p h).map X.l).sum = stp X.s p h := by
  unfold Hs.seg
  have := mod_bd g.cs.ne (h - wd X.s h - p)
  rw [List.map_append, List.sum_append, List.map_map]
  have e : ∀ m : Nat, ((List.range m).map (X.l ∘ fun (k : Nat) => (Wd.keep, (p + 1 + (k : Int)) % X.n))).sum = (m : Int) := fun m => by
    induction m with
    | zero => rfl
    | succ m ih =>
      rw [List.range_succ, List.map_append, List.sum_append, ih]
      rfl
  rw [e]
  show _ + (wd X.s h + 0) = wd X.s h + _
  rw [Int.toNat_of_nonneg this.1]
  omega
theorem sum_segs {X : Hs} (g : X.ok) : ∀ (r : List Int) (p : Int), ((X.segs p r).map X.l).sum = hops X.s p r
  | [], p => rfl
  | h :: r, p => by
    show ((X.seg p h ++ X.segs h r).map X.l).sum = stp X.s p h + hops X.s h r
    rw [List.map_append, List.sum_append, sum_seg g, sum_segs g r h]
theorem st_keep {X : Hs} (h : Int) (h0 : 0 ≤ h) (h1 : h < X.n) : X.st (.keep, h) := ⟨h0, h1, rfl⟩
theorem st_need {X : Hs} (h : Int) (h0 : 0 ≤ h) (h1 : h < X.n) : X.st (.need, h) := ⟨h0, h1, rfl⟩
theorem st_seg {X : Hs} (g : X.ok) {p h : Int} (h0 : 0 ≤ h) (h1 : h < X.n) : ∀ t ∈ X.seg p h, X.st t := fun t ht => by
  rcases List.mem_append.mp ht with ht | ht
  · obtain ⟨k, _, rfl⟩ := List.mem_map.mp ht
    have := mod_bd g.cs.ne (p + 1 + (k : Int))
    exact st_keep _ this.1 this.2
  · rw [List.mem_singleton.mp ht]
    exact st_need _ h0 h1
theorem st_segs {X : Hs} (g : X.ok) : ∀ (r : List Int) (p : Int), (∀ k ∈ r, 0 ≤ k ∧ k < X.n) → ∀ t ∈ X.segs p r, X.st t
  | [], p, _, t, ht => by cases ht
  | h :: r, p, hr, t, ht => by
    rcases List.mem_append.mp ht with ht | ht
    · exact st_seg g (hr h List.mem_cons_self).1 (hr h List.mem_cons_self).2 t ht
    · exact st_segs g r h (fun k hk => hr k (List.mem_cons_of_mem _ hk)) t ht
theorem len_seg {X : Hs} (g : X.ok) (p h : Int) : (X.seg p h).length ≤ 48 := by
  unfold Hs.seg
  have : 0 ≤ (h - wd X.s h - p) % X.n ∧ (h - wd X.s h - p) % X.n < X.n := mod_bd g.cs.ne (h - wd X.s h - p)
  have := g.le
  rw [List.length_append, List.length_map, List.length_range, List.length_singleton]
  omega
theorem len_segs {X : Hs} (g : X.ok) : ∀ (r : List Int) (p : Int), r.length ≤ (X.segs p r).length ∧ (X.segs p r).length ≤ 48 * r.length
  | [], p => ⟨Nat.le_refl _, Nat.le_refl _⟩
  | h :: r, p => by
    have a := len_segs g r h
    have b := len_seg g p h
    have c : 1 ≤ (X.seg p h).length := by
      unfold Hs.seg
      rw [List.length_append, List.length_singleton]
      omega
    show (h :: r).length ≤ (X.seg p h ++ X.segs h r).length ∧ (X.seg p h ++ X.segs h r).length ≤ _
    rw [List.length_append, List.length_cons]
    omega
def Hs.ring (X : Hs) (r : List Int) : List Stp4 := X.segs (lastH 0 r) r
theorem ring_joins {X : Hs} (g : X.ok) {r : List Int} (h : r ≠ []) : X.joins (X.ring r) = true := by
  have q := run_segs g r (lastH 0 r)
  rw [lastH_ne (h := lastH 0 r) (h' := 0) h] at q
  refine run_joins q ?_
  have := (len_segs g r (lastH 0 r)).1
  have : r.length ≠ 0 := fun z => h (List.length_eq_zero_iff.mp z)
  unfold Hs.ring
  omega
theorem ring_trn {X : Hs} (g : X.ok) (r : List Int) : X.trn (X.ring r) = wnd X.s r := by
  unfold Hs.trn Hs.ring wnd
  rw [sum_segs g]
theorem segs_app {X : Hs} : ∀ (xs ys : List Int) (p : Int), X.segs p (xs ++ ys) = X.segs p xs ++ X.segs (lastH p xs) ys
  | [], ys, p => rfl
  | x :: xs, ys, p => by
    show X.seg p x ++ X.segs x (xs ++ ys) = X.seg p x ++ X.segs x xs ++ X.segs (lastH x xs) ys
    rw [segs_app xs ys x, List.append_assoc]
theorem lastH_app : ∀ (xs : List Int) (p z : Int), lastH p (xs ++ [z]) = z
  | [], p, z => rfl
  | x :: xs, p, z => lastH_app xs x z
theorem lastH_take {r : List Int} (h1 : 1 ≤ r.length) : ∀ i : Nat, i ≤ r.length → lastH (lastH 0 r) (r.take i) = cyc r ((i : Int) - 1)
  | 0, _ => by
    rw [List.take_zero]
    show lastH 0 r = _
    have e : r = r.take (r.length - 1) ++ [r[r.length - 1]] := by
      have := List.take_append_getElem (by omega : r.length - 1 < r.length)
      rw [show r.length - 1 + 1 = r.length from by omega, List.take_length] at this
      exact this.symm
    have e2 : cyc r (((0 : Nat) : Int) - 1) = r[r.length - 1] := by
      show cyL 0 r _ = _
      rw [← cyL_add, show ((0 : Nat) : Int) - 1 + (r.length : Int) = ((r.length - 1 : Nat) : Int) from by omega, cyL_get (by omega)]
    rw [e2]
    conv => lhs; rw [e]
    exact lastH_app _ _ _
  | i + 1, h => by
    rw [← List.take_append_getElem (by omega : i < r.length), lastH_app, show ((i + 1 : Nat) : Int) - 1 = (i : Int) from by omega]
    exact (cyL_get (d := (0 : Int)) (xs := r) (by omega : i < r.length)).symm
theorem segs_take {X : Hs} {r : List Int} (h1 : 1 ≤ r.length) {i : Nat} (h : i < r.length) : X.segs (lastH 0 r) (r.take (i + 1)) = X.segs (lastH 0 r) (r.take i) ++ X.seg (cyc r ((i : Int) - 1)) (cyc r (i : Int)) := by
  rw [← List.take_append_getElem h, segs_app, lastH_take h1 i (by omega)]
  rw [show r[i] = cyc r (i : Int) from (cyL_get (d := (0 : Int)) (xs := r) h).symm]
  show _ ++ (_ ++ []) = _
  rw [List.append_nil]
theorem cyc_in {r : List Int} {n : Int} (h1 : 1 ≤ r.length) (hr : ∀ k ∈ r, 0 ≤ k ∧ k < n) (i : Int) : 0 ≤ cyc r i ∧ cyc r i < n := hr _ (cyL_mem (d := (0 : Int)) h1 i)
/-- all steps of a house -/
def Hs.rows (X : Hs) : List Stp4 :=
  (((List.range X.s.length).filter fun (i : Nat) => (cyo X.ds (i : Int)).isSome).map fun (i : Nat) => (Wd.door, (i : Int))) ++
  ((List.range X.s.length).map fun (i : Nat) => (Wd.keep, (i : Int))) ++
  ((List.range X.s.length).map fun (i : Nat) => (Wd.need, (i : Int))) ++
  (((List.range X.s.length).filter fun (i : Nat) => (cyo X.rs (i : Int)).isSome).map fun (i : Nat) => (Wd.room, (i : Int)))
theorem rows_len {X : Hs} (g : X.ok) : X.rows.length ≤ 192 := by
  have h := g.cs.le
  have a := List.length_filter_le (fun (i : Nat) => (cyo X.ds (i : Int)).isSome) (List.range X.s.length)
  have b := List.length_filter_le (fun (i : Nat) => (cyo X.rs (i : Int)).isSome) (List.range X.s.length)
  unfold Hs.rows
  rw [List.length_range] at a b
  simp only [List.length_append, List.length_map, List.length_range]
  omega
theorem rows_mem {X : Hs} (t : Stp4) : t ∈ X.rows ↔ X.st t := by
  obtain ⟨w, h⟩ := t
  unfold Hs.rows Hs.st
  simp only [List.mem_append, List.mem_map, List.mem_filter, List.mem_range, Prod.mk.injEq]
  constructor
  · rintro (((⟨i, ⟨h1, h2⟩, rfl, rfl⟩ | ⟨i, h1, rfl, rfl⟩) | ⟨i, h1, rfl, rfl⟩) | ⟨i, ⟨h1, h2⟩, rfl, rfl⟩)
    · exact ⟨by omega, by show (i : Int) < (X.s.length : Int); omega, h2⟩
    · exact ⟨by omega, by show (i : Int) < (X.s.length : Int); omega, rfl⟩
    · exact ⟨by omega, by show (i : Int) < (X.s.length : Int); omega, rfl⟩
    · exact ⟨by omega, by show (i : Int) < (X.s.length : Int); omega, h2⟩
  · rintro ⟨h0, h1, h2⟩
    have h1 : h < (X.s.length : Int) := h1
    obtain ⟨i, rfl⟩ : ∃ i : Nat, h = (i : Int) := ⟨h.toNat, by omega⟩
    cases w with
    | need => exact .inl (.inr ⟨i, by omega, rfl, rfl⟩)
    | room => exact .inr ⟨i, ⟨by omega, h2⟩, rfl, rfl⟩
    | keep => exact .inl (.inl (.inr ⟨i, by omega, rfl, rfl⟩))
    | door => exact .inl (.inl (.inl ⟨i, ⟨by omega, h2⟩, rfl, rfl⟩))
theorem cyL_cyc {r : List Int} {i : Int} : cyL 0 r i = cyc r i := rfl
theorem ix_cycZ {ns : List Int} {i : Int} {P : PV → Prop} (h0 : -(ns.length : Int) ≤ i) (h1 : i < (ns.length : Int)) (p : P (.int (cyc ns i))) : ∃ z, L2.atI (iL ns) i = some z ∧ P z := ⟨_, at_cyL (d := (0 : Int)) h0 h1, p⟩
theorem keep_end {n p q : Int} (hn : 0 < n) {k : Nat} (hk : k ≤ ((q - p) % n).toNat) : ((p + 1 + (k : Int)) % n = (q + 1) % n) ↔ k = ((q - p) % n).toNat := by
  have h0 := Int.emod_nonneg (q - p) (by omega : n ≠ 0)
  have h1 := Int.emod_lt_of_pos (q - p) hn
  have e : (q + 1 - (p + 1 + (k : Int))) % n = (q - p) % n - (k : Int) := by
    rw [show q + 1 - (p + 1 + (k : Int)) = q - p - (k : Int) from by omega, ← Int.emod_sub_emod]
    exact Int.emod_eq_of_lt (by omega) (by omega)
  rw [eq_comm, Int.emod_eq_emod_iff_emod_sub_eq_zero, e]
  omega
theorem cut2 {x y : PV} {xs : List PV} : cutP (x :: y :: xs) none (some 2) = [x, y] := by
  unfold cutP
  have e : HT.sIx (x :: y :: xs).length (x :: y :: xs).length (some ((2 : Nat) : Int)) = min 2 (x :: y :: xs).length := HT.sIx_nat _ _ 2
  rw [HT.sIx_none, show (some (2 : Int)) = some ((2 : Nat) : Int) from rfl, e, List.length_cons, List.length_cons, Nat.min_eq_left (by omega)]
  rfl

/-- all numbers are small -/
structure SmC (ks : List Int) (n : Nat) (b : Int) : Prop where
  len : ks.length = n
  ok : ∀ z ∈ ks, 0 ≤ z ∧ z < b
structure SmO (rs : List (Option Int)) (n : Nat) (b : Int) : Prop where
  len : rs.length = n
  ok : ∀ z ∈ rs, ∀ i, z = some i → 0 ≤ i ∧ i < b
theorem SmC.set {ks : List Int} {n : Nat} {b z : Int} {i : Nat} (h : SmC ks n b) (h0 : 0 ≤ z) (h1 : z < b) : SmC (ks.set i z) n b :=
  ⟨by rw [List.length_set]; exact h.len, fun y hy => by
    rcases List.mem_or_eq_of_mem_set hy with hy | rfl
    · exact h.ok y hy
    · exact ⟨h0, h1⟩⟩
theorem SmO.set {rs : List (Option Int)} {n : Nat} {b z : Int} {i : Nat} (h : SmO rs n b) (h0 : 0 ≤ z) (h1 : z < b) : SmO (rs.set i (some z)) n b :=
  ⟨by rw [List.length_set]; exact h.len, fun y hy j hj => by
    rcases List.mem_or_eq_of_mem_set hy with hy | rfl
    · exact h.ok y hy j hj
    · cases hj
      exact ⟨h0, h1⟩⟩
theorem SmC.get {ks : List Int} {n : Nat} {b : Int} (h : SmC ks n b) (hn : 1 ≤ n) (i : Int) : 0 ≤ cyc ks i ∧ cyc ks i < b := h.ok _ (cyL_mem (d := (0 : Int)) (by rw [h.len]; exact hn) i)
theorem SmC.mono {ks : List Int} {n : Nat} {b c : Int} (h : SmC ks n b) (hb : b ≤ c) : SmC ks n c := ⟨h.len, fun z hz => ⟨(h.ok z hz).1, Int.lt_of_lt_of_le (h.ok z hz).2 hb⟩⟩
theorem SmC.zero (n : Nat) {b : Int} (hb : 0 < b) : SmC (List.replicate n 0) n b := ⟨List.length_replicate, fun z hz => by
  rw [List.eq_of_mem_replicate hz]
  exact ⟨Int.le_refl _, hb⟩⟩
theorem SmO.non (n : Nat) {b : Int} : SmO (List.replicate n none) n b := ⟨List.length_replicate, fun z hz i hi => by
  rw [List.eq_of_mem_replicate hz] at hi
  cases hi⟩
structure Hs.sm (X : Hs) : Prop where
  ns : SmC X.ns X.s.length (10 ^ 32)
  rs : SmO X.rs X.s.length (10 ^ 32)
  ks : SmC X.ks X.s.length (10 ^ 32)
  ds : SmO X.ds X.s.length (10 ^ 32)
theorem Hs.sm.ok {X : Hs} (h : X.sm) (g : Good X.s) : X.ok where
  cs := g
  cn := ⟨by rw [h.ns.len]; exact g.ne, by rw [h.ns.len]; exact g.le, fun i => (h.ns.get g.ne i).1⟩
  ln := h.ns.len
  lr := h.rs.len
  lk := h.ks.len
  ld := h.ds.len
  cr := fun r hr i hi => (h.rs.ok r hr i hi).1
  ck := fun z hz => (h.ks.ok z hz).1
  cd := fun r hr i hi => (h.ds.ok r hr i hi).1
theorem Hs.sm.lim {X : Hs} (h : X.sm) (g : Good X.s) {w : Wd} {i l : Int} (e : X.lim w i = some l) : 0 ≤ l ∧ l < 10 ^ 32 := by
  have key : ∀ {rs : List (Option Int)}, SmO rs X.s.length (10 ^ 32) → cyo rs i = some l → 0 ≤ l ∧ l < 10 ^ 32 := fun {rs} q e => q.ok (cyo rs i) (cyL_mem (d := (none : Option Int)) (by rw [q.len]; exact g.ne) i) l e
  cases w with
  | need => cases e; exact h.ns.get g.ne i
  | room => exact key h.rs e
  | keep => cases e; exact h.ks.get g.ne i
  | door => exact key h.ds e
theorem rep1 {x : PV} {n : Nat} : (List.replicate n [x]).flatten = List.replicate n x := by
  rw [List.flatten_replicate_singleton]
theorem rep_i {n : Nat} {z : Int} : List.replicate n (PV.int z) = iL (List.replicate n z) := by rw [iL, List.map_replicate]
theorem rep_n {n : Nat} : List.replicate n PV.non = oL (List.replicate n none) := by rw [oL, List.map_replicate]; rfl
theorem set_i {ks : List Int} {i : Nat} {z : Int} : (iL ks).set i (.int z) = iL (ks.set i z) := by rw [iL, iL, List.map_set]
theorem set_o {rs : List (Option Int)} {i : Nat} {z : Int} : (oL rs).set i (.int z) = oL (rs.set i (some z)) := by rw [oL, oL, List.map_set]; rfl
theorem ixN_in {n i : Nat} (h : i < n) : ixN n (i : Int) = some i := by
  unfold ixN
  rw [if_pos (by omega), if_pos (by omega), Int.toNat_natCast]
theorem tk {u : Int} {P : PV → Prop} (h0 : 0 < u) (h1 : u < 1073741824) (h : ∀ n : Int, 0 ≤ n → n < u → P (.int n)) : w_take [.bag, .int u] P := ⟨u, rfl, h0, h1, h⟩
theorem b01 {P : Prop} [Decidable P] : (if decide P = true then (1 : Int) else 0) = 0 ∨ (if decide P = true then (1 : Int) else 0) = 1 := by
  by_cases h : P
  · rw [decide_eq_true h]; exact .inr rfl
  · rw [decide_eq_false h]; exact .inl rfl
theorem cmul01 {a b : Int} (h : b = 0 ∨ b = 1) : CMulW a b ∨ CMul a b := .inr (.inr (by rcases h with rfl | rfl <;> decide))
theorem val_bd {X : Hs} (h : X.sm) (g : Good X.s) : ∀ ts : List Stp4, (X.val ts).natAbs ≤ ts.length * 10 ^ 32
  | [] => by unfold Hs.val; simp
  | t :: ts => by
    have ih := val_bd h g ts
    have hv : (X.v t).natAbs ≤ 10 ^ 32 := by
      have key : ((X.lim t.1 t.2).getD 0).natAbs ≤ 10 ^ 32 := by
        cases e : X.lim t.1 t.2 with
        | none => decide
        | some l =>
          have := h.lim g e
          rw [Option.getD_some]
          omega
      unfold Hs.v
      split <;> omega
    unfold Hs.val at ih ⊢
    rw [List.map_cons, List.sum_cons, List.length_cons, Nat.add_mul, Nat.one_mul]
    omega
theorem trn_bd {X : Hs} (g : X.ok) (ts : List Stp4) (ht : ∀ t ∈ ts, X.st t) : (X.trn ts).natAbs ≤ ts.length * 48 := by
  have h0 := g.pos
  have h1 := g.le
  have key : ∀ ts : List Stp4, (∀ t ∈ ts, X.st t) → -(ts.length * 48 : Int) ≤ (ts.map X.l).sum ∧ (ts.map X.l).sum ≤ ts.length * 48 := fun ts => by
    induction ts with
    | nil => intro _; simp
    | cons t ts ih =>
      intro ht
      have := ih fun u hu => ht u (List.mem_cons_of_mem _ hu)
      have hl : -48 ≤ X.l t ∧ X.l t ≤ 48 := by
        have a := wd_nn (s := X.s) t.2
        have b := wd_le (s := X.s) t.2
        have c : (X.s.length : Int) ≤ 48 := g.le
        unfold Hs.l Hs.len
        split <;> split <;> omega
      rw [List.map_cons, List.sum_cons, List.length_cons]
      omega
  have := key ts ht
  unfold Hs.trn
  generalize (ts.map X.l).sum = z at this ⊢
  have a : z / X.n ≤ ts.length * 48 := by
    apply Int.ediv_le_of_le_mul h0
    have : (ts.length * 48 : Int) * 1 ≤ ts.length * 48 * X.n := Int.mul_le_mul_of_nonneg_left (by omega) (by omega)
    omega
  have b : -(ts.length * 48 : Int) ≤ z / X.n := by
    apply Int.le_ediv_of_mul_le h0
    have : (ts.length * 48 : Int) * 1 ≤ ts.length * 48 * X.n := Int.mul_le_mul_of_nonneg_left (by omega) (by omega)
    rw [Int.neg_mul]
    omega
  omega
theorem ring_ne {X : Hs} (g : X.ok) {r : List Int} (h : 1 ≤ r.length) : 1 ≤ (X.ring r).length := by
  have := (len_segs g r (lastH 0 r)).1
  unfold Hs.ring
  omega
theorem ring_le48 {X : Hs} (g : X.ok) {r : List Int} : (X.ring r).length ≤ 48 * r.length := (len_segs g r (lastH 0 r)).2
end Wx

/-! An end by a Hook of our own: facts as truths over a part of the heap, defs by where they stand. -/
namespace Hn
open PySem PySem.Spec PyProof.Rows L2 Evl
/-- a def: where it stands, its names, its statement -/
structure DefH where
  adr : PySem.W.Frag → Addr
  name : Str
  qual : Str
  st : Stmt
def fnA (K : PySem.W.Frag) (a : Addr) : He.FnW := match K.lookup a with
  | some ⟨_, _, .func fd, _⟩ => some (fd.name, fd.qualname, fd.params, fd.body, fd.scope, fd.globals, fd.closure, fd.builtins)
  | _ => none
def DefH.val (d : DefH) : He.FnW := some (d.name, d.qual, defArgs d.st, .stmts (defBody d.st), defScope d.st, mainGlobals, [], builtinsNs)
def nonV : Value → Bool
  | .none => true
  | _ => false
def DefH.ok (K : PySem.W.Frag) (d : DefH) : Bool := PySem.W.keepIn K (.ref (d.adr K)) && (match K.lookup (d.adr K) with
  | some ⟨_, _, .func fd, _⟩ => PySem.W.codeIn K fd.code d.qual && nonV fd.defaults
  | _ => false)
theorem DefH.fun_ {K : PySem.W.Frag} {d : DefH} (e : fnA K (d.adr K) = d.val) (c : d.ok K = true) : ∃ (oc : Value) (od : Option Addr) (kV doc pm : Value) (an : Option Addr) (cdv ct : Value) (osl : Array (Option Value)),
    K.lookup (d.adr K) = some ⟨oc, od, .func (PySem.W.fnOf d.name d.qual (defArgs d.st) (defBody d.st) (defScope d.st) .none kV doc pm an cdv ct), osl⟩ ∧ PySem.W.codeIn K cdv d.qual = true ∧ PySem.W.keepIn K (.ref (d.adr K)) = true := by
  obtain ⟨kp, c2⟩ := He.ba c
  unfold fnA at e
  cases q : K.lookup (d.adr K) with
  | none =>
    rw [q] at c2
    cases c2
  | some o =>
    obtain ⟨oc, od, dt, osl⟩ := o
    rw [q] at c2 e
    cases dt with
    | func fd =>
      obtain ⟨n1, n2, n3, n4, n5, n6, n7, n8, n9, n10, n11, n12, n13, n14, n15⟩ := fd
      have e2 : (some (n1, n2, n3, n4, n5, n6, n7, n15) : He.FnW) = some (d.name, d.qual, defArgs d.st, .stmts (defBody d.st), defScope d.st, mainGlobals, [], builtinsNs) := e
      simp only [Option.some.injEq, Prod.mk.injEq] at e2
      obtain ⟨h1, h2, h3, h4, h5, h6, h7, h8⟩ := e2
      subst h1 h2 h3 h4 h5 h6 h7 h8
      have c3 : (PySem.W.codeIn K n13 d.qual && nonV n8) = true := c2
      obtain ⟨k1, k2⟩ := He.ba c3
      cases n8 with
      | none => exact ⟨oc, od, n9, n10, n11, n12, n13, n14, osl, rfl, k1, kp⟩
      | _ => cases k2
    | _ => cases c2
def obsH (fa : List (PySem.W.Frag → Bool)) (fn : List DefH) (K : PySem.W.Frag) : He.AlD := ((fa.all fun f => f K) && fn.all fun d => d.ok K, fn.map fun d => fnA K (d.adr K))
def valH (fn : List DefH) : He.AlD := (true, fn.map DefH.val)
def SaysH (fa : List (PySem.W.Frag → Bool)) (fn : List DefH) (K : PySem.W.Frag) : Prop := obsH fa fn K = valH fn
/-- what a record (a property, a staticmethod) holds first -/
def rcA (K : PySem.W.Frag) (a : Addr) (t : String) : Addr := match PySem.W.recIn K a t with
  | some (.ref b :: _) => b
  | _ => 0
def rcB (K : PySem.W.Frag) (a : Addr) (t : String) : Bool := match PySem.W.recIn K a t with
  | some (.ref _ :: _) => true
  | _ => false
/-- a class's method that is a staticmethod -/
def stA (K : PySem.W.Frag) (C : Addr) (m : Str) : Addr := match PySem.W.findCls K (.ref C) (.type "type") m with
  | some (.get _ (.ref p) _ _) => p
  | _ => 0
/-- the code of a function -/
def cdA (g : Addr → Option Obj) (a : Addr) : List Addr := match g a with
  | some ⟨_, _, .func fd, _⟩ => He.refV fd.code
  | _ => []
/-- what a class names: its dict and its bases -/
def clA (g : Addr → Option Obj) (a : Addr) : List Addr := match g a with
  | some ⟨_, _, .cls cd, _⟩ => cd.ns :: cd.mro.flatMap He.refV
  | _ => []
/-- the objects that facts by names speak of: globals gs, of them the classes cs; methods ms; properties ps and staticmethods ss -/
def asH (gs cs : List Str) (ms ps ss : List (Str × Str)) (g : Addr → Option Obj) : List Addr :=
  let K0 := He.frG g [mainGlobals]
  let a1 := gs.map (He.ga K0)
  let c1 := cs.map (He.ga K0)
  let a2 := c1.flatMap (clA g)
  let K2 := He.frG g (mainGlobals :: c1 ++ a2)
  let a3 := ms.map fun q => He.ma K2 (He.ga K2 q.1) q.2
  let p3 := ps.map fun q => He.ma K2 (He.ga K2 q.1) q.2
  let s3 := ss.map fun q => stA K2 (He.ga K2 q.1) q.2
  let K3 := He.frG g (p3 ++ s3)
  let a4 := p3.map fun a => rcA K3 a "property"
  let b4 := s3.map fun a => rcA K3 a "staticmethod"
  mainGlobals :: c1 ++ a2 ++ a3 ++ p3 ++ s3 ++ a4 ++ b4 ++ a1 ++ a3.flatMap (cdA g) ++ a4.flatMap (cdA g) ++ b4.flatMap (cdA g) ++ a1.flatMap (cdA g)
def obsHG (as : (Addr → Option Obj) → List Addr) (fa : List (PySem.W.Frag → Bool)) (fn : List DefH) (g : Addr → Option Obj) : He.AlD := obsH fa fn (He.frG g (as g))
def hookH (as : (Addr → Option Obj) → List Addr) (fa : List (PySem.W.Frag → Bool)) (fn : List DefH) : PySem.W.Hook where
  α := He.AlD
  obs := fun s => obsHG as fa fn s.heap.get?
  val := fun _ => valH fn
  says := fun _ h => ∃ K : PySem.W.Frag, K.In h ∧ SaysH fa fn K
  of := fun _ _ e => ⟨_, He.frG_in, e⟩
  keeps := fun _ _ _ ⟨K, hK, c⟩ k => ⟨K, PySem.W.Frag.In.keeps hK k, c⟩
theorem obsHG_eq {as : (Addr → Option Obj) → List Addr} {fa : List (PySem.W.Frag → Bool)} {fn : List DefH} {g : Addr → Option Obj} {s : Shared} (h : ∀ a, g a = s.heap.get? a) : obsHG as fa fn g = (hookH as fa fn).obs s := by
  have e : g = s.heap.get? := funext h
  rw [e] <;> rfl
section
variable {fa : List (PySem.W.Frag → Bool)} {fn : List DefH} {K : PySem.W.Frag}
theorem SaysH.all (c : SaysH fa fn K) : (fa.all fun f => f K) = true := (He.ba (show ((fa.all fun f => f K) && fn.all fun d => d.ok K) = true from congrArg (fun z : He.AlD => z.1) c)).1
theorem SaysH.fact (c : SaysH fa fn K) (i : Nat) {f : PySem.W.Frag → Bool} (h : fa[i]? = some f := by rfl) : f K = true := List.all_eq_true.mp c.all f (List.mem_of_getElem? h)
theorem SaysH.def_ (c : SaysH fa fn K) (i : Nat) {d : DefH} (h : fn[i]? = some d := by rfl) : ∃ (oc : Value) (od : Option Addr) (kV doc pm : Value) (an : Option Addr) (cdv ct : Value) (osl : Array (Option Value)),
    K.lookup (d.adr K) = some ⟨oc, od, .func (PySem.W.fnOf d.name d.qual (defArgs d.st) (defBody d.st) (defScope d.st) .none kV doc pm an cdv ct), osl⟩ ∧ PySem.W.codeIn K cdv d.qual = true ∧ PySem.W.keepIn K (.ref (d.adr K)) = true := by
  have c2 := (He.ba (show ((fa.all fun f => f K) && fn.all fun d => d.ok K) = true from congrArg (fun z : He.AlD => z.1) c)).2
  have e : fn.map (fun d => fnA K (d.adr K)) = fn.map DefH.val := congrArg (fun z : He.AlD => z.2) c
  have e2 : (fn.map fun d => fnA K (d.adr K))[i]? = (fn.map DefH.val)[i]? := by rw [e]
  rw [List.getElem?_map, List.getElem?_map, h] at e2
  exact DefH.fun_ (Option.some.inj e2) (List.all_eq_true.mp c2 d (List.mem_of_getElem? h))
end
theorem rcB_ok {K : PySem.W.Frag} {a : Addr} {t : String} (h : rcB K a t = true) : ∃ rest, PySem.W.recIn K a t = some (.ref (rcA K a t) :: rest) := by
  unfold rcB at h
  unfold rcA
  cases e : PySem.W.recIn K a t with
  | none => rw [e] at h; cases h
  | some l =>
    rw [e] at h
    cases l with
    | nil => cases h
    | cons v r =>
      cases v with
      | ref b => exact ⟨r, rfl⟩
      | _ => cases h
def stB (K : PySem.W.Frag) (C : Addr) (m : Str) : Bool := match PySem.W.findCls K (.ref C) (.type "type") m with
  | some (.get (.builtin b) (.ref _) .none (.ref c)) => decide (b = "staticmethod.__get__") && decide (c = C)
  | _ => false
theorem stB_ok {K : PySem.W.Frag} {C : Addr} {m : Str} (h : stB K C m = true) : PySem.W.findCls K (.ref C) (.type "type") m = some (.get (.builtin "staticmethod.__get__") (.ref (stA K C m)) .none (.ref C)) := by
  unfold stB at h
  unfold stA
  split at h
  · rename_i b p c e
    obtain ⟨h1, h2⟩ := He.ba h
    obtain rfl : b = "staticmethod.__get__" := of_decide_eq_true h1
    obtain rfl : c = C := of_decide_eq_true h2
    rw [e]
  · cases h
/-- some value is told -/
def soB (x : Option (Option Value)) : Bool := x.isSome
theorem soB_ok {x : Option (Option Value)} (h : soB x = true) : ∃ o, x = some o := by
  cases x with
  | none => cases h
  | some o => exact ⟨o, rfl⟩
def itB (x : Option (Option Value)) (i : Int) : Bool := match x with
  | some (some (.int j _)) => decide (j = i)
  | _ => false
theorem itB_ok {x : Option (Option Value)} {i : Int} (h : itB x i = true) : ∃ t, x = some (some (.int i t)) := by
  unfold itB at h
  split at h
  · rename_i j t
    obtain rfl : j = i := of_decide_eq_true h
    exact ⟨t, rfl⟩
  · cases h
def sxB (x : Option (Option Value)) (i : Str) : Bool := match x with
  | some (some (.str j _)) => decide (j = i)
  | _ => false
theorem sxB_ok {x : Option (Option Value)} {i : Str} (h : sxB x i = true) : ∃ t, x = some (some (.str i t)) := by
  unfold sxB at h
  split at h
  · rename_i j t
    obtain rfl : j = i := of_decide_eq_true h
    exact ⟨t, rfl⟩
  · cases h
theorem dok {p : Prop} [Decidable p] (h : decide p = true) : p := of_decide_eq_true h
/-- a law that may ask repr, over a part of the heap that is told by facts -/
theorem walkGE {l : PySem.W.OpenLaw} {n k : Nat} {q : Program} {loose : List Str} {XP : (Str → Option Value) → Heap → Prop} {YP : World → Heap → Prop} {d : DefRec} {x : Str}
    (most : l.most = some n) (line : n ≤ sizeLine) (nodf : d.params.defaults = []) (room : Room k callerA)
    (F : ∀ (w : World) (mg : Str → Option Value) (fa : Addr) (h : Heap), YP w h → h.Ns mainGlobals mg → mg d.name = some (.ref fa) → ∃ (K : PySem.W.Frag) (sp : Sp), K.In h ∧ (∀ (H : Hp) (a : Addr) (ns : List Int), ns.length ≤ n → SqL K H a (ns.map V.int) → sp [.ref a] H (fun v _ => v = .bl true) E0) ∧
      ∀ base : Heap, K.In base → base.Ns mainGlobals mg → OkP NoG l.prog w K mg base k fa [x] sp) : PySem.W.WalkO q loose XP YP l.row.toRowW d [] (fun f vs => PySem.call f vs) := by
  refine Att.attach_call most nodf fun w s₀ s₁ mg mb fa o pm cd doc a vs ns G Y _ _ _ hmg obj inn len gens => ?_
  obtain ⟨K, sp, kX, hsp, hF⟩ := F w mg fa _ Y G.T.g hmg
  exact head_law kX G.T.g G.T.b G.T.builtins G.T.nolimit gens obj inn (Nat.le_trans len line) room hF fun H hS => hsp H a ns len hS
end Hn
namespace L2
open PySem PySem.Spec PyProof.Rows
/-- walk_ofE, where the promise may let errors out (none leaves) -/
theorem walk_ofX {l : PySem.W.OpenLaw} {n k : Nat} {q : Program} {loose : List Str} {XP : (Str → Option Value) → Heap → Prop} {YP : World → Heap → Prop} {d : DefRec} {x : Str}
    (hn : l.most = some n) (hn2 : n ≤ sizeLine) (hdf : d.params.defaults = []) (hr : Room k callerA)
    (F : ∀ (w : World) (mg : Str → Option Value) (fa : Addr) (h : Heap), YP w h → h.Ns mainGlobals mg → mg d.name = some (.ref fa) →
      ∃ (K : PySem.W.Frag) (fd : FuncData) (sp : Sp), K.In h ∧ (∀ (s : Shared) (u : Value), BindsTo s fd ⟨[u], []⟩ [(x, u)]) ∧
        (∀ (H : Hp) (a : Addr) (ns : List Int), ns.length ≤ n → Only H → SqL K H a (ns.map V.int) → sp [.ref a] H (fun v _ => v = .bl true) fun _ _ _ => False) ∧
        ∀ base : Heap, K.In base → base.Ns mainGlobals mg → FnOk l.prog w K mg base (L2.CX l.prog w) k fa fd [x] sp) :
    PySem.W.WalkO q loose XP YP l.row.toRowW d [] (fun f vs => PySem.call f vs) := by
  refine Att.attach_call hn hdf fun w s₀ s₁ mg mb fa o pm cd doc a vs ns G Y ho hd hcd hmg hobj hints hlen hg => ?_
  obtain ⟨K, fd, sp, KX, hb, hsp, hF⟩ := F w mg fa _ Y G.T.g hmg
  exact law_call KX G.T.g G.T.b G.T.builtins G.T.nolimit hg hobj hints (Nat.le_trans hlen hn2) hr hF hb (fun H hO hS => hsp H a ns hlen hO hS) fun H e s' z => by
    obtain ⟨_, _, _, _, _, _, _, _, _, _, _, _, z⟩ := z
    exact z
end L2

namespace Pf
open PySem PySem.Spec PyProof.Rows L2 Evl Hn Wx
local macro_rules | `(tactic| walk_at "rd") => `(tactic| repeat (first
  | with_reducible refine r_raiseE ?_
  | with_reducible refine r_callY ?_
  | with_reducible refine r_makeY ?_
  | with_reducible refine r_methY ?_
  | with_reducible refine r_exF ?_
  | with_reducible refine r_m1 ?_
  | with_reducible refine r_isS ?_
  | with_reducible refine r_break ?_
  | with_reducible refine r_cont ?_
  | with_reducible refine r_listZip ?_
  | with_reducible refine r_smeth ?_
  | with_reducible refine r_isC ?_
  | with_reducible refine r_lstRg ?_
  | with_reducible refine r_rg1 ?_
  | with_reducible refine r_seq ?_
  | with_reducible refine r_next ?_
  | with_reducible refine r_asg ?_
  | with_reducible refine r_name ?_
  | with_reducible refine r_ret ?_
  | with_reducible refine r_retN ?_
  | with_reducible refine r_drop ?_
  | with_reducible refine r_ifS ?_
  | with_reducible refine r_test ?_
  | with_reducible refine r_B ?_
  | with_reducible refine r_and ?_
  | with_reducible refine r_or ?_
  | with_reducible refine r_not ?_
  | with_reducible refine r_andV ?_
  | with_reducible refine r_orV ?_
  | with_reducible refine r_notV ?_
  | with_reducible refine r_if ?_
  | with_reducible refine r_c ?_
  | with_reducible refine r_op ?_
  | with_reducible refine r_un ?_
  | with_reducible refine r_chain ?_
  | with_reducible refine r_lst ?_
  | with_reducible refine r_tup ?_
  | with_reducible refine r_nil ?_
  | with_reducible refine r_cons ?_
  | with_reducible refine r_call ?_
  | with_reducible refine r_meth ?_
  | with_reducible refine r_make ?_
  | with_reducible refine r_prop ?_
  | with_reducible refine r_cb ?_
  | with_reducible refine r_bm ?_
  | with_reducible refine r_bm0 ?_
  | with_reducible refine r_sl ?_
  | with_reducible refine r_noPart ?_
  | with_reducible refine r_part ?_
  | with_reducible refine r_int1 ?_
  | with_reducible refine r_bl1 ?_
  | with_reducible refine r_revL ?_
  | with_reducible refine r_lc ?_
  | with_reducible refine r_par ?_
  | with_reducible refine r_par3 ?_
  | with_reducible refine r_two ?_
  | with_reducible refine r_three ?_
  | with_reducible refine r_augS ?_
  | with_reducible refine r_sub ?_
  | with_reducible refine r_fld ?_
  | with_reducible refine r_sfld ?_
  | with_reducible refine r_iList ?_
  | with_reducible refine r_iTup ?_
  | with_reducible refine r_iRng1 ?_
  | with_reducible refine r_iRng2 ?_
  | with_reducible refine r_iEnum ?_
  | with_reducible refine r_iZip ?_
  | with_reducible refine r_iZipA ?_
  | with_reducible refine r_iSeq ?_
  | with_reducible refine r_iOwn ?_
  | with_reducible refine r_iEnumS ?_
  | with_reducible refine r_revT ?_
  | with_reducible refine r_ixO ?_
  | with_reducible refine r_yes ?_
  | with_reducible refine r_for ?_
  | with_reducible refine r_I0 ?_
  | with_reducible refine r_U ?_
  | with_reducible refine r_eqI ?_
  | with_reducible refine r_neI ?_
  | with_reducible refine r_eqB ?_
  | with_reducible refine r_neB ?_
  | with_reducible refine r_eqS ?_
  | with_reducible refine r_neS ?_
  | with_reducible refine r_ipI ?_
  | with_reducible refine r_abs ?_
  | with_reducible refine r_intP ?_
  | with_reducible refine r_intB ?_
  | with_reducible refine r_min2 ?_
  | with_reducible refine r_max2 ?_
  | with_reducible refine r_isNi ?_
  | with_reducible refine r_isNr ?_
  | with_reducible refine r_isNn ?_
  | with_reducible refine r_notNi ?_
  | with_reducible refine r_notNr ?_
  | with_reducible refine r_notNn ?_
  | with_reducible refine r_call1 ?_
  | (with_reducible refine' r_var ?hv ?_); (case hv => exact rfl)
  | (with_reducible refine' r_aug ?hv ?_); (case hv => exact rfl)
  | (with_reducible refine r_wipe ?hv ?_); (case hv => exact rfl)
  | (with_reducible refine r_I ?hv ?_); (case hv => (first | (show (0 : Int) < _; omega) | exact Or.inl ⟨by omega, by omega⟩ | exact Or.inr ⟨by omega, by omega⟩ | exact ⟨by omega, by omega⟩ | exact ⟨by omega, by omega, by decide⟩))
  | (with_reducible refine r_range1 ?hv ?hw ?_); (case hv => omega); (case hw => omega)))
local macro_rules | `(tactic| walk_at "ex") => `(tactic| first
  | assumption
  | exact Ex.refl _
  | exact Ex.new (by assumption)
  | (refine Ex.trans ?_ (Ex.new (by assumption)); walk_at "ex")
  | (refine Ex.mut ?_ (by walk_at "fr"); walk_at "ex")
  | (refine Ex.trans ?_ (by assumption); walk_at "ex"))
local macro_rules | `(tactic| walk_at "xl") => `(tactic| first
  | exact Xl.refl _
  | (refine Xl.trans ?_ (Xl.of (by assumption)); walk_at "xl")
  | (refine Xl.trans ?_ (Xl.of (Ex.new (by assumption))); walk_at "xl")
  | (refine Xl.trans ?_ (Xl.set (by assumption)); walk_at "xl")
  | (refine Xl.trans ?_ (Xl.set (by walk_at "kn")); walk_at "xl"))
local macro_rules | `(tactic| walk_at "fr") => `(tactic| first
  | assumption
  | (refine fresh_back ?_ (by assumption); walk_at "ex"))
local macro_rules | `(tactic| walk_at "kn") => `(tactic| first
  | assumption
  | exact upd_same
  | (refine mv_bag (by assumption) ?_; walk_at "xl")
  | (refine mv_rw (by assumption) ?_; walk_at "xl")
  | (refine mv_ps (by assumption) ?_; walk_at "xl")
  | (refine mv_clk (by assumption) ?_; walk_at "xl")
  | (refine mv_sqL (by assumption) ?_; walk_at "ex")
  | (refine mv_sqT (by assumption) ?_; walk_at "ex")
  | (refine mv_at (by assumption) ?_; walk_at "ex")
  | (refine' mv_at upd_same ?hk; (case hk => walk_at "ex"))
  | (refine' at_sqL ?hk; (case hk => walk_at "kn"))
  | (refine' at_sqT ?hk; (case hk => walk_at "kn"))
  | (refine mv_sq (by assumption) ?_; walk_at "ex")
  | (refine' sqL_sq ?hk; (case hk => walk_at "kn"))
  | (refine' sqT_sq ?hk; (case hk => walk_at "kn"))
  | (refine' ps_rw ?hk; (case hk => walk_at "kn")))

def top (i : Nat) : Stmt := PySem.Challenge.pw_hourneeds_k45_ways_of_rings.main.body.getD i (.Pass ⟨0, 0, 0, 0⟩)
abbrev s__law_bag : Stmt := top 39
abbrev s__law_take : Stmt := top 40
abbrev s__law_number : Stmt := top 41
abbrev s__law_numbers : Stmt := top 45
abbrev s__law_stays : Stmt := top 42
abbrev s__law_free_world : Stmt := top 46
abbrev s_Needs_hours : Stmt := inClass (top 23) 1
abbrev s_Clock_hours : Stmt := inClass (top 19) 1
abbrev s_is_integer : Stmt := top 9
abbrev s_is_count : Stmt := top 10
abbrev s_are_limits : Stmt := top 13
abbrev s_are_counts : Stmt := top 12
abbrev s_House___init__ : Stmt := inClass (top 26) 0
abbrev s_are_stays : Stmt := top 16
abbrev s_need_order : Stmt := top 17
abbrev s_width_of : Stmt := top 18
abbrev s_Clock___init__ : Stmt := inClass (top 19) 0
abbrev s_is_row : Stmt := top 21
abbrev s_Needs___init__ : Stmt := inClass (top 23) 0
abbrev s__law_made : Stmt := top 51
abbrev s__law_serving : Stmt := top 43
abbrev s__law_ring_steps : Stmt := top 52
abbrev s_Clock_widths : Stmt := inClass (top 19) 4
abbrev s_House_clock : Stmt := inClass (top 26) 2
abbrev s_House_hours : Stmt := inClass (top 26) 1
abbrev s_ring_way : Stmt := top 34
abbrev s__law_alike : Stmt := top 44
abbrev s__law_row : Stmt := top 48
abbrev s__law_measure : Stmt := top 50
abbrev s__law_rows : Stmt := top 47
abbrev s__law_is_way : Stmt := top 49
abbrev s_is_hour : Stmt := top 11
abbrev s_Needs___getitem__ : Stmt := inClass (top 23) 8
abbrev s_House_limit_of : Stmt := inClass (top 26) 7
abbrev s_is_step : Stmt := top 28
abbrev s_Clock_width_at : Stmt := inClass (top 19) 5
abbrev s_forward : Stmt := top 29
abbrev s_told : Stmt := top 30
abbrev s_is_way : Stmt := top 31
abbrev s_turns : Stmt := top 32
abbrev s_value : Stmt := top 33
abbrev s_step_hours : Stmt := top 36
abbrev s_winds : Stmt := top 37
abbrev s_law : Stmt := top 53
/-- where the defs and classes stand -/
structure Ads where
  c_Clock : Addr
  c_House : Addr
  c_Needs : Addr
  f__law_bag : Addr
  f__law_take : Addr
  f__law_number : Addr
  f__law_numbers : Addr
  f__law_stays : Addr
  f__law_free_world : Addr
  f_Needs_hours : Addr
  q_Needs_hours : Addr
  f_Clock_hours : Addr
  q_Clock_hours : Addr
  f_is_integer : Addr
  f_is_count : Addr
  f_are_limits : Addr
  f_are_counts : Addr
  f_House___init__ : Addr
  f_are_stays : Addr
  f_need_order : Addr
  f_width_of : Addr
  f_Clock___init__ : Addr
  f_is_row : Addr
  f_Needs___init__ : Addr
  f__law_made : Addr
  f__law_serving : Addr
  f__law_ring_steps : Addr
  f_Clock_widths : Addr
  f_House_clock : Addr
  q_House_clock : Addr
  f_House_hours : Addr
  q_House_hours : Addr
  f_ring_way : Addr
  f__law_alike : Addr
  f__law_row : Addr
  f__law_measure : Addr
  f__law_rows : Addr
  f__law_is_way : Addr
  f_is_hour : Addr
  f_Needs___getitem__ : Addr
  f_House_limit_of : Addr
  f_is_step : Addr
  f_Clock_width_at : Addr
  f_forward : Addr
  f_told : Addr
  f_is_way : Addr
  f_turns : Addr
  f_value : Addr
  f_step_hours : Addr
  f_winds : Addr
  f_law : Addr
  k_WORDS : Addr
def cnA (d : Ads) : Cn → Addr
  | .Clock => d.c_Clock
  | .Needs => d.c_Needs
  | .Plan => 0
  | .House => d.c_House
  | .Book => 0
  | .Desk => 0
  | .Endless => 0
/-- what the top has left -/
structure Tx (K : PySem.W.Frag) (mg : Str → Option Value) (d : Ads) : Prop where
  g_Clock : mg "Clock" = some (.ref d.c_Clock)
  cl_Clock : Cls K d.c_Clock
  sf_Clock : PySem.W.selfFirst K d.c_Clock = true
  g_House : mg "House" = some (.ref d.c_House)
  cl_House : Cls K d.c_House
  sf_House : PySem.W.selfFirst K d.c_House = true
  g_Needs : mg "Needs" = some (.ref d.c_Needs)
  cl_Needs : Cls K d.c_Needs
  sf_Needs : PySem.W.selfFirst K d.c_Needs = true
  n_Clock_kept_stays : NoAttr K d.c_Clock "kept_stays"
  n_Clock_kept_widths : NoAttr K d.c_Clock "kept_widths"
  n_House_own_clock : NoAttr K d.c_House "own_clock"
  n_House_own_doors : NoAttr K d.c_House "own_doors"
  n_House_own_kept : NoAttr K d.c_House "own_kept"
  n_House_own_needs : NoAttr K d.c_House "own_needs"
  n_House_own_rooms : NoAttr K d.c_House "own_rooms"
  n_Needs_kept_row : NoAttr K d.c_Needs "kept_row"
  g__law_bag : mg "_law_bag" = some (.ref d.f__law_bag)
  d__law_bag : Df K "_law_bag" "_law_bag" s__law_bag d.f__law_bag ["_law_script"]
  g__law_take : mg "_law_take" = some (.ref d.f__law_take)
  d__law_take : Df K "_law_take" "_law_take" s__law_take d.f__law_take ["_law_bag_here", "_law_upto"]
  g__law_number : mg "_law_number" = some (.ref d.f__law_number)
  d__law_number : Df K "_law_number" "_law_number" s__law_number d.f__law_number ["_law_bag_here"]
  g__law_numbers : mg "_law_numbers" = some (.ref d.f__law_numbers)
  d__law_numbers : Df K "_law_numbers" "_law_numbers" s__law_numbers d.f__law_numbers ["_law_bag_here", "_law_many"]
  g__law_stays : mg "_law_stays" = some (.ref d.f__law_stays)
  d__law_stays : Df K "_law_stays" "_law_stays" s__law_stays d.f__law_stays ["_law_bag_here", "_law_many"]
  g__law_free_world : mg "_law_free_world" = some (.ref d.f__law_free_world)
  d__law_free_world : Df K "_law_free_world" "_law_free_world" s__law_free_world d.f__law_free_world ["_law_bag_here", "_law_many"]
  p_Needs_hours : PropOf K d.c_Needs "hours" d.q_Needs_hours d.f_Needs_hours
  d_Needs_hours : Df K "hours" "Needs.hours" s_Needs_hours d.f_Needs_hours ["self"]
  p_Clock_hours : PropOf K d.c_Clock "hours" d.q_Clock_hours d.f_Clock_hours
  d_Clock_hours : Df K "hours" "Clock.hours" s_Clock_hours d.f_Clock_hours ["self"]
  g_is_integer : mg "is_integer" = some (.ref d.f_is_integer)
  d_is_integer : Df K "is_integer" "is_integer" s_is_integer d.f_is_integer ["thing"]
  g_is_count : mg "is_count" = some (.ref d.f_is_count)
  d_is_count : Df K "is_count" "is_count" s_is_count d.f_is_count ["thing"]
  g_are_limits : mg "are_limits" = some (.ref d.f_are_limits)
  d_are_limits : Df K "are_limits" "are_limits" s_are_limits d.f_are_limits ["hours", "thing"]
  g_are_counts : mg "are_counts" = some (.ref d.f_are_counts)
  d_are_counts : Df K "are_counts" "are_counts" s_are_counts d.f_are_counts ["hours", "thing"]
  mk_House : Mk K d.c_House d.f_House___init__
  dk_House___init__ : DfK K "__init__" "House.__init__" s_House___init__ d.f_House___init__ ["self", "clock", "needs", "rooms", "kept", "doors"] 3 ["rooms", "kept", "doors"]
  g_are_stays : mg "are_stays" = some (.ref d.f_are_stays)
  d_are_stays : Df K "are_stays" "are_stays" s_are_stays d.f_are_stays ["thing"]
  g_need_order : mg "need_order" = some (.ref d.f_need_order)
  d_need_order : Df K "need_order" "need_order" s_need_order d.f_need_order ["stays"]
  g_width_of : mg "width_of" = some (.ref d.f_width_of)
  d_width_of : Df K "width_of" "width_of" s_width_of d.f_width_of ["stays", "hour"]
  mk_Clock : Mk K d.c_Clock d.f_Clock___init__
  d_Clock___init__ : Df K "__init__" "Clock.__init__" s_Clock___init__ d.f_Clock___init__ ["self", "stays"]
  g_is_row : mg "is_row" = some (.ref d.f_is_row)
  d_is_row : Df K "is_row" "is_row" s_is_row d.f_is_row ["thing"]
  mk_Needs : Mk K d.c_Needs d.f_Needs___init__
  d_Needs___init__ : Df K "__init__" "Needs.__init__" s_Needs___init__ d.f_Needs___init__ ["self", "row"]
  g__law_made : mg "_law_made" = some (.ref d.f__law_made)
  d__law_made : Df K "_law_made" "_law_made" s__law_made d.f__law_made ["_law_world"]
  g__law_serving : mg "_law_serving" = some (.ref d.f__law_serving)
  d__law_serving : Df K "_law_serving" "_law_serving" s__law_serving d.f__law_serving ["_law_stays_here", "_law_hour"]
  g__law_ring_steps : mg "_law_ring_steps" = some (.ref d.f__law_ring_steps)
  d__law_ring_steps : Df K "_law_ring_steps" "_law_ring_steps" s__law_ring_steps d.f__law_ring_steps ["_law_stays_here", "_law_ring"]
  m_Clock_widths : Meth K d.c_Clock "widths" d.f_Clock_widths
  d_Clock_widths : Df K "widths" "Clock.widths" s_Clock_widths d.f_Clock_widths ["self"]
  p_House_clock : PropOf K d.c_House "clock" d.q_House_clock d.f_House_clock
  d_House_clock : Df K "clock" "House.clock" s_House_clock d.f_House_clock ["self"]
  p_House_hours : PropOf K d.c_House "hours" d.q_House_hours d.f_House_hours
  d_House_hours : Df K "hours" "House.hours" s_House_hours d.f_House_hours ["self"]
  g_ring_way : mg "ring_way" = some (.ref d.f_ring_way)
  d_ring_way : Df K "ring_way" "ring_way" s_ring_way d.f_ring_way ["house", "ring"]
  g__law_alike : mg "_law_alike" = some (.ref d.f__law_alike)
  d__law_alike : Df K "_law_alike" "_law_alike" s__law_alike d.f__law_alike ["_law_found", "_law_due"]
  g__law_row : mg "_law_row" = some (.ref d.f__law_row)
  d__law_row : Df K "_law_row" "_law_row" s__law_row d.f__law_row ["_law_world", "_law_row_here"]
  g__law_measure : mg "_law_measure" = some (.ref d.f__law_measure)
  d__law_measure : Df K "_law_measure" "_law_measure" s__law_measure d.f__law_measure ["_law_world", "_law_way"]
  g__law_rows : mg "_law_rows" = some (.ref d.f__law_rows)
  d__law_rows : Df K "_law_rows" "_law_rows" s__law_rows d.f__law_rows ["_law_world"]
  g__law_is_way : mg "_law_is_way" = some (.ref d.f__law_is_way)
  d__law_is_way : Df K "_law_is_way" "_law_is_way" s__law_is_way d.f__law_is_way ["_law_world", "_law_thing"]
  g_is_hour : mg "is_hour" = some (.ref d.f_is_hour)
  d_is_hour : Df K "is_hour" "is_hour" s_is_hour d.f_is_hour ["hours", "thing"]
  m_Needs___getitem__ : Meth K d.c_Needs "__getitem__" d.f_Needs___getitem__
  fi_Needs___getitem__ : PySem.W.fnIn K d.f_Needs___getitem__ = true
  d_Needs___getitem__ : Df K "__getitem__" "Needs.__getitem__" s_Needs___getitem__ d.f_Needs___getitem__ ["self", "hour"]
  m_House_limit_of : Meth K d.c_House "limit_of" d.f_House_limit_of
  d_House_limit_of : Df K "limit_of" "House.limit_of" s_House_limit_of d.f_House_limit_of ["self", "word", "hour"]
  g_is_step : mg "is_step" = some (.ref d.f_is_step)
  d_is_step : Df K "is_step" "is_step" s_is_step d.f_is_step ["house", "thing"]
  m_Clock_width_at : Meth K d.c_Clock "width_at" d.f_Clock_width_at
  d_Clock_width_at : Df K "width_at" "Clock.width_at" s_Clock_width_at d.f_Clock_width_at ["self", "hour"]
  g_forward : mg "forward" = some (.ref d.f_forward)
  d_forward : Df K "forward" "forward" s_forward d.f_forward ["house", "step"]
  g_told : mg "told" = some (.ref d.f_told)
  d_told : Df K "told" "told" s_told d.f_told ["house", "step"]
  g_is_way : mg "is_way" = some (.ref d.f_is_way)
  d_is_way : Df K "is_way" "is_way" s_is_way d.f_is_way ["house", "thing"]
  g_turns : mg "turns" = some (.ref d.f_turns)
  d_turns : Df K "turns" "turns" s_turns d.f_turns ["house", "way"]
  g_value : mg "value" = some (.ref d.f_value)
  d_value : Df K "value" "value" s_value d.f_value ["house", "way"]
  g_step_hours : mg "step_hours" = some (.ref d.f_step_hours)
  d_step_hours : Df K "step_hours" "step_hours" s_step_hours d.f_step_hours ["clock", "hour", "later"]
  g_winds : mg "winds" = some (.ref d.f_winds)
  d_winds : Df K "winds" "winds" s_winds d.f_winds ["clock", "ring"]
  d_law : Df K "law" "law" s_law d.f_law ["_law_script"]
  z_abs : mg "abs" = none
  z_all : mg "all" = none
  z_bool : mg "bool" = none
  z_enumerate : mg "enumerate" = none
  z_int : mg "int" = none
  z_isinstance : mg "isinstance" = none
  z_len : mg "len" = none
  z_list : mg "list" = none
  z_min : mg "min" = none
  z_range : mg "range" = none
  z_repr : mg "repr" = none
  z_str : mg "str" = none
  z_sum : mg "sum" = none
  z_tuple : mg "tuple" = none
  z_zip : mg "zip" = none
  k_MOST_HOURS : ∃ t : Tok, mg "MOST_HOURS" = some (.int 48 t)
  kg_WORDS : mg "WORDS" = some (.ref d.k_WORDS)
  kt_WORDS : Wx.KTup K d.k_WORDS [("need" : Str), ("room" : Str), ("keep" : Str), ("door" : Str)]
  ic_Clock : IsC K d.c_Clock
  ic_Needs : IsC K d.c_Needs
section
variable {P : Program} {w : World} {K : PySem.W.Frag} {mg : Str → Option Value} {base : Heap} {d : Ads}
abbrev Nd (K : PySem.W.Frag) (d : Ads) (H : Hp) (v : V) (s : List Int) : Prop := Rw K d.c_Needs "kept_row" H v s

/-! ### _law_bag -/
theorem sc__law_bag : FnScope ["_law_script", "_law_cell"] ["_law_script"] (defScope s__law_bag) := ⟨rfl, rfl, rfl, by decide +kernel, rfl, by decide +kernel, by decide +kernel⟩

theorem absI (i : Int) : 0 ≤ (if i < 0 then -i else i) := by split <;> omega
theorem cut_some (xs : List V) (h : xs.length ≤ 63) : cutV xs none (some 63) = xs := by
  unfold cutV
  rw [HT.sIx_none, show HT.sIx xs.length xs.length (some 63) = min 63 xs.length from HT.sIx_nat xs.length xs.length 63]
  rw [List.drop_zero, Nat.sub_zero, Nat.min_eq_right h, List.take_length]
def sp__law_bag (K : PySem.W.Frag) (d : Ads) : Sp := spBag K
def spBagL0 (K : PySem.W.Frag) (d : Ads) : Sp := spBagL K
set_option maxHeartbeats 4000000 in
theorem ok0__law_bag (T : Tx K mg d) : Okf P w K mg base 1 d.f__law_bag ["_law_script"] (spBagL0 K d) := by
  refine okf_of T.d__law_bag sc__law_bag (fun vs H Q E h => ?_) (fun cdv A outer s H vs Q E hr h => ?_)
  · obtain ⟨a, ns, rfl, hS, hl, k⟩ := h
    rfl
  · obtain ⟨a, ns, rfl, hS, hl, k⟩ := h
    refine ⟨_, (pss_one (ps_ret (pe_lst (pa_cons pe_int (pa_cons pe_int (pa_cons pe_int (pa_cons (pe_lc (own := [("_law_cell", 1)]) rfl sc__law_bag.nd (k_piL (K := K) rfl (pe_slice (k_slL (K := K) rfl) (pv 0) po_none (po_some pe_int))) (blkOk_by (by kernel_rfl)) (fun _ _ _ _ _ => (pg_name (i := 1) sc__law_bag.nd rfl (by first | exact Or.inl rfl | exact Or.inr rfl))) (fun _ _ _ _ _ => pts_nil) (fun _ _ _ _ _ => (pe_callB k_abs (by rfl) T.z_abs (by decide +kernel) (pa_cons (pv 1) pa_nil)))) pa_nil))))))), ?_⟩
    walk_at "rd"
    refine ⟨a, _, rfl, hS, fun c nc => ?_⟩
    rw [cut_some _ (by rw [List.length_map]; exact hl)]
    refine ⟨c, rfl, ⟨_, .inl (.inl upd_same)⟩, lc_fun (walk_list (xs := ns.map V.int)) (fun i => .int (if ns.getD i 0 < 0 then - ns.getD i 0 else ns.getD i 0)) (fun H' e => .inl (.inl (e _ _ upd_same))) (by rw [List.length_map]; omega) ?_ ?_⟩
    · rintro i x H1 H2 hi e ⟨rfl, hx⟩ kk hk
      obtain rfl := int_at hx
      walk_at "rd"
      exact hk _ (Ex.refl _)
    · intro D H' nD e hD
      rw [List.length_map] at hD
      walk_at "rd"
      refine ⟨by show 4 ≤ sizeLine; decide, fun b nb => ?_⟩
      have e1 : Ex H H' := (Ex.new nc).trans e
      have nH : H D = none := fresh_back (Ex.new nc) nD
      refine k b D ((List.range ns.length).map fun i => if ns.getD i 0 < 0 then - ns.getD i 0 else ns.getD i 0) _ (e1.trans (Ex.new nb)) (fresh_back e1 nb) nH upd_same ?_ ?_ ?_
      · rw [upd_ne (ne_of_none hD nb), hD, List.map_map]
        rfl
      · intro c hc
        obtain ⟨i, _, rfl⟩ := List.mem_map.mp hc
        exact absI _
      · rw [List.length_map, List.length_range]
        exact hl

theorem ok__law_bag (T : Tx K mg d) : Okf P w K mg base 1 d.f__law_bag ["_law_script"] (sp__law_bag K d) := bag_ok (ok0__law_bag T)

/-! ### _law_bag -/
theorem ow__law_bag (T : Tx K mg d) : Okf P w K mg base 1 d.f__law_bag ["_law_script"] (spW K (cnA d) (rN K (cnA d)) w_bag) := okw_imp (ok__law_bag T) tells_bag

/-! ### _law_take -/
theorem sc__law_take : FnScope ["_law_bag_here", "_law_upto", "_law_cell", "_law_mixed", "_law_drawn", "_law_early", "_law_second"] ["_law_bag_here", "_law_upto"] (defScope s__law_take) := ⟨rfl, rfl, rfl, by decide +kernel, rfl, by decide +kernel, by decide +kernel⟩

def sp__law_take (K : PySem.W.Frag) (d : Ads) : Sp := spTake
def spTakeL0 (K : PySem.W.Frag) (d : Ads) : Sp := spTakeL
set_option maxHeartbeats 4000000 in
theorem ok0__law_take (T : Tx K mg d) : Okf P w K mg base 1 d.f__law_take ["_law_bag_here", "_law_upto"] (spTakeL0 K d) := by
  refine okf_of T.d__law_take sc__law_take (fun vs H Q E h => ?_) (fun cdv A outer s H vs Q E hr h => ?_)
  · obtain ⟨b, l, u, o, cs, xs, rfl, hb, ⟨c0, c1, c2, rfl, h0, h1, h1u, h2⟩, hL, hc, hcl, hu0, hu1, k⟩ := h
    rfl
  · obtain ⟨b, l, u, o, cs, xs, rfl, hb, ⟨c0, c1, c2, rfl, h0, h1, h1u, h2⟩, hL, hc, hcl, hu0, hu1, k⟩ := h
    refine ⟨_, (Evl.pss_cut (ps_if (pt_cmpR op_eq (pe_ix (k_ixL (K := K) rfl) (pv 0) pe_int (fun _ _ => rfl)) pe_int (nomark _)) (pss_cons (ps_set (i := 2) sc__law_take.nd rfl (by first | exact Or.inl rfl | exact Or.inr rfl) pe_int)
      (Evl.pss_cut (ps_if (pt_cmpR op_lt (pe_ix (k_ixL (K := K) rfl) (pv 0) pe_int (fun _ _ => rfl)) (pe_callB (k_len (K := K) rfl) (by rfl) T.z_len (by decide +kernel) (pa_cons (pe_ix (k_ixL (K := K) rfl) (pv 0) pe_int (fun _ _ => rfl)) pa_nil)) (nomark _)) (pss_one (ps_set (i := 2) sc__law_take.nd rfl (by first | exact Or.inl rfl | exact Or.inr rfl) (pe_ix (k_ixL (K := K) rfl) (pe_ix (k_ixL (K := K) rfl) (pv 0) pe_int (fun _ _ => rfl)) (pe_ix (k_ixL (K := K) rfl) (pv 0) pe_int (fun _ _ => rfl)) (fun _ _ => rfl)))) pss_nil)
      (pss_cons (ps_augS (pv 0) pe_int (k_getL (K := K) rfl) pe_int ip_add set_list)
      (Evl.pss_cut (ps_if (pt_cmpR op_ge (pv 2) pe_int (nomark _)) (pss_one (ps_asg (pv 2) (pg_sub (pv 0) pe_int set_list))) pss_nil)
      (pss_cons (ps_set (i := 3) sc__law_take.nd rfl (by first | exact Or.inl rfl | exact Or.inr rfl) (pe_op op_add (pe_op op_add (pe_op op_mul (pe_ix (k_ixL (K := K) rfl) (pv 0) pe_int (fun _ _ => rfl)) pe_int) (pe_op op_mod (pe_callTy k_int1 (by rfl) T.z_int (by decide +kernel) (pa_cons (pv 2) pa_nil)) pe_int)) (pe_op op_mul pe_int (pe_ix (k_ixL (K := K) rfl) (pv 0) pe_int (fun _ _ => rfl)))))
      (pss_one (ps_asg (pe_op op_mod (pe_callTy k_int1 (by rfl) T.z_int (by decide +kernel) (pa_cons (pv 3) pa_nil)) pe_int) (pg_sub (pv 0) pe_int set_list)))))))) pss_nil)
      (pss_cons (ps_if (pt_cmpR op_gt (pe_ix (k_ixL (K := K) rfl) (pv 0) pe_int (fun _ _ => rfl)) pe_int (nomark _)) (pss_cons (ps_set (i := 4) sc__law_take.nd rfl (by first | exact Or.inl rfl | exact Or.inr rfl) (pe_op op_mod (pe_callTy k_int1 (by rfl) T.z_int (by decide +kernel) (pa_cons (pe_ix (k_ixL (K := K) rfl) (pv 0) pe_int (fun _ _ => rfl)) pa_nil)) (pv 1)))
      (pss_cons (ps_asg (pe_op op_fdiv (pe_callTy k_int1 (by rfl) T.z_int (by decide +kernel) (pa_cons (pe_ix (k_ixL (K := K) rfl) (pv 0) pe_int (fun _ _ => rfl)) pa_nil)) (pv 1)) (pg_sub (pv 0) pe_int set_list))
      (pss_one (ps_ret (pv 4))))) pss_nil)
      (pss_cons (ps_set (i := 5) sc__law_take.nd rfl (by first | exact Or.inl rfl | exact Or.inr rfl) (pe_op op_mod (pe_callTy k_int1 (by rfl) T.z_int (by decide +kernel) (pa_cons (pe_op op_mul (pe_op op_add (pe_ix (k_ixL (K := K) rfl) (pv 0) pe_int (fun _ _ => rfl)) pe_int) pe_int) pa_nil)) pe_int))
      (pss_cons (ps_set (i := 6) sc__law_take.nd rfl (by first | exact Or.inl rfl | exact Or.inr rfl) (pe_op op_mod (pe_callTy k_int1 (by rfl) T.z_int (by decide +kernel) (pa_cons (pe_op op_mul (pe_op op_mod (pe_callTy k_int1 (by rfl) T.z_int (by decide +kernel) (pa_cons (pe_op op_mul (pv 5) (pv 5)) pa_nil)) pe_int) pe_int) pa_nil)) pe_int))
      (pss_one (ps_ret (pe_op op_mod (pe_callTy k_int1 (by rfl) T.z_int (by decide +kernel) (pa_cons (pe_op op_fdiv (pv 6) pe_int) pa_nil)) (pv 1)))))))), ?_⟩
    have lb : l ≠ b := ne_of hL hb (by intro z; cases z)
    refine ⟨fun σ H' => ∃ (d0 d1 d2 : Int) (y2 y3 : Option V), σ = [some (.ref b), some (.int u), y2, y3, none, none, none] ∧ H' = upd H b (.lst [.int d0, .int d1, .int d2, .ref l]) ∧ 0 ≤ d0 ∧ 0 ≤ d1 ∧ d1 < 2147483647 ∧ 0 ≤ d2, ?_, ?_⟩
    · refine ⟨_, rfl, b, _, 0, _, rfl, rfl, SqL.of hb, rfl, rfl, _, rfl, ite2 (fun _ => ?_) (fun _ => ?_)⟩
      · -- _law_cell = 0; then the cell
        refine ⟨fun σ H' => ∃ cell : Int, 0 ≤ cell ∧ σ = [some (.ref b), some (.int u), some (.int cell), none, none, none, none] ∧ H' = H, ?_, ?_⟩
        · refine ⟨_, rfl, b, _, 2, _, rfl, rfl, SqL.of hb, rfl, _, rfl, b, _, 3, _, rfl, rfl, SqL.of hb, rfl, l, _, rfl, .inl (.inl (.inr ⟨o, hL⟩)), _, _, rfl, rfl, _, rfl, ite2 (fun hlt => ?_) (fun _ => ?_)⟩
          · have hlt' : c2 < ((cs.map V.int).length : Int) := of_decide_eq_true hlt
            rw [List.length_map] at hlt'
            have hx := at_int (ns := cs) h2 hlt'
            refine ⟨_, rfl, b, _, 3, _, rfl, rfl, SqL.of hb, rfl, _, rfl, b, _, 2, _, rfl, rfl, SqL.of hb, rfl, l, _, c2, _, rfl, rfl, .inl (.inr ⟨o, hL⟩), hx, _, hc _ (gD_mem (by omega)), rfl, rfl⟩
          · exact ⟨0, Int.le_refl 0, rfl, rfl⟩
        · rintro σ' H' ⟨cell, hcell, rfl, hH⟩
          rw [hH]
          -- bag[2] += 1
          refine ⟨_, rfl, b, _, 2, _, rfl, rfl, SqL.of hb, rfl, _, _, rfl, rfl, b, _, 2, 2, rfl, rfl, hb, rfl, ?_⟩
          -- if cell >= 10 ** 18: bag[0] = cell
          refine ⟨fun σ H' => ∃ d0 : Int, 0 ≤ d0 ∧ σ = [some (.ref b), some (.int u), some (.int cell), none, none, none, none] ∧ H' = upd H b (.lst [.int d0, .int c1, .int (c2 + 1), .ref l]), ?_, ?_⟩
          · refine ⟨_, rfl, _, _, rfl, rfl, _, rfl, ite2 (fun _ => ?_) (fun _ => ?_)⟩
            · refine ⟨_, rfl, _, rfl, b, _, 0, 0, rfl, rfl, upd_same, rfl, cell, hcell, rfl, ?_⟩
              rw [upd_upd]
              rfl
            · exact ⟨c0, h0, rfl, rfl⟩
          · rintro σ' H' ⟨d0, hd0, rfl, rfl⟩
            -- _law_mixed; bag[1] = int(_law_mixed) % 2147483647
            refine ⟨_, rfl, b, _, 1, _, rfl, rfl, SqL.of upd_same, rfl, c1, _, rfl, rfl, .inl ⟨by omega, by omega⟩, _, rfl, .inl ⟨_, rfl, _, _, rfl, rfl, (by show (0 : Int) < 2147483647; decide), _, _, rfl, rfl, _, rfl, b, _, 2, _, rfl, rfl, SqL.of upd_same, rfl, _, _, rfl, rfl, .inl ⟨by decide, by decide⟩, _, _, rfl, rfl, ?_⟩⟩
            refine ⟨_, rfl, .inl ⟨_, rfl, _, _, rfl, rfl, (by show (0 : Int) < 2147483647; decide), _, rfl, b, _, 1, 1, rfl, rfl, upd_same, rfl, ?_⟩⟩
            refine ⟨d0, _, c2 + 1, _, _, rfl, by rw [upd_upd]; rfl, hd0, Int.emod_nonneg _ (by decide), Int.emod_lt_of_pos _ (by decide), by omega⟩
      · refine ⟨c0, c1, c2, none, none, rfl, ?_, h0, h1, h1u, h2⟩
        funext a
        by_cases ha : a = b
        · subst ha
          rw [upd_same, hb]
        · rw [upd_ne ha]
    · rintro σ' H' ⟨d0, d1, d2, y2, y3, rfl, rfl, g0, g1, g1u, g2⟩
      have kk : ∀ (n : Int) (ys : List V), 0 ≤ n → n < u → BagV l ys → Q (.int n) (upd (upd H b (.lst [.int d0, .int d1, .int d2, .ref l])) b (.lst ys)) := fun n ys a1 a2 a3 => by
        rw [upd_upd]
        exact k n ys a1 a2 a3
      refine ⟨_, rfl, b, _, 0, _, rfl, rfl, SqL.of upd_same, rfl, _, _, rfl, rfl, _, rfl, ite2 (fun hp => ?_) (fun _ => ?_)⟩
      · have hp' : 0 < d0 := of_decide_eq_true hp
        refine ⟨_, rfl, b, _, 0, _, rfl, rfl, SqL.of upd_same, rfl, .inl ⟨_, rfl, _, rfl, _, _, rfl, rfl, hu0, ?_⟩⟩
        refine ⟨_, rfl, b, _, 0, _, rfl, rfl, SqL.of upd_same, rfl, .inl ⟨_, rfl, _, rfl, _, _, rfl, rfl, ⟨hu0, hu1⟩, _, rfl, b, _, 0, 0, rfl, rfl, upd_same, rfl, _, rfl, ?_⟩⟩
        exact kk _ _ (Int.emod_nonneg _ (by omega)) (Int.emod_lt_of_pos _ hu0) ⟨_, d1, d2, rfl, Int.ediv_nonneg (by omega) (by omega), g1, g1u, g2⟩
      · refine ⟨_, rfl, b, _, 1, _, rfl, rfl, SqL.of upd_same, rfl, _, _, rfl, rfl, _, _, rfl, rfl, .inr ⟨by decide, by decide⟩, .inl ⟨_, rfl, _, _, rfl, rfl, (by show (0 : Int) < 1000000007; decide), ?_⟩⟩
        have e0 : 0 ≤ (d1 + 1) * 39373 % 1000000007 := Int.emod_nonneg _ (by decide)
        have e1 : (d1 + 1) * 39373 % 1000000007 < 1000000007 := Int.emod_lt_of_pos _ (by decide)
        refine ⟨_, rfl, _, rfl, _, _, rfl, rfl, .inl ⟨by omega, by omega⟩, .inl ⟨_, rfl, _, _, rfl, rfl, (by show (0 : Int) < 998244353; decide), _, _, rfl, rfl, .inr ⟨by decide, by decide⟩, .inl ⟨_, rfl, _, _, rfl, rfl, (by show (0 : Int) < 998244353; decide), ?_⟩⟩⟩
        refine ⟨_, rfl, _, _, rfl, rfl, ⟨by decide, by decide⟩, .inl ⟨_, rfl, _, rfl, _, _, rfl, rfl, hu0, ?_⟩⟩
        exact k _ _ (Int.emod_nonneg _ (by omega)) (Int.emod_lt_of_pos _ hu0) ⟨d0, d1, d2, rfl, g0, g1, g1u, g2⟩

theorem ok__law_take (T : Tx K mg d) : Okf P w K mg base 1 d.f__law_take ["_law_bag_here", "_law_upto"] (sp__law_take K d) := take_ok (ok0__law_take T) rfl

/-! ### _law_take -/
theorem ow__law_take (T : Tx K mg d) : Okf P w K mg base 1 d.f__law_take ["_law_bag_here", "_law_upto"] (spW K (cnA d) (rN K (cnA d)) w_take) := okw_imp (ok__law_take T) tells_take

/-! ### _law_number -/
theorem sc__law_number : FnScope ["_law_bag_here", "_law_way"] ["_law_bag_here"] (defScope s__law_number) := ⟨rfl, rfl, rfl, by decide +kernel, rfl, by decide +kernel, by decide +kernel⟩

def sp__law_number (K : PySem.W.Frag) (d : Ads) : Sp := fun vs H Q _ => ∃ (b : Addr), vs = [.ref b] ∧ Bag H b ∧ ∀ n : Int, 0 ≤ n → n < 10 ^ 30 → Q (.int n) H
set_option maxHeartbeats 4000000 in
theorem ok__law_number (T : Tx K mg d) : Okf P w K mg base 2 d.f__law_number ["_law_bag_here"] (sp__law_number K d) := by
  refine okf_of T.d__law_number sc__law_number (fun vs H Q E h => ?_) (fun cdv A outer s H vs Q E hr h => ?_)
  · obtain ⟨b, rfl, hB, k⟩ := h
    rfl
  · obtain ⟨b, rfl, hB, k⟩ := h
    refine ⟨_, (pss_cons (ps_set (i := 1) sc__law_number.nd rfl (by first | exact Or.inl rfl | exact Or.inr rfl) (pf_call (ok__law_take T) (hr.mono (by decide)) (by rfl) T.g__law_take T.d__law_take.kp (pa_cons (pv 0) (pa_cons pe_int pa_nil))))
      (pss_cons (ps_if (pt_cmpR op_lt (pv 1) pe_int (nomark _)) (pss_one (ps_ret (pf_call (ok__law_take T) (hr.mono (by decide)) (by rfl) T.g__law_take T.d__law_take.kp (pa_cons (pv 0) (pa_cons pe_int pa_nil))))) pss_nil)
      (pss_one (ps_ret (pe_ifExp (pt_cmpR op_eq (pv 1) pe_int (nomark _)) (pf_call (ok__law_take T) (hr.mono (by decide)) (by rfl) T.g__law_take T.d__law_take.kp (pa_cons (pv 0) (pa_cons pe_int pa_nil))) (pe_op op_sub (pe_op op_sub (pe_op op_pow pe_int pe_int) pe_int) (pf_call (ok__law_take T) (hr.mono (by decide)) (by rfl) T.g__law_take T.d__law_take.kp (pa_cons (pv 0) (pa_cons pe_int pa_nil))))))))), ?_⟩
    walk_at "rd"
    refine ⟨b, _, rfl, hB, by omega, by omega, fun c c0 c1 => ?_⟩
    walk_at "rd"
    refine r_ite (fun _ => ?_) (fun _ => ?_)
    · walk_at "rd"
      exact ⟨b, _, rfl, hB, by omega, by omega, fun z z0 z1 => k z z0 (by omega)⟩
    · walk_at "rd"
      refine r_ite (fun _ => ?_) (fun _ => ?_)
      · walk_at "rd"
        exact ⟨b, _, rfl, hB, by omega, by omega, fun z z0 z1 => k z z0 (by omega)⟩
      · walk_at "rd"
        refine ⟨b, _, rfl, hB, by omega, by omega, fun z z0 z1 => ?_⟩
        walk_at "rd"
        exact k _ (by show 0 ≤ (10 : Int) ^ 30 - 1 - z; omega) (by show (10 : Int) ^ 30 - 1 - z < 10 ^ 30; omega)

/-! ### _law_numbers -/
theorem sc__law_numbers : FnScope ["_law_bag_here", "_law_many", "_law_way", "_law_hour", "_law_found", "_law_one"] ["_law_bag_here", "_law_many"] (defScope s__law_numbers) := ⟨rfl, rfl, rfl, by decide +kernel, rfl, by decide +kernel, by decide +kernel⟩

def sp__law_numbers (K : PySem.W.Frag) (d : Ads) : Sp := fun vs H Q _ => ∃ (b : Addr) (n : Nat), vs = [.ref b, .int (n : Int)] ∧ Bag H b ∧ 1 ≤ n ∧ n ≤ 48 ∧ ∀ s : List Int, s.length = n → (∀ z ∈ s, 0 ≤ z ∧ z < 10 ^ 30) → RetN (s.map V.int) H Q
set_option maxHeartbeats 4000000 in
theorem ok__law_numbers (T : Tx K mg d) : Okf P w K mg base 3 d.f__law_numbers ["_law_bag_here", "_law_many"] (sp__law_numbers K d) := by
  refine okf_of T.d__law_numbers sc__law_numbers (fun vs H Q E h => ?_) (fun cdv A outer s H vs Q E hr h => ?_)
  · obtain ⟨b, n, rfl, hB, n1, n8, k⟩ := h
    rfl
  · obtain ⟨b, n, rfl, hB, n1, n8, k⟩ := h
    refine ⟨_, (pss_cons (ps_set (i := 2) sc__law_numbers.nd rfl (by first | exact Or.inl rfl | exact Or.inr rfl) (pf_call (ok__law_take T) (hr.mono (by decide)) (by rfl) T.g__law_take T.d__law_take.kp (pa_cons (pv 0) (pa_cons pe_int pa_nil))))
      (pss_cons (ps_if (pt_cmpR op_eq (pv 2) pe_int (nomark _)) (pss_one (ps_ret (pe_lc (own := [("_law_hour", 3)]) rfl sc__law_numbers.nd (pi_range1 (by rfl) T.z_range (pa_cons (pv 1) pa_nil)) (blkOk_by (by kernel_rfl)) (fun _ _ _ _ _ => (pg_name (i := 3) sc__law_numbers.nd rfl (by first | exact Or.inl rfl | exact Or.inr rfl))) (fun _ _ _ _ _ => pts_nil) (fun _ _ _ _ _ => (pf_call (ok__law_take T) (hr.mono (by decide)) (by rfl) T.g__law_take T.d__law_take.kp (pa_cons (pv 0) (pa_cons pe_int pa_nil))))))) pss_nil)
      (pss_cons (ps_if (pt_cmpR op_eq (pv 2) pe_int (nomark _)) (pss_one (ps_ret (pe_lc (own := [("_law_hour", 3)]) rfl sc__law_numbers.nd (pi_range1 (by rfl) T.z_range (pa_cons (pv 1) pa_nil)) (blkOk_by (by kernel_rfl)) (fun _ _ _ _ _ => (pg_name (i := 3) sc__law_numbers.nd rfl (by first | exact Or.inl rfl | exact Or.inr rfl))) (fun _ _ _ _ _ => pts_nil) (fun _ _ _ _ _ => (pe_op op_mul (pf_call (ok__law_take T) (hr.mono (by decide)) (by rfl) T.g__law_take T.d__law_take.kp (pa_cons (pv 0) (pa_cons pe_int pa_nil))) (pf_call (ok__law_take T) (hr.mono (by decide)) (by rfl) T.g__law_take T.d__law_take.kp (pa_cons (pv 0) (pa_cons pe_int pa_nil)))))))) pss_nil)
      (pss_cons (ps_if (pt_cmpR op_eq (pv 2) pe_int (nomark _)) (pss_one (ps_ret (pe_op op_rep (pe_lst (pa_cons (pe_op op_add pe_int (pf_call (ok__law_take T) (hr.mono (by decide)) (by rfl) T.g__law_take T.d__law_take.kp (pa_cons (pv 0) (pa_cons pe_int pa_nil)))) pa_nil)) (pv 1)))) pss_nil)
      (pss_cons (ps_setLc (i := 4) (own := [("_law_hour", 3)]) rfl sc__law_numbers.nd rfl rfl (sw_true rfl rfl rfl (by decide +kernel)) (pi_range1 (by rfl) T.z_range (pa_cons (pv 1) pa_nil)) (blkOk_by (by kernel_rfl)) (fun _ _ _ _ _ => (pg_name (i := 3) sc__law_numbers.nd rfl (by first | exact Or.inl rfl | exact Or.inr rfl))) (fun _ _ _ _ _ => pts_nil) (fun _ _ _ _ _ => (pf_call (ok__law_number T) (hr.mono (by decide)) (by rfl) T.g__law_number T.d__law_number.kp (pa_cons (pv 0) pa_nil))))
      (pss_one (ps_ret (pe_lc (own := [("_law_one", 5)]) rfl sc__law_numbers.nd (k_piL (K := K) rfl (pv 4)) (blkOk_by (by kernel_rfl)) (fun _ _ _ _ _ => (pg_name (i := 5) sc__law_numbers.nd rfl (by first | exact Or.inl rfl | exact Or.inr rfl))) (fun _ _ _ _ _ => pts_nil) (fun _ _ _ _ _ => (pe_ifExp (pt_cmpR op_lt (pv 5) pe_int (nomark _)) (pv 5) (pe_op op_fdiv (pv 5) (pe_op op_mul pe_int (pv 1))))))))))))), ?_⟩
    walk_at "rd"
    refine ⟨b, _, rfl, hB, by omega, by omega, fun c c0 c1 => ?_⟩
    walk_at "rd"
    refine r_ite (fun _ => ?_) (fun _ => ?_)
    · walk_at "rd"
      refine lc_ints walk_r0 (fun z => 0 ≤ z ∧ z < 10 ^ 30) (fun _ _ => trivial) (by omega) ?_ ?_
      · rintro j x H4 H5 hj e4 ⟨rfl, rfl⟩ kk hk
        walk_at "rd"
        exact ⟨b, _, rfl, (by walk_at "kn"), by omega, by omega, fun z z0 z1 => hk _ _ (Ex.refl _) (by omega)⟩
      intro D1 H4 ms nD1 e4 hD1 hl hm
      exact k ms (by omega) hm D1 H4 nD1 e4 hD1
    walk_at "rd"
    refine r_ite (fun _ => ?_) (fun _ => ?_)
    · walk_at "rd"
      refine lc_ints walk_r0 (fun z => 0 ≤ z ∧ z < 10 ^ 30) (fun _ _ => trivial) (by omega) ?_ ?_
      · rintro j x H4 H5 hj e4 ⟨rfl, rfl⟩ kk hk
        walk_at "rd"
        refine ⟨b, _, rfl, (by walk_at "kn"), by omega, by omega, fun y y0 y1 => ?_⟩
        walk_at "rd"
        refine ⟨b, _, rfl, (by walk_at "kn"), by omega, by omega, fun z z0 z1 => ?_⟩
        walk_at "rd"
        exact hk _ _ (Ex.refl _) (mul_in y0 y1 z0 z1)
      intro D1 H4 ms nD1 e4 hD1 hl hm
      exact k ms (by omega) hm D1 H4 nD1 e4 hD1
    walk_at "rd"
    refine r_ite (fun _ => ?_) (fun _ => ?_)
    · walk_at "rd"
      refine ⟨b, _, rfl, (by walk_at "kn"), by omega, by omega, fun z z0 z1 => ?_⟩
      walk_at "rd"
      refine ⟨szc rfl, fun p np => ?_⟩
      walk_at "rd"
      refine ⟨p, (n : Int), _, rfl, rfl, upd_same, by omega, by omega, ?_, fun p2 np2 => ?_⟩
      · rw [Int.toNat_natCast, List.length_singleton]
        exact line_le (by omega)
      rw [Int.toNat_natCast, rep_flat1, rep_map]
      exact k _ List.length_replicate (rep_in (by omega)) p2 _ (by walk_at "fr") (by walk_at "ex") upd_same
    walk_at "rd"
    refine lc_ints walk_r0 (fun z => 0 ≤ z ∧ z < 10 ^ 30) (fun _ _ => trivial) (by omega) ?_ ?_
    · rintro j x H4 H5 hj e4 ⟨rfl, rfl⟩ kk hk
      walk_at "rd"
      exact ⟨b, rfl, (by walk_at "kn"), fun z z0 z1 => hk _ _ (Ex.refl _) ⟨z0, z1⟩⟩
    intro D1 H4 ms nD1 e4 hD1 hl hm
    walk_at "rd"
    refine ⟨D1, rfl, ⟨_, at_sqL hD1⟩, ?_⟩
    refine lc_ints (walk_list (xs := ms.map V.int)) (fun z => 0 ≤ z ∧ z < 10 ^ 30) (fun H' e => (by walk_at "kn")) (by rw [List.length_map]; omega) ?_ ?_
    · rintro j x H6 H7 hj e6 ⟨rfl, hx⟩ kk hk
      obtain rfl := int_at hx
      rw [List.length_map] at hj
      have hz := hm _ (gD_mem hj)
      walk_at "rd"
      refine r_ite (fun _ => ?_) (fun _ => ?_)
      · walk_at "rd"
        exact hk _ _ (Ex.refl _) hz
      · walk_at "rd"
        exact hk _ _ (Ex.refl _) (div_in hz.1 hz.2 (by omega))
    intro D2 H6 ks nD2 e6 hD2 hl2 hm2
    rw [List.length_map] at hl2
    exact k ks (by omega) hm2 D2 H6 (by walk_at "fr") (by walk_at "ex") hD2

/-! ### _law_numbers -/
def w__law_numbers : WF := fun xs P => ∃ (n : Nat), xs = [.bag, .int (n : Int)] ∧ 1 ≤ n ∧ n ≤ 48 ∧ ∀ s : List Int, s.length = n → (∀ z ∈ s, 0 ≤ z ∧ z < 10 ^ 30) → P (.lst (iL s))
theorem ow__law_numbers (T : Tx K mg d) : Okf P w K mg base 3 d.f__law_numbers ["_law_bag_here", "_law_many"] (spW K (cnA d) (rN K (cnA d)) w__law_numbers) := okw_imp (ok__law_numbers T) (fun vs H Q E ⟨F, xs, P, dm, r, ⟨n, ex, c1, c2, p⟩, k⟩ => by
  subst ex
  obtain ⟨v1, v2, rfl, r1, r2⟩ := r.two
  obtain ⟨a1, rfl, h1⟩ := r1.bagE
  cases r2.intE
  exact ⟨a1, n, rfl, h1, c1, c2, fun s hl g => ret_ints dm k (p s hl g)⟩)

/-! ### _law_stays -/
theorem sc__law_stays : FnScope ["_law_bag_here", "_law_many", "_law_most", "_law_drawn", "_law_hour", "_law_ahead"] ["_law_bag_here", "_law_many"] (defScope s__law_stays) := ⟨rfl, rfl, rfl, by decide +kernel, rfl, by decide +kernel, by decide +kernel⟩

def sp__law_stays (K : PySem.W.Frag) (d : Ads) : Sp := fun vs H Q _ => ∃ (b : Addr) (n : Nat), vs = [.ref b, .int (n : Int)] ∧ Bag H b ∧ 1 ≤ n ∧ n ≤ 48 ∧ ∀ s : List Int, s.length = n → Good s → RetN (s.map V.int) H Q
set_option maxHeartbeats 4000000 in
theorem ok__law_stays (T : Tx K mg d) : Okf P w K mg base 2 d.f__law_stays ["_law_bag_here", "_law_many"] (sp__law_stays K d) := by
  refine okf_of T.d__law_stays sc__law_stays (fun vs H Q E h => ?_) (fun cdv A outer s H vs Q E hr h => ?_)
  · obtain ⟨b, n, rfl, hB, hn, hn2, k⟩ := h
    rfl
  · obtain ⟨b, n, rfl, hB, hn, hn2, k⟩ := h
    refine ⟨_, (pss_cons (ps_if (pt_cmpR op_eq (pf_call (ok__law_take T) (hr.mono (by decide)) (by rfl) T.g__law_take T.d__law_take.kp (pa_cons (pv 0) (pa_cons pe_int pa_nil))) pe_int (nomark _)) (pss_one (ps_ret (pe_op op_rep (pe_lst (pa_cons (pe_op op_add pe_int (pf_call (ok__law_take T) (hr.mono (by decide)) (by rfl) T.g__law_take T.d__law_take.kp (pa_cons (pv 0) (pa_cons (pv 1) pa_nil)))) pa_nil)) (pv 1)))) pss_nil)
      (pss_cons (ps_set (i := 2) sc__law_stays.nd rfl (by first | exact Or.inl rfl | exact Or.inr rfl) (pe_op op_add pe_int (pf_call (ok__law_take T) (hr.mono (by decide)) (by rfl) T.g__law_take T.d__law_take.kp (pa_cons (pv 0) (pa_cons (pv 1) pa_nil)))))
      (pss_cons (ps_set (i := 3) sc__law_stays.nd rfl (by first | exact Or.inl rfl | exact Or.inr rfl) (pe_lc (own := [("_law_hour", 4)]) rfl sc__law_stays.nd (pi_range1 (by rfl) T.z_range (pa_cons (pv 1) pa_nil)) (blkOk_by (by kernel_rfl)) (fun _ _ _ _ _ => (pg_name (i := 4) sc__law_stays.nd rfl (by first | exact Or.inl rfl | exact Or.inr rfl))) (fun _ _ _ _ _ => pts_nil) (fun _ _ _ _ _ => (pe_op op_add pe_int (pf_call (ok__law_take T) (hr.mono (by decide)) (by rfl) T.g__law_take T.d__law_take.kp (pa_cons (pv 0) (pa_cons (pv 2) pa_nil)))))))
      (pss_one (ps_ret (pe_lc (own := [("_law_hour", 4)]) rfl sc__law_stays.nd (pi_range1 (by rfl) T.z_range (pa_cons (pv 1) pa_nil)) (blkOk_by (by kernel_rfl)) (fun _ _ _ _ _ => (pg_name (i := 4) sc__law_stays.nd rfl (by first | exact Or.inl rfl | exact Or.inr rfl))) (fun _ _ _ _ _ => pts_nil) (fun _ _ _ _ _ => (pe_callB (k_min (K := K) rfl rfl) (by rfl) T.z_min (by decide +kernel) (pa_cons (pe_lc (own := [("_law_ahead", 5)]) rfl sc__law_stays.nd (pi_range1 (by rfl) T.z_range (pa_cons (pv 1) pa_nil)) (blkOk_by (by kernel_rfl)) (fun _ _ _ _ _ => (pg_name (i := 5) sc__law_stays.nd rfl (by first | exact Or.inl rfl | exact Or.inr rfl))) (fun _ _ _ _ _ => pts_nil) (fun _ _ _ _ _ => (pe_op op_add (pe_ix (k_ixL (K := K) rfl) (pv 3) (pe_op op_mod (pe_callTy k_int1 (by rfl) T.z_int (by decide +kernel) (pa_cons (pe_op op_add (pv 4) (pv 5)) pa_nil)) (pv 1)) (fun _ _ => rfl)) (pv 5)))) pa_nil))))))))), ?_⟩
    walk_at "rd"
    refine ⟨b, _, rfl, hB, by omega, by omega, fun c0 _ _ => ?_⟩
    walk_at "rd"
    refine r_ite (fun _ => ?_) (fun _ => ?_)
    · walk_at "rd"
      refine ⟨b, _, rfl, hB, by omega, by omega, fun c c1 c2 => ?_⟩
      walk_at "rd"
      refine ⟨szc rfl, fun p np => ?_⟩
      walk_at "rd"
      refine ⟨p, _, _, rfl, rfl, upd_same, by omega, by omega, ?_, fun q nq => ?_⟩
      · rw [Int.toNat_natCast]
        show 1 * n ≤ sizeLine
        have : (48 : Nat) ≤ sizeLine := by decide
        omega
      · refine k (List.replicate n (1 + c)) List.length_replicate (Good.const hn hn2 (by omega) (by omega)) q _ ?_ ((Ex.new np).trans (Ex.new nq)) ?_
        · exact fresh_back (Ex.new np) nq
        · rw [upd_same, Int.toNat_natCast, flat_rep, List.map_replicate]
    · walk_at "rd"
      refine ⟨b, _, rfl, hB, by omega, by omega, fun c c1 c2 => ?_⟩
      walk_at "rd"
      refine lc_val walk_r0 (fun _ v => ∃ z : Int, 0 ≤ z ∧ z < 1 + c ∧ v = .int (1 + z)) (fun _ _ => trivial) (by omega) ?_ ?_
      · rintro i x H1 H2 hi e ⟨rfl, rfl⟩ kk hk
        walk_at "rd"
        refine ⟨b, _, rfl, hB.mono (.of e), by omega, by omega, fun z z1 z2 => ?_⟩
        walk_at "rd"
        exact hk _ _ (Ex.refl _) ⟨z, z1, z2, rfl⟩
      · intro D H1 ys nD e1 hD yl yv
        rw [Int.toNat_natCast] at yl
        obtain ⟨dr, hdr, rfl⟩ : ∃ dr : List Int, (∀ z ∈ dr, 1 ≤ z ∧ z ≤ 1 + c) ∧ ys = dr.map V.int := ints_of fun v hv => by
          obtain ⟨i, hi, rfl⟩ := List.mem_iff_getElem.mp hv
          obtain ⟨z, z0, z1, ez⟩ := yv i _ (List.getElem?_eq_getElem hi)
          exact ⟨1 + z, by omega, ez⟩
        rw [List.length_map] at yl
        have hcy : ∀ i, 1 ≤ cyc dr i ∧ cyc dr i ≤ 1 + c := fun i => hdr _ (cyc_mem (by omega) i)
        walk_at "rd"
        refine lc_val walk_r0 (fun i v => ∃ m : Int, v = .int m ∧ (∃ a : Nat, a < n ∧ m = cyc dr ((i : Int) + a) + a) ∧ ∀ a : Nat, a < n → m ≤ cyc dr ((i : Int) + a) + a) (fun _ _ => trivial) (by omega) ?_ ?_
        · rintro i x H2 H3 hi e ⟨rfl, rfl⟩ kk hk
          walk_at "rd"
          refine lc_fun walk_r0 (fun a => .int (cyc dr ((i : Int) + a) + a)) (fun _ _ => trivial) (by omega) ?_ ?_
          · rintro a x H4 H5 ha e' ⟨rfl, rfl⟩ kk' hk'
            walk_at "rd"
            have ea := at_cyc (ns := dr) (by omega) ((i : Int) + a)
            rw [yl] at ea
            refine r_ixL (.inl (.inl (e' _ _ (e _ _ hD)))) ea ?_
            walk_at "rd"
            exact hk' _ (Ex.refl _)
          · intro D2 H4 nD2 e4 hD2
            walk_at "rd"
            refine ⟨D2, (List.range n).map (fun a : Nat => cyc dr ((i : Int) + a) + a), rfl, .inl (.inl ?_), ?_, fun m hm hle => ?_⟩
            · rw [hD2, List.map_map, Int.toNat_natCast]
              rfl
            · rw [List.length_map, List.length_range]
              omega
            · refine hk _ _ e4 ⟨m, rfl, ?_, fun a ha => hle _ (List.mem_map.mpr ⟨a, List.mem_range.mpr ha, rfl⟩)⟩
              obtain ⟨a, ha, ea⟩ := List.mem_map.mp hm
              exact ⟨a, List.mem_range.mp ha, ea.symm⟩
        · intro D2 H2 zs nD2 e2 hD2 zl zv
          rw [Int.toNat_natCast] at zl
          obtain ⟨m, _, rfl⟩ : ∃ m : List Int, (∀ z ∈ m, True) ∧ zs = m.map V.int := ints_of fun v hv => by
            obtain ⟨i, hi, rfl⟩ := List.mem_iff_getElem.mp hv
            obtain ⟨z, ez, _⟩ := zv i _ (List.getElem?_eq_getElem hi)
            exact ⟨z, trivial, ez⟩
          rw [List.length_map] at zl
          refine k m zl (Good.least (dr := dr) (top := 1 + c) hn hn2 zl yl (by omega) hcy fun j hj => ?_) D2 H2 (fresh_back e1 nD2) (e1.trans e2) hD2
          obtain ⟨z, ez, h1, h2⟩ := zv j _ (by rw [List.getElem?_map, List.getElem?_eq_getElem (by omega)]; rfl)
          have ez' : m.getD j 0 = z := by
            rw [List.getD_eq_getElem?_getD, List.getElem?_eq_getElem (by omega)]
            exact V.int.inj ez
          rw [ez']
          exact ⟨h1, h2⟩

/-! ### _law_stays -/
def w__law_stays : WF := fun xs P => ∃ (n : Nat), xs = [.bag, .int (n : Int)] ∧ 1 ≤ n ∧ n ≤ 48 ∧ ∀ s : List Int, s.length = n → Good s → P (.lst (iL s))
theorem ow__law_stays (T : Tx K mg d) : Okf P w K mg base 2 d.f__law_stays ["_law_bag_here", "_law_many"] (spW K (cnA d) (rN K (cnA d)) w__law_stays) := okw_imp (ok__law_stays T) (fun vs H Q E ⟨F, xs, P, dm, r, ⟨n, ex, c1, c2, p⟩, k⟩ => by
  subst ex
  obtain ⟨v1, v2, rfl, r1, r2⟩ := r.two
  obtain ⟨a1, rfl, h1⟩ := r1.bagE
  cases r2.intE
  exact ⟨a1, n, rfl, h1, c1, c2, fun s hl g => ret_ints dm k (p s hl g)⟩)

/-! ### _law_free_world -/
def t__law_free_world : WS := (wSeq (wTupO [2, 3, 4, 5] [false, true, true, true] (wCons (wCall w__law_numbers (wCons (wVar 0) (wCons (wVar 1) wNil))) (wCons (wOp wMul (wLst (wCons (wC .non) wNil)) (wVar 1)) (wCons (wOp wMul (wLst (wCons (wC (.int 0)) wNil)) (wVar 1)) (wCons (wOp wMul (wLst (wCons (wC .non) wNil)) (wVar 1)) wNil)))))
      (wSeq (wSet 6 (wCall w_take (wCons (wVar 0) (wCons (wC (.int 4)) wNil))))
      (wSeq (wFor (wRng1 (wCons (wOp wMul (wVar 1) (wCB wInt1 (wCons (wOp (wIB fun i j => decide (j < i)) (wVar 6) (wC (.int 0))) wNil))) wNil)) (wgName 7) (wCut (wIfS (wTest (wOp wEq (wCall w_take (wCons (wVar 0) (wCons (wC (.int 2)) wNil))) (wC (.int 0)))) (wSub 3 (wOp wAdd (wCall w_take (wCons (wVar 0) (wCons (wC (.int 3)) wNil))) (wOp wMul (wOp wIx (wVar 2) (wVar 7)) (wCB wInt1 (wCons (wOp (wIB fun i j => decide (j < i)) (wCall w_take (wCons (wVar 0) (wCons (wC (.int 4)) wNil))) (wC (.int 0))) wNil)))) (wVar 7)) (fun D ρ => D.nx ρ))
      (wSeq (wSub 4 (wOp wMul (wCall w_take (wCons (wVar 0) (wCons (wC (.int 4)) wNil))) (wCB wInt1 (wCons (wOp wEq (wCall w_take (wCons (wVar 0) (wCons (wC (.int 4)) wNil))) (wC (.int 0))) wNil))) (wVar 7))
      (wIfS (wTand (wTest (wOp wEq (wCall w_take (wCons (wVar 0) (wCons (wC (.int 3)) wNil))) (wC (.int 0)))) (wTest (wOp (wIB fun i j => decide (j < i)) (wVar 6) (wC (.int 1))))) (wSub 5 (wOp wAdd (wCall w_take (wCons (wVar 0) (wCons (wC (.int 4)) wNil))) (wOp wMul (wOp wIx (wVar 4) (wVar 7)) (wCB wInt1 (wCons (wOp (wIB fun i j => decide (j < i)) (wCall w_take (wCons (wVar 0) (wCons (wC (.int 4)) wNil))) (wC (.int 0))) wNil)))) (wVar 7)) (fun D ρ => D.nx ρ)))))
      (wRet (wTup (wCons (wCall w__law_stays (wCons (wVar 0) (wCons (wVar 1) wNil))) (wCons (wVar 2) (wCons (wVar 3) (wCons (wVar 4) (wCons (wVar 5) wNil))))))))))
def w__law_free_world : WF := wDef 2 6 t__law_free_world
theorem scw__law_free_world : FnScope ["_law_bag_here", "_law_many", "_law_wants", "_law_tops", "_law_floors", "_law_caps", "_law_way", "_law_hour"] ["_law_bag_here", "_law_many"] (defScope s__law_free_world) := ⟨rfl, rfl, rfl, by decide +kernel, rfl, by decide +kernel, by decide +kernel⟩
set_option maxHeartbeats 4000000 in
theorem ow__law_free_world (T : Tx K mg d) : Okf P w K mg base 4 d.f__law_free_world ["_law_bag_here", "_law_many"] (spW K (cnA d) (rN K (cnA d)) w__law_free_world) :=
  okw_of (ts' := [.sh, .sh, .sh, .sh, .sh, .sh, .sh, .no]) T.d__law_free_world scw__law_free_world rfl rfl rnonN fun cdv A outer s H E hr =>
    ⟨_, (pss_cons (ps_asg (pe_tup (pa_cons (pf_call (ow__law_numbers T) (hr.mono (by decide)) (by rfl) T.g__law_numbers T.d__law_numbers.kp (pa_cons (pv 0) (pa_cons (pv 1) pa_nil))) (pa_cons (pe_op u_mul (pe_lst (pa_cons pe_non pa_nil)) (pv 1)) (pa_cons (pe_op u_mul (pe_lst (pa_cons pe_int pa_nil)) (pv 1)) (pa_cons (pe_op u_mul (pe_lst (pa_cons pe_non pa_nil)) (pv 1)) pa_nil))))) (k_gtup (K := K) (n := 4) rfl rfl (pgs_cons (pg_name (i := 2) scw__law_free_world.nd rfl (by first | exact Or.inl rfl | exact Or.inr rfl)) (pgs_cons (pg_name (i := 3) scw__law_free_world.nd rfl (by first | exact Or.inl rfl | exact Or.inr rfl)) (pgs_cons (pg_name (i := 4) scw__law_free_world.nd rfl (by first | exact Or.inl rfl | exact Or.inr rfl)) (pgs_cons (pg_name (i := 5) scw__law_free_world.nd rfl (by first | exact Or.inl rfl | exact Or.inr rfl)) pgs_nil))))))
      (pss_cons (ps_set (i := 6) scw__law_free_world.nd rfl (by first | exact Or.inl rfl | exact Or.inr rfl) (pf_call (ow__law_take T) (hr.mono (by decide)) (by rfl) T.g__law_take T.d__law_take.kp (pa_cons (pv 0) (pa_cons pe_int pa_nil))))
      (pss_cons (ps_for PassesOwn.never rfl (pi_range1 (by rfl) T.z_range (pa_cons (pe_op u_mul (pv 1) (pe_callTy u_int (by rfl) T.z_int (by decide +kernel) (pa_cons (pe_cmpR op_gt (pv 6) pe_int (nomark _)) pa_nil))) pa_nil)) (pg_name (i := 7) scw__law_free_world.nd rfl (by first | exact Or.inl rfl | exact Or.inr rfl)) (Evl.pss_cut (ps_if (pt_cmpR (u_eq (K := K) rfl hr.units) (pf_call (ow__law_take T) (hr.mono (by decide)) (by rfl) T.g__law_take T.d__law_take.kp (pa_cons (pv 0) (pa_cons pe_int pa_nil))) pe_int (nomark _)) (pss_one (ps_asg (pe_op (u_add (K := K) rfl) (pf_call (ow__law_take T) (hr.mono (by decide)) (by rfl) T.g__law_take T.d__law_take.kp (pa_cons (pv 0) (pa_cons pe_int pa_nil))) (pe_op u_mul (pe_ix (k_ixS (K := K) rfl) (pv 2) (pv 7) (fun _ _ => rfl)) (pe_callTy u_int (by rfl) T.z_int (by decide +kernel) (pa_cons (pe_cmpR op_gt (pf_call (ow__law_take T) (hr.mono (by decide)) (by rfl) T.g__law_take T.d__law_take.kp (pa_cons (pv 0) (pa_cons pe_int pa_nil))) pe_int (nomark _)) pa_nil)))) (pg_sub (pv 3) (pv 7) set_list))) pss_nil)
      (pss_cons (ps_asg (pe_op u_mul (pf_call (ow__law_take T) (hr.mono (by decide)) (by rfl) T.g__law_take T.d__law_take.kp (pa_cons (pv 0) (pa_cons pe_int pa_nil))) (pe_callTy u_int (by rfl) T.z_int (by decide +kernel) (pa_cons (pe_cmpR (u_eq (K := K) rfl hr.units) (pf_call (ow__law_take T) (hr.mono (by decide)) (by rfl) T.g__law_take T.d__law_take.kp (pa_cons (pv 0) (pa_cons pe_int pa_nil))) pe_int (nomark _)) pa_nil))) (pg_sub (pv 4) (pv 7) set_list))
      (pss_one (ps_if (PW.pt (pw_and (pt_cmpR (u_eq (K := K) rfl hr.units) (pf_call (ow__law_take T) (hr.mono (by decide)) (by rfl) T.g__law_take T.d__law_take.kp (pa_cons (pv 0) (pa_cons pe_int pa_nil))) pe_int (nomark _)) (pw_and1 (pt_cmpR op_gt (pv 6) pe_int (nomark _))))) (pss_one (ps_asg (pe_op (u_add (K := K) rfl) (pf_call (ow__law_take T) (hr.mono (by decide)) (by rfl) T.g__law_take T.d__law_take.kp (pa_cons (pv 0) (pa_cons pe_int pa_nil))) (pe_op u_mul (pe_ix (k_ixS (K := K) rfl) (pv 4) (pv 7) (fun _ _ => rfl)) (pe_callTy u_int (by rfl) T.z_int (by decide +kernel) (pa_cons (pe_cmpR op_gt (pf_call (ow__law_take T) (hr.mono (by decide)) (by rfl) T.g__law_take T.d__law_take.kp (pa_cons (pv 0) (pa_cons pe_int pa_nil))) pe_int (nomark _)) pa_nil)))) (pg_sub (pv 5) (pv 7) set_list))) pss_nil)))))
      (pss_one (ps_ret (pe_tup (pa_cons (pf_call (ow__law_stays T) (hr.mono (by decide)) (by rfl) T.g__law_stays T.d__law_stays.kp (pa_cons (pv 0) (pa_cons (pv 1) pa_nil))) (pa_cons (pv 2) (pa_cons (pv 3) (pa_cons (pv 4) (pa_cons (pv 5) pa_nil))))))))))),
    (simS_seq (simS_tupO [2, 3, 4, 5] [false, true, true, true] (simP_cons (k := false) (sim_NS (sim_call okN (simA_cons (sim_var rfl) (simA_cons (sim_var rfl) simA_nil)))) (simP_cons (k := true) (sim_op okN ops_mul (sim_NW (sim_lst (simA_cons (sim_NS sim_non) simA_nil))) (sim_SW (sim_var rfl))) (simP_cons (k := true) (sim_op okN ops_mul (sim_NW (sim_lst (simA_cons (sim_NS sim_int) simA_nil))) (sim_SW (sim_var rfl))) (simP_cons (k := true) (sim_op okN ops_mul (sim_NW (sim_lst (simA_cons (sim_NS sim_non) simA_nil))) (sim_SW (sim_var rfl))) simP_nil)))))
      (simS_seq (simS_set (i := 6) (sim_NS (sim_call okN (simA_cons (sim_var rfl) (simA_cons (sim_NS sim_int) simA_nil)))))
      (simS_seq (simS_for (ts := [.sh, .sh, .sh, .ow, .ow, .ow, .sh, .no]) (simI_rng1 (simAW_cons (sim_NW (sim_op okN ops_mul (sim_SW (sim_var rfl)) (sim_NW (sim_cb okN cas_int (simAW_cons (sim_NW (sim_op okN (ops_IB (g := fun i j => decide (j < i))) (sim_SW (sim_var rfl)) (sim_NW sim_int))) simAW_nil))))) simAW_nil)) (simG_name (i := 7)) (simS_cut (simS_if (simT_val (simT_test (sim_NS (sim_op okN ops_eq (sim_NW (sim_call okN (simA_cons (sim_var rfl) (simA_cons (sim_NS sim_int) simA_nil)))) (sim_NW sim_int))))) (simS_after (ts2 := [.sh, .sh, .sh, .ow, .ow, .ow, .sh, .sh]) (simS_sub (i := 3) rfl (sim_NS (sim_op okN ops_add (sim_NW (sim_call okN (simA_cons (sim_var rfl) (simA_cons (sim_NS sim_int) simA_nil)))) (sim_NW (sim_op okN ops_mul (sim_SW (sim_op okS ops_ix (sim_SW (sim_var rfl)) (sim_SW (sim_var rfl)))) (sim_NW (sim_cb okN cas_int (simAW_cons (sim_NW (sim_op okN (ops_IB (g := fun i j => decide (j < i))) (sim_NW (sim_call okN (simA_cons (sim_var rfl) (simA_cons (sim_NS sim_int) simA_nil)))) (sim_NW sim_int))) simAW_nil))))))) (sim_SW (sim_var rfl))) rfl) (simS_after (ts2 := [.sh, .sh, .sh, .ow, .ow, .ow, .sh, .sh]) simS_nil rfl))
      (simS_seq (simS_sub (i := 4) rfl (sim_NS (sim_op okN ops_mul (sim_NW (sim_call okN (simA_cons (sim_var rfl) (simA_cons (sim_NS sim_int) simA_nil)))) (sim_NW (sim_cb okN cas_int (simAW_cons (sim_NW (sim_op okN ops_eq (sim_NW (sim_call okN (simA_cons (sim_var rfl) (simA_cons (sim_NS sim_int) simA_nil)))) (sim_NW sim_int))) simAW_nil))))) (sim_SW (sim_var rfl)))
      (simS_if (simT_val (simT_and (simT_test (sim_NS (sim_op okN ops_eq (sim_NW (sim_call okN (simA_cons (sim_var rfl) (simA_cons (sim_NS sim_int) simA_nil)))) (sim_NW sim_int)))) (simT_test (sim_NS (sim_op okN (ops_IB (g := fun i j => decide (j < i))) (sim_SW (sim_var rfl)) (sim_NW sim_int)))))) (simS_after (ts2 := [.sh, .sh, .sh, .ow, .ow, .ow, .sh, .sh]) (simS_sub (i := 5) rfl (sim_NS (sim_op okN ops_add (sim_NW (sim_call okN (simA_cons (sim_var rfl) (simA_cons (sim_NS sim_int) simA_nil)))) (sim_NW (sim_op okN ops_mul (sim_SW (sim_op okS ops_ix (sim_varO rfl) (sim_SW (sim_var rfl)))) (sim_NW (sim_cb okN cas_int (simAW_cons (sim_NW (sim_op okN (ops_IB (g := fun i j => decide (j < i))) (sim_NW (sim_call okN (simA_cons (sim_var rfl) (simA_cons (sim_NS sim_int) simA_nil)))) (sim_NW sim_int))) simAW_nil))))))) (sim_SW (sim_var rfl))) rfl) (simS_after (ts2 := [.sh, .sh, .sh, .ow, .ow, .ow, .sh, .sh]) simS_nil rfl)))) rfl)
      (simS_conv (ts1 := [.sh, .sh, .sh, .sh, .ow, .ow, .sh, .no]) rfl (simS_conv (ts1 := [.sh, .sh, .sh, .sh, .sh, .ow, .sh, .no]) rfl (simS_conv (ts1 := [.sh, .sh, .sh, .sh, .sh, .sh, .sh, .no]) rfl (simS_ret okN (sim_tup (simA_cons (sim_NS (sim_call okN (simA_cons (sim_var rfl) (simA_cons (sim_var rfl) simA_nil)))) (simA_cons (sim_var rfl) (simA_cons (sim_var rfl) (simA_cons (sim_var rfl) (simA_cons (sim_var rfl) simA_nil)))))))))))))⟩

/-! ### Needs.hours -/
theorem sc_Needs_hours : FnScope ["self"] ["self"] (defScope s_Needs_hours) := ⟨rfl, rfl, rfl, by decide +kernel, rfl, by decide +kernel, by decide +kernel⟩

def sp_Needs_hours (K : PySem.W.Frag) (d : Ads) : Sp := fun vs H Q _ => ∃ (v : V) (s : List Int), vs = [v] ∧ Nd K d H v s ∧ Q (.int (s.length : Int)) H
set_option maxHeartbeats 4000000 in
theorem ok_Needs_hours (T : Tx K mg d) : Okf P w K mg base 1 d.f_Needs_hours ["self"] (sp_Needs_hours K d) := by
  refine okf_of T.d_Needs_hours sc_Needs_hours (fun vs H Q E h => ?_) (fun cdv A outer s H vs Q E hr h => ?_)
  · obtain ⟨v, s, rfl, hN, k⟩ := h
    rfl
  · obtain ⟨v, s, rfl, hN, k⟩ := h
    refine ⟨_, (pss_one (ps_ret (pe_callB (k_len (K := K) rfl) (by rfl) T.z_len (by decide +kernel) (pa_cons (k_fld (K := K) rfl (pv 0)) pa_nil)))), ?_⟩
    walk_at "rd"
    refine r_rwF hN T.cl_Needs T.n_Needs_kept_row fun a ha => ?_
    walk_at "rd"
    refine r_len (.inr ha) ?_
    rw [List.length_map]
    exact k

/-! ### Clock.hours -/
theorem sc_Clock_hours : FnScope ["self"] ["self"] (defScope s_Clock_hours) := ⟨rfl, rfl, rfl, by decide +kernel, rfl, by decide +kernel, by decide +kernel⟩

def sp_Clock_hours (K : PySem.W.Frag) (d : Ads) : Sp := fun vs H Q _ => ∃ (v : V) (s : List Int), vs = [v] ∧ Clk K d.c_Clock H v s ∧ Q (.int (s.length : Int)) H
set_option maxHeartbeats 4000000 in
theorem ok_Clock_hours (T : Tx K mg d) : Okf P w K mg base 1 d.f_Clock_hours ["self"] (sp_Clock_hours K d) := by
  refine okf_of T.d_Clock_hours sc_Clock_hours (fun vs H Q E h => ?_) (fun cdv A outer s H vs Q E hr h => ?_)
  · obtain ⟨v, s, rfl, ⟨p, dx, a, b, rfl, hp, ha, hb, g⟩, k⟩ := h
    rfl
  · obtain ⟨v, s, rfl, ⟨p, dx, a, b, rfl, hp, ha, hb, g⟩, k⟩ := h
    refine ⟨_, (pss_one (ps_ret (pe_callB (k_len (K := K) rfl) (by rfl) T.z_len (by decide +kernel) (pa_cons (k_fld (K := K) rfl (pv 0)) pa_nil)))), ?_⟩
    walk_at "rd"
    refine ⟨p, _, dx, _, _, rfl, hp, T.cl_Clock, T.n_Clock_kept_stays, clkF_stays _ _, ?_⟩
    walk_at "rd"
    refine r_len (.inr ha) ?_
    rw [List.length_map]
    exact k

/-! ### is_integer -/
theorem sc_is_integer : FnScope ["thing"] ["thing"] (defScope s_is_integer) := ⟨rfl, rfl, rfl, by decide +kernel, rfl, by decide +kernel, by decide +kernel⟩

def sp_is_integer (K : PySem.W.Frag) (d : Ads) : Sp := fun vs H Q _ => ∃ i : Int, vs = [.int i] ∧ Q (.bl true) H
set_option maxHeartbeats 4000000 in
theorem ok_is_integer (T : Tx K mg d) : Okf P w K mg base 1 d.f_is_integer ["thing"] (sp_is_integer K d) := by
  refine okf_of T.d_is_integer sc_is_integer (fun vs H Q E h => ?_) (fun cdv A outer s H vs Q E hr h => ?_)
  · obtain ⟨i, rfl, k⟩ := h
    rfl
  · obtain ⟨i, rfl, k⟩ := h
    refine ⟨_, (pss_one (ps_ret (pe_and (pe_callB (k_isi (K := K) rfl) (by rfl) T.z_isinstance (by decide +kernel) (pa_cons (pv 0) (pa_cons (pe_bty (n := "int") (by rfl) T.z_int (by decide +kernel)) pa_nil))) (pe_one (pe_not (pe_callB (k_isi (K := K) rfl) (by rfl) T.z_isinstance (by decide +kernel) (pa_cons (pv 0) (pa_cons (pe_bty (n := "bool") (by rfl) T.z_bool (by decide +kernel)) pa_nil)))))))), ?_⟩
    walk_at "rd"
    refine r_isiInt ?_
    walk_at "rd"
    refine iteT ?_
    walk_at "rd"
    refine r_isiIntB ?_
    walk_at "rd"
    exact k

/-! ### is_count -/
theorem sc_is_count : FnScope ["thing"] ["thing"] (defScope s_is_count) := ⟨rfl, rfl, rfl, by decide +kernel, rfl, by decide +kernel, by decide +kernel⟩

def sp_is_count (K : PySem.W.Frag) (d : Ads) : Sp := fun vs H Q _ => ∃ i : Int, vs = [.int i] ∧ Q (.bl (decide (0 ≤ i))) H
set_option maxHeartbeats 4000000 in
theorem ok_is_count (T : Tx K mg d) : Okf P w K mg base 2 d.f_is_count ["thing"] (sp_is_count K d) := by
  refine okf_of T.d_is_count sc_is_count (fun vs H Q E h => ?_) (fun cdv A outer s H vs Q E hr h => ?_)
  · obtain ⟨i, rfl, k⟩ := h
    rfl
  · obtain ⟨i, rfl, k⟩ := h
    refine ⟨_, (pss_one (ps_ret (pe_and (pf_call (ok_is_integer T) (hr.mono (by decide)) (by rfl) T.g_is_integer T.d_is_integer.kp (pa_cons (pv 0) pa_nil)) (pe_one (pe_cmpR op_ge (pv 0) pe_int (nomark _)))))), ?_⟩
    walk_at "rd"
    refine ⟨i, rfl, ?_⟩
    walk_at "rd"
    refine iteT ?_
    walk_at "rd"
    exact k

/-! ### are_limits -/
theorem sc_are_limits : FnScope ["hours", "thing", "one"] ["hours", "thing"] (defScope s_are_limits) := ⟨rfl, rfl, rfl, by decide +kernel, rfl, by decide +kernel, by decide +kernel⟩

def sp_are_limits (K : PySem.W.Frag) (d : Ads) : Sp := fun vs H Q _ => ∃ (a : Addr) (rs : List (Option Int)), vs = [.int (rs.length : Int), .ref a] ∧ Sq K H a (rs.map oV) ∧ rs.length ≤ 1000 ∧ OkO rs ∧ ∀ H', Ex H H' → Q (.bl true) H'
set_option maxHeartbeats 4000000 in
theorem ok_are_limits (T : Tx K mg d) : Okf P w K mg base 3 d.f_are_limits ["hours", "thing"] (sp_are_limits K d) := by
  refine okf_of T.d_are_limits sc_are_limits (fun vs H Q E h => ?_) (fun cdv A outer s H vs Q E hr h => ?_)
  · obtain ⟨a, rs, rfl, hS, hl, g, k⟩ := h
    rfl
  · obtain ⟨a, rs, rfl, hS, hl, g, k⟩ := h
    refine ⟨_, (pss_cons (ps_if (PW.pt (pw_or (pt_not (pt_val (pe_callB (k_isiT (K := K) rfl) (by rfl) T.z_isinstance (by decide +kernel) (pa_cons (pv 1) (pa_cons (pe_tup (pa_cons (pe_bty (n := "list") (by rfl) T.z_list (by decide +kernel)) (pa_cons (pe_bty (n := "tuple") (by rfl) T.z_tuple (by decide +kernel)) pa_nil))) pa_nil))))) (pw_or1 (pt_cmpR op_ne (pe_callB (k_len (K := K) rfl) (by rfl) T.z_len (by decide +kernel) (pa_cons (pv 1) pa_nil)) (pv 0) (nomark _))))) (pss_one (ps_ret pe_bl)) pss_nil)
      (pss_one (ps_ret (pe_callB (k_all (K := K) rfl rfl) (by rfl) T.z_all (by decide +kernel) (pa_cons (pe_lc (own := [("one", 2)]) rfl sc_are_limits.nd (k_piS (K := K) rfl (pv 1)) (blkOk_by (by kernel_rfl)) (fun _ _ _ _ _ => (pg_name (i := 2) sc_are_limits.nd rfl (by first | exact Or.inl rfl | exact Or.inr rfl))) (fun _ _ _ _ _ => pts_nil) (fun _ _ _ _ _ => (pe_or (pe_cmpR k_isN (pv 2) pe_non (nomark _)) (pe_one (pf_call (ok_is_count T) (hr.mono (by decide)) (by rfl) T.g_is_count T.d_is_count.kp (pa_cons (pv 2) pa_nil)))))) pa_nil))))), ?_⟩
    walk_at "rd"
    refine ⟨szc rfl, fun tp np => ?_⟩
    have e1 : Ex H (upd H tp (.tup [.ty "list", .ty "tuple"])) := Ex.new np
    walk_at "rd"
    refine r_isiSeq (hS.mono e1) upd_same ?_
    walk_at "rd"
    refine iteF ?_
    walk_at "rd"
    refine r_len (hS.mono e1) ?_
    rw [List.length_map]
    walk_at "rd"
    refine r_itn (fun h => absurd rfl h) (fun _ => ?_)
    walk_at "rd"
    refine ⟨a, _, _, rfl, hS.mono e1, Ex.refl _, fun J ⟨G, wk, hG⟩ => lc_fun wk (fun i => .bl true) hG (by rw [List.length_map]; omega) ?_ ?_⟩
    · rintro i x H1 H2 hi e ⟨rfl, hx⟩ kk hk
      obtain ⟨r, hr1, rfl⟩ := oV_at hx
      cases r with
      | none =>
        walk_at "rd"
        exact ⟨rfl, true, by simp [oV], iteT (hk _ (Ex.refl _))⟩
      | some i =>
        have g0 := g _ (List.mem_of_getElem? hr1) i rfl
        walk_at "rd"
        refine ⟨rfl, false, by simp [oV], iteF ?_⟩
        walk_at "rd"
        refine ⟨_, rfl, ?_⟩
        rw [decide_eq_true g0]
        exact hk _ (Ex.refl _)
    · intro D H' nD e hD
      walk_at "rd"
      rw [List.length_map] at hD
      refine r_all (bs := List.replicate rs.length true) (.inl (.inl (by rw [hD, List.map_replicate, show (List.range rs.length).map (fun _ => V.bl true) = List.replicate rs.length (V.bl true) from List.eq_replicate_iff.mpr ⟨by rw [List.length_map, List.length_range], fun b hb => by obtain ⟨_, _, z⟩ := List.mem_map.mp hb; exact z.symm⟩]))) ?_
      have := k _ (e1.trans e)
      rw [show (List.replicate rs.length true).all id = true from List.all_eq_true.mpr fun x hx => (List.eq_of_mem_replicate hx)]
      exact this

/-! ### are_counts -/
theorem sc_are_counts : FnScope ["hours", "thing", "one"] ["hours", "thing"] (defScope s_are_counts) := ⟨rfl, rfl, rfl, by decide +kernel, rfl, by decide +kernel, by decide +kernel⟩

def sp_are_counts (K : PySem.W.Frag) (d : Ads) : Sp := fun vs H Q _ => ∃ (a : Addr) (ns : List Int), vs = [.int (ns.length : Int), .ref a] ∧ Sq K H a (ns.map V.int) ∧ ns.length ≤ 1000 ∧ ∀ H', Ex H H' → Q (.bl (ns.all fun x => decide (0 ≤ x))) H'
set_option maxHeartbeats 4000000 in
theorem ok_are_counts (T : Tx K mg d) : Okf P w K mg base 3 d.f_are_counts ["hours", "thing"] (sp_are_counts K d) := by
  refine okf_of T.d_are_counts sc_are_counts (fun vs H Q E h => ?_) (fun cdv A outer s H vs Q E hr h => ?_)
  · obtain ⟨a, ns, rfl, hS, hl, k⟩ := h
    rfl
  · obtain ⟨a, ns, rfl, hS, hl, k⟩ := h
    refine ⟨_, (pss_cons (ps_if (PW.pt (pw_or (pt_not (pt_val (pe_callB (k_isiT (K := K) rfl) (by rfl) T.z_isinstance (by decide +kernel) (pa_cons (pv 1) (pa_cons (pe_tup (pa_cons (pe_bty (n := "list") (by rfl) T.z_list (by decide +kernel)) (pa_cons (pe_bty (n := "tuple") (by rfl) T.z_tuple (by decide +kernel)) pa_nil))) pa_nil))))) (pw_or1 (pt_cmpR op_ne (pe_callB (k_len (K := K) rfl) (by rfl) T.z_len (by decide +kernel) (pa_cons (pv 1) pa_nil)) (pv 0) (nomark _))))) (pss_one (ps_ret pe_bl)) pss_nil)
      (pss_one (ps_ret (pe_callB (k_all (K := K) rfl rfl) (by rfl) T.z_all (by decide +kernel) (pa_cons (pe_lc (own := [("one", 2)]) rfl sc_are_counts.nd (k_piS (K := K) rfl (pv 1)) (blkOk_by (by kernel_rfl)) (fun _ _ _ _ _ => (pg_name (i := 2) sc_are_counts.nd rfl (by first | exact Or.inl rfl | exact Or.inr rfl))) (fun _ _ _ _ _ => pts_nil) (fun _ _ _ _ _ => (pf_call (ok_is_count T) (hr.mono (by decide)) (by rfl) T.g_is_count T.d_is_count.kp (pa_cons (pv 2) pa_nil)))) pa_nil))))), ?_⟩
    walk_at "rd"
    refine ⟨szc rfl, fun tp np => ?_⟩
    have e1 : Ex H (upd H tp (.tup [.ty "list", .ty "tuple"])) := Ex.new np
    walk_at "rd"
    refine r_isiSeq (hS.mono e1) upd_same ?_
    walk_at "rd"
    refine iteF ?_
    walk_at "rd"
    refine r_len (hS.mono e1) ?_
    rw [List.length_map]
    walk_at "rd"
    refine r_itn (fun h => absurd rfl h) (fun _ => ?_)
    walk_at "rd"
    refine ⟨a, _, _, rfl, hS.mono e1, Ex.refl _, fun J ⟨G, wk, hG⟩ => lc_fun wk (fun i => .bl (decide (0 ≤ ns.getD i 0))) hG (by rw [List.length_map]; omega) ?_ ?_⟩
    · rintro i x H1 H2 hi e ⟨rfl, hx⟩ kk hk
      obtain rfl := int_at hx
      walk_at "rd"
      exact ⟨_, rfl, hk _ (Ex.refl _)⟩
    · intro D H' nD e hD
      walk_at "rd"
      rw [List.length_map, map_range_int ns (fun x => V.bl (decide (0 ≤ x)))] at hD
      refine r_all (bs := ns.map fun x => decide (0 ≤ x)) (.inl (.inl (by rw [List.map_map]; exact hD))) ?_
      have := k _ (e1.trans e)
      rw [List.all_map]
      exact this

/-! ### House.__init__ -/
theorem sc_House___init__ : FnScope ["self", "clock", "needs", "rooms", "kept", "doors"] ["self", "clock", "needs", "rooms", "kept", "doors"] (defScope s_House___init__) := ⟨rfl, rfl, rfl, by decide +kernel, rfl, by decide +kernel, by decide +kernel⟩

def sp_House___init__ (K : PySem.W.Frag) (d : Ads) : Sp := spHsInit K d.c_Clock d.c_Needs d.c_House
set_option maxHeartbeats 4000000 in
theorem ok_House___init__ (T : Tx K mg d) : OkfK P w K mg base 4 d.f_House___init__ ["self", "clock", "needs", "rooms", "kept", "doors"] 3 ["rooms", "kept", "doors"] (sp_House___init__ K d) := by
  refine okK_of T.dk_House___init__ sc_House___init__ (fun vs H Q E h => ?_) (fun cdv A outer s H vs Q E hr h => ?_)
  · obtain ⟨H0, x, dx, vc, vn, a, b, c, s, ns, rs, ks, ds, rfl, rfl, nx, ndx, ne, hC, hN, hA, hB, hD, g, k⟩ := h
    rfl
  · obtain ⟨H0, x, dx, vc, vn, a, b, c, s, ns, rs, ks, ds, rfl, rfl, nx, ndx, ne, hC, hN, hA, hB, hD, g, k⟩ := h
    refine ⟨_, (pss_cons (ps_if (pt_not (pt_val (pe_callB (k_isi (K := K) rfl) (by rfl) T.z_isinstance (by decide +kernel) (pa_cons (pv 1) (pa_cons (pe_glob (v := .ref d.c_Clock) (by rfl) T.g_Clock rfl) pa_nil))))) (pss_one ps_never) pss_nil)
      (pss_cons (ps_if (PW.pt (pw_or (pt_not (pt_val (pe_callB (k_isi (K := K) rfl) (by rfl) T.z_isinstance (by decide +kernel) (pa_cons (pv 2) (pa_cons (pe_glob (v := .ref d.c_Needs) (by rfl) T.g_Needs rfl) pa_nil))))) (pw_or1 (pt_cmpR op_ne (pf_prop (ok_Needs_hours T) (hr.mono (by decide)) T.cl_Needs T.p_Needs_hours (pv 2)) (pf_prop (ok_Clock_hours T) (hr.mono (by decide)) T.cl_Clock T.p_Clock_hours (pv 1)) (nomark _))))) (pss_one ps_never) pss_nil)
      (pss_cons (ps_if (PW.pt (pw_and (pt_cmpR k_notN (pv 3) pe_non (nomark _)) (pw_and1 (pt_not (pt_val (pf_call (ok_are_limits T) (hr.mono (by decide)) (by rfl) T.g_are_limits T.d_are_limits.kp (pa_cons (pf_prop (ok_Clock_hours T) (hr.mono (by decide)) T.cl_Clock T.p_Clock_hours (pv 1)) (pa_cons (pv 3) pa_nil)))))))) (pss_one ps_never) pss_nil)
      (pss_cons (ps_if (PW.pt (pw_and (pt_cmpR k_notN (pv 4) pe_non (nomark _)) (pw_and1 (pt_not (pt_val (pf_call (ok_are_counts T) (hr.mono (by decide)) (by rfl) T.g_are_counts T.d_are_counts.kp (pa_cons (pf_prop (ok_Clock_hours T) (hr.mono (by decide)) T.cl_Clock T.p_Clock_hours (pv 1)) (pa_cons (pv 4) pa_nil)))))))) (pss_one ps_never) pss_nil)
      (pss_cons (ps_if (PW.pt (pw_and (pt_cmpR k_notN (pv 5) pe_non (nomark _)) (pw_and1 (pt_not (pt_val (pf_call (ok_are_limits T) (hr.mono (by decide)) (by rfl) T.g_are_limits T.d_are_limits.kp (pa_cons (pf_prop (ok_Clock_hours T) (hr.mono (by decide)) T.cl_Clock T.p_Clock_hours (pv 1)) (pa_cons (pv 5) pa_nil)))))))) (pss_one ps_never) pss_nil)
      (pss_cons (ps_asg (pe_tup (pa_cons (pv 1) (pa_cons (pv 2) pa_nil))) (k_gtup (K := K) (n := 2) rfl rfl (pgs_cons (pg_fld (K := K) rfl (pv 0)) (pgs_cons (pg_fld (K := K) rfl (pv 0)) pgs_nil))))
      (pss_cons (k_sfld (K := K) rfl (pv 0) (pe_ifExp (pt_cmpR k_notN (pv 3) pe_non (nomark _)) (pe_callTy (k_tupOf (K := K) rfl) (by rfl) T.z_tuple (by decide +kernel) (pa_cons (pv 3) pa_nil)) (pe_op op_mul (pe_tup (pa_cons pe_non pa_nil)) (pf_prop (ok_Clock_hours T) (hr.mono (by decide)) T.cl_Clock T.p_Clock_hours (pv 1)))))
      (pss_cons (k_sfld (K := K) rfl (pv 0) (pe_ifExp (pt_cmpR k_notN (pv 4) pe_non (nomark _)) (pe_callTy (k_tupOf (K := K) rfl) (by rfl) T.z_tuple (by decide +kernel) (pa_cons (pv 4) pa_nil)) (pe_op op_mul (pe_tup (pa_cons pe_int pa_nil)) (pf_prop (ok_Clock_hours T) (hr.mono (by decide)) T.cl_Clock T.p_Clock_hours (pv 1)))))
      (pss_one (k_sfld (K := K) rfl (pv 0) (pe_ifExp (pt_cmpR k_notN (pv 5) pe_non (nomark _)) (pe_callTy (k_tupOf (K := K) rfl) (by rfl) T.z_tuple (by decide +kernel) (pa_cons (pv 5) pa_nil)) (pe_op op_mul (pe_tup (pa_cons pe_non pa_nil)) (pf_prop (ok_Clock_hours T) (hr.mono (by decide)) T.cl_Clock T.p_Clock_hours (pv 1)))))))))))))), ?_⟩
    have e0 : Ex H0 (upd (upd H0 dx (.own x)) x (.ins d.c_House dx [])) := Ex.mut (Ex.new ndx) nx
    have hl := g.cs.le
    have ex0 := e0 x
    have hC0 := hC.ex e0
    have hN0 := hN.ex e0
    obtain ⟨p1, dx1, a1, b1, rfl, hp1, _⟩ := id hC0
    obtain ⟨p2, dx2, a2, rfl, hp2, _⟩ := id hN0
    walk_at "rd"
    refine r_isiOwn T.ic_Clock hp1 ?_
    walk_at "rd"
    refine iteF ?_
    walk_at "rd"
    refine r_isiOwn T.ic_Needs hp2 ?_
    walk_at "rd"
    refine iteF ?_
    walk_at "rd"
    refine ⟨p2, dx2, _, rfl, hp2, _, ns, rfl, hN0, ?_⟩
    walk_at "rd"
    refine ⟨p1, dx1, _, rfl, hp1, _, s, rfl, hC0, ?_⟩
    walk_at "rd"
    refine r_same (by rw [g.ln]) ?_
    walk_at "rd"
    refine iteT ?_
    walk_at "rd"
    refine ⟨p1, dx1, _, rfl, hp1, _, s, rfl, hC0, ?_⟩
    walk_at "rd"
    refine ⟨a, rs, by rw [g.lr], hA.mono e0, by have := g.lr; omega, g.cr, fun H1 e1 => ?_⟩
    have e01 := e0.trans e1
    walk_at "rd"
    refine iteF ?_
    walk_at "rd"
    refine iteT ?_
    walk_at "rd"
    refine ⟨p1, dx1, _, rfl, e1 _ _ hp1, _, s, rfl, hC.ex e01, ?_⟩
    walk_at "rd"
    refine ⟨b, ks, by rw [g.lk], hB.mono e01, by have := g.lk; omega, fun H2 e2 => ?_⟩
    have e02 := e01.trans e2
    rw [show (ks.all fun x => decide (0 ≤ x)) = true from List.all_eq_true.mpr fun z hz => decide_eq_true (g.ck z hz)]
    walk_at "rd"
    refine iteF ?_
    walk_at "rd"
    refine iteT ?_
    walk_at "rd"
    refine ⟨p1, dx1, _, rfl, e2 _ _ (e1 _ _ hp1), _, s, rfl, hC.ex e02, ?_⟩
    walk_at "rd"
    refine ⟨c, ds, by rw [g.ld], hD.mono e02, by have := g.ld; omega, g.cd, fun H3 e3 => ?_⟩
    have e03 := e02.trans e3
    have x3 : H3 x = some (.ins d.c_House dx []) := e3 _ _ (e2 _ _ (e1 _ _ upd_same))
    walk_at "rd"
    refine iteF ?_
    walk_at "rd"
    refine ⟨szc rfl, fun t1 nt1 => ?_⟩
    have e04 := e03.trans (Ex.new (o := .tup [.ref p1, .ref p2]) nt1)
    have x4 : upd H3 t1 (.tup [.ref p1, .ref p2]) x = some (.ins d.c_House dx []) := Ex.new nt1 _ _ x3
    refine ⟨t1, [.ref p1, .ref p2], rfl, .inl (.inl upd_same), rfl, _, _, rfl, ⟨_, rfl, x, d.c_House, dx, [], rfl, x4, T.cl_House, T.n_House_own_clock, by show 0 < 1000; decide, ?_⟩⟩
    refine ⟨_, _, rfl, ⟨_, rfl, x, d.c_House, dx, _, rfl, upd_same, T.cl_House, T.n_House_own_needs, by show 1 < 1000; decide, rfl, ?_⟩⟩
    rw [upd_upd]
    have e05 : Ex H0 (upd (upd H3 t1 (.tup [.ref p1, .ref p2])) x (.ins d.c_House dx [("own_clock", .ref p1), ("own_needs", .ref p2)])) := Ex.mut e04 nx
    walk_at "rd"
    refine iteT ?_
    walk_at "rd"
    refine r_tupOf (hA.mono e05) fun q1 H6 e6 hq1 => ?_
    have e06 := e05.trans e6
    walk_at "rd"
    refine ⟨x, d.c_House, dx, _, rfl, e6 _ _ upd_same, T.cl_House, T.n_House_own_rooms, by show 2 < 1000; decide, ?_⟩
    have e07 : Ex H0 (upd H6 x (.ins d.c_House dx [("own_clock", .ref p1), ("own_needs", .ref p2), ("own_rooms", .ref q1)])) := Ex.mut e06 nx
    have hq1' : SqT K (upd H6 x (.ins d.c_House dx [("own_clock", .ref p1), ("own_needs", .ref p2), ("own_rooms", .ref q1)])) q1 (rs.map oV) := tup_ins (e6 _ _ upd_same) hq1
    walk_at "rd"
    refine iteT ?_
    walk_at "rd"
    refine r_tupOf (hB.mono e07) fun q2 H8 e8 hq2 => ?_
    have e08 := e07.trans e8
    walk_at "rd"
    refine ⟨x, d.c_House, dx, _, rfl, e8 _ _ upd_same, T.cl_House, T.n_House_own_kept, by show 3 < 1000; decide, ?_⟩
    have e09 : Ex H0 (upd H8 x (.ins d.c_House dx [("own_clock", .ref p1), ("own_needs", .ref p2), ("own_rooms", .ref q1), ("own_kept", .ref q2)])) := Ex.mut e08 nx
    have hq1'' : SqT K (upd H8 x (.ins d.c_House dx [("own_clock", .ref p1), ("own_needs", .ref p2), ("own_rooms", .ref q1), ("own_kept", .ref q2)])) q1 (rs.map oV) := tup_ins (e8 _ _ upd_same) (ex_t e8 hq1')
    have hq2' : SqT K (upd H8 x (.ins d.c_House dx [("own_clock", .ref p1), ("own_needs", .ref p2), ("own_rooms", .ref q1), ("own_kept", .ref q2)])) q2 (ks.map V.int) := tup_ins (e8 _ _ upd_same) hq2
    walk_at "rd"
    refine iteT ?_
    walk_at "rd"
    refine r_tupOf (hD.mono e09) fun q3 H10 e10 hq3 => ?_
    have e010 := e09.trans e10
    walk_at "rd"
    refine ⟨x, d.c_House, dx, _, rfl, e10 _ _ upd_same, T.cl_House, T.n_House_own_doors, by show 4 < 1000; decide, ?_⟩
    have e11 : Ex H0 (upd H10 x (.ins d.c_House dx (hsF (.ref p1) (.ref p2) q1 q2 q3))) := Ex.mut e010 nx
    exact k _ e11 ⟨x, dx, _, _, q1, q2, q3, rfl, upd_same, hC.ex e11, hN.ex e11, tup_ins (e10 _ _ upd_same) (ex_t e10 hq1''), tup_ins (e10 _ _ upd_same) (ex_t e10 hq2'), tup_ins (e10 _ _ upd_same) hq3⟩

/-! ### are_stays -/
theorem sc_are_stays : FnScope ["thing", "stay"] ["thing"] (defScope s_are_stays) := ⟨rfl, rfl, rfl, by decide +kernel, rfl, by decide +kernel, by decide +kernel⟩

def sp_are_stays (K : PySem.W.Frag) (d : Ads) : Sp := fun vs H Q _ => ∃ (a : Addr) (ns : List Int), vs = [.ref a] ∧ Sq K H a (ns.map V.int) ∧ ns.length ≤ 1000 ∧ ∀ H', Ex H H' → Q (.bl (okStays ns)) H'
set_option maxHeartbeats 4000000 in
theorem ok_are_stays (T : Tx K mg d) : Okf P w K mg base 2 d.f_are_stays ["thing"] (sp_are_stays K d) := by
  refine okf_of T.d_are_stays sc_are_stays (fun vs H Q E h => ?_) (fun cdv A outer s H vs Q E hr h => ?_)
  · obtain ⟨a, ns, rfl, hS, hl, k⟩ := h
    rfl
  · obtain ⟨a, ns, rfl, hS, hl, k⟩ := h
    refine ⟨_, (pss_cons (ps_if (PW.pt (pw_or (pt_not (pt_val (pe_callB (k_isiT (K := K) rfl) (by rfl) T.z_isinstance (by decide +kernel) (pa_cons (pv 0) (pa_cons (pe_tup (pa_cons (pe_bty (n := "list") (by rfl) T.z_list (by decide +kernel)) (pa_cons (pe_bty (n := "tuple") (by rfl) T.z_tuple (by decide +kernel)) pa_nil))) pa_nil))))) (pw_or1 (pt_not (pt_chain op_le op_le pe_int (pe_callB (k_len (K := K) rfl) (by rfl) T.z_len (by decide +kernel) (pa_cons (pv 0) pa_nil)) (pe_gint (by rfl) T.k_MOST_HOURS)))))) (pss_one (ps_ret pe_bl)) pss_nil)
      (pss_one (ps_ret (pe_callB (k_all (K := K) rfl rfl) (by rfl) T.z_all (by decide +kernel) (pa_cons (pe_lc (own := [("stay", 1)]) rfl sc_are_stays.nd (k_piS (K := K) rfl (pv 0)) (blkOk_by (by kernel_rfl)) (fun _ _ _ _ _ => (pg_name (i := 1) sc_are_stays.nd rfl (by first | exact Or.inl rfl | exact Or.inr rfl))) (fun _ _ _ _ _ => pts_nil) (fun _ _ _ _ _ => (pe_and (pf_call (ok_is_integer T) (hr.mono (by decide)) (by rfl) T.g_is_integer T.d_is_integer.kp (pa_cons (pv 1) pa_nil)) (pe_one (pe_chain op_le op_le pe_int (pv 1) (pe_callB (k_len (K := K) rfl) (by rfl) T.z_len (by decide +kernel) (pa_cons (pv 0) pa_nil))))))) pa_nil))))), ?_⟩
    walk_at "rd"
    refine ⟨szc rfl, fun tp np => ?_⟩
    have e1 : Ex H (upd H tp (.tup [.ty "list", .ty "tuple"])) := Ex.new np
    walk_at "rd"
    refine r_isiSeq (hS.mono e1) upd_same ?_
    walk_at "rd"
    refine iteF ?_
    walk_at "rd"
    refine r_len (hS.mono e1) ?_
    walk_at "rd"
    rw [List.length_map]
    have fls : ¬ (1 ≤ ns.length ∧ ns.length ≤ 48) → Q (.bl false) (upd H tp (.tup [.ty "list", .ty "tuple"])) := fun h => by
      have z : okStays ns = false := by
        rw [Bool.eq_false_iff]
        intro z
        have := okStays_iff.mp z
        exact h ⟨this.1, this.2.1⟩
      have := k _ e1
      rw [z] at this
      exact this
    refine r_ite (fun h1 => ?_) (fun h1 => ?_)
    · walk_at "rd"
      refine r_itn (fun h2 => ?_) (fun h2 => ?_)
      · walk_at "rd"
        exact fls (by omega)
      · walk_at "rd"
        refine ⟨a, _, _, rfl, hS.mono e1, Ex.refl _, fun J ⟨G, wk, hG⟩ => lc_fun wk (fun i => .bl (decide (1 ≤ ns.getD i 0) && decide (ns.getD i 0 ≤ (ns.length : Int)))) hG (by rw [List.length_map]; omega) ?_ ?_⟩
        · rintro i x H1 H2 hi e ⟨rfl, hx⟩ kk hk
          obtain rfl := int_at hx
          walk_at "rd"
          refine ⟨_, rfl, ?_⟩
          walk_at "rd"
          refine iteT ?_
          walk_at "rd"
          cases h0 : decide (1 ≤ ns.getD i 0) with
          | true =>
            refine iteT ?_
            walk_at "rd"
            refine r_len (hS.mono (e1.trans e)) ?_
            walk_at "rd"
            rw [List.length_map]
            have := hk _ (Ex.refl _)
            rw [h0] at this
            exact this
          | false =>
            refine iteF ?_
            have := hk _ (Ex.refl _)
            rw [h0] at this
            exact this
        · intro D H' nD e hD
          walk_at "rd"
          rw [List.length_map, map_range_int ns (fun x => V.bl (decide (1 ≤ x) && decide (x ≤ (ns.length : Int))))] at hD
          refine r_all (bs := ns.map fun x => decide (1 ≤ x) && decide (x ≤ (ns.length : Int))) (.inl (.inl (by rw [List.map_map]; exact hD))) ?_
          have := k _ (e1.trans e)
          unfold okStays at this
          rw [decide_eq_true (by omega : 1 ≤ ns.length), decide_eq_true (by omega : ns.length ≤ 48)] at this
          rw [List.all_map]
          exact this
    · walk_at "rd"
      refine iteT ?_
      walk_at "rd"
      exact fls (by omega)

/-! ### need_order -/
theorem sc_need_order : FnScope ["stays", "hour", "stay"] ["stays"] (defScope s_need_order) := ⟨rfl, rfl, rfl, by decide +kernel, rfl, by decide +kernel, by decide +kernel⟩

def sp_need_order (K : PySem.W.Frag) (d : Ads) : Sp := fun vs H Q _ => ∃ (a : Addr) (ns : List Int), vs = [.ref a] ∧ Sq K H a (ns.map V.int) ∧ Good ns ∧ ∀ H', Ex H H' → Q .non H'
set_option maxHeartbeats 4000000 in
theorem ok_need_order (T : Tx K mg d) : Okf P w K mg base 1 d.f_need_order ["stays"] (sp_need_order K d) := by
  refine okf_of T.d_need_order sc_need_order (fun vs H Q E h => ?_) (fun cdv A outer s H vs Q E hr h => ?_)
  · obtain ⟨a, ns, rfl, hS, g, k⟩ := h
    rfl
  · obtain ⟨a, ns, rfl, hS, g, k⟩ := h
    refine ⟨_, (pss_one (ps_for PassesOwn.never rfl (k_piE (K := K) rfl (by rfl) T.z_enumerate (pa_cons (pv 0) pa_nil)) (k_gtup (K := K) (n := 2) rfl rfl (pgs_cons (pg_name (i := 1) sc_need_order.nd rfl (by first | exact Or.inl rfl | exact Or.inr rfl)) (pgs_cons (pg_name (i := 2) sc_need_order.nd rfl (by first | exact Or.inl rfl | exact Or.inr rfl)) pgs_nil))) (pss_one (ps_if (pt_cmpR op_gt (pv 2) (pe_op op_add pe_int (pe_ix (k_ixS (K := K) rfl) (pv 0) (pe_op op_mod (pe_op op_add (pv 1) pe_int) (pe_callB (k_len (K := K) rfl) (by rfl) T.z_len (by decide +kernel) (pa_cons (pv 0) pa_nil))) (fun _ _ => rfl))) (nomark _)) (pss_one ps_never) pss_nil)))), ?_⟩
    walk_at "rd"
    refine ⟨a, _, _, rfl, hS, Ex.refl _, fun J ⟨G, wk, hG⟩ => for_w wk (fun i σ H' => ∃ y1 y2, σ = [some (.ref a), y1, y2] ∧ Ex H H') ⟨none, none, rfl, Ex.refl H⟩ (fun i σ H' _ ⟨_, _, _, e⟩ => hG _ e) ?_ ?_⟩
    · rintro i x σ H1 H2 hi ⟨y1, y2, rfl, e⟩ ⟨T', x1, x2, rfl, nT, rfl, hx1, hx2⟩
      cases hx1
      obtain rfl := int_at hx2
      rw [List.length_map] at hi
      refine r_pair ?_
      have e2 := e.trans (Ex.new nT (o := .tup [.int (i : Nat), .int (ns.getD i 0)]))
      walk_at "rd"
      refine r_len (hS.mono e2) ?_
      rw [List.length_map]
      have hn := g.ne
      walk_at "rd"
      refine r_ixS (hS.mono e2) (at_cyc g.ne _) ?_
      walk_at "rd"
      refine r_ite (fun hc => ?_) (fun hc => ?_)
      · have := g.od (i : Int)
        rw [cyc_at hi] at this
        exact absurd this (by omega)
      · walk_at "rd"
        exact ⟨_, _, rfl, e2⟩
    · rintro σ H' ⟨y1, y2, rfl, e⟩
      exact k _ e

/-! ### width_of -/
theorem sc_width_of : FnScope ["stays", "hour", "back"] ["stays", "hour"] (defScope s_width_of) := ⟨rfl, rfl, rfl, by decide +kernel, rfl, by decide +kernel, by decide +kernel⟩

def sp_width_of (K : PySem.W.Frag) (d : Ads) : Sp := fun vs H Q _ => ∃ (a : Addr) (ns : List Int) (h : Int), vs = [.ref a, .int h] ∧ Sq K H a (ns.map V.int) ∧ 1 ≤ ns.length ∧ ns.length ≤ 48 ∧ ∀ H', Ex H H' → Q (.int (wd ns h)) H'
set_option maxHeartbeats 4000000 in
theorem ok_width_of (T : Tx K mg d) : Okf P w K mg base 1 d.f_width_of ["stays", "hour"] (sp_width_of K d) := by
  refine okf_of T.d_width_of sc_width_of (fun vs H Q E h => ?_) (fun cdv A outer s H vs Q E hr h => ?_)
  · obtain ⟨a, ns, h, rfl, hS, h1, h2, k⟩ := h
    rfl
  · obtain ⟨a, ns, h, rfl, hS, h1, h2, k⟩ := h
    refine ⟨_, (pss_one (ps_ret (pe_callB (k_len (K := K) rfl) (by rfl) T.z_len (by decide +kernel) (pa_cons (pe_lc (own := [("back", 2)]) rfl sc_width_of.nd (pi_range1 (by rfl) T.z_range (pa_cons (pe_callB (k_len (K := K) rfl) (by rfl) T.z_len (by decide +kernel) (pa_cons (pv 0) pa_nil)) pa_nil)) (blkOk_by (by kernel_rfl)) (fun _ _ _ _ _ => (pg_name (i := 2) sc_width_of.nd rfl (by first | exact Or.inl rfl | exact Or.inr rfl))) (fun _ _ _ _ _ => (pts_one (pt_cmpR op_gt (pe_ix (k_ixS (K := K) rfl) (pv 0) (pe_op op_mod (pe_op op_sub (pv 1) (pv 2)) (pe_callB (k_len (K := K) rfl) (by rfl) T.z_len (by decide +kernel) (pa_cons (pv 0) pa_nil))) (fun _ _ => rfl)) (pv 2) (nomark _)))) (fun _ _ _ _ _ => (pv 2))) pa_nil)))), ?_⟩
    walk_at "rd"
    refine r_len hS ?_
    rw [List.length_map]
    walk_at "rd"
    refine lc_filf walk_r0 (fun b => decide ((b : Int) < cyc ns (h - (b : Int)))) (fun b => .int (b : Int)) (fun _ _ => trivial) (by omega) ?_ ?_
    · rintro i x H1 H2 hi e ⟨rfl, rfl⟩ kb kk hk1 hk2
      walk_at "rd"
      refine r_len (hS.mono e) ?_
      rw [List.length_map]
      walk_at "rd"
      refine r_ixS (hS.mono e) (at_cyc h1 _) ?_
      walk_at "rd"
      refine r_ite (fun hc => ?_) (fun hc => ?_)
      · walk_at "rd"
        exact hk1 _ (decide_eq_true hc) (Ex.refl _)
      · exact hk2 _ (decide_eq_false hc) (Ex.refl _)
    · intro D H' nD e hD
      walk_at "rd"
      refine r_len (.inl (.inl (.inl hD))) ?_
      rw [List.length_map, Int.toNat_natCast]
      exact k _ e

/-! ### Clock.__init__ -/
theorem sc_Clock___init__ : FnScope ["self", "stays", "hour"] ["self", "stays"] (defScope s_Clock___init__) := ⟨rfl, rfl, rfl, by decide +kernel, rfl, by decide +kernel, by decide +kernel⟩

def sp_Clock___init__ (K : PySem.W.Frag) (d : Ads) : Sp := spClkInit K d.c_Clock
set_option maxHeartbeats 4000000 in
theorem ok_Clock___init__ (T : Tx K mg d) : Okf P w K mg base 3 d.f_Clock___init__ ["self", "stays"] (sp_Clock___init__ K d) := by
  refine okf_of T.d_Clock___init__ sc_Clock___init__ (fun vs H Q E h => ?_) (fun cdv A outer s H vs Q E hr h => ?_)
  · obtain ⟨H0, x, dx, a, s, rfl, rfl, nx, ndx, ne, hS, g, k⟩ := h
    rfl
  · obtain ⟨H0, x, dx, a, s, rfl, rfl, nx, ndx, ne, hS, g, k⟩ := h
    refine ⟨_, (pss_cons (ps_if (pt_not (pt_val (pf_call (ok_are_stays T) (hr.mono (by decide)) (by rfl) T.g_are_stays T.d_are_stays.kp (pa_cons (pv 1) pa_nil)))) (pss_one ps_never) pss_nil)
      (pss_cons (ps_expr (pf_call (ok_need_order T) (hr.mono (by decide)) (by rfl) T.g_need_order T.d_need_order.kp (pa_cons (pv 1) pa_nil)))
      (pss_cons (k_sfld (K := K) rfl (pv 0) (pe_callTy (k_tupOf (K := K) rfl) (by rfl) T.z_tuple (by decide +kernel) (pa_cons (pv 1) pa_nil)))
      (pss_one (k_sfld (K := K) rfl (pv 0) (pe_callTy (k_tupOf (K := K) rfl) (by rfl) T.z_tuple (by decide +kernel) (pa_cons (pe_lc (own := [("hour", 2)]) rfl sc_Clock___init__.nd (pi_range1 (by rfl) T.z_range (pa_cons (pe_callB (k_len (K := K) rfl) (by rfl) T.z_len (by decide +kernel) (pa_cons (pv 1) pa_nil)) pa_nil)) (blkOk_by (by kernel_rfl)) (fun _ _ _ _ _ => (pg_name (i := 2) sc_Clock___init__.nd rfl (by first | exact Or.inl rfl | exact Or.inr rfl))) (fun _ _ _ _ _ => pts_nil) (fun _ _ _ _ _ => (pf_call (ok_width_of T) (hr.mono (by decide)) (by rfl) T.g_width_of T.d_width_of.kp (pa_cons (pv 1) (pa_cons (pv 2) pa_nil))))) pa_nil))))))), ?_⟩
    have e0 : Ex H0 (upd (upd H0 dx (.own x)) x (.ins d.c_Clock dx [])) := Ex.mut (Ex.new ndx) nx
    have hn := g.ne
    have hl := g.le
    walk_at "rd"
    refine ⟨a, s, rfl, hS.mono e0, by omega, fun H1 e1 => ?_⟩
    rw [g.ok]
    walk_at "rd"
    refine iteF ?_
    walk_at "rd"
    refine ⟨a, s, rfl, hS.mono (e0.trans e1), g, fun H2 e2 => ?_⟩
    have x2 : H2 x = some (.ins d.c_Clock dx []) := e2 _ _ (e1 _ _ upd_same)
    have e02 : Ex H0 H2 := (e0.trans e1).trans e2
    walk_at "rd"
    refine r_tupOf (hS.mono e02) fun p H3 e3 hp => ?_
    walk_at "rd"
    refine ⟨x, _, dx, _, rfl, e3 _ _ x2, T.cl_Clock, T.n_Clock_kept_stays, by show 0 < 1000; decide, ?_⟩
    have e04 : Ex H0 (upd H3 x (.ins d.c_Clock dx (putF "kept_stays" (.ref p) []))) := Ex.mut (e02.trans e3) nx
    have hp4 : SqT K (upd H3 x (.ins d.c_Clock dx (putF "kept_stays" (.ref p) []))) p (s.map V.int) := tup_ins (e3 _ _ x2) hp
    walk_at "rd"
    refine r_len (hS.mono e04) ?_
    rw [List.length_map]
    walk_at "rd"
    refine lc_fun walk_r0 (fun i => .int (wd s (i : Int))) (fun _ _ => trivial) (by omega) ?_ ?_
    · rintro i y H5 H6 hi e ⟨rfl, rfl⟩ kk hk
      walk_at "rd"
      refine ⟨a, s, _, rfl, hS.mono (e04.trans e), hn, hl, fun H7 e7 => ?_⟩
      exact hk _ e7
    · intro D H5 nD e5 hD
      have x5 : H5 x = some (.ins d.c_Clock dx (putF "kept_stays" (.ref p) [])) := e5 _ _ upd_same
      walk_at "rd"
      refine r_tupOf (.inl (.inl (.inl hD))) fun q H6 e6 hq => ?_
      walk_at "rd"
      refine ⟨x, _, dx, _, rfl, e6 _ _ x5, T.cl_Clock, T.n_Clock_kept_widths, by show 1 < 1000; decide, ?_⟩
      refine k _ (Ex.mut ((e04.trans e5).trans e6) nx) ⟨x, dx, p, q, rfl, upd_same, tup_ins (e6 _ _ x5) (ex_t (e5.trans e6) hp4), tup_ins (e6 _ _ x5) ?_, g⟩
      unfold wds
      rw [List.map_map]
      rw [Int.toNat_natCast] at hq
      exact hq

/-! ### is_row -/
theorem sc_is_row : FnScope ["thing"] ["thing"] (defScope s_is_row) := ⟨rfl, rfl, rfl, by decide +kernel, rfl, by decide +kernel, by decide +kernel⟩

def sp_is_row (K : PySem.W.Frag) (d : Ads) : Sp := fun vs H Q _ => ∃ (a : Addr) (ns : List Int), vs = [.ref a] ∧ Sq K H a (ns.map V.int) ∧ ns.length ≤ 1000 ∧ ∀ H', Ex H H' → Q (.bl (okRow ns)) H'
set_option maxHeartbeats 4000000 in
theorem ok_is_row (T : Tx K mg d) : Okf P w K mg base 4 d.f_is_row ["thing"] (sp_is_row K d) := by
  refine okf_of T.d_is_row sc_is_row (fun vs H Q E h => ?_) (fun cdv A outer s H vs Q E hr h => ?_)
  · obtain ⟨a, ns, rfl, hS, hl, k⟩ := h
    rfl
  · obtain ⟨a, ns, rfl, hS, hl, k⟩ := h
    refine ⟨_, (pss_cons (ps_if (PW.pt (pw_or (pt_not (pt_val (pe_callB (k_isiT (K := K) rfl) (by rfl) T.z_isinstance (by decide +kernel) (pa_cons (pv 0) (pa_cons (pe_tup (pa_cons (pe_bty (n := "list") (by rfl) T.z_list (by decide +kernel)) (pa_cons (pe_bty (n := "tuple") (by rfl) T.z_tuple (by decide +kernel)) pa_nil))) pa_nil))))) (pw_or1 (pt_not (pt_chain op_le op_le pe_int (pe_callB (k_len (K := K) rfl) (by rfl) T.z_len (by decide +kernel) (pa_cons (pv 0) pa_nil)) (pe_gint (by rfl) T.k_MOST_HOURS)))))) (pss_one (ps_ret pe_bl)) pss_nil)
      (pss_one (ps_ret (pf_call (ok_are_counts T) (hr.mono (by decide)) (by rfl) T.g_are_counts T.d_are_counts.kp (pa_cons (pe_callB (k_len (K := K) rfl) (by rfl) T.z_len (by decide +kernel) (pa_cons (pv 0) pa_nil)) (pa_cons (pv 0) pa_nil)))))), ?_⟩
    walk_at "rd"
    refine ⟨szc rfl, fun tp np => ?_⟩
    have e1 : Ex H (upd H tp (.tup [.ty "list", .ty "tuple"])) := Ex.new np
    walk_at "rd"
    refine r_isiSeq (hS.mono e1) upd_same ?_
    walk_at "rd"
    refine iteF ?_
    walk_at "rd"
    refine r_len (hS.mono e1) ?_
    walk_at "rd"
    rw [List.length_map]
    have fls : ¬ (1 ≤ ns.length ∧ ns.length ≤ 48) → Q (.bl false) (upd H tp (.tup [.ty "list", .ty "tuple"])) := fun h => by
      have z : okRow ns = false := by
        rw [Bool.eq_false_iff]
        intro z
        have := okRow_iff.mp z
        exact h ⟨this.ne, this.le⟩
      have := k _ e1
      rw [z] at this
      exact this
    refine r_ite (fun h1 => ?_) (fun h1 => ?_)
    · walk_at "rd"
      refine r_itn (fun h2 => ?_) (fun h2 => ?_)
      · walk_at "rd"
        exact fls (by omega)
      · walk_at "rd"
        refine r_len (hS.mono e1) ?_
        rw [List.length_map]
        walk_at "rd"
        refine ⟨a, ns, rfl, hS.mono e1, hl, fun H' e => ?_⟩
        have := k _ (e1.trans e)
        unfold okRow at this
        rw [decide_eq_true (by omega : 1 ≤ ns.length), decide_eq_true (by omega : ns.length ≤ 48)] at this
        exact this
    · walk_at "rd"
      refine iteT ?_
      walk_at "rd"
      exact fls (by omega)

/-! ### Needs.__init__ -/
theorem sc_Needs___init__ : FnScope ["self", "row"] ["self", "row"] (defScope s_Needs___init__) := ⟨rfl, rfl, rfl, by decide +kernel, rfl, by decide +kernel, by decide +kernel⟩

def sp_Needs___init__ (K : PySem.W.Frag) (d : Ads) : Sp := spRwInit K d.c_Needs "kept_row"
set_option maxHeartbeats 4000000 in
theorem ok_Needs___init__ (T : Tx K mg d) : Okf P w K mg base 5 d.f_Needs___init__ ["self", "row"] (sp_Needs___init__ K d) := by
  refine okf_of T.d_Needs___init__ sc_Needs___init__ (fun vs H Q E h => ?_) (fun cdv A outer s H vs Q E hr h => ?_)
  · obtain ⟨H0, x, dx, a, s, rfl, rfl, nx, ndx, ne, hS, g, k⟩ := h
    rfl
  · obtain ⟨H0, x, dx, a, s, rfl, rfl, nx, ndx, ne, hS, g, k⟩ := h
    refine ⟨_, (pss_cons (ps_if (pt_not (pt_val (pf_call (ok_is_row T) (hr.mono (by decide)) (by rfl) T.g_is_row T.d_is_row.kp (pa_cons (pv 1) pa_nil)))) (pss_one ps_never) pss_nil)
      (pss_one (k_sfld (K := K) rfl (pv 0) (pe_callTy (k_tupOf (K := K) rfl) (by rfl) T.z_tuple (by decide +kernel) (pa_cons (pv 1) pa_nil))))), ?_⟩
    have e0 : Ex H0 (upd (upd H0 dx (.own x)) x (.ins d.c_Needs dx [])) := Ex.mut (Ex.new ndx) nx
    have hl := g.le
    walk_at "rd"
    refine ⟨a, s, rfl, hS.mono e0, by omega, fun H1 e1 => ?_⟩
    rw [okRow_iff.mpr g]
    walk_at "rd"
    refine iteF ?_
    have x1 : H1 x = some (.ins d.c_Needs dx []) := e1 _ _ upd_same
    have e01 : Ex H0 H1 := e0.trans e1
    walk_at "rd"
    refine r_tupOf (hS.mono e01) fun p H3 e3 hp => ?_
    walk_at "rd"
    refine ⟨x, _, dx, _, rfl, e3 _ _ x1, T.cl_Needs, T.n_Needs_kept_row, by show 0 < 1000; decide, ?_⟩
    exact k _ (Ex.mut (e01.trans e3) nx) ⟨x, dx, p, rfl, upd_same, tup_ins (e3 _ _ x1) hp, g⟩

/-! ### _law_made -/
def t__law_made : WS := (wSeq (wAsg (wVar 0) (wgTup 5 (wgCons (wgName 1) (wgCons (wgName 2) (wgCons (wgName 3) (wgCons (wgName 4) (wgCons (wgName 5) wgNil)))))))
      (wRet (wMakeK 2 3 w_mkHouse (wCons (wCall w_mkClock (wCons (wVar 1) wNil)) (wCons (wCall w_mkNeeds (wCons (wVar 2) wNil)) wNil)) (wCons (wVar 3) (wCons (wVar 4) (wCons (wVar 5) wNil))))))
def w__law_made : WF := wDef 1 5 t__law_made
theorem scw__law_made : FnScope ["_law_world", "_law_stays_here", "_law_wants", "_law_tops", "_law_floors", "_law_caps"] ["_law_world"] (defScope s__law_made) := ⟨rfl, rfl, rfl, by decide +kernel, rfl, by decide +kernel, by decide +kernel⟩
set_option maxHeartbeats 4000000 in
theorem ow__law_made (T : Tx K mg d) : Okf P w K mg base 7 d.f__law_made ["_law_world"] (spW K (cnA d) (rN K (cnA d)) w__law_made) :=
  okw_of (ts' := [.sh, .sh, .sh, .sh, .sh, .sh]) T.d__law_made scw__law_made rfl rfl rnonN fun cdv A outer s H E hr =>
    ⟨_, (pss_cons (ps_asg (pv 0) (k_gtup (K := K) (n := 5) rfl rfl (pgs_cons (pg_name (i := 1) scw__law_made.nd rfl (by first | exact Or.inl rfl | exact Or.inr rfl)) (pgs_cons (pg_name (i := 2) scw__law_made.nd rfl (by first | exact Or.inl rfl | exact Or.inr rfl)) (pgs_cons (pg_name (i := 3) scw__law_made.nd rfl (by first | exact Or.inl rfl | exact Or.inr rfl)) (pgs_cons (pg_name (i := 4) scw__law_made.nd rfl (by first | exact Or.inl rfl | exact Or.inr rfl)) (pgs_cons (pg_name (i := 5) scw__law_made.nd rfl (by first | exact Or.inl rfl | exact Or.inr rfl)) pgs_nil)))))))
      (pss_one (ps_ret (pf_makeK (ok_House___init__ T) (hr.mono (by decide)) T.mk_House (by rfl) T.g_House (pa_cons (pf_make (ok_Clock___init__ T) (hr.mono (by decide)) T.mk_Clock (by rfl) T.g_Clock (pa_cons (pv 1) pa_nil)) (pa_cons (pf_make (ok_Needs___init__ T) (hr.mono (by decide)) T.mk_Needs (by rfl) T.g_Needs (pa_cons (pv 2) pa_nil)) pa_nil)) (pk_cons (pv 3) (pk_cons (pv 4) (pk_cons (pv 5) pk_nil))))))),
    (simS_seq (simS_asg (sim_var rfl) (simG_tup (simGs_cons (simG_name (i := 1)) (simGs_cons (simG_name (i := 2)) (simGs_cons (simG_name (i := 3)) (simGs_cons (simG_name (i := 4)) (simGs_cons (simG_name (i := 5)) simGs_nil)))))))
      (simS_ret okN (sim_makeK (c := .House) mk_House (simA_cons (sim_NS (sim_make (c := .Clock) mk_Clock (simA_cons (sim_var rfl) simA_nil))) (simA_cons (sim_NS (sim_make (c := .Needs) mk_Needs (simA_cons (sim_var rfl) simA_nil))) simA_nil)) (simA_cons (sim_var rfl) (simA_cons (sim_var rfl) (simA_cons (sim_var rfl) simA_nil))))))⟩

/-! ### _law_serving -/
theorem sc__law_serving : FnScope ["_law_stays_here", "_law_hour", "_law_many", "_law_found", "_law_back"] ["_law_stays_here", "_law_hour"] (defScope s__law_serving) := ⟨rfl, rfl, rfl, by decide +kernel, rfl, by decide +kernel, by decide +kernel⟩

def sp__law_serving (K : PySem.W.Frag) (d : Ads) : Sp := fun vs H Q _ => ∃ (l : Addr) (s : List Int) (h : Int), vs = [.ref l, .int h] ∧ SqL K H l (s.map V.int) ∧ Good s ∧ RetN ((servingOf s h).map V.int) H Q
set_option maxHeartbeats 4000000 in
theorem ok__law_serving (T : Tx K mg d) : Okf P w K mg base 1 d.f__law_serving ["_law_stays_here", "_law_hour"] (sp__law_serving K d) := by
  refine okf_of T.d__law_serving sc__law_serving (fun vs H Q E h => ?_) (fun cdv A outer s H vs Q E hr h => ?_)
  · obtain ⟨l, s, h, rfl, hS, g, k⟩ := h
    rfl
  · obtain ⟨l, s, h, rfl, hS, g, k⟩ := h
    refine ⟨_, (pss_cons (ps_set (i := 2) sc__law_serving.nd rfl (by first | exact Or.inl rfl | exact Or.inr rfl) (pe_callB (k_len (K := K) rfl) (by rfl) T.z_len (by decide +kernel) (pa_cons (pv 0) pa_nil)))
      (pss_cons (ps_setLc (i := 3) (own := [("_law_back", 4)]) rfl sc__law_serving.nd rfl rfl (sw_true rfl rfl rfl (by decide +kernel)) (pi_range1 (by rfl) T.z_range (pa_cons (pv 2) pa_nil)) (blkOk_by (by kernel_rfl)) (fun _ _ _ _ _ => (pg_name (i := 4) sc__law_serving.nd rfl (by first | exact Or.inl rfl | exact Or.inr rfl))) (fun _ _ _ _ _ => (pts_one (pt_cmpR op_gt (pe_ix (k_ixL (K := K) rfl) (pv 0) (pe_op op_mod (pe_callTy k_int1 (by rfl) T.z_int (by decide +kernel) (pa_cons (pe_op op_sub (pv 1) (pv 4)) pa_nil)) (pv 2)) (fun _ _ => rfl)) (pv 4) (nomark _)))) (fun _ _ _ _ _ => (pe_op op_mod (pe_callTy k_int1 (by rfl) T.z_int (by decide +kernel) (pa_cons (pe_op op_sub (pv 1) (pv 4)) pa_nil)) (pv 2))))
      (pss_one (ps_ret (k_revL (K := K) rfl (pv 3)))))), ?_⟩
    have hne := g.ne
    have hle := g.le
    walk_at "rd"
    refine r_len (.inl hS) ?_
    rw [List.length_map]
    walk_at "rd"
    refine lc_filf walk_r0 (fun b => decide ((b : Int) < cyc s (h - (b : Int)))) (fun b => .int ((h - (b : Int)) % (s.length : Int))) (fun _ _ => trivial) (by omega) ?_ ?_
    · rintro i x H1 H2 hi e ⟨rfl, rfl⟩ kb kk hk1 hk2
      walk_at "rd"
      refine r_ixL (ex_l e hS) (at_cyc hne _) ?_
      walk_at "rd"
      refine r_ite (fun hc => ?_) (fun hc => ?_)
      · walk_at "rd"
        exact hk1 _ (decide_eq_true hc) (Ex.refl _)
      · exact hk2 _ (decide_eq_false hc) (Ex.refl _)
    · intro D H' nD e hD
      walk_at "rd"
      refine ⟨D, _, rfl, .inl (.inl hD), fun p np => ?_⟩
      refine k p _ (fresh_back e np) (e.trans (Ex.new np)) ?_
      rw [upd_same, Int.toNat_natCast, ← serving_filter g, List.map_reverse, List.map_map]
      rfl

/-! ### _law_serving -/
def w__law_serving : WF := fun xs P => ∃ (s : List Int) (h : Int), xs = [.lst (iL s), .int h] ∧ Good s ∧ P (.lst (iL (servingOf s h)))
theorem ow__law_serving (T : Tx K mg d) : Okf P w K mg base 1 d.f__law_serving ["_law_stays_here", "_law_hour"] (spW K (cnA d) (rN K (cnA d)) w__law_serving) := okw_imp (ok__law_serving T) (fun vs H Q E ⟨F, xs, P, dm, r, ⟨s, h, ex, c1, p⟩, k⟩ => by
  subst ex
  obtain ⟨v1, v2, rfl, r1, r2⟩ := r.two
  obtain ⟨a1, rfl, h1⟩ := r1.intsL
  cases r2.intE
  exact ⟨a1, s, h, rfl, .inl (.inl h1), c1, ret_ints dm k p⟩)

/-! ### _law_ring_steps -/
def t__law_ring_steps : WS := (wSeq (wPar 2 3 false true (wCB wLen (wCons (wVar 0) wNil)) (wLst wNil))
      (wSeq (wFor (wRng1 (wCons (wCB wLen (wCons (wVar 1) wNil)) wNil)) (wgName 4) (wSeq (wPar 5 6 false false (wOp (wII (fun _ j => 0 < j) fun i j => i % j) (wCB wInt1 (wCons (wOp wAdd (wOp wIx (wVar 1) (wOp (wI0 fun i j => i - j) (wVar 4) (wC (.int 1)))) (wC (.int 1))) wNil)) (wVar 2)) (wCB wLen (wCons (wCall w__law_serving (wCons (wVar 0) (wCons (wOp wIx (wVar 1) (wVar 4)) wNil))) wNil)))
      (wSeq (wSet 7 (wOp (wII (fun _ j => 0 < j) fun i j => i % j) (wCB wInt1 (wCons (wOp wAdd (wOp (wI0 fun i j => i - j) (wOp wIx (wVar 1) (wVar 4)) (wVar 6)) (wC (.int 1))) wNil)) (wVar 2)))
      (wSeq (wWhile (wTest (wOp wNe (wVar 5) (wVar 7))) (wSeq (wMut 3 wAppend (wCons (wTup (wCons (wC (.str "keep")) (wCons (wVar 5) wNil))) wNil))
      (wSet 5 (wOp (wII (fun _ j => 0 < j) fun i j => i % j) (wCB wInt1 (wCons (wOp wAdd (wVar 5) (wC (.int 1))) wNil)) (wVar 2)))))
      (wMut 3 wAppend (wCons (wTup (wCons (wC (.str "need")) (wCons (wOp wIx (wVar 1) (wVar 4)) wNil))) wNil))))))
      (wRet (wVar 3))))
def w__law_ring_steps : WF := wDef 2 6 t__law_ring_steps
theorem scw__law_ring_steps : FnScope ["_law_stays_here", "_law_ring", "_law_many", "_law_found", "_law_at", "_law_mark", "_law_wide", "_law_goal"] ["_law_stays_here", "_law_ring"] (defScope s__law_ring_steps) := ⟨rfl, rfl, rfl, by decide +kernel, rfl, by decide +kernel, by decide +kernel⟩
set_option maxHeartbeats 4000000 in
theorem ow__law_ring_steps (T : Tx K mg d) : Okf P w K mg base 2 d.f__law_ring_steps ["_law_stays_here", "_law_ring"] (spW K (cnA d) (rN K (cnA d)) w__law_ring_steps) :=
  okw_of (ts' := [.sh, .sh, .sh, .ow, .no, .no, .no, .no]) T.d__law_ring_steps scw__law_ring_steps rfl rfl rnonN fun cdv A outer s H E hr =>
    ⟨_, (pss_cons (ps_par (i := 2) (j := 3) (by rfl) scw__law_ring_steps.nd rfl rfl (by decide) rfl rfl (pa_cons (pe_callB (u_len (K := K) rfl) (by rfl) T.z_len (by decide +kernel) (pa_cons (pv 0) pa_nil)) (pa_cons (pe_lst pa_nil) pa_nil)) (by rfl))
      (pss_cons (ps_for PassesOwn.never rfl (pi_range1 (by rfl) T.z_range (pa_cons (pe_callB (u_len (K := K) rfl) (by rfl) T.z_len (by decide +kernel) (pa_cons (pv 1) pa_nil)) pa_nil)) (pg_name (i := 4) scw__law_ring_steps.nd rfl (by first | exact Or.inl rfl | exact Or.inr rfl)) (pss_cons (ps_par (i := 5) (j := 6) (by rfl) scw__law_ring_steps.nd rfl rfl (by decide) rfl rfl (pa_cons (pe_op op_mod (pe_callTy u_int (by rfl) T.z_int (by decide +kernel) (pa_cons (pe_op (u_add (K := K) rfl) (pe_ix (k_ixS (K := K) rfl) (pv 1) (pe_op op_sub (pv 4) pe_int) (fun _ _ => rfl)) pe_int) pa_nil)) (pv 2)) (pa_cons (pe_callB (u_len (K := K) rfl) (by rfl) T.z_len (by decide +kernel) (pa_cons (pf_call (ow__law_serving T) (hr.mono (by decide)) (by rfl) T.g__law_serving T.d__law_serving.kp (pa_cons (pv 0) (pa_cons (pe_ix (k_ixS (K := K) rfl) (pv 1) (pv 4) (fun _ _ => rfl)) pa_nil))) pa_nil)) pa_nil)) (by rfl))
      (pss_cons (ps_set (i := 7) scw__law_ring_steps.nd rfl (by first | exact Or.inl rfl | exact Or.inr rfl) (pe_op op_mod (pe_callTy u_int (by rfl) T.z_int (by decide +kernel) (pa_cons (pe_op (u_add (K := K) rfl) (pe_op op_sub (pe_ix (k_ixS (K := K) rfl) (pv 1) (pv 4) (fun _ _ => rfl)) (pv 6)) pe_int) pa_nil)) (pv 2)))
      (pss_cons (ps_while PassesOwn.never (pt_cmpR (u_ne (K := K) rfl hr.units) (pv 5) (pv 7) (nomark _)) (pss_cons (ps_expr (pe_bm PySem.F.plainAttrs_list PySem.F.slot_list_append PySem.F.type_list_append mt_append (pv 3) (pa_cons (pe_tup (pa_cons pe_str (pa_cons (pv 5) pa_nil))) pa_nil)))
      (pss_one (ps_set (i := 5) scw__law_ring_steps.nd rfl (by first | exact Or.inl rfl | exact Or.inr rfl) (pe_op op_mod (pe_callTy u_int (by rfl) T.z_int (by decide +kernel) (pa_cons (pe_op (u_add (K := K) rfl) (pv 5) pe_int) pa_nil)) (pv 2))))))
      (pss_one (ps_expr (pe_bm PySem.F.plainAttrs_list PySem.F.slot_list_append PySem.F.type_list_append mt_append (pv 3) (pa_cons (pe_tup (pa_cons pe_str (pa_cons (pe_ix (k_ixS (K := K) rfl) (pv 1) (pv 4) (fun _ _ => rfl)) pa_nil))) pa_nil))))))))
      (pss_one (ps_ret (pv 3))))),
    (simS_seq (simS_par (i := 2) (j := 3) (k := false) (l := true) (sim_NS (sim_cb okN cas_len (simAW_cons (sim_SW (sim_var rfl)) simAW_nil))) (sim_lst simA_nil))
      (simS_seq (simS_for (ts := [.sh, .sh, .sh, .ow, .no, .no, .no, .no]) (simI_rng1 (simAW_cons (sim_NW (sim_cb okN cas_len (simAW_cons (sim_SW (sim_var rfl)) simAW_nil))) simAW_nil)) (simG_name (i := 4)) (simS_seq (simS_par (i := 5) (j := 6) (k := false) (l := false) (sim_NS (sim_op okN (ops_II (C := fun _ j => 0 < j) (g := fun i j => i % j)) (sim_NW (sim_cb okN cas_int (simAW_cons (sim_NW (sim_op okN ops_add (sim_SW (sim_op okS ops_ix (sim_SW (sim_var rfl)) (sim_NW (sim_op okN (ops_I0 (g := fun i j => i - j)) (sim_SW (sim_var rfl)) (sim_NW sim_int))))) (sim_NW sim_int))) simAW_nil))) (sim_SW (sim_var rfl)))) (sim_NS (sim_cb okN cas_len (simAW_cons (sim_NW (sim_call okN (simA_cons (sim_var rfl) (simA_cons (sim_op okS ops_ix (sim_SW (sim_var rfl)) (sim_SW (sim_var rfl))) simA_nil)))) simAW_nil))))
      (simS_seq (simS_set (i := 7) (sim_NS (sim_op okN (ops_II (C := fun _ j => 0 < j) (g := fun i j => i % j)) (sim_NW (sim_cb okN cas_int (simAW_cons (sim_NW (sim_op okN ops_add (sim_NW (sim_op okN (ops_I0 (g := fun i j => i - j)) (sim_SW (sim_op okS ops_ix (sim_SW (sim_var rfl)) (sim_SW (sim_var rfl)))) (sim_SW (sim_var rfl)))) (sim_NW sim_int))) simAW_nil))) (sim_SW (sim_var rfl)))))
      (simS_seq (simS_while (ts := [.sh, .sh, .sh, .ow, .sh, .sh, .sh, .sh]) (simT_val (simT_test (sim_NS (sim_op okN ops_ne (sim_SW (sim_var rfl)) (sim_SW (sim_var rfl)))))) (simS_seq (simS_mut (i := 3) rfl rfl mus_append (simA_cons (sim_NS (sim_tup (simA_cons (sim_NS sim_str) (simA_cons (sim_var rfl) simA_nil)))) simA_nil))
      (simS_set (i := 5) (sim_NS (sim_op okN (ops_II (C := fun _ j => 0 < j) (g := fun i j => i % j)) (sim_NW (sim_cb okN cas_int (simAW_cons (sim_NW (sim_op okN ops_add (sim_SW (sim_var rfl)) (sim_NW sim_int))) simAW_nil))) (sim_SW (sim_var rfl)))))) rfl)
      (simS_mut (i := 3) rfl rfl mus_append (simA_cons (sim_NS (sim_tup (simA_cons (sim_NS sim_str) (simA_cons (sim_op okS ops_ix (sim_SW (sim_var rfl)) (sim_SW (sim_var rfl))) simA_nil)))) simA_nil))))) rfl)
      (simS_retO (i := 3) rfl)))⟩

/-! ### Clock.widths -/
theorem sc_Clock_widths : FnScope ["self"] ["self"] (defScope s_Clock_widths) := ⟨rfl, rfl, rfl, by decide +kernel, rfl, by decide +kernel, by decide +kernel⟩

def sp_Clock_widths (K : PySem.W.Frag) (d : Ads) : Sp := fun vs H Q _ => ∃ (v : V) (s : List Int), vs = [v] ∧ Clk K d.c_Clock H v s ∧ RetN ((wds s).map V.int) H Q
set_option maxHeartbeats 4000000 in
theorem ok_Clock_widths (T : Tx K mg d) : Okf P w K mg base 1 d.f_Clock_widths ["self"] (sp_Clock_widths K d) := by
  refine okf_of T.d_Clock_widths sc_Clock_widths (fun vs H Q E h => ?_) (fun cdv A outer s H vs Q E hr h => ?_)
  · obtain ⟨v, s, rfl, ⟨p, dx, a, b, rfl, hp, ha, hb, g⟩, k⟩ := h
    rfl
  · obtain ⟨v, s, rfl, ⟨p, dx, a, b, rfl, hp, ha, hb, g⟩, k⟩ := h
    refine ⟨_, (pss_one (ps_ret (pe_callTy (k_listOf (K := K) rfl) (by rfl) T.z_list (by decide +kernel) (pa_cons (k_fld (K := K) rfl (pv 0)) pa_nil)))), ?_⟩
    walk_at "rd"
    refine ⟨p, _, dx, _, _, rfl, hp, T.cl_Clock, T.n_Clock_kept_widths, clkF_widths _ _, ?_⟩
    walk_at "rd"
    refine r_listOf (.inr hb) fun l nl => ?_
    exact k l _ nl (Ex.new nl) upd_same

/-! ### Clock.widths -/
def w_Clock_widths : WF := fun xs P => ∃ (s : List Int), xs = [clkP s] ∧ Good s ∧ P (.lst (iL (wds s)))
theorem ow_Clock_widths (T : Tx K mg d) : Okf P w K mg base 1 d.f_Clock_widths ["self"] (spW K (cnA d) (rN K (cnA d)) w_Clock_widths) := okw_imp (ok_Clock_widths T) (fun vs H Q E ⟨F, xs, P, dm, r, ⟨s, ex, c1, p⟩, k⟩ => by
  subst ex
  obtain ⟨v1, rfl, r1⟩ := r.one
  exact ⟨v1, s, rfl, clk_of r1 c1, ret_ints dm k p⟩)

/-! ### House.clock -/
def t_House_clock : WS := (wRet (wNL (wFldC .House (wVar 0) "own_clock")))
def w_House_clock : WF := wDef 1 0 t_House_clock
theorem scw_House_clock : FnScope ["self"] ["self"] (defScope s_House_clock) := ⟨rfl, rfl, rfl, by decide +kernel, rfl, by decide +kernel, by decide +kernel⟩
set_option maxHeartbeats 4000000 in
theorem ow_House_clock (T : Tx K mg d) : Okf P w K mg base 1 d.f_House_clock ["self"] (spW K (cnA d) (rN K (cnA d)) w_House_clock) :=
  okw_of (ts' := [.sh]) T.d_House_clock scw_House_clock rfl rfl rnonN fun cdv A outer s H E hr =>
    ⟨_, (pss_one (ps_ret (k_fld (K := K) rfl (pv 0)))),
    (simS_ret okN (sim_SN (sim_fld (c := .House) rfl T.cl_House T.n_House_own_clock (sim_var rfl))))⟩

/-! ### Clock.hours -/
def w_Clock_hours : WF := fun xs P => ∃ (s : List Int), xs = [clkP s] ∧ Good s ∧ P (.int (s.length : Int))
theorem ow_Clock_hours (T : Tx K mg d) : Okf P w K mg base 1 d.f_Clock_hours ["self"] (spW K (cnA d) (rN K (cnA d)) w_Clock_hours) := okw_imp (ok_Clock_hours T) (fun vs H Q E ⟨F, xs, P, dm, r, ⟨s, ex, c1, p⟩, k⟩ => by
  subst ex
  obtain ⟨v1, rfl, r1⟩ := r.one
  exact ⟨v1, s, rfl, clk_of r1 c1, ret_int dm k p (Ex.refl _)⟩)

/-! ### House.hours -/
def t_House_hours : WS := (wRet (wProp .Clock w_Clock_hours (wFldC .House (wVar 0) "own_clock")))
def w_House_hours : WF := wDef 1 0 t_House_hours
theorem scw_House_hours : FnScope ["self"] ["self"] (defScope s_House_hours) := ⟨rfl, rfl, rfl, by decide +kernel, rfl, by decide +kernel, by decide +kernel⟩
set_option maxHeartbeats 4000000 in
theorem ow_House_hours (T : Tx K mg d) : Okf P w K mg base 3 d.f_House_hours ["self"] (spW K (cnA d) (rN K (cnA d)) w_House_hours) :=
  okw_of (ts' := [.sh]) T.d_House_hours scw_House_hours rfl rfl rnonN fun cdv A outer s H E hr =>
    ⟨_, (pss_one (ps_ret (pf_prop (ow_Clock_hours T) (hr.mono (by decide)) T.cl_Clock T.p_Clock_hours (k_fld (K := K) rfl (pv 0))))),
    (simS_ret okN (sim_prop .Clock okN (sim_fld (c := .House) rfl T.cl_House T.n_House_own_clock (sim_var rfl))))⟩

/-! ### ring_way -/
def t_ring_way : WS := (wSeq (wPar 2 3 true false (wLst wNil) (wMeth .Clock "widths" w_Clock_widths (wProp .House w_House_clock (wVar 0)) wNil))
      (wSeq (wFor (wZip (wCons (wOp wAdd (wSl (wVar 1) (wPart (wUn wNeg (wC (.int 1)))) wNoPart) (wSl (wVar 1) wNoPart (wPart (wUn wNeg (wC (.int 1)))))) (wCons (wVar 1) wNil))) (wgTup 2 (wgCons (wgName 4) (wgCons (wgName 5) wgNil))) (wSeq (wSet 6 (wOp (wII (fun _ j => 0 < j) fun i j => i % j) (wOp (wI0 fun i j => i - j) (wOp (wI0 fun i j => i - j) (wVar 5) (wOp wIx (wVar 3) (wVar 5))) (wVar 4)) (wProp .House w_House_hours (wVar 0))))
      (wSeq (wMut 2 wExtend (wCons (wLc (wRng1 (wCons (wVar 6) wNil)) (wgName 7) wTyes (wTup (wCons (wC (.str "keep")) (wCons (wOp (wII (fun _ j => 0 < j) fun i j => i % j) (wOp wAdd (wOp wAdd (wVar 4) (wC (.int 1))) (wVar 7)) (wProp .House w_House_hours (wVar 0))) wNil)))) wNil))
      (wMut 2 wAppend (wCons (wTup (wCons (wC (.str "need")) (wCons (wVar 5) wNil))) wNil)))))
      (wRet (wVar 2))))
def w_ring_way : WF := wDef 2 6 t_ring_way
theorem scw_ring_way : FnScope ["house", "ring", "found", "widths", "hour", "later", "gap", "at"] ["house", "ring"] (defScope s_ring_way) := ⟨rfl, rfl, rfl, by decide +kernel, rfl, by decide +kernel, by decide +kernel⟩
set_option maxHeartbeats 4000000 in
theorem ow_ring_way (T : Tx K mg d) : Okf P w K mg base 5 d.f_ring_way ["house", "ring"] (spW K (cnA d) (rN K (cnA d)) w_ring_way) :=
  okw_of (ts' := [.sh, .sh, .ow, .sh, .no, .no, .no, .no]) T.d_ring_way scw_ring_way rfl rfl rnonN fun cdv A outer s H E hr =>
    ⟨_, (pss_cons (ps_par (i := 2) (j := 3) (by rfl) scw_ring_way.nd rfl rfl (by decide) rfl rfl (pa_cons (pe_lst pa_nil) (pa_cons (pf_meth0 (ow_Clock_widths T) (hr.mono (by decide)) T.cl_Clock T.m_Clock_widths (pf_prop (ow_House_clock T) (hr.mono (by decide)) T.cl_House T.p_House_clock (pv 0))) pa_nil)) (by rfl))
      (pss_cons (ps_for PassesOwn.never rfl (k_piZA (K := K) rfl (by rfl) T.z_zip (pa_cons (pe_op (u_add (K := K) rfl) (pe_slice (u_sl (K := K) rfl) (pv 1) (po_some (pe_un un_neg pe_int)) po_none) (pe_slice (u_sl (K := K) rfl) (pv 1) po_none (po_some (pe_un un_neg pe_int)))) (pa_cons (pv 1) pa_nil))) (k_gtup (K := K) (n := 2) rfl rfl (pgs_cons (pg_name (i := 4) scw_ring_way.nd rfl (by first | exact Or.inl rfl | exact Or.inr rfl)) (pgs_cons (pg_name (i := 5) scw_ring_way.nd rfl (by first | exact Or.inl rfl | exact Or.inr rfl)) pgs_nil))) (pss_cons (ps_set (i := 6) scw_ring_way.nd rfl (by first | exact Or.inl rfl | exact Or.inr rfl) (pe_op op_mod (pe_op op_sub (pe_op op_sub (pv 5) (pe_ix (k_ixS (K := K) rfl) (pv 3) (pv 5) (fun _ _ => rfl))) (pv 4)) (pf_prop (ow_House_hours T) (hr.mono (by decide)) T.cl_House T.p_House_hours (pv 0))))
      (pss_cons (ps_expr (pe_bm PySem.F.plainAttrs_list PySem.F.slot_list_extend PySem.F.type_list_extend mt_extend (pv 2) (pa_cons (pe_lc (own := [("at", 7)]) rfl scw_ring_way.nd (pi_range1 (by rfl) T.z_range (pa_cons (pv 6) pa_nil)) (blkOk_by (by kernel_rfl)) (fun _ _ _ _ _ => (pg_name (i := 7) scw_ring_way.nd rfl (by first | exact Or.inl rfl | exact Or.inr rfl))) (fun _ _ _ _ _ => pts_nil) (fun _ _ _ _ _ => (pe_tup (pa_cons pe_str (pa_cons (pe_op op_mod (pe_op (u_add (K := K) rfl) (pe_op (u_add (K := K) rfl) (pv 4) pe_int) (pv 7)) (pf_prop (ow_House_hours T) (hr.mono (by decide)) T.cl_House T.p_House_hours (pv 0))) pa_nil))))) pa_nil)))
      (pss_one (ps_expr (pe_bm PySem.F.plainAttrs_list PySem.F.slot_list_append PySem.F.type_list_append mt_append (pv 2) (pa_cons (pe_tup (pa_cons pe_str (pa_cons (pv 5) pa_nil))) pa_nil)))))))
      (pss_one (ps_ret (pv 2))))),
    (simS_seq (simS_par (i := 2) (j := 3) (k := true) (l := false) (sim_lst simA_nil) (sim_NS (sim_meth .Clock okN (sim_NS (sim_prop .House okN (sim_var rfl))) simA_nil)))
      (simS_seq (simS_for (ts := [.sh, .sh, .ow, .sh, .no, .no, .no, .no]) (simI_zip (simA_cons (sim_NS (sim_op okN ops_add (sim_NW (sim_sl (sim_SW (sim_var rfl)) (simO_some (sim_NW (sim_un uns_neg (sim_NW sim_int)))) simO_none)) (sim_NW (sim_sl (sim_SW (sim_var rfl)) simO_none (simO_some (sim_NW (sim_un uns_neg (sim_NW sim_int)))))))) (simA_cons (sim_var rfl) simA_nil))) (simG_tup (simGs_cons (simG_name (i := 4)) (simGs_cons (simG_name (i := 5)) simGs_nil))) (simS_seq (simS_set (i := 6) (sim_NS (sim_op okN (ops_II (C := fun _ j => 0 < j) (g := fun i j => i % j)) (sim_NW (sim_op okN (ops_I0 (g := fun i j => i - j)) (sim_NW (sim_op okN (ops_I0 (g := fun i j => i - j)) (sim_SW (sim_var rfl)) (sim_SW (sim_op okS ops_ix (sim_SW (sim_var rfl)) (sim_SW (sim_var rfl)))))) (sim_SW (sim_var rfl)))) (sim_NW (sim_prop .House okN (sim_var rfl))))))
      (simS_seq (simS_mut (i := 2) rfl rfl mus_extend (simA_cons (sim_NS (sim_lc (vs := [7]) (simI_rng1 (simAW_cons (sim_SW (sim_var rfl)) simAW_nil)) (simG_name (i := 7)) simT_yes (sim_NS (sim_tup (simA_cons (sim_NS sim_str) (simA_cons (sim_NS (sim_op okN (ops_II (C := fun _ j => 0 < j) (g := fun i j => i % j)) (sim_NW (sim_op okN ops_add (sim_NW (sim_op okN ops_add (sim_SW (sim_var rfl)) (sim_NW sim_int))) (sim_SW (sim_var rfl)))) (sim_NW (sim_prop .House okN (sim_var rfl))))) simA_nil)))))) simA_nil))
      (simS_mut (i := 2) rfl rfl mus_append (simA_cons (sim_NS (sim_tup (simA_cons (sim_NS sim_str) (simA_cons (sim_var rfl) simA_nil)))) simA_nil)))) rfl)
      (simS_retO (i := 2) rfl)))⟩

/-! ### _law_alike -/
theorem sc__law_alike : FnScope ["_law_found", "_law_due"] ["_law_found", "_law_due"] (defScope s__law_alike) := ⟨rfl, rfl, rfl, by decide +kernel, rfl, by decide +kernel, by decide +kernel⟩

def sp__law_alike (K : PySem.W.Frag) (d : Ads) : Sp := fun vs H Q _ => ∃ (x y : V) (a : PyData) (n : Nat), vs = [x, y] ∧ Dp K H x a ∧ Dp K H y a ∧ SeqAt.shaped a = true ∧ Fine a n ∧ n ≤ 300000 ∧ Q (.bl true) H
set_option maxHeartbeats 4000000 in
theorem ok__law_alike (T : Tx K mg d) : OkP NoG P w K mg base 1 d.f__law_alike ["_law_found", "_law_due"] (sp__law_alike K d) := by
  refine okP_of T.d__law_alike sc__law_alike (fun vs H Q E h => ?_) (fun cdv A outer s H vs Q E hg hr h => ?_)
  · obtain ⟨x, y, a, n, rfl, hx, hy, hs, hf, hn, k⟩ := h
    rfl
  · obtain ⟨x, y, a, n, rfl, hx, hy, hs, hf, hn, k⟩ := h
    refine ⟨_, (pss_one (ps_ret (pe_and (pe_cmpR (k_eqD (K := K) rfl hr.units) (pv 0) (pv 1) (nomark _)) (pe_one (pe_cmpR op_eq (pe_callB (k_repr (K := K) (k := 0) rfl hg (hr.mono (by decide))) (by rfl) T.z_repr (by decide +kernel) (pa_cons (pv 0) pa_nil)) (pe_callB (k_repr (K := K) (k := 0) rfl hg (hr.mono (by decide))) (by rfl) T.z_repr (by decide +kernel) (pa_cons (pv 1) pa_nil)) (nomark _)))))), ?_⟩
    have hd := SeqAt.depth_of_shaped hs
    walk_at "rd"
    refine ⟨a, a, hx, hy, hs, hs, ?_⟩
    rw [SeqAt.eqv_refl a (SeqAt.canLay_of_shaped hs)]
    walk_at "rd"
    refine iteT ?_
    walk_at "rd"
    refine r_repr hx hf hn hd ?_
    walk_at "rd"
    refine r_repr hy hf hn hd ?_
    walk_at "rd"
    rw [decide_eq_true rfl]
    exact k

/-! ### _law_alike -/
def w__law_alike : WF := fun xs P => ∃ (x y : PV) (a : PyData) (n : Nat), xs = [x, y] ∧ toD x = some a ∧ toD y = some a ∧ SeqAt.shaped a = true ∧ Fine a n ∧ n ≤ 300000 ∧ P (.bl true)
theorem ow__law_alike (T : Tx K mg d) : OkP NoG P w K mg base 1 d.f__law_alike ["_law_found", "_law_due"] (spW K (cnA d) (rN K (cnA d)) w__law_alike) := okP_imp (ok__law_alike T) (fun vs H Q E ⟨F, xs, P, dm, r, ⟨x, y, a, n, ex, c1, c2, c3, c4, c5, p⟩, k⟩ => by
  subst ex
  obtain ⟨v1, v2, rfl, r1, r2⟩ := r.two
  exact ⟨v1, v2, a, n, rfl, r1.dp c1, r2.dp c2, c3, c4, c5, ret_bl dm k p (Ex.refl _)⟩)

/-! ### _law_row -/
def t__law_row : WS := (wSeq (wAsg (wVar 0) (wgTup 5 (wgCons (wgName 2) (wgCons (wgName 3) (wgCons (wgName 4) (wgCons (wgName 5) (wgCons (wgName 6) wgNil)))))))
      (wSeq (wAsg (wVar 1) (wgTup 2 (wgCons (wgName 7) (wgCons (wgName 8) wgNil))))
      (wSeq (wPar 9 10 false false (wCB wLen (wCons (wVar 2) wNil)) (wCB wLen (wCons (wCall w__law_serving (wCons (wVar 2) (wCons (wVar 8) wNil))) wNil)))
      (wSeq (wPar 11 12 false false (wOp (wII (fun _ j => 0 < j) fun i j => i % j) (wCB wInt1 (wCons (wOp wAdd (wVar 8) (wC (.int 1))) wNil)) (wVar 9)) (wOp (wII (fun _ j => 0 < j) fun i j => i % j) (wCB wInt1 (wCons (wOp wAdd (wOp (wI0 fun i j => i - j) (wVar 8) (wVar 10)) (wC (.int 1))) wNil)) (wVar 9)))
      (wSeq (wIfS (wTest (wOp wEq (wVar 7) (wC (.str "need")))) (wRet (wTup (wCons (wVar 12) (wCons (wVar 11) (wCons (wVar 10) (wCons (wOp wIx (wVar 3) (wVar 8)) wNil)))))) (fun D ρ => D.nx ρ))
      (wSeq (wIfS (wTest (wOp wEq (wVar 7) (wC (.str "room")))) (wRet (wTup (wCons (wVar 11) (wCons (wVar 12) (wCons (wOp (wI0 fun i j => i - j) (wC (.int 0)) (wVar 10)) (wCons (wOp (wI0 fun i j => i - j) (wC (.int 0)) (wOp wIx (wVar 4) (wVar 8))) wNil)))))) (fun D ρ => D.nx ρ))
      (wSeq (wIfS (wTest (wOp wEq (wVar 7) (wC (.str "keep")))) (wRet (wTup (wCons (wVar 8) (wCons (wVar 11) (wCons (wC (.int 1)) (wCons (wOp wIx (wVar 5) (wVar 8)) wNil)))))) (fun D ρ => D.nx ρ))
      (wRet (wTup (wCons (wVar 11) (wCons (wVar 8) (wCons (wUn wNeg (wC (.int 1))) (wCons (wOp (wI0 fun i j => i - j) (wC (.int 0)) (wOp wIx (wVar 6) (wVar 8))) wNil)))))))))))))
def w__law_row : WF := wDef 2 11 t__law_row
theorem scw__law_row : FnScope ["_law_world", "_law_row_here", "_law_stays_here", "_law_wants", "_law_tops", "_law_floors", "_law_caps", "_law_word", "_law_hour", "_law_many", "_law_wide", "_law_after", "_law_begin"] ["_law_world", "_law_row_here"] (defScope s__law_row) := ⟨rfl, rfl, rfl, by decide +kernel, rfl, by decide +kernel, by decide +kernel⟩
set_option maxHeartbeats 4000000 in
theorem ow__law_row (T : Tx K mg d) : Okf P w K mg base 2 d.f__law_row ["_law_world", "_law_row_here"] (spW K (cnA d) (rN K (cnA d)) w__law_row) :=
  okw_of (ts' := [.sh, .sh, .sh, .sh, .sh, .sh, .sh, .sh, .sh, .sh, .sh, .sh, .sh]) T.d__law_row scw__law_row rfl rfl rnonN fun cdv A outer s H E hr =>
    ⟨_, (pss_cons (ps_asg (pv 0) (k_gtup (K := K) (n := 5) rfl rfl (pgs_cons (pg_name (i := 2) scw__law_row.nd rfl (by first | exact Or.inl rfl | exact Or.inr rfl)) (pgs_cons (pg_name (i := 3) scw__law_row.nd rfl (by first | exact Or.inl rfl | exact Or.inr rfl)) (pgs_cons (pg_name (i := 4) scw__law_row.nd rfl (by first | exact Or.inl rfl | exact Or.inr rfl)) (pgs_cons (pg_name (i := 5) scw__law_row.nd rfl (by first | exact Or.inl rfl | exact Or.inr rfl)) (pgs_cons (pg_name (i := 6) scw__law_row.nd rfl (by first | exact Or.inl rfl | exact Or.inr rfl)) pgs_nil)))))))
      (pss_cons (ps_asg (pv 1) (k_gtup (K := K) (n := 2) rfl rfl (pgs_cons (pg_name (i := 7) scw__law_row.nd rfl (by first | exact Or.inl rfl | exact Or.inr rfl)) (pgs_cons (pg_name (i := 8) scw__law_row.nd rfl (by first | exact Or.inl rfl | exact Or.inr rfl)) pgs_nil))))
      (pss_cons (ps_par (i := 9) (j := 10) (by rfl) scw__law_row.nd rfl rfl (by decide) rfl rfl (pa_cons (pe_callB (u_len (K := K) rfl) (by rfl) T.z_len (by decide +kernel) (pa_cons (pv 2) pa_nil)) (pa_cons (pe_callB (u_len (K := K) rfl) (by rfl) T.z_len (by decide +kernel) (pa_cons (pf_call (ow__law_serving T) (hr.mono (by decide)) (by rfl) T.g__law_serving T.d__law_serving.kp (pa_cons (pv 2) (pa_cons (pv 8) pa_nil))) pa_nil)) pa_nil)) (by rfl))
      (pss_cons (ps_par (i := 11) (j := 12) (by rfl) scw__law_row.nd rfl rfl (by decide) rfl rfl (pa_cons (pe_op op_mod (pe_callTy u_int (by rfl) T.z_int (by decide +kernel) (pa_cons (pe_op (u_add (K := K) rfl) (pv 8) pe_int) pa_nil)) (pv 9)) (pa_cons (pe_op op_mod (pe_callTy u_int (by rfl) T.z_int (by decide +kernel) (pa_cons (pe_op (u_add (K := K) rfl) (pe_op op_sub (pv 8) (pv 10)) pe_int) pa_nil)) (pv 9)) pa_nil)) (by rfl))
      (pss_cons (ps_if (pt_cmpR (u_eq (K := K) rfl hr.units) (pv 7) pe_str (nomark _)) (pss_one (ps_ret (pe_tup (pa_cons (pv 12) (pa_cons (pv 11) (pa_cons (pv 10) (pa_cons (pe_ix (k_ixS (K := K) rfl) (pv 3) (pv 8) (fun _ _ => rfl)) pa_nil))))))) pss_nil)
      (pss_cons (ps_if (pt_cmpR (u_eq (K := K) rfl hr.units) (pv 7) pe_str (nomark _)) (pss_one (ps_ret (pe_tup (pa_cons (pv 11) (pa_cons (pv 12) (pa_cons (pe_op op_sub pe_int (pv 10)) (pa_cons (pe_op op_sub pe_int (pe_ix (k_ixS (K := K) rfl) (pv 4) (pv 8) (fun _ _ => rfl))) pa_nil))))))) pss_nil)
      (pss_cons (ps_if (pt_cmpR (u_eq (K := K) rfl hr.units) (pv 7) pe_str (nomark _)) (pss_one (ps_ret (pe_tup (pa_cons (pv 8) (pa_cons (pv 11) (pa_cons pe_int (pa_cons (pe_ix (k_ixS (K := K) rfl) (pv 5) (pv 8) (fun _ _ => rfl)) pa_nil))))))) pss_nil)
      (pss_one (ps_ret (pe_tup (pa_cons (pv 11) (pa_cons (pv 8) (pa_cons (pe_un un_neg pe_int) (pa_cons (pe_op op_sub pe_int (pe_ix (k_ixS (K := K) rfl) (pv 6) (pv 8) (fun _ _ => rfl))) pa_nil)))))))))))))),
    (simS_seq (simS_asg (sim_var rfl) (simG_tup (simGs_cons (simG_name (i := 2)) (simGs_cons (simG_name (i := 3)) (simGs_cons (simG_name (i := 4)) (simGs_cons (simG_name (i := 5)) (simGs_cons (simG_name (i := 6)) simGs_nil)))))))
      (simS_seq (simS_asg (sim_var rfl) (simG_tup (simGs_cons (simG_name (i := 7)) (simGs_cons (simG_name (i := 8)) simGs_nil))))
      (simS_seq (simS_par (i := 9) (j := 10) (k := false) (l := false) (sim_NS (sim_cb okN cas_len (simAW_cons (sim_SW (sim_var rfl)) simAW_nil))) (sim_NS (sim_cb okN cas_len (simAW_cons (sim_NW (sim_call okN (simA_cons (sim_var rfl) (simA_cons (sim_var rfl) simA_nil)))) simAW_nil))))
      (simS_seq (simS_par (i := 11) (j := 12) (k := false) (l := false) (sim_NS (sim_op okN (ops_II (C := fun _ j => 0 < j) (g := fun i j => i % j)) (sim_NW (sim_cb okN cas_int (simAW_cons (sim_NW (sim_op okN ops_add (sim_SW (sim_var rfl)) (sim_NW sim_int))) simAW_nil))) (sim_SW (sim_var rfl)))) (sim_NS (sim_op okN (ops_II (C := fun _ j => 0 < j) (g := fun i j => i % j)) (sim_NW (sim_cb okN cas_int (simAW_cons (sim_NW (sim_op okN ops_add (sim_NW (sim_op okN (ops_I0 (g := fun i j => i - j)) (sim_SW (sim_var rfl)) (sim_SW (sim_var rfl)))) (sim_NW sim_int))) simAW_nil))) (sim_SW (sim_var rfl)))))
      (simS_seq (simS_if (simT_test (sim_NS (sim_op okN ops_eq (sim_SW (sim_var rfl)) (sim_NW sim_str)))) (simS_ret okN (sim_tup (simA_cons (sim_var rfl) (simA_cons (sim_var rfl) (simA_cons (sim_var rfl) (simA_cons (sim_op okS ops_ix (sim_SW (sim_var rfl)) (sim_SW (sim_var rfl))) simA_nil)))))) simS_nil)
      (simS_seq (simS_if (simT_test (sim_NS (sim_op okN ops_eq (sim_SW (sim_var rfl)) (sim_NW sim_str)))) (simS_ret okN (sim_tup (simA_cons (sim_var rfl) (simA_cons (sim_var rfl) (simA_cons (sim_NS (sim_op okN (ops_I0 (g := fun i j => i - j)) (sim_NW sim_int) (sim_SW (sim_var rfl)))) (simA_cons (sim_NS (sim_op okN (ops_I0 (g := fun i j => i - j)) (sim_NW sim_int) (sim_SW (sim_op okS ops_ix (sim_SW (sim_var rfl)) (sim_SW (sim_var rfl)))))) simA_nil)))))) simS_nil)
      (simS_seq (simS_if (simT_test (sim_NS (sim_op okN ops_eq (sim_SW (sim_var rfl)) (sim_NW sim_str)))) (simS_ret okN (sim_tup (simA_cons (sim_var rfl) (simA_cons (sim_var rfl) (simA_cons (sim_NS sim_int) (simA_cons (sim_op okS ops_ix (sim_SW (sim_var rfl)) (sim_SW (sim_var rfl))) simA_nil)))))) simS_nil)
      (simS_ret okN (sim_tup (simA_cons (sim_var rfl) (simA_cons (sim_var rfl) (simA_cons (sim_NS (sim_un uns_neg (sim_NW sim_int))) (simA_cons (sim_NS (sim_op okN (ops_I0 (g := fun i j => i - j)) (sim_NW sim_int) (sim_SW (sim_op okS ops_ix (sim_SW (sim_var rfl)) (sim_SW (sim_var rfl)))))) simA_nil)))))))))))))⟩

/-! ### _law_measure -/
def t__law_measure : WS := (wSeq (wSet 2 (wLc (wSeqI (wVar 1)) (wgName 3) wTyes (wCall w__law_row (wCons (wVar 0) (wCons (wVar 3) wNil)))))
      (wRet (wTup (wCons (wOp (wII CDivW fun i j => i / j) (wCB wSum (wCons (wLc (wSeqI (wVar 2)) (wgName 4) wTyes (wOp wIx (wVar 4) (wC (.int 2)))) wNil)) (wCB wLen (wCons (wOp wIx (wVar 0) (wC (.int 0))) wNil))) (wCons (wCB wSum (wCons (wLc (wSeqI (wVar 2)) (wgName 4) wTyes (wOp wIx (wVar 4) (wC (.int 3)))) wNil)) wNil)))))
def w__law_measure : WF := wDef 2 3 t__law_measure
theorem scw__law_measure : FnScope ["_law_world", "_law_way", "_law_some", "_law_row_here", "_law_one"] ["_law_world", "_law_way"] (defScope s__law_measure) := ⟨rfl, rfl, rfl, by decide +kernel, rfl, by decide +kernel, by decide +kernel⟩
set_option maxHeartbeats 4000000 in
theorem ow__law_measure (T : Tx K mg d) : Okf P w K mg base 3 d.f__law_measure ["_law_world", "_law_way"] (spW K (cnA d) (rN K (cnA d)) w__law_measure) :=
  okw_of (ts' := [.sh, .sh, .sh, .no, .no]) T.d__law_measure scw__law_measure rfl rfl rnonN fun cdv A outer s H E hr =>
    ⟨_, (pss_cons (ps_setLc (i := 2) (own := [("_law_row_here", 3)]) rfl scw__law_measure.nd rfl rfl (sw_true rfl rfl rfl (by decide +kernel)) (k_piS (K := K) rfl (pv 1)) (blkOk_by (by kernel_rfl)) (fun _ _ _ _ _ => (pg_name (i := 3) scw__law_measure.nd rfl (by first | exact Or.inl rfl | exact Or.inr rfl))) (fun _ _ _ _ _ => pts_nil) (fun _ _ _ _ _ => (pf_call (ow__law_row T) (hr.mono (by decide)) (by rfl) T.g__law_row T.d__law_row.kp (pa_cons (pv 0) (pa_cons (pv 3) pa_nil)))))
      (pss_one (ps_ret (pe_tup (pa_cons (pe_op op_fdivW (pe_callB (k_sumS (K := K) rfl rfl) (by rfl) T.z_sum (by decide +kernel) (pa_cons (pe_lc (own := [("_law_one", 4)]) rfl scw__law_measure.nd (k_piS (K := K) rfl (pv 2)) (blkOk_by (by kernel_rfl)) (fun _ _ _ _ _ => (pg_name (i := 4) scw__law_measure.nd rfl (by first | exact Or.inl rfl | exact Or.inr rfl))) (fun _ _ _ _ _ => pts_nil) (fun _ _ _ _ _ => (pe_ix (k_ixS (K := K) rfl) (pv 4) pe_int (fun _ _ => rfl)))) pa_nil)) (pe_callB (u_len (K := K) rfl) (by rfl) T.z_len (by decide +kernel) (pa_cons (pe_ix (k_ixS (K := K) rfl) (pv 0) pe_int (fun _ _ => rfl)) pa_nil))) (pa_cons (pe_callB (k_sumS (K := K) rfl rfl) (by rfl) T.z_sum (by decide +kernel) (pa_cons (pe_lc (own := [("_law_one", 4)]) rfl scw__law_measure.nd (k_piS (K := K) rfl (pv 2)) (blkOk_by (by kernel_rfl)) (fun _ _ _ _ _ => (pg_name (i := 4) scw__law_measure.nd rfl (by first | exact Or.inl rfl | exact Or.inr rfl))) (fun _ _ _ _ _ => pts_nil) (fun _ _ _ _ _ => (pe_ix (k_ixS (K := K) rfl) (pv 4) pe_int (fun _ _ => rfl)))) pa_nil)) pa_nil)))))),
    (simS_seq (simS_set (i := 2) (sim_NS (sim_lc (vs := [3]) (simI_seq (lp := false) (sim_SW (sim_var rfl))) (simG_name (i := 3)) simT_yes (sim_NS (sim_call okN (simA_cons (sim_var rfl) (simA_cons (sim_var rfl) simA_nil)))))))
      (simS_ret okN (sim_tup (simA_cons (sim_NS (sim_op okN (ops_II (C := CDivW) (g := fun i j => i / j)) (sim_NW (sim_cb okN cas_sum (simAW_cons (sim_NW (sim_lc (vs := [4]) (simI_seq (lp := false) (sim_SW (sim_var rfl))) (simG_name (i := 4)) simT_yes (sim_op okS ops_ix (sim_SW (sim_var rfl)) (sim_NW sim_int)))) simAW_nil))) (sim_NW (sim_cb okN cas_len (simAW_cons (sim_SW (sim_op okS ops_ix (sim_SW (sim_var rfl)) (sim_NW sim_int))) simAW_nil))))) (simA_cons (sim_NS (sim_cb okN cas_sum (simAW_cons (sim_NW (sim_lc (vs := [4]) (simI_seq (lp := false) (sim_SW (sim_var rfl))) (simG_name (i := 4)) simT_yes (sim_op okS ops_ix (sim_SW (sim_var rfl)) (sim_NW sim_int)))) simAW_nil))) simA_nil)))))⟩

/-! ### _law_rows -/
def t__law_rows : WS := (wSeq (wAsg (wVar 0) (wgTup 5 (wgCons (wgName 1) (wgCons (wgName 2) (wgCons (wgName 3) (wgCons (wgName 4) (wgCons (wgName 5) wgNil)))))))
      (wSeq (wSet 6 (wLstRg (wCB wLen (wCons (wVar 1) wNil))))
      (wSeq (wSet 7 (wLc (wSeqI (wVar 6)) (wgName 8) (wTest (wOp (wIsN true) (wOp wIx (wVar 5) (wVar 8)) (wC .non))) (wTup (wCons (wC (.str "door")) (wCons (wVar 8) wNil)))))
      (wSeq (wSet 7 (wOp wAdd (wOp wAdd (wVar 7) (wLc (wSeqI (wVar 6)) (wgName 8) wTyes (wTup (wCons (wC (.str "keep")) (wCons (wVar 8) wNil))))) (wLc (wSeqI (wVar 6)) (wgName 8) wTyes (wTup (wCons (wC (.str "need")) (wCons (wVar 8) wNil))))))
      (wRet (wOp wAdd (wVar 7) (wLc (wSeqI (wVar 6)) (wgName 8) (wTest (wOp (wIsN true) (wOp wIx (wVar 3) (wVar 8)) (wC .non))) (wTup (wCons (wC (.str "room")) (wCons (wVar 8) wNil))))))))))
def w__law_rows : WF := wDef 1 8 t__law_rows
theorem scw__law_rows : FnScope ["_law_world", "_law_stays_here", "_law_wants", "_law_tops", "_law_floors", "_law_caps", "_law_every", "_law_found", "_law_hour"] ["_law_world"] (defScope s__law_rows) := ⟨rfl, rfl, rfl, by decide +kernel, rfl, by decide +kernel, by decide +kernel⟩
set_option maxHeartbeats 4000000 in
theorem ow__law_rows (T : Tx K mg d) : Okf P w K mg base 1 d.f__law_rows ["_law_world"] (spW K (cnA d) (rN K (cnA d)) w__law_rows) :=
  okw_of (ts' := [.sh, .sh, .sh, .sh, .sh, .sh, .sh, .sh, .no]) T.d__law_rows scw__law_rows rfl rfl rnonN fun cdv A outer s H E hr =>
    ⟨_, (pss_cons (ps_asg (pv 0) (k_gtup (K := K) (n := 5) rfl rfl (pgs_cons (pg_name (i := 1) scw__law_rows.nd rfl (by first | exact Or.inl rfl | exact Or.inr rfl)) (pgs_cons (pg_name (i := 2) scw__law_rows.nd rfl (by first | exact Or.inl rfl | exact Or.inr rfl)) (pgs_cons (pg_name (i := 3) scw__law_rows.nd rfl (by first | exact Or.inl rfl | exact Or.inr rfl)) (pgs_cons (pg_name (i := 4) scw__law_rows.nd rfl (by first | exact Or.inl rfl | exact Or.inr rfl)) (pgs_cons (pg_name (i := 5) scw__law_rows.nd rfl (by first | exact Or.inl rfl | exact Or.inr rfl)) pgs_nil)))))))
      (pss_cons (ps_set (i := 6) scw__law_rows.nd rfl (by first | exact Or.inl rfl | exact Or.inr rfl) (pe_listRg rfl (by rfl) T.z_list (prg_1 (by rfl) T.z_range (pe_callB (u_len (K := K) rfl) (by rfl) T.z_len (by decide +kernel) (pa_cons (pv 1) pa_nil)))))
      (pss_cons (ps_setLc (i := 7) (own := [("_law_hour", 8)]) rfl scw__law_rows.nd rfl rfl (sw_true rfl rfl rfl (by decide +kernel)) (k_piS (K := K) rfl (pv 6)) (blkOk_by (by kernel_rfl)) (fun _ _ _ _ _ => (pg_name (i := 8) scw__law_rows.nd rfl (by first | exact Or.inl rfl | exact Or.inr rfl))) (fun _ _ _ _ _ => (pts_one (pt_cmpR k_notN (pe_ix (k_ixS (K := K) rfl) (pv 5) (pv 8) (fun _ _ => rfl)) pe_non (nomark _)))) (fun _ _ _ _ _ => (pe_tup (pa_cons pe_str (pa_cons (pv 8) pa_nil)))))
      (pss_cons (ps_set (i := 7) scw__law_rows.nd rfl (by first | exact Or.inl rfl | exact Or.inr rfl) (pe_op (u_add (K := K) rfl) (pe_op (u_add (K := K) rfl) (pv 7) (pe_lc (own := [("_law_hour", 8)]) rfl scw__law_rows.nd (k_piS (K := K) rfl (pv 6)) (blkOk_by (by kernel_rfl)) (fun _ _ _ _ _ => (pg_name (i := 8) scw__law_rows.nd rfl (by first | exact Or.inl rfl | exact Or.inr rfl))) (fun _ _ _ _ _ => pts_nil) (fun _ _ _ _ _ => (pe_tup (pa_cons pe_str (pa_cons (pv 8) pa_nil)))))) (pe_lc (own := [("_law_hour", 8)]) rfl scw__law_rows.nd (k_piS (K := K) rfl (pv 6)) (blkOk_by (by kernel_rfl)) (fun _ _ _ _ _ => (pg_name (i := 8) scw__law_rows.nd rfl (by first | exact Or.inl rfl | exact Or.inr rfl))) (fun _ _ _ _ _ => pts_nil) (fun _ _ _ _ _ => (pe_tup (pa_cons pe_str (pa_cons (pv 8) pa_nil)))))))
      (pss_one (ps_ret (pe_op (u_add (K := K) rfl) (pv 7) (pe_lc (own := [("_law_hour", 8)]) rfl scw__law_rows.nd (k_piS (K := K) rfl (pv 6)) (blkOk_by (by kernel_rfl)) (fun _ _ _ _ _ => (pg_name (i := 8) scw__law_rows.nd rfl (by first | exact Or.inl rfl | exact Or.inr rfl))) (fun _ _ _ _ _ => (pts_one (pt_cmpR k_notN (pe_ix (k_ixS (K := K) rfl) (pv 3) (pv 8) (fun _ _ => rfl)) pe_non (nomark _)))) (fun _ _ _ _ _ => (pe_tup (pa_cons pe_str (pa_cons (pv 8) pa_nil)))))))))))),
    (simS_seq (simS_asg (sim_var rfl) (simG_tup (simGs_cons (simG_name (i := 1)) (simGs_cons (simG_name (i := 2)) (simGs_cons (simG_name (i := 3)) (simGs_cons (simG_name (i := 4)) (simGs_cons (simG_name (i := 5)) simGs_nil)))))))
      (simS_seq (simS_set (i := 6) (sim_NS (sim_lstRg (sim_NW (sim_cb okN cas_len (simAW_cons (sim_SW (sim_var rfl)) simAW_nil))))))
      (simS_seq (simS_set (i := 7) (sim_NS (sim_lc (vs := [8]) (simI_seq (lp := false) (sim_SW (sim_var rfl))) (simG_name (i := 8)) (simT_test (sim_NS (sim_op okN ops_notN (sim_SW (sim_op okS ops_ix (sim_SW (sim_var rfl)) (sim_SW (sim_var rfl)))) (sim_NW sim_non)))) (sim_NS (sim_tup (simA_cons (sim_NS sim_str) (simA_cons (sim_var rfl) simA_nil)))))))
      (simS_seq (simS_set (i := 7) (sim_NS (sim_op okN ops_add (sim_NW (sim_op okN ops_add (sim_SW (sim_var rfl)) (sim_NW (sim_lc (vs := [8]) (simI_seq (lp := false) (sim_SW (sim_var rfl))) (simG_name (i := 8)) simT_yes (sim_NS (sim_tup (simA_cons (sim_NS sim_str) (simA_cons (sim_var rfl) simA_nil)))))))) (sim_NW (sim_lc (vs := [8]) (simI_seq (lp := false) (sim_SW (sim_var rfl))) (simG_name (i := 8)) simT_yes (sim_NS (sim_tup (simA_cons (sim_NS sim_str) (simA_cons (sim_var rfl) simA_nil)))))))))
      (simS_ret okN (sim_op okN ops_add (sim_SW (sim_var rfl)) (sim_NW (sim_lc (vs := [8]) (simI_seq (lp := false) (sim_SW (sim_var rfl))) (simG_name (i := 8)) (simT_test (sim_NS (sim_op okN ops_notN (sim_SW (sim_op okS ops_ix (sim_SW (sim_var rfl)) (sim_SW (sim_var rfl)))) (sim_NW sim_non)))) (sim_NS (sim_tup (simA_cons (sim_NS sim_str) (simA_cons (sim_var rfl) simA_nil))))))))))))⟩

/-! ### _law_is_way -/
def t__law_is_way : WS := (wSeq (wSet 2 (wLc (wSeqI (wCall w__law_rows (wCons (wVar 0) wNil))) (wgName 3) wTyes (wCB wRepr (wCons (wVar 3) wNil))))
      (wSeq (wIfS (wTor (wTnot (wTest (wCB wIsi (wCons (wVar 1) (wCons (wC (.ty "list")) wNil))))) (wTor (wTest (wOp wEq (wVar 1) (wLst wNil))) (wTest (wOp wNe (wLc (wSeqI (wVar 1)) (wgName 3) (wTest (wOp (wIn true) (wCB wRepr (wCons (wVar 3) wNil)) (wVar 2))) (wVar 3)) (wLst wNil))))) (wRet (wC (.bl false))) (fun D ρ => D.nx ρ))
      (wSeq (wSet 4 (wLc (wSeqI (wVar 1)) (wgName 3) wTyes (wSl (wCall w__law_row (wCons (wVar 0) (wCons (wVar 3) wNil))) wNoPart (wPart (wC (.int 2))))))
      (wRet (wOp wEq (wLc (wRng1 (wCons (wCB wLen (wCons (wVar 4) wNil)) wNil)) (wgName 5) (wTest (wOp wNe (wOp wIx (wOp wIx (wVar 4) (wOp (wI0 fun i j => i - j) (wVar 5) (wC (.int 1)))) (wC (.int 1))) (wOp wIx (wOp wIx (wVar 4) (wVar 5)) (wC (.int 0))))) (wVar 5)) (wLst wNil))))))
def w__law_is_way : WF := wDef 2 4 t__law_is_way
theorem scw__law_is_way : FnScope ["_law_world", "_law_thing", "_law_known", "_law_row_here", "_law_marks", "_law_k"] ["_law_world", "_law_thing"] (defScope s__law_is_way) := ⟨rfl, rfl, rfl, by decide +kernel, rfl, by decide +kernel, by decide +kernel⟩
set_option maxHeartbeats 4000000 in
theorem ow__law_is_way (T : Tx K mg d) : OkP NoG P w K mg base 3 d.f__law_is_way ["_law_world", "_law_thing"] (spW K (cnA d) (rN K (cnA d)) w__law_is_way) :=
  okwG_of (ts' := [.sh, .sh, .sh, .no, .sh, .no]) T.d__law_is_way scw__law_is_way rfl rfl rnonN fun cdv A outer s H E hg hr =>
    ⟨_, (pss_cons (ps_set (i := 2) scw__law_is_way.nd rfl (by first | exact Or.inl rfl | exact Or.inr rfl) (pe_lc (own := [("_law_row_here", 3)]) rfl scw__law_is_way.nd (k_piS (K := K) rfl (pf_call (ow__law_rows T) (hr.mono (by decide)) (by rfl) T.g__law_rows T.d__law_rows.kp (pa_cons (pv 0) pa_nil))) (blkOk_by (by kernel_rfl)) (fun _ _ _ _ _ => (pg_name (i := 3) scw__law_is_way.nd rfl (by first | exact Or.inl rfl | exact Or.inr rfl))) (fun _ _ _ _ _ => pts_nil) (fun _ _ _ _ _ => (pe_callB (k_repr (K := K) (k := 0) rfl hg (hr.mono (by decide))) (by rfl) T.z_repr (by decide +kernel) (pa_cons (pv 3) pa_nil)))))
      (pss_cons (ps_if (PW.pt (pw_or (pt_not (pt_val (pe_callB (k_isi (K := K) rfl) (by rfl) T.z_isinstance (by decide +kernel) (pa_cons (pv 1) (pa_cons (pe_bty (n := "list") (by rfl) T.z_list (by decide +kernel)) pa_nil))))) (pw_or (pt_cmpR (u_eq (K := K) rfl hr.units) (pv 1) (pe_lst pa_nil) (nomark _)) (pw_or1 (pt_cmpR (u_ne (K := K) rfl hr.units) (pe_lc (own := [("_law_row_here", 3)]) rfl scw__law_is_way.nd (k_piS (K := K) rfl (pv 1)) (blkOk_by (by kernel_rfl)) (fun _ _ _ _ _ => (pg_name (i := 3) scw__law_is_way.nd rfl (by first | exact Or.inl rfl | exact Or.inr rfl))) (fun _ _ _ _ _ => (pts_one (pt_cmpR (u_ni (K := K) rfl hr.units65) (pe_callB (k_repr (K := K) (k := 0) rfl hg (hr.mono (by decide))) (by rfl) T.z_repr (by decide +kernel) (pa_cons (pv 3) pa_nil)) (pv 2) (by rfl)))) (fun _ _ _ _ _ => (pv 3))) (pe_lst pa_nil) (nomark _)))))) (pss_one (ps_ret pe_bl)) pss_nil)
      (pss_cons (ps_set (i := 4) scw__law_is_way.nd rfl (by first | exact Or.inl rfl | exact Or.inr rfl) (pe_lc (own := [("_law_row_here", 3)]) rfl scw__law_is_way.nd (k_piS (K := K) rfl (pv 1)) (blkOk_by (by kernel_rfl)) (fun _ _ _ _ _ => (pg_name (i := 3) scw__law_is_way.nd rfl (by first | exact Or.inl rfl | exact Or.inr rfl))) (fun _ _ _ _ _ => pts_nil) (fun _ _ _ _ _ => (pe_slice (u_sl (K := K) rfl) (pf_call (ow__law_row T) (hr.mono (by decide)) (by rfl) T.g__law_row T.d__law_row.kp (pa_cons (pv 0) (pa_cons (pv 3) pa_nil))) po_none (po_some pe_int)))))
      (pss_one (ps_ret (pe_cmpR (u_eq (K := K) rfl hr.units) (pe_lc (own := [("_law_k", 5)]) rfl scw__law_is_way.nd (pi_range1 (by rfl) T.z_range (pa_cons (pe_callB (u_len (K := K) rfl) (by rfl) T.z_len (by decide +kernel) (pa_cons (pv 4) pa_nil)) pa_nil)) (blkOk_by (by kernel_rfl)) (fun _ _ _ _ _ => (pg_name (i := 5) scw__law_is_way.nd rfl (by first | exact Or.inl rfl | exact Or.inr rfl))) (fun _ _ _ _ _ => (pts_one (pt_cmpR (u_ne (K := K) rfl hr.units) (pe_ix (k_ixS (K := K) rfl) (pe_ix (k_ixS (K := K) rfl) (pv 4) (pe_op op_sub (pv 5) pe_int) (fun _ _ => rfl)) pe_int (fun _ _ => rfl)) (pe_ix (k_ixS (K := K) rfl) (pe_ix (k_ixS (K := K) rfl) (pv 4) (pv 5) (fun _ _ => rfl)) pe_int (fun _ _ => rfl)) (nomark _)))) (fun _ _ _ _ _ => (pv 5))) (pe_lst pa_nil) (nomark _))))))),
    (simS_seq (simS_set (i := 2) (sim_NS (sim_lc (vs := [3]) (simI_seq (lp := false) (sim_NW (sim_call okN (simA_cons (sim_var rfl) simA_nil)))) (simG_name (i := 3)) simT_yes (sim_NS (sim_cb okN cas_repr (simAW_cons (sim_SW (sim_var rfl)) simAW_nil))))))
      (simS_seq (simS_if (simT_or (simT_not (simT_B (sim_NS (sim_cb okN cas_isi (simAW_cons (sim_SW (sim_var rfl)) (simAW_cons (sim_NW sim_ty) simAW_nil)))))) (simT_or (simT_test (sim_NS (sim_op okN ops_eq (sim_SW (sim_var rfl)) (sim_NW (sim_lst simA_nil))))) (simT_test (sim_NS (sim_op okN ops_ne (sim_NW (sim_lc (vs := [3]) (simI_seq (lp := false) (sim_SW (sim_var rfl))) (simG_name (i := 3)) (simT_test (sim_NS (sim_op okN ops_ni (sim_NW (sim_cb okN cas_repr (simAW_cons (sim_SW (sim_var rfl)) simAW_nil))) (sim_SW (sim_var rfl))))) (sim_var rfl))) (sim_NW (sim_lst simA_nil))))))) (simS_ret okN sim_bl) simS_nil)
      (simS_seq (simS_set (i := 4) (sim_NS (sim_lc (vs := [3]) (simI_seq (lp := false) (sim_SW (sim_var rfl))) (simG_name (i := 3)) simT_yes (sim_NS (sim_sl (sim_NW (sim_call okN (simA_cons (sim_var rfl) (simA_cons (sim_var rfl) simA_nil)))) simO_none (simO_some (sim_NW sim_int)))))))
      (simS_ret okN (sim_op okN ops_eq (sim_NW (sim_lc (vs := [5]) (simI_rng1 (simAW_cons (sim_NW (sim_cb okN cas_len (simAW_cons (sim_SW (sim_var rfl)) simAW_nil))) simAW_nil)) (simG_name (i := 5)) (simT_test (sim_NS (sim_op okN ops_ne (sim_SW (sim_op okS ops_ix (sim_SW (sim_op okS ops_ix (sim_SW (sim_var rfl)) (sim_NW (sim_op okN (ops_I0 (g := fun i j => i - j)) (sim_SW (sim_var rfl)) (sim_NW sim_int))))) (sim_NW sim_int))) (sim_SW (sim_op okS ops_ix (sim_SW (sim_op okS ops_ix (sim_SW (sim_var rfl)) (sim_SW (sim_var rfl)))) (sim_NW sim_int)))))) (sim_var rfl))) (sim_NW (sim_lst simA_nil)))))))⟩

/-! ### is_integer -/
def t_is_integer : WS := (wRet (wAndV (wCB wIsi (wCons (wVar 0) (wCons (wC (.ty "int")) wNil))) (wNotV (wCB wIsi (wCons (wVar 0) (wCons (wC (.ty "bool")) wNil))))))
def w_is_integer : WF := wDef 1 0 t_is_integer
theorem scw_is_integer : FnScope ["thing"] ["thing"] (defScope s_is_integer) := ⟨rfl, rfl, rfl, by decide +kernel, rfl, by decide +kernel, by decide +kernel⟩
set_option maxHeartbeats 4000000 in
theorem ow_is_integer (T : Tx K mg d) : Okf P w K mg base 1 d.f_is_integer ["thing"] (spW K (cnA d) (rN K (cnA d)) w_is_integer) :=
  okw_of (ts' := [.sh]) T.d_is_integer scw_is_integer rfl rfl rnonN fun cdv A outer s H E hr =>
    ⟨_, (pss_one (ps_ret (pe_and (pe_callB (k_isi (K := K) rfl) (by rfl) T.z_isinstance (by decide +kernel) (pa_cons (pv 0) (pa_cons (pe_bty (n := "int") (by rfl) T.z_int (by decide +kernel)) pa_nil))) (pe_one (pe_not (pe_callB (k_isi (K := K) rfl) (by rfl) T.z_isinstance (by decide +kernel) (pa_cons (pv 0) (pa_cons (pe_bty (n := "bool") (by rfl) T.z_bool (by decide +kernel)) pa_nil)))))))),
    (simS_ret okN (sim_andV (sim_NS (sim_cb okN cas_isi (simAW_cons (sim_SW (sim_var rfl)) (simAW_cons (sim_NW sim_ty) simAW_nil)))) (sim_notV (sim_NS (sim_cb okN cas_isi (simAW_cons (sim_SW (sim_var rfl)) (simAW_cons (sim_NW sim_ty) simAW_nil)))))))⟩

/-! ### is_hour -/
def t_is_hour : WS := (wRet (wAndV (wCall w_is_integer (wCons (wVar 1) wNil)) (wChain (wIB fun i j => decide (i ≤ j)) (wIB fun i j => decide (i < j)) (wC (.int 0)) (wVar 1) (wVar 0))))
def w_is_hour : WF := wDef 2 0 t_is_hour
theorem scw_is_hour : FnScope ["hours", "thing"] ["hours", "thing"] (defScope s_is_hour) := ⟨rfl, rfl, rfl, by decide +kernel, rfl, by decide +kernel, by decide +kernel⟩
set_option maxHeartbeats 4000000 in
theorem ow_is_hour (T : Tx K mg d) : Okf P w K mg base 2 d.f_is_hour ["hours", "thing"] (spW K (cnA d) (rN K (cnA d)) w_is_hour) :=
  okw_of (ts' := [.sh, .sh]) T.d_is_hour scw_is_hour rfl rfl rnonN fun cdv A outer s H E hr =>
    ⟨_, (pss_one (ps_ret (pe_and (pf_call (ow_is_integer T) (hr.mono (by decide)) (by rfl) T.g_is_integer T.d_is_integer.kp (pa_cons (pv 1) pa_nil)) (pe_one (pe_chain op_le op_lt pe_int (pv 1) (pv 0)))))),
    (simS_ret okN (sim_andV (sim_NS (sim_call okN (simA_cons (sim_var rfl) simA_nil))) (sim_chain (ops_IB (g := fun i j => decide (i ≤ j))) (ops_IB (g := fun i j => decide (i < j))) (sim_NW sim_int) (sim_SW (sim_var rfl)) (sim_SW (sim_var rfl)))))⟩

/-! ### is_hour -/
theorem sc_is_hour : FnScope ["hours", "thing"] ["hours", "thing"] (defScope s_is_hour) := ⟨rfl, rfl, rfl, by decide +kernel, rfl, by decide +kernel, by decide +kernel⟩

def sp_is_hour (K : PySem.W.Frag) (d : Ads) : Sp := fun vs H Q _ => ∃ n i : Int, vs = [.int n, .int i] ∧ Q (.bl (decide (0 ≤ i) && decide (i < n))) H
set_option maxHeartbeats 4000000 in
theorem ok_is_hour (T : Tx K mg d) : Okf P w K mg base 2 d.f_is_hour ["hours", "thing"] (sp_is_hour K d) := by
  refine okf_of T.d_is_hour sc_is_hour (fun vs H Q E h => ?_) (fun cdv A outer s H vs Q E hr h => ?_)
  · obtain ⟨n, i, rfl, k⟩ := h
    rfl
  · obtain ⟨n, i, rfl, k⟩ := h
    refine ⟨_, (pss_one (ps_ret (pe_and (pf_call (ok_is_integer T) (hr.mono (by decide)) (by rfl) T.g_is_integer T.d_is_integer.kp (pa_cons (pv 1) pa_nil)) (pe_one (pe_chain op_le op_lt pe_int (pv 1) (pv 0)))))), ?_⟩
    walk_at "rd"
    refine ⟨i, rfl, ?_⟩
    walk_at "rd"
    refine iteT ?_
    walk_at "rd"
    cases h0 : decide (0 ≤ i) with
    | true =>
      refine iteT ?_
      walk_at "rd"
      rw [h0] at k
      exact k
    | false =>
      refine iteF ?_
      rw [h0] at k
      exact k

/-! ### Needs.__getitem__ -/
theorem sc_Needs___getitem__ : FnScope ["self", "hour"] ["self", "hour"] (defScope s_Needs___getitem__) := ⟨rfl, rfl, rfl, by decide +kernel, rfl, by decide +kernel, by decide +kernel⟩

def sp_Needs___getitem__ (K : PySem.W.Frag) (d : Ads) : Sp := fun vs H Q _ => ∃ (v : V) (s : List Int) (h : Int), vs = [v, .int h] ∧ Nd K d H v s ∧ 0 ≤ h ∧ h < (s.length : Int) ∧ Q (.int (cyc s h)) H
set_option maxHeartbeats 4000000 in
theorem ok_Needs___getitem__ (T : Tx K mg d) : Okf P w K mg base 3 d.f_Needs___getitem__ ["self", "hour"] (sp_Needs___getitem__ K d) := by
  refine okf_of T.d_Needs___getitem__ sc_Needs___getitem__ (fun vs H Q E h => ?_) (fun cdv A outer s H vs Q E hr h => ?_)
  · obtain ⟨v, s, h, rfl, hN, h0, h1, k⟩ := h
    rfl
  · obtain ⟨v, s, h, rfl, hN, h0, h1, k⟩ := h
    refine ⟨_, (pss_cons (ps_if (pt_not (pt_val (pf_call (ok_is_hour T) (hr.mono (by decide)) (by rfl) T.g_is_hour T.d_is_hour.kp (pa_cons (pe_callB (k_len (K := K) rfl) (by rfl) T.z_len (by decide +kernel) (pa_cons (k_fld (K := K) rfl (pv 0)) pa_nil)) (pa_cons (pv 1) pa_nil))))) (pss_one ps_never) pss_nil)
      (pss_one (ps_ret (pe_ix (k_ixT (K := K) rfl) (k_fld (K := K) rfl (pv 0)) (pv 1) (fun _ _ => rfl))))), ?_⟩
    walk_at "rd"
    refine r_rwF hN T.cl_Needs T.n_Needs_kept_row fun a ha => ?_
    walk_at "rd"
    refine r_len (.inr ha) ?_
    rw [List.length_map]
    walk_at "rd"
    refine ⟨_, _, rfl, ?_⟩
    rw [decide_eq_true h0, decide_eq_true h1]
    walk_at "rd"
    refine iteF ?_
    walk_at "rd"
    refine r_rwF hN T.cl_Needs T.n_Needs_kept_row fun a ha => ?_
    walk_at "rd"
    refine r_ixT ha ?_ k
    have := at_cyc hN.good.ne h
    rw [Int.emod_eq_of_lt h0 h1] at this
    exact this

/-! ### Needs.__getitem__ -/
def w_Needs___getitem__ : WF := fun xs P => ∃ (s : List Int) (h : Int), xs = [ndP s, .int h] ∧ GoodN s ∧ 0 ≤ h ∧ h < (s.length : Int) ∧ P (.int (cyc s h))
theorem ow_Needs___getitem__ (T : Tx K mg d) : Okf P w K mg base 3 d.f_Needs___getitem__ ["self", "hour"] (spW K (cnA d) (rN K (cnA d)) w_Needs___getitem__) := okw_imp (ok_Needs___getitem__ T) (fun vs H Q E ⟨F, xs, P, dm, r, ⟨s, h, ex, c1, c2, c3, p⟩, k⟩ => by
  subst ex
  obtain ⟨v1, v2, rfl, r1, r2⟩ := r.two
  cases r2.intE
  exact ⟨v1, s, h, rfl, nd_of r1 c1, c2, c3, ret_int dm k p (Ex.refl _)⟩)

/-! ### House.limit_of -/
def t_House_limit_of : WS := (wSeq (wIfS (wTest (wOp wEq (wVar 1) (wC (.str "need")))) (wRet (wIxO .Needs w_Needs___getitem__ (wFldC .House (wVar 0) "own_needs") (wVar 2))) (fun D ρ => D.nx ρ))
      (wRet (wOp wIx (wDict3 "room" "keep" "door" (wFldC .House (wVar 0) "own_rooms") (wFldC .House (wVar 0) "own_kept") (wFldC .House (wVar 0) "own_doors") (wVar 1)) (wVar 2))))
def w_House_limit_of : WF := wDef 3 0 t_House_limit_of
theorem scw_House_limit_of : FnScope ["self", "word", "hour"] ["self", "word", "hour"] (defScope s_House_limit_of) := ⟨rfl, rfl, rfl, by decide +kernel, rfl, by decide +kernel, by decide +kernel⟩
set_option maxHeartbeats 4000000 in
theorem ow_House_limit_of (T : Tx K mg d) : Okf P w K mg base 5 d.f_House_limit_of ["self", "word", "hour"] (spW K (cnA d) (rS K (cnA d)) w_House_limit_of) :=
  okw_of (ts' := [.sh, .sh, .sh]) T.d_House_limit_of scw_House_limit_of rfl rfl rnonS fun cdv A outer s H E hr =>
    ⟨_, (pss_cons (ps_if (pt_cmpR (u_eq (K := K) rfl hr.units) (pv 1) pe_str (nomark _)) (pss_one (ps_ret (pe_ixB (ow_Needs___getitem__ T) (hr.mono (by decide)) T.m_Needs___getitem__.at_ T.fi_Needs___getitem__ T.m_Needs___getitem__.fn (k_fld (K := K) rfl (pv 0)) (pv 2)))) pss_nil)
      (pss_one (ps_ret (pe_ix (k_ixS (K := K) rfl) (pe_dget hr.units1 (pe_disp (pps_cons pe_str (k_fld (K := K) rfl (pv 0)) (pps_cons pe_str (k_fld (K := K) rfl (pv 0)) (pps_cons pe_str (k_fld (K := K) rfl (pv 0)) pps_nil))) rfl rfl (List.cons_ne_nil _ _) (by decide)) (pv 1) (fun _ _ => rfl)) (pv 2) (fun _ _ => rfl))))),
    (simS_seq (simS_if (simT_test (sim_NS (sim_op okN ops_eq (sim_SW (sim_var rfl)) (sim_NW sim_str)))) (simS_ret okS (sim_NS (sim_ixO .Needs okN (sim_fld (c := .House) rfl T.cl_House T.n_House_own_needs (sim_var rfl)) (sim_var rfl)))) simS_nil)
      (simS_ret okS (sim_op okS ops_ix (sim_SW (sim_dict3 (sim_fld (c := .House) rfl T.cl_House T.n_House_own_rooms (sim_var rfl)) (sim_fld (c := .House) rfl T.cl_House T.n_House_own_kept (sim_var rfl)) (sim_fld (c := .House) rfl T.cl_House T.n_House_own_doors (sim_var rfl)) (sim_var rfl))) (sim_SW (sim_var rfl)))))⟩

/-! ### is_step -/
def t_is_step : WS := (wSeq (wIfS (wTor (wTnot (wTest (wCB wIsi (wCons (wVar 1) (wCons (wC (.ty "tuple")) wNil))))) (wTor (wTest (wOp wNe (wCB wLen (wCons (wVar 1) wNil)) (wC (.int 2)))) (wTnot (wTest (wCB wIsi (wCons (wOp wIx (wVar 1) (wC (.int 0))) (wCons (wC (.ty "str")) wNil))))))) (wRet (wC (.bl false))) (fun D ρ => D.nx ρ))
      (wSeq (wIfS (wTor (wTest (wOp (wIn true) (wOp wIx (wVar 1) (wC (.int 0))) (wC (.tup [.str "need", .str "room", .str "keep", .str "door"])))) (wTnot (wTest (wCall w_is_hour (wCons (wProp .House w_House_hours (wVar 0)) (wCons (wOp wIx (wVar 1) (wC (.int 1))) wNil)))))) (wRet (wC (.bl false))) (fun D ρ => D.nx ρ))
      (wRet (wOp (wIsN true) (wMeth .House "limit_of" w_House_limit_of (wVar 0) (wCons (wOp wIx (wVar 1) (wC (.int 0))) (wCons (wOp wIx (wVar 1) (wC (.int 1))) wNil))) (wC .non)))))
def w_is_step : WF := wDef 2 0 t_is_step
theorem scw_is_step : FnScope ["house", "thing"] ["house", "thing"] (defScope s_is_step) := ⟨rfl, rfl, rfl, by decide +kernel, rfl, by decide +kernel, by decide +kernel⟩
set_option maxHeartbeats 4000000 in
theorem ow_is_step (T : Tx K mg d) : Okf P w K mg base 6 d.f_is_step ["house", "thing"] (spW K (cnA d) (rN K (cnA d)) w_is_step) :=
  okw_of (ts' := [.sh, .sh]) T.d_is_step scw_is_step rfl rfl rnonN fun cdv A outer s H E hr =>
    ⟨_, (pss_cons (ps_if (PW.pt (pw_or (pt_not (pt_val (pe_callB (k_isi (K := K) rfl) (by rfl) T.z_isinstance (by decide +kernel) (pa_cons (pv 1) (pa_cons (pe_bty (n := "tuple") (by rfl) T.z_tuple (by decide +kernel)) pa_nil))))) (pw_or (pt_cmpR (u_ne (K := K) rfl hr.units) (pe_callB (u_len (K := K) rfl) (by rfl) T.z_len (by decide +kernel) (pa_cons (pv 1) pa_nil)) pe_int (nomark _)) (pw_or1 (pt_not (pt_val (pe_callB (k_isi (K := K) rfl) (by rfl) T.z_isinstance (by decide +kernel) (pa_cons (pe_ix (k_ixS (K := K) rfl) (pv 1) pe_int (fun _ _ => rfl)) (pa_cons (pe_bty (n := "str") (by rfl) T.z_str (by decide +kernel)) pa_nil))))))))) (pss_one (ps_ret pe_bl)) pss_nil)
      (pss_cons (ps_if (PW.pt (pw_or (pt_cmpR (u_ni (K := K) rfl hr.units65) (pe_ix (k_ixS (K := K) rfl) (pv 1) pe_int (fun _ _ => rfl)) (pe_glob (v := .ref d.k_WORDS) (by rfl) T.kg_WORDS rfl) (by rfl)) (pw_or1 (pt_not (pt_val (pf_call (ow_is_hour T) (hr.mono (by decide)) (by rfl) T.g_is_hour T.d_is_hour.kp (pa_cons (pf_prop (ow_House_hours T) (hr.mono (by decide)) T.cl_House T.p_House_hours (pv 0)) (pa_cons (pe_ix (k_ixS (K := K) rfl) (pv 1) pe_int (fun _ _ => rfl)) pa_nil)))))))) (pss_one (ps_ret pe_bl)) pss_nil)
      (pss_one (ps_ret (pe_cmpR k_notN (pf_meth (ow_House_limit_of T) (hr.mono (by decide)) T.cl_House T.m_House_limit_of (pv 0) (pa_cons (pe_ix (k_ixS (K := K) rfl) (pv 1) pe_int (fun _ _ => rfl)) (pa_cons (pe_ix (k_ixS (K := K) rfl) (pv 1) pe_int (fun _ _ => rfl)) pa_nil))) pe_non (nomark _)))))),
    (simS_seq (simS_if (simT_or (simT_not (simT_B (sim_NS (sim_cb okN cas_isi (simAW_cons (sim_SW (sim_var rfl)) (simAW_cons (sim_NW sim_ty) simAW_nil)))))) (simT_or (simT_test (sim_NS (sim_op okN ops_ne (sim_NW (sim_cb okN cas_len (simAW_cons (sim_SW (sim_var rfl)) simAW_nil))) (sim_NW sim_int)))) (simT_not (simT_B (sim_NS (sim_cb okN cas_isi (simAW_cons (sim_SW (sim_op okS ops_ix (sim_SW (sim_var rfl)) (sim_NW sim_int))) (simAW_cons (sim_NW sim_ty) simAW_nil)))))))) (simS_ret okN sim_bl) simS_nil)
      (simS_seq (simS_if (simT_or (simT_test (sim_NS (sim_op okN ops_ni (sim_SW (sim_op okS ops_ix (sim_SW (sim_var rfl)) (sim_NW sim_int))) (sim_NW (sim_ktup T.kt_WORDS))))) (simT_not (simT_B (sim_NS (sim_call okN (simA_cons (sim_NS (sim_prop .House okN (sim_var rfl))) (simA_cons (sim_op okS ops_ix (sim_SW (sim_var rfl)) (sim_NW sim_int)) simA_nil))))))) (simS_ret okN sim_bl) simS_nil)
      (simS_ret okN (sim_op okN ops_notN (sim_SW (sim_meth .House okS (sim_var rfl) (simA_cons (sim_op okS ops_ix (sim_SW (sim_var rfl)) (sim_NW sim_int)) (simA_cons (sim_op okS ops_ix (sim_SW (sim_var rfl)) (sim_NW sim_int)) simA_nil)))) (sim_NW sim_non)))))⟩

/-! ### Clock.width_at -/
def t_Clock_width_at : WS := (wRet (wNL (wOp wIx (wFldC .Clock (wVar 0) "kept_widths") (wVar 1))))
def w_Clock_width_at : WF := wDef 2 0 t_Clock_width_at
theorem scw_Clock_width_at : FnScope ["self", "hour"] ["self", "hour"] (defScope s_Clock_width_at) := ⟨rfl, rfl, rfl, by decide +kernel, rfl, by decide +kernel, by decide +kernel⟩
set_option maxHeartbeats 4000000 in
theorem ow_Clock_width_at (T : Tx K mg d) : Okf P w K mg base 1 d.f_Clock_width_at ["self", "hour"] (spW K (cnA d) (rN K (cnA d)) w_Clock_width_at) :=
  okw_of (ts' := [.sh, .sh]) T.d_Clock_width_at scw_Clock_width_at rfl rfl rnonN fun cdv A outer s H E hr =>
    ⟨_, (pss_one (ps_ret (pe_ix (k_ixS (K := K) rfl) (k_fld (K := K) rfl (pv 0)) (pv 1) (fun _ _ => rfl)))),
    (simS_ret okN (sim_SN (sim_op okS ops_ix (sim_SW (sim_fld (c := .Clock) rfl T.cl_Clock T.n_Clock_kept_widths (sim_var rfl))) (sim_SW (sim_var rfl)))))⟩

/-! ### forward -/
def t_forward : WS := (wSeq (wAsg (wVar 1) (wgTup 2 (wgCons (wgName 2) (wgCons (wgName 3) wgNil))))
      (wSeq (wIfS (wTest (wOp (wIn false) (wVar 2) (wTup (wCons (wC (.str "keep")) (wCons (wC (.str "door")) wNil))))) (wRet (wTup (wCons (wVar 3) (wCons (wC (.int 1)) wNil)))) (fun D ρ => D.nx ρ))
      (wSeq (wSet 4 (wMeth .Clock "width_at" w_Clock_width_at (wProp .House w_House_clock (wVar 0)) (wCons (wVar 3) wNil)))
      (wRet (wTup (wCons (wOp (wII (fun _ j => 0 < j) fun i j => i % j) (wOp wAdd (wOp (wI0 fun i j => i - j) (wVar 3) (wVar 4)) (wC (.int 1))) (wProp .House w_House_hours (wVar 0))) (wCons (wVar 4) wNil)))))))
def w_forward : WF := wDef 2 3 t_forward
theorem scw_forward : FnScope ["house", "step", "word", "hour", "width"] ["house", "step"] (defScope s_forward) := ⟨rfl, rfl, rfl, by decide +kernel, rfl, by decide +kernel, by decide +kernel⟩
set_option maxHeartbeats 4000000 in
theorem ow_forward (T : Tx K mg d) : Okf P w K mg base 5 d.f_forward ["house", "step"] (spW K (cnA d) (rN K (cnA d)) w_forward) :=
  okw_of (ts' := [.sh, .sh, .sh, .sh, .sh]) T.d_forward scw_forward rfl rfl rnonN fun cdv A outer s H E hr =>
    ⟨_, (pss_cons (ps_asg (pv 1) (k_gtup (K := K) (n := 2) rfl rfl (pgs_cons (pg_name (i := 2) scw_forward.nd rfl (by first | exact Or.inl rfl | exact Or.inr rfl)) (pgs_cons (pg_name (i := 3) scw_forward.nd rfl (by first | exact Or.inl rfl | exact Or.inr rfl)) pgs_nil))))
      (pss_cons (ps_if (pt_cmpR (u_in (K := K) rfl hr.units65) (pv 2) (pe_tup (pa_cons pe_str (pa_cons pe_str pa_nil))) (by rfl)) (pss_one (ps_ret (pe_tup (pa_cons (pv 3) (pa_cons pe_int pa_nil))))) pss_nil)
      (pss_cons (ps_set (i := 4) scw_forward.nd rfl (by first | exact Or.inl rfl | exact Or.inr rfl) (pf_meth (ow_Clock_width_at T) (hr.mono (by decide)) T.cl_Clock T.m_Clock_width_at (pf_prop (ow_House_clock T) (hr.mono (by decide)) T.cl_House T.p_House_clock (pv 0)) (pa_cons (pv 3) pa_nil)))
      (pss_one (ps_ret (pe_tup (pa_cons (pe_op op_mod (pe_op (u_add (K := K) rfl) (pe_op op_sub (pv 3) (pv 4)) pe_int) (pf_prop (ow_House_hours T) (hr.mono (by decide)) T.cl_House T.p_House_hours (pv 0))) (pa_cons (pv 4) pa_nil)))))))),
    (simS_seq (simS_asg (sim_var rfl) (simG_tup (simGs_cons (simG_name (i := 2)) (simGs_cons (simG_name (i := 3)) simGs_nil))))
      (simS_seq (simS_if (simT_test (sim_NS (sim_op okN ops_in (sim_SW (sim_var rfl)) (sim_NW (sim_tup (simA_cons (sim_NS sim_str) (simA_cons (sim_NS sim_str) simA_nil))))))) (simS_ret okN (sim_tup (simA_cons (sim_var rfl) (simA_cons (sim_NS sim_int) simA_nil)))) simS_nil)
      (simS_seq (simS_set (i := 4) (sim_NS (sim_meth .Clock okN (sim_NS (sim_prop .House okN (sim_var rfl))) (simA_cons (sim_var rfl) simA_nil))))
      (simS_ret okN (sim_tup (simA_cons (sim_NS (sim_op okN (ops_II (C := fun _ j => 0 < j) (g := fun i j => i % j)) (sim_NW (sim_op okN ops_add (sim_NW (sim_op okN (ops_I0 (g := fun i j => i - j)) (sim_SW (sim_var rfl)) (sim_SW (sim_var rfl)))) (sim_NW sim_int))) (sim_NW (sim_prop .House okN (sim_var rfl))))) (simA_cons (sim_var rfl) simA_nil)))))))⟩

/-! ### told -/
def t_told : WS := (wSeq (wIfS (wTnot (wTest (wCall w_is_step (wCons (wVar 0) (wCons (wVar 1) wNil))))) (fun _ _ => False) (fun D ρ => D.nx ρ))
      (wSeq (wAsg (wCall w_forward (wCons (wVar 0) (wCons (wVar 1) wNil))) (wgTup 2 (wgCons (wgName 2) (wgCons (wgName 3) wgNil))))
      (wSeq (wPar 4 5 false false (wOp (wII (fun _ j => 0 < j) fun i j => i % j) (wOp wAdd (wVar 2) (wVar 3)) (wProp .House w_House_hours (wVar 0))) (wMeth .House "limit_of" w_House_limit_of (wVar 0) (wCons (wOp wIx (wVar 1) (wC (.int 0))) (wCons (wOp wIx (wVar 1) (wC (.int 1))) wNil))))
      (wSeq (wIfS (wTest (wOp (wIn false) (wOp wIx (wVar 1) (wC (.int 0))) (wTup (wCons (wC (.str "need")) (wCons (wC (.str "keep")) wNil))))) (wRet (wTup (wCons (wVar 2) (wCons (wVar 4) (wCons (wVar 3) (wCons (wVar 5) wNil)))))) (fun D ρ => D.nx ρ))
      (wRet (wTup (wCons (wVar 4) (wCons (wVar 2) (wCons (wUn wNeg (wVar 3)) (wCons (wUn wNeg (wVar 5)) wNil))))))))))
def w_told : WF := wDef 2 4 t_told
theorem scw_told : FnScope ["house", "step", "first", "length", "last", "limit"] ["house", "step"] (defScope s_told) := ⟨rfl, rfl, rfl, by decide +kernel, rfl, by decide +kernel, by decide +kernel⟩
set_option maxHeartbeats 4000000 in
theorem ow_told (T : Tx K mg d) : Okf P w K mg base 7 d.f_told ["house", "step"] (spW K (cnA d) (rN K (cnA d)) w_told) :=
  okw_of (ts' := [.sh, .sh, .sh, .sh, .sh, .sh]) T.d_told scw_told rfl rfl rnonN fun cdv A outer s H E hr =>
    ⟨_, (pss_cons (ps_if (pt_not (pt_val (pf_call (ow_is_step T) (hr.mono (by decide)) (by rfl) T.g_is_step T.d_is_step.kp (pa_cons (pv 0) (pa_cons (pv 1) pa_nil))))) (pss_one ps_never) pss_nil)
      (pss_cons (ps_asg (pf_call (ow_forward T) (hr.mono (by decide)) (by rfl) T.g_forward T.d_forward.kp (pa_cons (pv 0) (pa_cons (pv 1) pa_nil))) (k_gtup (K := K) (n := 2) rfl rfl (pgs_cons (pg_name (i := 2) scw_told.nd rfl (by first | exact Or.inl rfl | exact Or.inr rfl)) (pgs_cons (pg_name (i := 3) scw_told.nd rfl (by first | exact Or.inl rfl | exact Or.inr rfl)) pgs_nil))))
      (pss_cons (ps_par (i := 4) (j := 5) (by rfl) scw_told.nd rfl rfl (by decide) rfl rfl (pa_cons (pe_op op_mod (pe_op (u_add (K := K) rfl) (pv 2) (pv 3)) (pf_prop (ow_House_hours T) (hr.mono (by decide)) T.cl_House T.p_House_hours (pv 0))) (pa_cons (pf_meth (ow_House_limit_of T) (hr.mono (by decide)) T.cl_House T.m_House_limit_of (pv 0) (pa_cons (pe_ix (k_ixS (K := K) rfl) (pv 1) pe_int (fun _ _ => rfl)) (pa_cons (pe_ix (k_ixS (K := K) rfl) (pv 1) pe_int (fun _ _ => rfl)) pa_nil))) pa_nil)) (by rfl))
      (pss_cons (ps_if (pt_cmpR (u_in (K := K) rfl hr.units65) (pe_ix (k_ixS (K := K) rfl) (pv 1) pe_int (fun _ _ => rfl)) (pe_tup (pa_cons pe_str (pa_cons pe_str pa_nil))) (by rfl)) (pss_one (ps_ret (pe_tup (pa_cons (pv 2) (pa_cons (pv 4) (pa_cons (pv 3) (pa_cons (pv 5) pa_nil))))))) pss_nil)
      (pss_one (ps_ret (pe_tup (pa_cons (pv 4) (pa_cons (pv 2) (pa_cons (pe_un un_neg (pv 3)) (pa_cons (pe_un un_neg (pv 5)) pa_nil))))))))))),
    (simS_seq (simS_if (simT_not (simT_B (sim_NS (sim_call okN (simA_cons (sim_var rfl) (simA_cons (sim_var rfl) simA_nil)))))) simS_never simS_nil)
      (simS_seq (simS_asg (sim_NS (sim_call okN (simA_cons (sim_var rfl) (simA_cons (sim_var rfl) simA_nil)))) (simG_tup (simGs_cons (simG_name (i := 2)) (simGs_cons (simG_name (i := 3)) simGs_nil))))
      (simS_seq (simS_par (i := 4) (j := 5) (k := false) (l := false) (sim_NS (sim_op okN (ops_II (C := fun _ j => 0 < j) (g := fun i j => i % j)) (sim_NW (sim_op okN ops_add (sim_SW (sim_var rfl)) (sim_SW (sim_var rfl)))) (sim_NW (sim_prop .House okN (sim_var rfl))))) (sim_meth .House okS (sim_var rfl) (simA_cons (sim_op okS ops_ix (sim_SW (sim_var rfl)) (sim_NW sim_int)) (simA_cons (sim_op okS ops_ix (sim_SW (sim_var rfl)) (sim_NW sim_int)) simA_nil))))
      (simS_seq (simS_if (simT_test (sim_NS (sim_op okN ops_in (sim_SW (sim_op okS ops_ix (sim_SW (sim_var rfl)) (sim_NW sim_int))) (sim_NW (sim_tup (simA_cons (sim_NS sim_str) (simA_cons (sim_NS sim_str) simA_nil))))))) (simS_ret okN (sim_tup (simA_cons (sim_var rfl) (simA_cons (sim_var rfl) (simA_cons (sim_var rfl) (simA_cons (sim_var rfl) simA_nil)))))) simS_nil)
      (simS_ret okN (sim_tup (simA_cons (sim_var rfl) (simA_cons (sim_var rfl) (simA_cons (sim_NS (sim_un uns_neg (sim_SW (sim_var rfl)))) (simA_cons (sim_NS (sim_un uns_neg (sim_SW (sim_var rfl)))) simA_nil))))))))))⟩

/-! ### is_way -/
def t_is_way : WS := (wSeq (wIfS (wTor (wTnot (wTest (wCB wIsi (wCons (wVar 1) (wCons (wC (.ty "list")) wNil))))) (wTor (wTest (wOp wEq (wVar 1) (wLst wNil))) (wTnot (wTest (wCB wAll (wCons (wLc (wSeqI (wVar 1)) (wgName 2) wTyes (wCall w_is_step (wCons (wVar 0) (wCons (wVar 2) wNil)))) wNil)))))) (wRet (wC (.bl false))) (fun D ρ => D.nx ρ))
      (wSeq (wSet 3 (wLc (wSeqI (wVar 1)) (wgName 2) wTyes (wCall w_told (wCons (wVar 0) (wCons (wVar 2) wNil)))))
      (wRet (wCB wAll (wCons (wLc (wZip (wCons (wVar 3) (wCons (wOp wAdd (wSl (wVar 3) (wPart (wC (.int 1))) wNoPart) (wSl (wVar 3) wNoPart (wPart (wC (.int 1))))) wNil))) (wgTup 2 (wgCons (wgName 4) (wgCons (wgName 5) wgNil))) wTyes (wOp wEq (wOp wIx (wVar 4) (wC (.int 1))) (wOp wIx (wVar 5) (wC (.int 0))))) wNil)))))
def w_is_way : WF := wDef 2 4 t_is_way
theorem scw_is_way : FnScope ["house", "thing", "step", "rows", "elder", "later"] ["house", "thing"] (defScope s_is_way) := ⟨rfl, rfl, rfl, by decide +kernel, rfl, by decide +kernel, by decide +kernel⟩
set_option maxHeartbeats 4000000 in
theorem ow_is_way (T : Tx K mg d) : Okf P w K mg base 8 d.f_is_way ["house", "thing"] (spW K (cnA d) (rN K (cnA d)) w_is_way) :=
  okw_of (ts' := [.sh, .sh, .no, .sh, .no, .no]) T.d_is_way scw_is_way rfl rfl rnonN fun cdv A outer s H E hr =>
    ⟨_, (pss_cons (ps_if (PW.pt (pw_or (pt_not (pt_val (pe_callB (k_isi (K := K) rfl) (by rfl) T.z_isinstance (by decide +kernel) (pa_cons (pv 1) (pa_cons (pe_bty (n := "list") (by rfl) T.z_list (by decide +kernel)) pa_nil))))) (pw_or (pt_cmpR (u_eq (K := K) rfl hr.units) (pv 1) (pe_lst pa_nil) (nomark _)) (pw_or1 (pt_not (pt_val (pe_callB (k_all (K := K) rfl rfl) (by rfl) T.z_all (by decide +kernel) (pa_cons (pe_lc (own := [("step", 2)]) rfl scw_is_way.nd (k_piS (K := K) rfl (pv 1)) (blkOk_by (by kernel_rfl)) (fun _ _ _ _ _ => (pg_name (i := 2) scw_is_way.nd rfl (by first | exact Or.inl rfl | exact Or.inr rfl))) (fun _ _ _ _ _ => pts_nil) (fun _ _ _ _ _ => (pf_call (ow_is_step T) (hr.mono (by decide)) (by rfl) T.g_is_step T.d_is_step.kp (pa_cons (pv 0) (pa_cons (pv 2) pa_nil))))) pa_nil)))))))) (pss_one (ps_ret pe_bl)) pss_nil)
      (pss_cons (ps_setLc (i := 3) (own := [("step", 2)]) rfl scw_is_way.nd rfl rfl (sw_true rfl rfl rfl (by decide +kernel)) (k_piS (K := K) rfl (pv 1)) (blkOk_by (by kernel_rfl)) (fun _ _ _ _ _ => (pg_name (i := 2) scw_is_way.nd rfl (by first | exact Or.inl rfl | exact Or.inr rfl))) (fun _ _ _ _ _ => pts_nil) (fun _ _ _ _ _ => (pf_call (ow_told T) (hr.mono (by decide)) (by rfl) T.g_told T.d_told.kp (pa_cons (pv 0) (pa_cons (pv 2) pa_nil)))))
      (pss_one (ps_ret (pe_callB (k_all (K := K) rfl rfl) (by rfl) T.z_all (by decide +kernel) (pa_cons (pe_lc (own := [("elder", 4), ("later", 5)]) rfl scw_is_way.nd (k_piZA (K := K) rfl (by rfl) T.z_zip (pa_cons (pv 3) (pa_cons (pe_op (u_add (K := K) rfl) (pe_slice (u_sl (K := K) rfl) (pv 3) (po_some pe_int) po_none) (pe_slice (u_sl (K := K) rfl) (pv 3) po_none (po_some pe_int))) pa_nil))) (blkOk_by (by kernel_rfl)) (fun _ _ _ _ _ => (k_gtup (K := K) (n := 2) rfl rfl (pgs_cons (pg_name (i := 4) scw_is_way.nd rfl (by first | exact Or.inl rfl | exact Or.inr rfl)) (pgs_cons (pg_name (i := 5) scw_is_way.nd rfl (by first | exact Or.inl rfl | exact Or.inr rfl)) pgs_nil)))) (fun _ _ _ _ _ => pts_nil) (fun _ _ _ _ _ => (pe_cmpR (u_eq (K := K) rfl hr.units) (pe_ix (k_ixS (K := K) rfl) (pv 4) pe_int (fun _ _ => rfl)) (pe_ix (k_ixS (K := K) rfl) (pv 5) pe_int (fun _ _ => rfl)) (nomark _)))) pa_nil)))))),
    (simS_seq (simS_if (simT_or (simT_not (simT_B (sim_NS (sim_cb okN cas_isi (simAW_cons (sim_SW (sim_var rfl)) (simAW_cons (sim_NW sim_ty) simAW_nil)))))) (simT_or (simT_test (sim_NS (sim_op okN ops_eq (sim_SW (sim_var rfl)) (sim_NW (sim_lst simA_nil))))) (simT_not (simT_B (sim_NS (sim_cb okN cas_all (simAW_cons (sim_NW (sim_lc (vs := [2]) (simI_seq (lp := false) (sim_SW (sim_var rfl))) (simG_name (i := 2)) simT_yes (sim_NS (sim_call okN (simA_cons (sim_var rfl) (simA_cons (sim_var rfl) simA_nil)))))) simAW_nil))))))) (simS_ret okN sim_bl) simS_nil)
      (simS_seq (simS_set (i := 3) (sim_NS (sim_lc (vs := [2]) (simI_seq (lp := false) (sim_SW (sim_var rfl))) (simG_name (i := 2)) simT_yes (sim_NS (sim_call okN (simA_cons (sim_var rfl) (simA_cons (sim_var rfl) simA_nil)))))))
      (simS_ret okN (sim_cb okN cas_all (simAW_cons (sim_NW (sim_lc (vs := [4, 5]) (simI_zip (simA_cons (sim_var rfl) (simA_cons (sim_NS (sim_op okN ops_add (sim_NW (sim_sl (sim_SW (sim_var rfl)) (simO_some (sim_NW sim_int)) simO_none)) (sim_NW (sim_sl (sim_SW (sim_var rfl)) simO_none (simO_some (sim_NW sim_int)))))) simA_nil))) (simG_tup (simGs_cons (simG_name (i := 4)) (simGs_cons (simG_name (i := 5)) simGs_nil))) simT_yes (sim_NS (sim_op okN ops_eq (sim_SW (sim_op okS ops_ix (sim_SW (sim_var rfl)) (sim_NW sim_int))) (sim_SW (sim_op okS ops_ix (sim_SW (sim_var rfl)) (sim_NW sim_int))))))) simAW_nil)))))⟩

/-! ### turns -/
def t_turns : WS := (wRet (wOp (wII CDivW fun i j => i / j) (wCB wSum (wCons (wLc (wSeqI (wVar 1)) (wgName 2) wTyes (wOp wIx (wCall w_told (wCons (wVar 0) (wCons (wVar 2) wNil))) (wC (.int 2)))) wNil)) (wProp .House w_House_hours (wVar 0))))
def w_turns : WF := wDef 2 1 t_turns
theorem scw_turns : FnScope ["house", "way", "step"] ["house", "way"] (defScope s_turns) := ⟨rfl, rfl, rfl, by decide +kernel, rfl, by decide +kernel, by decide +kernel⟩
set_option maxHeartbeats 4000000 in
theorem ow_turns (T : Tx K mg d) : Okf P w K mg base 8 d.f_turns ["house", "way"] (spW K (cnA d) (rN K (cnA d)) w_turns) :=
  okw_of (ts' := [.sh, .sh, .no]) T.d_turns scw_turns rfl rfl rnonN fun cdv A outer s H E hr =>
    ⟨_, (pss_one (ps_ret (pe_op op_fdivW (pe_callB (k_sumS (K := K) rfl rfl) (by rfl) T.z_sum (by decide +kernel) (pa_cons (pe_lc (own := [("step", 2)]) rfl scw_turns.nd (k_piS (K := K) rfl (pv 1)) (blkOk_by (by kernel_rfl)) (fun _ _ _ _ _ => (pg_name (i := 2) scw_turns.nd rfl (by first | exact Or.inl rfl | exact Or.inr rfl))) (fun _ _ _ _ _ => pts_nil) (fun _ _ _ _ _ => (pe_ix (k_ixS (K := K) rfl) (pf_call (ow_told T) (hr.mono (by decide)) (by rfl) T.g_told T.d_told.kp (pa_cons (pv 0) (pa_cons (pv 2) pa_nil))) pe_int (fun _ _ => rfl)))) pa_nil)) (pf_prop (ow_House_hours T) (hr.mono (by decide)) T.cl_House T.p_House_hours (pv 0))))),
    (simS_ret okN (sim_op okN (ops_II (C := CDivW) (g := fun i j => i / j)) (sim_NW (sim_cb okN cas_sum (simAW_cons (sim_NW (sim_lc (vs := [2]) (simI_seq (lp := false) (sim_SW (sim_var rfl))) (simG_name (i := 2)) simT_yes (sim_op okS ops_ix (sim_NW (sim_call okN (simA_cons (sim_var rfl) (simA_cons (sim_var rfl) simA_nil)))) (sim_NW sim_int)))) simAW_nil))) (sim_NW (sim_prop .House okN (sim_var rfl)))))⟩

/-! ### value -/
def t_value : WS := (wRet (wCB wSum (wCons (wLc (wSeqI (wVar 1)) (wgName 2) wTyes (wOp wIx (wCall w_told (wCons (wVar 0) (wCons (wVar 2) wNil))) (wC (.int 3)))) wNil)))
def w_value : WF := wDef 2 1 t_value
theorem scw_value : FnScope ["house", "way", "step"] ["house", "way"] (defScope s_value) := ⟨rfl, rfl, rfl, by decide +kernel, rfl, by decide +kernel, by decide +kernel⟩
set_option maxHeartbeats 4000000 in
theorem ow_value (T : Tx K mg d) : Okf P w K mg base 8 d.f_value ["house", "way"] (spW K (cnA d) (rN K (cnA d)) w_value) :=
  okw_of (ts' := [.sh, .sh, .no]) T.d_value scw_value rfl rfl rnonN fun cdv A outer s H E hr =>
    ⟨_, (pss_one (ps_ret (pe_callB (k_sumS (K := K) rfl rfl) (by rfl) T.z_sum (by decide +kernel) (pa_cons (pe_lc (own := [("step", 2)]) rfl scw_value.nd (k_piS (K := K) rfl (pv 1)) (blkOk_by (by kernel_rfl)) (fun _ _ _ _ _ => (pg_name (i := 2) scw_value.nd rfl (by first | exact Or.inl rfl | exact Or.inr rfl))) (fun _ _ _ _ _ => pts_nil) (fun _ _ _ _ _ => (pe_ix (k_ixS (K := K) rfl) (pf_call (ow_told T) (hr.mono (by decide)) (by rfl) T.g_told T.d_told.kp (pa_cons (pv 0) (pa_cons (pv 2) pa_nil))) pe_int (fun _ _ => rfl)))) pa_nil)))),
    (simS_ret okN (sim_cb okN cas_sum (simAW_cons (sim_NW (sim_lc (vs := [2]) (simI_seq (lp := false) (sim_SW (sim_var rfl))) (simG_name (i := 2)) simT_yes (sim_op okS ops_ix (sim_NW (sim_call okN (simA_cons (sim_var rfl) (simA_cons (sim_var rfl) simA_nil)))) (sim_NW sim_int)))) simAW_nil)))⟩

/-! ### step_hours -/
theorem sc_step_hours : FnScope ["clock", "hour", "later", "one", "width"] ["clock", "hour", "later"] (defScope s_step_hours) := ⟨rfl, rfl, rfl, by decide +kernel, rfl, by decide +kernel, by decide +kernel⟩

def sp_step_hours (K : PySem.W.Frag) (d : Ads) : Sp := fun vs H Q _ => ∃ (v : V) (s : List Int) (h k : Int), vs = [v, .int h, .int k] ∧ Clk K d.c_Clock H v s ∧ 0 ≤ h ∧ h < (s.length : Int) ∧ 0 ≤ k ∧ k < (s.length : Int) ∧ ∀ H', Ex H H' → Q (.int (stp s h k)) H'
set_option maxHeartbeats 4000000 in
theorem ok_step_hours (T : Tx K mg d) : Okf P w K mg base 3 d.f_step_hours ["clock", "hour", "later"] (sp_step_hours K d) := by
  refine okf_of T.d_step_hours sc_step_hours (fun vs H Q E h => ?_) (fun cdv A outer s H vs Q E hr h => ?_)
  · obtain ⟨v, s, h, k, rfl, hC, h0, h1, k0, k1, kk⟩ := h
    rfl
  · obtain ⟨v, s, h, k, rfl, hC, h0, h1, k0, k1, kk⟩ := h
    refine ⟨_, (pss_cons (ps_for PassesOwn.never rfl (k_piT (K := K) rfl (pe_tup (pa_cons (pv 1) (pa_cons (pv 2) pa_nil)))) (pg_name (i := 3) sc_step_hours.nd rfl (by first | exact Or.inl rfl | exact Or.inr rfl)) (pss_one (ps_if (pt_not (pt_val (pf_call (ok_is_hour T) (hr.mono (by decide)) (by rfl) T.g_is_hour T.d_is_hour.kp (pa_cons (pf_prop (ok_Clock_hours T) (hr.mono (by decide)) T.cl_Clock T.p_Clock_hours (pv 0)) (pa_cons (pv 3) pa_nil))))) (pss_one ps_never) pss_nil)))
      (pss_cons (ps_set (i := 4) sc_step_hours.nd rfl (by first | exact Or.inl rfl | exact Or.inr rfl) (pe_ix (k_ixL (K := K) rfl) (pf_meth0 (ok_Clock_widths T) (hr.mono (by decide)) T.cl_Clock T.m_Clock_widths (pv 0)) (pv 2) (fun _ _ => rfl)))
      (pss_one (ps_ret (pe_op op_add (pv 4) (pe_op op_mod (pe_op op_sub (pe_op op_sub (pv 2) (pv 4)) (pv 1)) (pf_prop (ok_Clock_hours T) (hr.mono (by decide)) T.cl_Clock T.p_Clock_hours (pv 0)))))))), ?_⟩
    have g := hC.good
    have hn := g.ne
    obtain ⟨cq, dcq, acq, bcq, rfl, hcq, _⟩ := id hC
    walk_at "rd"
    refine ⟨szc rfl, fun tp np => ?_⟩
    walk_at "rd"
    refine ⟨tp, rfl, ⟨_, at_sqT upd_same⟩, ?_⟩
    refine for_w (walk_tup (xs := [V.int h, V.int k])) (fun i σ H' => (∃ z3 z4, σ = [some (.ref cq), some (.int h), some (.int k), z3, z4]) ∧ H' = upd H tp (.tup [.int h, .int k])) ⟨⟨_, _, rfl⟩, rfl⟩ (fun i σ H' _ q => by rw [q.2]; exact at_sqT upd_same) ?_ ?_
    · rintro i x σ H1 H2 hi ⟨⟨z3, z4, rfl⟩, rfl⟩ ⟨rfl, hx⟩
      obtain ⟨z, rfl, z0, z1⟩ : ∃ z, x = .int z ∧ 0 ≤ z ∧ z < (s.length : Int) := by
        have := List.mem_of_getElem? hx
        simp only [List.mem_cons, List.not_mem_nil, or_false] at this
        rcases this with rfl | rfl
        · exact ⟨h, rfl, h0, h1⟩
        · exact ⟨k, rfl, k0, k1⟩
      have hC1 : Clk K d.c_Clock (upd H tp (.tup [.int h, .int k])) (.ref cq) s := (by walk_at "kn")
      walk_at "rd"
      refine r_clkP hC1 fun _ eq => ?_
      cases eq
      refine ⟨_, _, rfl, hC1, ?_⟩
      walk_at "rd"
      refine ⟨_, _, rfl, ?_⟩
      rw [decide_eq_true z0, decide_eq_true z1]
      walk_at "rd"
      refine iteF ?_
      walk_at "rd"
      exact ⟨⟨_, _, rfl⟩, rfl⟩
    rintro σ H1 ⟨⟨z3, z4, rfl⟩, rfl⟩
    have hC1 : Clk K d.c_Clock (upd H tp (.tup [.int h, .int k])) (.ref cq) s := (by walk_at "kn")
    walk_at "rd"
    refine r_clkM hC1 ?_
    walk_at "rd"
    refine ⟨_, s, rfl, hC1, fun p H2 np e2 hp => ?_⟩
    walk_at "rd"
    have ha := at_cyc (ns := wds s) (by rw [wds_length]; exact hn) k
    rw [wds_length, Int.emod_eq_of_lt k0 k1, cyc_wds hn] at ha
    refine r_ixL (by walk_at "kn") ha ?_
    walk_at "rd"
    have hC2 : Clk K d.c_Clock H2 (.ref cq) s := (by walk_at "kn")
    refine r_clkP hC2 fun _ eq => ?_
    cases eq
    refine ⟨_, _, rfl, hC2, ?_⟩
    walk_at "rd"
    exact kk _ (by walk_at "ex")

/-! ### winds -/
theorem sc_winds : FnScope ["clock", "ring", "steps", "hour", "later"] ["clock", "ring"] (defScope s_winds) := ⟨rfl, rfl, rfl, by decide +kernel, rfl, by decide +kernel, by decide +kernel⟩

def sp_winds (K : PySem.W.Frag) (d : Ads) : Sp := fun vs H Q _ => ∃ (v : V) (l : Addr) (s r : List Int), vs = [v, .ref l] ∧ Clk K d.c_Clock H v s ∧ H l = some (.lst (r.map V.int)) ∧ r ≠ [] ∧ r.length ≤ 5000 ∧ (∀ k ∈ r, 0 ≤ k ∧ k < (s.length : Int)) ∧ ∀ H', Ex H H' → Q (.int (wnd s r)) H'
set_option maxHeartbeats 4000000 in
theorem ok_winds (T : Tx K mg d) : Okf P w K mg base 4 d.f_winds ["clock", "ring"] (sp_winds K d) := by
  refine okf_of T.d_winds sc_winds (fun vs H Q E h => ?_) (fun cdv A outer s H vs Q E hr h => ?_)
  · obtain ⟨v, l, s, r, rfl, hC, hl, hne, hle, hk, kk⟩ := h
    rfl
  · obtain ⟨v, l, s, r, rfl, hC, hl, hne, hle, hk, kk⟩ := h
    refine ⟨_, (pss_cons (ps_setLc (i := 2) (own := [("hour", 3), ("later", 4)]) rfl sc_winds.nd rfl rfl (sw_true rfl rfl rfl (by decide +kernel)) (k_piZ (K := K) rfl (by rfl) T.z_zip (pa_cons (pe_op op_cat (pe_slice (k_slL (K := K) rfl) (pv 1) (po_some (pe_un un_neg pe_int)) po_none) (pe_slice (k_slL (K := K) rfl) (pv 1) po_none (po_some (pe_un un_neg pe_int)))) (pa_cons (pv 1) pa_nil))) (blkOk_by (by kernel_rfl)) (fun _ _ _ _ _ => (k_gtup (K := K) (n := 2) rfl rfl (pgs_cons (pg_name (i := 3) sc_winds.nd rfl (by first | exact Or.inl rfl | exact Or.inr rfl)) (pgs_cons (pg_name (i := 4) sc_winds.nd rfl (by first | exact Or.inl rfl | exact Or.inr rfl)) pgs_nil)))) (fun _ _ _ _ _ => pts_nil) (fun _ _ _ _ _ => (pf_call (ok_step_hours T) (hr.mono (by decide)) (by rfl) T.g_step_hours T.d_step_hours.kp (pa_cons (pv 0) (pa_cons (pv 3) (pa_cons (pv 4) pa_nil))))))
      (pss_one (ps_ret (pe_op op_fdiv (pe_callB (k_sumS (K := K) rfl rfl) (by rfl) T.z_sum (by decide +kernel) (pa_cons (pv 2) pa_nil)) (pf_prop (ok_Clock_hours T) (hr.mono (by decide)) T.cl_Clock T.p_Clock_hours (pv 0)))))), ?_⟩
    have g := hC.good
    have hn := g.ne
    have hn8 := g.le
    have hr1 := ne_len hne
    obtain ⟨cq, dcq, acq, bcq, rfl, hcq, _⟩ := id hC
    obtain ⟨sh1, sh2⟩ := ring_shift hr1
    walk_at "rd"
    refine ⟨l, _, rfl, at_sqL hl, fun p1 np1 => ?_⟩
    rw [cut_last1 (by rw [List.length_map]; omega)]
    walk_at "rd"
    refine ⟨l, _, rfl, (by walk_at "kn"), fun p2 np2 => ?_⟩
    rw [cut_init (by rw [List.length_map]; omega)]
    walk_at "rd"
    refine ⟨p1, p2, _, _, rfl, rfl, (by walk_at "kn"), (by walk_at "kn"), ?_, fun p3 np3 => ?_⟩
    · rw [List.length_append] at sh1
      rw [sh1]
      exact Nat.le_trans (by omega : r.length ≤ 5000) (by decide)
    walk_at "rd"
    refine ⟨p3, l, _, _, rfl, (by walk_at "kn"), (by walk_at "kn"), lc_fun (walk_zip (n := r.length) (xs := (r.map V.int).drop ((r.map V.int).length - 1) ++ (r.map V.int).take ((r.map V.int).length - 1)) (ys := r.map V.int) (by rw [sh1, List.length_map]; omega)) (fun i => .int (stp s (prevH r i) (r.getD i 0))) (fun H' e => ⟨(by walk_at "kn"), (by walk_at "kn")⟩) (by omega) ?_ ?_⟩
    · rintro i x H1 H2 hi e ⟨T', x1, x2, rfl, nT, rfl, hx1, hx2⟩ kq hk2
      replace hx1 : ((r.map V.int).drop ((r.map V.int).length - 1) ++ (r.map V.int).take ((r.map V.int).length - 1))[i]? = some x1 := hx1
      rw [sh2 i hi] at hx1
      cases hx1
      obtain rfl := int_at hx2
      obtain ⟨⟨a0, a1⟩, b0, b1⟩ := prevH_in (n := s.length) hk hi
      refine r_pair ?_
      walk_at "rd"
      refine ⟨_, s, _, _, rfl, (by walk_at "kn"), a0, a1, b0, b1, fun H3 e3 => ?_⟩
      exact hk2 _ (by walk_at "ex")
    intro p H1 np e1 hp
    walk_at "rd"
    have hp' : H1 p = some (.lst (((List.range r.length).map fun i => stp s (prevH r i) (r.getD i 0)).map V.int)) := by
      rw [hp, List.map_map]
      rfl
    refine r_sumS (by walk_at "kn") ?_
    walk_at "rd"
    have hC2 : Clk K d.c_Clock H1 (.ref cq) s := (by walk_at "kn")
    refine r_clkP hC2 fun _ eq => ?_
    cases eq
    refine ⟨_, _, rfl, hC2, ?_⟩
    walk_at "rd"
    rw [wnd_list hne]
    exact kk _ (by walk_at "ex")

/-! ### winds -/
def w_winds : WF := fun xs P => ∃ (s r0 : List Int), xs = [clkP s, .lst (iL r0)] ∧ Good s ∧ r0 ≠ [] ∧ r0.length ≤ 5000 ∧ (∀ k ∈ r0, 0 ≤ k ∧ k < (s.length : Int)) ∧ P (.int (wnd s r0))
theorem ow_winds (T : Tx K mg d) : Okf P w K mg base 4 d.f_winds ["clock", "ring"] (spW K (cnA d) (rN K (cnA d)) w_winds) := okw_imp (ok_winds T) (fun vs H Q E ⟨F, xs, P, dm, r, ⟨s, r0, ex, c1, c2, c3, c4, p⟩, k⟩ => by
  subst ex
  obtain ⟨v1, v2, rfl, r1, r2⟩ := r.two
  obtain ⟨a2, rfl, h2⟩ := r2.intsL
  exact ⟨v1, a2, s, r0, rfl, clk_of r1 c1, h2, c2, c3, c4, fun H' e => ret_int dm k p e⟩)

/-! ### law -/
def t_law : WS := (wSeq (wSet 1 (wCall w_bag (wCons (wVar 0) wNil)))
      (wSeq (wFor (wRng1 (wCons (wC (.int 6)) wNil)) (wgName 2) (wSeq (wSet 3 (wIf (wTand (wTest (wOp wEq (wVar 2) (wC (.int 0)))) (wTest (wOp wEq (wCall w_take (wCons (wVar 1) (wCons (wC (.int 4)) wNil))) (wC (.int 0))))) (wC (.int 24)) (wOp wAdd (wC (.int 1)) (wCall w_take (wCons (wVar 1) (wCons (wC (.int 10)) wNil))))))
      (wSeq (wSet 4 (wCall w__law_free_world (wCons (wVar 1) (wCons (wVar 3) wNil))))
      (wSeq (wPar 5 6 false false (wCall w__law_made (wCons (wVar 4) wNil)) (wCall w_mkClock (wCons (wOp wIx (wVar 4) (wC (.int 0))) wNil)))
      (wFor (wRng1 (wCons (wC (.int 4)) wNil)) (wgName 7) (wSeq (wSet 8 (wLc (wRng1 (wCons (wOp wAdd (wC (.int 1)) (wCall w_take (wCons (wVar 1) (wCons (wC (.int 6)) wNil)))) wNil)) (wgName 9) wTyes (wCall w_take (wCons (wVar 1) (wCons (wVar 3) wNil)))))
      (wSeq (wSet 10 (wCall w__law_ring_steps (wCons (wOp wIx (wVar 4) (wC (.int 0))) (wCons (wVar 8) wNil))))
      (wSeq (wFor (wRng1 (wCons (wC (.int 2)) wNil)) (wgName 11) (wSeq (wSet 12 (wCB wListOf (wCons (wVar 8) wNil)))
      (wSeq (wSetO 13 (wCall w_ring_way (wCons (wVar 5) (wCons (wVar 12) wNil))))
      (wSeq (wIfS (wTnot (wTest (wCall w__law_alike (wCons (wLst (wCons (wVar 13) (wCons (wVar 12) wNil))) (wCons (wLst (wCons (wVar 10) (wCons (wVar 8) wNil))) wNil))))) (wRet (wC (.bl false))) (fun D ρ => D.nx ρ))
      (wMut 13 wAppend (wCons (wC .non) wNil))))))
      (wSeq (wAsg (wCall w__law_measure (wCons (wVar 4) (wCons (wVar 10) wNil))) (wgTup 2 (wgCons (wgName 14) (wgCons (wgName 15) wgNil))))
      (wSeq (wIfS (wTor (wTnot (wTest (wCall w__law_is_way (wCons (wVar 4) (wCons (wVar 10) wNil))))) (wTest (wOp wIsnB (wCall w_is_way (wCons (wVar 5) (wCons (wVar 10) wNil))) (wC (.bl true))))) (wRet (wC (.bl false))) (fun D ρ => D.nx ρ))
      (wIfS (wTnot (wTest (wCall w__law_alike (wCons (wLst (wCons (wCall w_turns (wCons (wVar 5) (wCons (wVar 10) wNil))) (wCons (wCall w_value (wCons (wVar 5) (wCons (wVar 10) wNil))) (wCons (wCall w_winds (wCons (wVar 6) (wCons (wVar 8) wNil))) wNil)))) (wCons (wLst (wCons (wVar 14) (wCons (wVar 15) (wCons (wVar 14) wNil)))) wNil))))) (wRet (wC (.bl false))) (fun D ρ => D.nx ρ))))))))))))
      (wRet (wC (.bl true)))))
def w_law : WF := wDef 1 15 t_law
theorem scw_law : FnScope ["_law_script", "_law_bag_here", "_law_turn", "_law_many", "_law_world", "_law_house", "_law_clock", "_law_k", "_law_ring", "_law_j", "_law_due", "_law_again", "_law_given", "_law_found", "_law_times", "_law_gain"] ["_law_script"] (defScope s_law) := ⟨rfl, rfl, rfl, by decide +kernel, rfl, by decide +kernel, by decide +kernel⟩
set_option maxHeartbeats 4000000 in
theorem ow_law (T : Tx K mg d) : OkP NoG P w K mg base 9 d.f_law ["_law_script"] (spW K (cnA d) (rN K (cnA d)) w_law) :=
  okwG_of (ts' := [.sh, .sh, .no, .no, .no, .no, .no, .no, .no, .no, .no, .no, .no, .no, .no, .no]) T.d_law scw_law rfl rfl rnonN fun cdv A outer s H E hg hr =>
    ⟨_, (pss_cons (ps_set (i := 1) scw_law.nd rfl (by first | exact Or.inl rfl | exact Or.inr rfl) (pf_call (ow__law_bag T) (hr.mono (by decide)) (by rfl) T.g__law_bag T.d__law_bag.kp (pa_cons (pv 0) pa_nil)))
      (pss_cons (ps_for PassesOwn.never rfl (pi_range1 (by rfl) T.z_range (pa_cons pe_int pa_nil)) (pg_name (i := 2) scw_law.nd rfl (by first | exact Or.inl rfl | exact Or.inr rfl)) (pss_cons (ps_set (i := 3) scw_law.nd rfl (by first | exact Or.inl rfl | exact Or.inr rfl) (pe_ifExp (PW.pt (pw_and (pt_cmpR (u_eq (K := K) rfl hr.units) (pv 2) pe_int (nomark _)) (pw_and1 (pt_cmpR (u_eq (K := K) rfl hr.units) (pf_call (ow__law_take T) (hr.mono (by decide)) (by rfl) T.g__law_take T.d__law_take.kp (pa_cons (pv 1) (pa_cons pe_int pa_nil))) pe_int (nomark _))))) pe_int (pe_op (u_add (K := K) rfl) pe_int (pf_call (ow__law_take T) (hr.mono (by decide)) (by rfl) T.g__law_take T.d__law_take.kp (pa_cons (pv 1) (pa_cons pe_int pa_nil))))))
      (pss_cons (ps_set (i := 4) scw_law.nd rfl (by first | exact Or.inl rfl | exact Or.inr rfl) (pf_call (ow__law_free_world T) (hr.mono (by decide)) (by rfl) T.g__law_free_world T.d__law_free_world.kp (pa_cons (pv 1) (pa_cons (pv 3) pa_nil))))
      (pss_cons (ps_par (i := 5) (j := 6) (by rfl) scw_law.nd rfl rfl (by decide) rfl rfl (pa_cons (pf_call (ow__law_made T) (hr.mono (by decide)) (by rfl) T.g__law_made T.d__law_made.kp (pa_cons (pv 4) pa_nil)) (pa_cons (pf_make (ok_Clock___init__ T) (hr.mono (by decide)) T.mk_Clock (by rfl) T.g_Clock (pa_cons (pe_ix (k_ixS (K := K) rfl) (pv 4) pe_int (fun _ _ => rfl)) pa_nil)) pa_nil)) (by rfl))
      (pss_one (ps_for PassesOwn.never rfl (pi_range1 (by rfl) T.z_range (pa_cons pe_int pa_nil)) (pg_name (i := 7) scw_law.nd rfl (by first | exact Or.inl rfl | exact Or.inr rfl)) (pss_cons (ps_setLc (i := 8) (own := [("_law_j", 9)]) rfl scw_law.nd rfl rfl (sw_true rfl rfl rfl (by decide +kernel)) (pi_range1 (by rfl) T.z_range (pa_cons (pe_op (u_add (K := K) rfl) pe_int (pf_call (ow__law_take T) (hr.mono (by decide)) (by rfl) T.g__law_take T.d__law_take.kp (pa_cons (pv 1) (pa_cons pe_int pa_nil)))) pa_nil)) (blkOk_by (by kernel_rfl)) (fun _ _ _ _ _ => (pg_name (i := 9) scw_law.nd rfl (by first | exact Or.inl rfl | exact Or.inr rfl))) (fun _ _ _ _ _ => pts_nil) (fun _ _ _ _ _ => (pf_call (ow__law_take T) (hr.mono (by decide)) (by rfl) T.g__law_take T.d__law_take.kp (pa_cons (pv 1) (pa_cons (pv 3) pa_nil)))))
      (pss_cons (ps_set (i := 10) scw_law.nd rfl (by first | exact Or.inl rfl | exact Or.inr rfl) (pf_call (ow__law_ring_steps T) (hr.mono (by decide)) (by rfl) T.g__law_ring_steps T.d__law_ring_steps.kp (pa_cons (pe_ix (k_ixS (K := K) rfl) (pv 4) pe_int (fun _ _ => rfl)) (pa_cons (pv 8) pa_nil))))
      (pss_cons (ps_for PassesOwn.never rfl (pi_range1 (by rfl) T.z_range (pa_cons pe_int pa_nil)) (pg_name (i := 11) scw_law.nd rfl (by first | exact Or.inl rfl | exact Or.inr rfl)) (pss_cons (ps_set (i := 12) scw_law.nd rfl (by first | exact Or.inl rfl | exact Or.inr rfl) (pe_callTy (k_listOf (K := K) rfl) (by rfl) T.z_list (by decide +kernel) (pa_cons (pv 8) pa_nil)))
      (pss_cons (ps_set (i := 13) scw_law.nd rfl (by first | exact Or.inl rfl | exact Or.inr rfl) (pf_call (ow_ring_way T) (hr.mono (by decide)) (by rfl) T.g_ring_way T.d_ring_way.kp (pa_cons (pv 5) (pa_cons (pv 12) pa_nil))))
      (pss_cons (ps_if (pt_not (pt_val (pg_call (ow__law_alike T) (fun _ => hg) (hr.mono (by decide)) (by rfl) T.g__law_alike T.d__law_alike.kp (pa_cons (pe_lst (pa_cons (pv 13) (pa_cons (pv 12) pa_nil))) (pa_cons (pe_lst (pa_cons (pv 10) (pa_cons (pv 8) pa_nil))) pa_nil))))) (pss_one (ps_ret pe_bl)) pss_nil)
      (pss_one (ps_expr (pe_bm PySem.F.plainAttrs_list PySem.F.slot_list_append PySem.F.type_list_append mt_append (pv 13) (pa_cons pe_non pa_nil))))))))
      (pss_cons (ps_asg (pf_call (ow__law_measure T) (hr.mono (by decide)) (by rfl) T.g__law_measure T.d__law_measure.kp (pa_cons (pv 4) (pa_cons (pv 10) pa_nil))) (k_gtup (K := K) (n := 2) rfl rfl (pgs_cons (pg_name (i := 14) scw_law.nd rfl (by first | exact Or.inl rfl | exact Or.inr rfl)) (pgs_cons (pg_name (i := 15) scw_law.nd rfl (by first | exact Or.inl rfl | exact Or.inr rfl)) pgs_nil))))
      (pss_cons (ps_if (PW.pt (pw_or (pt_not (pt_val (pg_call (ow__law_is_way T) (fun _ => hg) (hr.mono (by decide)) (by rfl) T.g__law_is_way T.d__law_is_way.kp (pa_cons (pv 4) (pa_cons (pv 10) pa_nil))))) (pw_or1 (pt_cmpR op_isnotBl (pf_call (ow_is_way T) (hr.mono (by decide)) (by rfl) T.g_is_way T.d_is_way.kp (pa_cons (pv 5) (pa_cons (pv 10) pa_nil))) pe_bl (nomark _))))) (pss_one (ps_ret pe_bl)) pss_nil)
      (pss_one (ps_if (pt_not (pt_val (pg_call (ow__law_alike T) (fun _ => hg) (hr.mono (by decide)) (by rfl) T.g__law_alike T.d__law_alike.kp (pa_cons (pe_lst (pa_cons (pf_call (ow_turns T) (hr.mono (by decide)) (by rfl) T.g_turns T.d_turns.kp (pa_cons (pv 5) (pa_cons (pv 10) pa_nil))) (pa_cons (pf_call (ow_value T) (hr.mono (by decide)) (by rfl) T.g_value T.d_value.kp (pa_cons (pv 5) (pa_cons (pv 10) pa_nil))) (pa_cons (pf_call (ow_winds T) (hr.mono (by decide)) (by rfl) T.g_winds T.d_winds.kp (pa_cons (pv 6) (pa_cons (pv 8) pa_nil))) pa_nil)))) (pa_cons (pe_lst (pa_cons (pv 14) (pa_cons (pv 15) (pa_cons (pv 14) pa_nil)))) pa_nil))))) (pss_one (ps_ret pe_bl)) pss_nil)))))))))))))
      (pss_one (ps_ret pe_bl)))),
    (simS_seq (simS_set (i := 1) (sim_NS (sim_call okN (simA_cons (sim_var rfl) simA_nil))))
      (simS_seq (simS_for (ts := [.sh, .sh, .no, .no, .no, .no, .no, .no, .no, .no, .no, .no, .no, .no, .no, .no]) (simI_rng1 (simAW_cons (sim_NW sim_int) simAW_nil)) (simG_name (i := 2)) (simS_seq (simS_set (i := 3) (sim_NS (sim_if okN (simT_and (simT_test (sim_NS (sim_op okN ops_eq (sim_SW (sim_var rfl)) (sim_NW sim_int)))) (simT_test (sim_NS (sim_op okN ops_eq (sim_NW (sim_call okN (simA_cons (sim_var rfl) (simA_cons (sim_NS sim_int) simA_nil)))) (sim_NW sim_int))))) sim_int (sim_op okN ops_add (sim_NW sim_int) (sim_NW (sim_call okN (simA_cons (sim_var rfl) (simA_cons (sim_NS sim_int) simA_nil))))))))
      (simS_seq (simS_set (i := 4) (sim_NS (sim_call okN (simA_cons (sim_var rfl) (simA_cons (sim_var rfl) simA_nil)))))
      (simS_seq (simS_par (i := 5) (j := 6) (k := false) (l := false) (sim_NS (sim_call okN (simA_cons (sim_var rfl) simA_nil))) (sim_NS (sim_make (c := .Clock) mk_Clock (simA_cons (sim_op okS ops_ix (sim_SW (sim_var rfl)) (sim_NW sim_int)) simA_nil))))
      (simS_for (ts := [.sh, .sh, .sh, .sh, .sh, .sh, .sh, .no, .no, .no, .no, .no, .no, .no, .no, .no]) (simI_rng1 (simAW_cons (sim_NW sim_int) simAW_nil)) (simG_name (i := 7)) (simS_seq (simS_set (i := 8) (sim_NS (sim_lc (vs := [9]) (simI_rng1 (simAW_cons (sim_NW (sim_op okN ops_add (sim_NW sim_int) (sim_NW (sim_call okN (simA_cons (sim_var rfl) (simA_cons (sim_NS sim_int) simA_nil)))))) simAW_nil)) (simG_name (i := 9)) simT_yes (sim_NS (sim_call okN (simA_cons (sim_var rfl) (simA_cons (sim_var rfl) simA_nil)))))))
      (simS_seq (simS_set (i := 10) (sim_NS (sim_call okN (simA_cons (sim_op okS ops_ix (sim_SW (sim_var rfl)) (sim_NW sim_int)) (simA_cons (sim_var rfl) simA_nil)))))
      (simS_seq (simS_for (ts := [.sh, .sh, .sh, .sh, .sh, .sh, .sh, .sh, .sh, .no, .sh, .no, .no, .no, .no, .no]) (simI_rng1 (simAW_cons (sim_NW sim_int) simAW_nil)) (simG_name (i := 11)) (simS_seq (simS_set (i := 12) (sim_NS (sim_cb okN cas_listOf (simAW_cons (sim_SW (sim_var rfl)) simAW_nil))))
      (simS_seq (simS_setO (i := 13) (sim_call okN (simA_cons (sim_var rfl) (simA_cons (sim_var rfl) simA_nil))))
      (simS_seq (simS_if (simT_val (simT_not (simT_B (sim_NS (sim_call okN (simA_cons (sim_NS (sim_lst (simA_cons (sim_var rfl) (simA_cons (sim_var rfl) simA_nil)))) (simA_cons (sim_NS (sim_lst (simA_cons (sim_var rfl) (simA_cons (sim_var rfl) simA_nil)))) simA_nil))))))) (simS_ret okN sim_bl) simS_nil)
      (simS_mut (i := 13) rfl rfl mus_append (simA_cons (sim_NS sim_non) simA_nil))))) rfl)
      (simS_seq (simS_asg (sim_NS (sim_call okN (simA_cons (sim_var rfl) (simA_cons (sim_var rfl) simA_nil)))) (simG_tup (simGs_cons (simG_name (i := 14)) (simGs_cons (simG_name (i := 15)) simGs_nil))))
      (simS_seq (simS_if (simT_or (simT_not (simT_B (sim_NS (sim_call okN (simA_cons (sim_var rfl) (simA_cons (sim_var rfl) simA_nil)))))) (simT_test (sim_NS (sim_op okN ops_isnB (sim_NW (sim_call okN (simA_cons (sim_var rfl) (simA_cons (sim_var rfl) simA_nil)))) (sim_NW sim_bl))))) (simS_ret okN sim_bl) simS_nil)
      (simS_if (simT_not (simT_B (sim_NS (sim_call okN (simA_cons (sim_NS (sim_lst (simA_cons (sim_NS (sim_call okN (simA_cons (sim_var rfl) (simA_cons (sim_var rfl) simA_nil)))) (simA_cons (sim_NS (sim_call okN (simA_cons (sim_var rfl) (simA_cons (sim_var rfl) simA_nil)))) (simA_cons (sim_NS (sim_call okN (simA_cons (sim_var rfl) (simA_cons (sim_var rfl) simA_nil)))) simA_nil))))) (simA_cons (sim_NS (sim_lst (simA_cons (sim_var rfl) (simA_cons (sim_var rfl) (simA_cons (sim_var rfl) simA_nil))))) simA_nil)))))) (simS_ret okN sim_bl) simS_nil)))))) rfl)))) rfl)
      (simS_ret okN sim_bl)))⟩
end

local macro_rules | `(tactic| walk_at "wz") => `(tactic| ((try dsimp only); try simp only [wDef, wSeq, wCut, wSet, wSetO, wPar, wPar3, wTupO, wAsg, wAug, wAugS, wSub, wMut, wDrop, wRet, wIfS, wFor, wVar, wC, wOp, wUn, wNeg, wII, wI0, wIB, wAdd, wMul, wIsN, wIx, wTest, wTand, wTor, wTnot, wTyes, wAndV, wOrV, wNotV, wIf, wChain, wNil, wCons, wLst, wTup, wNL, wScal, wSl, wNoPart, wPart, wSl1, wRev, wRevT, wFld, wFldC, wCB, wLen, wListOf, wTupOf, wAbs, wInt1, wMin2, wMax2, wStrI, wCall, wMeth, wProp, wStat, wOwn, wOwnNe, wOwnI, wOwnR, wIxO, wLenO, wEq, wNe, wInT, wIsB, wIsnB, wLstRg, wMakeK, wDict3, wSeqI, wEnum, wZip, wRng1, wRng2, wgName, wgNil, wgCons, wgTup, wgLst, wListZip, wAppend, wExtend, wInsert, wClear, wLc, wLc2, wIsi, wIsiT, isL, tyP, notL, scalP, and_true, true_and, if_true, Bool.true_eq_false, Bool.false_eq_true, if_false, reduceIte, reduceCtorEq, false_implies, implies_true, List.set, List.replicate, List.cons_append, List.nil_append, List.append_nil, List.getD_cons_zero, List.getD_cons_succ, List.length_cons, List.length_nil, List.length_map, Nat.reduceAdd, Nat.reduceLeDiff, Bool.and_self, Bool.not_true, Bool.not_false, Bool.not_not, decide_true, decide_false, SimP.isLs, putR, rep1, List.set_cons_zero, List.set_cons_succ, at0, at1, at2, at3, at4, Option.some.injEq, exists_eq_left', stP]))

theorem p_is_integer {P : PV → Prop} {i : Int} (p : P (.bl true)) : w_is_integer [.int i] P := by
  unfold w_is_integer t_is_integer
  walk_at "wz"
  refine ⟨"int", true, rfl, by decide +kernel, ?_⟩
  walk_at "wz"
  exact ⟨"int", false, rfl, by decide +kernel, p⟩

theorem p_is_hour {P : PV → Prop} {n i : Int} (p : P (.bl (decide (0 ≤ i) && decide (i < n)))) : w_is_hour [.int n, .int i] P := by
  unfold w_is_hour t_is_hour
  walk_at "wz"
  refine p_is_integer ?_
  walk_at "wz"
  refine r_ite (fun h => ?_) (fun h => ?_)
  · rw [decide_eq_true h] at p
    exact p
  · rw [decide_eq_false h] at p
    exact p

theorem p_House_hours {P : PV → Prop} {X : Hs} (g : X.ok) (p : P (.int X.n)) : w_House_hours [X.p] P := by
  unfold w_House_hours t_House_hours
  walk_at "wz"
  exact ⟨⟨_, rfl⟩, _, rfl, ⟨_, rfl⟩, X.s, rfl, g.cs, p⟩

theorem p_House_clock {P : PV → Prop} {X : Hs} (g : X.ok) (p : P (clkP X.s)) : w_House_clock [X.p] P := by
  unfold w_House_clock t_House_clock
  walk_at "wz"
  exact ⟨⟨_, rfl⟩, clkP X.s, rfl, trivial, p⟩

theorem p_House_limit_of {P : PV → Prop} {X : Hs} {w : Wd} {h : Int} (g : X.ok) (h0 : 0 ≤ h) (h1 : h < X.n) (p : P (oP (X.lim w h))) : w_House_limit_of [X.p, .str w.s, .int h] P := by
  have hl := g.ln
  have hr := g.lr
  have hk := g.lk
  have hd := g.ld
  unfold w_House_limit_of t_House_limit_of
  walk_at "wz"
  refine r_ite (fun e => ?_) (fun e => ?_)
  · obtain rfl : w = .need := Wd.s_inj.mp e
    exact ⟨⟨_, rfl⟩, _, rfl, ⟨_, rfl⟩, X.ns, h, rfl, g.cn, h0, by rw [hl]; exact h1, p⟩
  · refine ⟨⟨_, rfl⟩, _, rfl, ⟨_, rfl⟩, _, rfl, ⟨_, rfl⟩, _, rfl, _, rfl, ?_⟩
    cases w with
    | need => exact absurd rfl e
    | room => exact .inl ⟨rfl, ix_oL h0 (by rw [hr]; exact h1) p⟩
    | keep => exact .inr (.inl ⟨rfl, ix_cyc h0 (by rw [hk]; exact h1) p⟩)
    | door => exact .inr (.inr ⟨rfl, ix_oL h0 (by rw [hd]; exact h1) p⟩)

theorem p_is_step {P : PV → Prop} {X : Hs} {t : Stp4} (g : X.ok) (p : P (.bl (decide (0 ≤ t.2) && decide (t.2 < X.n) && (X.lim t.1 t.2).isSome))) : w_is_step [X.p, stP t] P := by
  obtain ⟨w, h⟩ := t
  unfold w_is_step t_is_step
  walk_at "wz"
  rw [if_neg (by simp)]
  refine ⟨"tuple", true, rfl, by decide +kernel, ?_⟩
  walk_at "wz"
  refine ⟨"str", true, rfl, by decide +kernel, ?_⟩
  walk_at "wz"
  refine wd_in w ?_
  walk_at "wz"
  refine ⟨⟨_, rfl⟩, p_House_hours g (p_is_hour ?_)⟩
  walk_at "wz"
  cases e : (decide (0 ≤ h) && decide (h < X.n))
  · rw [e] at p
    exact p
  · rw [e] at p
    rw [Bool.and_eq_true, decide_eq_true_eq, decide_eq_true_eq] at e
    refine ⟨⟨_, rfl, rfl⟩, p_House_limit_of g e.1 e.2 ?_⟩
    rw [isN_oP, Bool.not_not]
    exact p

theorem p_Clock_width_at {P : PV → Prop} {s : List Int} {h : Int} (h0 : 0 ≤ h) (h1 : h < (s.length : Int)) (p : P (.int (wd s h))) : w_Clock_width_at [clkP s, .int h] P := by
  unfold w_Clock_width_at t_Clock_width_at
  walk_at "wz"
  refine ⟨⟨_, rfl⟩, _, rfl, ix_cyc h0 (by rw [wds_length]; exact h1) ⟨trivial, ?_⟩⟩
  rw [cyc_wds (by omega)]
  exact p

theorem p_forward {P : PV → Prop} {X : Hs} {t : Stp4} (g : X.ok) (h0 : 0 ≤ t.2) (h1 : t.2 < X.n) (p : P (.tup [.int (X.fst t.1 t.2), .int (X.len t.1 t.2)])) : w_forward [X.p, stP t] P := by
  obtain ⟨w, h⟩ := t
  unfold w_forward t_forward
  walk_at "wz"
  refine wd_kd w ?_
  cases w with
  | keep => exact p
  | door => exact p
  | need =>
    walk_at "wz"
    refine ⟨⟨_, rfl⟩, p_House_clock g ⟨⟨_, rfl, rfl⟩, p_Clock_width_at h0 h1 ⟨⟨_, rfl⟩, p_House_hours g ?_⟩⟩⟩
    exact ⟨g.pos, p⟩
  | room =>
    walk_at "wz"
    refine ⟨⟨_, rfl⟩, p_House_clock g ⟨⟨_, rfl, rfl⟩, p_Clock_width_at h0 h1 ⟨⟨_, rfl⟩, p_House_hours g ?_⟩⟩⟩
    exact ⟨g.pos, p⟩

theorem p_told {P : PV → Prop} {X : Hs} {t : Stp4} (g : X.ok) (ht : X.st t) (p : P (.tup [.int (X.a t), .int (X.b t), .int (X.l t), .int (X.v t)])) : w_told [X.p, stP t] P := by
  obtain ⟨w, h⟩ := t
  obtain ⟨h0, h1, h2⟩ := ht
  obtain ⟨l, hl⟩ := Option.isSome_iff_exists.mp h2
  unfold w_told t_told
  walk_at "wz"
  refine p_is_step (t := (w, h)) g ?_
  rw [decide_eq_true h0, decide_eq_true h1, h2]
  walk_at "wz"
  refine p_forward (t := (w, h)) g h0 h1 ?_
  walk_at "wz"
  refine ⟨⟨_, rfl⟩, p_House_hours g ⟨g.pos, ⟨_, rfl, rfl⟩, p_House_limit_of g h0 h1 ?_⟩⟩
  rw [hl]
  walk_at "wz"
  refine wd_nk w ?_
  simp only [Hs.a, Hs.b, Hs.l, Hs.v, hl, Option.getD_some] at p
  cases hw : w.on
  · rw [hw] at p
    exact p
  · rw [hw] at p
    exact p

theorem p_is_way {P : PV → Prop} {X : Hs} {ts : List Stp4} (g : X.ok) (ht : ∀ t ∈ ts, X.st t) (h1 : 1 ≤ ts.length) (h2 : ts.length ≤ 40000) (p : P (.bl (X.joins ts))) : w_is_way [X.p, .lst (stL ts)] P := by
  have hne : (stL ts).isEmpty = false := by
    cases ts with
    | nil => simp at h1
    | cons t ts => rfl
  have hle := g.le
  unfold w_is_way t_is_way
  walk_at "wz"
  refine ⟨"list", true, rfl, by decide +kernel, ?_⟩
  walk_at "wz"
  refine eq_nil (pd_stL (fun t q => by have := ht t q; unfold Hs.st at this; omega) (Nat.le_refl _)) (by decide) ?_
  rw [hne]
  walk_at "wz"
  refine ⟨by omega, lcm (fun _ => .bl true) (fun t q Kt hk => ?_) (all_true ?_)⟩
  · walk_at "wz"
    refine p_is_step g ?_
    have hs := ht t q
    rw [decide_eq_true hs.1, decide_eq_true hs.2.1, hs.2.2]
    exact hk
  walk_at "wz"
  refine ⟨by omega, lcm (fun t => .tup [.int (X.a t), .int (X.b t), .int (X.l t), .int (X.v t)]) (fun t q Kt hk => p_told g (ht t q) hk) ?_⟩
  walk_at "wz"
  rw [zip_nx (d := ((.keep, 0) : Stp4)) h1]
  refine ⟨by rw [cut_tl, cut_hd]; simp only [List.length_drop, List.length_take, List.length_map]; omega, by rw [List.length_map, List.length_range]; omega, lcm (fun (i : Nat) => .bl (decide (X.b (cyS ts (i : Int)) = X.a (cyS ts ((i : Int) + 1))))) (fun i q Kt hk => ?_) ?_⟩
  · walk_at "wz"
    exact hk
  · refine all_of ?_
    rw [joins_up h1]
    exact p

theorem p_turns {P : PV → Prop} {X : Hs} {ts : List Stp4} (g : X.ok) (ht : ∀ t ∈ ts, X.st t) (h2 : ts.length ≤ 40000) (p : P (.int (X.trn ts))) : w_turns [X.p, .lst (stL ts)] P := by
  unfold w_turns t_turns
  walk_at "wz"
  refine ⟨by omega, lcm (fun t => .int (X.l t)) (fun t q Kt hk => ?_) ?_⟩
  · walk_at "wz"
    refine p_told g (ht t q) ?_
    walk_at "wz"
    exact hk
  refine sum_of ⟨⟨_, rfl⟩, p_House_hours g ⟨g.div _, p⟩⟩

theorem p_value {P : PV → Prop} {X : Hs} {ts : List Stp4} (g : X.ok) (ht : ∀ t ∈ ts, X.st t) (h2 : ts.length ≤ 40000) (p : P (.int (X.val ts))) : w_value [X.p, .lst (stL ts)] P := by
  unfold w_value t_value
  walk_at "wz"
  refine ⟨by omega, lcm (fun t => .int (X.v t)) (fun t q Kt hk => ?_) (sum_of p)⟩
  walk_at "wz"
  refine p_told g (ht t q) ?_
  walk_at "wz"
  exact hk

theorem p__law_row {P : PV → Prop} {X : Hs} {t : Stp4} (g : X.ok) (ht : X.st t) (p : P (.tup [.int (X.a t), .int (X.b t), .int (X.l t), .int (X.v t)])) : w__law_row [X.w, stP t] P := by
  obtain ⟨w, h⟩ := t
  obtain ⟨h0, h1, h2⟩ := ht
  obtain ⟨l, hl⟩ := Option.isSome_iff_exists.mp h2
  simp only [Hs.a, Hs.b, Hs.l, Hs.v, hl, Option.getD_some] at p
  have e1 := g.ln
  have e2 := g.lr
  have e3 := g.lk
  have e4 := g.ld
  unfold w__law_row t__law_row
  walk_at "wz"
  refine ⟨X.s, h, rfl, g.cs, ?_⟩
  walk_at "wz"
  rw [serving_len]
  refine ⟨g.pos, g.pos, ?_⟩
  cases w with
  | need =>
    refine r_ite (fun _ => ?_) (fun z => absurd rfl z)
    refine ix_cyc h0 (by rw [e1]; exact h1) ?_
    simp only [Hs.lim, Option.some.injEq] at hl
    rw [hl]
    simp only [Wd.on, Hs.fst, Hs.len, b_need, if_true] at p
    exact p
  | room =>
    refine r_ite (fun z => absurd (Wd.s_inj (b := .need).mp z) (by decide)) (fun _ => ?_)
    refine r_ite (fun _ => ?_) (fun z => absurd rfl z)
    refine ix_oL h0 (by rw [e2]; exact h1) ?_
    simp only [Hs.lim] at hl
    rw [hl]
    simp only [Wd.on, Hs.fst, Hs.len, b_need, if_false, Bool.false_eq_true, ← Int.zero_sub] at p
    exact p
  | keep =>
    refine r_ite (fun z => absurd (Wd.s_inj (b := .need).mp z) (by decide)) (fun _ => ?_)
    refine r_ite (fun z => absurd (Wd.s_inj (b := .room).mp z) (by decide)) (fun _ => ?_)
    refine r_ite (fun _ => ?_) (fun z => absurd rfl z)
    refine ix_cyc h0 (by rw [e3]; exact h1) ?_
    simp only [Hs.lim, Option.some.injEq] at hl
    rw [hl]
    simp only [Wd.on, Hs.fst, Hs.len, if_true] at p
    exact p
  | door =>
    refine r_ite (fun z => absurd (Wd.s_inj (b := .need).mp z) (by decide)) (fun _ => ?_)
    refine r_ite (fun z => absurd (Wd.s_inj (b := .room).mp z) (by decide)) (fun _ => ?_)
    refine r_ite (fun z => absurd (Wd.s_inj (b := .keep).mp z) (by decide)) (fun _ => ?_)
    refine ix_oL h0 (by rw [e4]; exact h1) ?_
    simp only [Hs.lim] at hl
    rw [hl]
    simp only [Wd.on, Hs.fst, Hs.len, if_false, Bool.false_eq_true] at p
    rw [← Int.zero_sub l] at p
    exact p

theorem p__law_measure {P : PV → Prop} {X : Hs} {ts : List Stp4} (g : X.ok) (ht : ∀ t ∈ ts, X.st t) (h2 : ts.length ≤ 40000) (p : P (.tup [.int (X.trn ts), .int (X.val ts)])) : w__law_measure [X.w, .lst (stL ts)] P := by
  unfold w__law_measure t__law_measure
  walk_at "wz"
  refine ⟨by omega, lcm (fun t => .tup [.int (X.a t), .int (X.b t), .int (X.l t), .int (X.v t)]) (fun t q Kt hk => p__law_row g (ht t q) hk) ?_⟩
  walk_at "wz"
  refine ⟨by omega, lcm (fun t => .int (X.l t)) (fun t q Kt hk => ?_) (sum_of ?_)⟩
  · walk_at "wz"
    exact hk
  walk_at "wz"
  refine ⟨g.div _, by omega, lcm (fun t => .int (X.v t)) (fun t q Kt hk => ?_) (sum_of p)⟩
  walk_at "wz"
  exact hk

theorem p__law_rows {P : PV → Prop} {X : Hs} (g : X.ok) (p : P (.lst (stL X.rows))) : w__law_rows [X.w] P := by
  have hle : X.s.length ≤ 48 := g.cs.le
  have e2 := g.lr
  have e4 := g.ld
  have a := List.length_filter_le (fun (i : Nat) => (cyo X.ds (i : Int)).isSome) (List.range X.s.length)
  have b := List.length_filter_le (fun (i : Nat) => (cyo X.rs (i : Int)).isSome) (List.range X.s.length)
  rw [List.length_range] at a b
  have hlen : ((List.range X.s.length).map fun (i : Nat) => PV.int (i : Int)).length ≤ 100000 := by rw [List.length_map, List.length_range]; omega
  unfold w__law_rows t__law_rows
  walk_at "wz"
  rw [rangeP0, Int.toNat_natCast]
  refine ⟨⟨by omega, by omega⟩, hlen, ?_⟩
  refine lcl (fun (i : Nat) => (cyo X.ds (i : Int)).isSome) (fun (i : Nat) => stP (.door, (i : Int))) (fun i hi Kt Kf ht hf => ?_) ⟨hlen, lcm (fun (i : Nat) => stP (.keep, (i : Int))) (fun i hi Kt hk => by walk_at "wz"; exact hk) ⟨?_, hlen, lcm (fun (i : Nat) => stP (.need, (i : Int))) (fun i hi Kt hk => by walk_at "wz"; exact hk) ⟨?_, hlen, lcl (fun (i : Nat) => (cyo X.rs (i : Int)).isSome) (fun (i : Nat) => stP (.room, (i : Int))) (fun i hi Kt Kf ht hf => ?_) ⟨?_, ?_⟩⟩⟩⟩
  · have hi := List.mem_range.mp hi
    walk_at "wz"
    refine ix_oL (by omega) (by omega) ?_
    rw [isN_oP]
    walk_at "wz"
    cases e : (cyo X.ds (i : Int)).isSome
    · exact hf e
    · exact ht e
  · simp only [List.nil_append, List.length_append, List.length_map, List.length_range]
    omega
  · simp only [List.nil_append, List.length_append, List.length_map, List.length_range]
    omega
  · have hi := List.mem_range.mp hi
    walk_at "wz"
    refine ix_oL (by omega) (by omega) ?_
    rw [isN_oP]
    walk_at "wz"
    cases e : (cyo X.rs (i : Int)).isSome
    · exact hf e
    · exact ht e
  · simp only [List.nil_append, List.length_append, List.length_map, List.length_range]
    omega
  · unfold Hs.rows stL at p
    simp only [List.map_append, List.map_map] at p
    exact p

theorem p__law_is_way {P : PV → Prop} {X : Hs} {ts : List Stp4} (g : X.ok) (ht : ∀ t ∈ ts, X.st t) (h1 : 1 ≤ ts.length) (h2 : ts.length ≤ 600) (p : P (.bl (X.joins ts))) : w__law_is_way [X.w, .lst (stL ts)] P := by
  have hle := g.le
  have hl := rows_len g
  have hne : (stL ts).isEmpty = false := by
    cases ts with
    | nil => simp at h1
    | cons t ts => rfl
  have hpd : ∀ t, X.st t → PvD (stP t) 402 1 := fun t q => pd_stP (by unfold Hs.st at q; omega)
  unfold w__law_is_way t__law_is_way
  walk_at "wz"
  refine p__law_rows g ?_
  walk_at "wz"
  refine ⟨by omega, lcm (fun t => .str (shP (stP t))) (fun t q Kt hk => repr_of (hpd t ((rows_mem t).mp q)) (by decide) (by decide) hk) ?_⟩
  refine ⟨"list", true, rfl, by decide +kernel, ?_⟩
  walk_at "wz"
  refine eq_nil (pd_stL (fun t q => by have := ht t q; unfold Hs.st at this; omega) (Nat.le_refl _)) (by decide) ?_
  rw [hne]
  walk_at "wz"
  refine ⟨by omega, lcl (fun _ => false) stP (fun t q Kt Kf _ hf => ?_) ?_⟩
  · walk_at "wz"
    refine repr_of (hpd t (ht t q)) (by decide) (by decide) ?_
    rw [show X.rows.map (fun t => PV.str (shP (PV.tup [PV.str t.fst.s, PV.int t.snd]))) = (X.rows.map fun t => shP (stP t)).map PV.str from by rw [List.map_map]; rfl]
    refine in_strsL ?_
    rw [show ((X.rows.map fun t => shP (stP t)).any fun y => y == shP (.tup [.str t.1.s, .int t.2])) = true from List.any_eq_true.mpr ⟨_, List.mem_map.mpr ⟨t, (rows_mem t).mpr (ht t q), rfl⟩, beq_self_eq_true _⟩]
    walk_at "wz"
    exact hf rfl
  rw [List.filter_eq_nil_iff.mpr (fun _ _ => Bool.false_ne_true)]
  refine ne_nil (pd_lst (w := 0) (k := 0) (n := 0) (by simp) (Nat.le_refl _)) (by decide) ?_
  walk_at "wz"
  rw [if_neg (by simp)]
  refine ⟨by omega, lcm (fun t => .tup [.int (X.a t), .int (X.b t)]) (fun t q Kt hk => ?_) ?_⟩
  · walk_at "wz"
    refine p__law_row g (ht t q) ?_
    walk_at "wz"
    rw [cut2]
    exact hk
  walk_at "wz"
  refine ⟨by omega, by omega, ?_, ?_⟩
  · rw [rangeP0, List.length_map, List.length_range]; omega
  rw [rangeP0, Int.toNat_natCast]
  refine lcl (fun (i : Nat) => !decide (X.b (cyS ts ((i : Int) - 1)) = X.a (cyS ts (i : Int)))) (fun (i : Nat) => .int (i : Int)) (fun i hi Kt Kf ht hf => ?_) ?_
  · have hi := List.mem_range.mp hi
    walk_at "wz"
    rw [at_cyL (d := ((.keep, 0) : Stp4)) (by omega) (by omega), at_cyL (d := ((.keep, 0) : Stp4)) (by omega) (by omega)]
    walk_at "wz"
    split
    · next h => exact ht h
    · next h => exact hf (Bool.eq_false_iff.mpr h)
  · refine eq_nil (pd_lst (w := 200) (k := 0) (n := 600) (fun x hx => by
      rcases List.mem_map.mp (show x ∈ List.map _ _ from hx) with ⟨i, hi, rfl⟩
      have := List.mem_range.mp (List.mem_filter.mp hi).1
      exact pd_int (by omega)) (by
      rw [List.nil_append, List.length_map]
      refine Nat.le_trans (List.length_filter_le _ _) ?_
      rw [List.length_range]
      exact h2)) (by decide) ?_
    rw [show (([] : List PV) ++ ((List.range ts.length).filter fun (i : Nat) => !decide (X.b (cyS ts ((i : Int) - 1)) = X.a (cyS ts (i : Int)))).map fun (i : Nat) => PV.int (i : Int)).isEmpty = X.joins ts from by
      rw [← joins_dn h1, List.nil_append, List.isEmpty_map, Bool.eq_iff_iff, List.isEmpty_iff, List.filter_eq_nil_iff, List.all_eq_true]
      exact ⟨fun q i hi => by have := q i hi; simpa using this, fun q i hi => by have := q i hi; simpa using this⟩]
    exact p

theorem p_ring_way {P : PV → Prop} {X : Hs} {r : List Int} (g : X.ok) (hr : ∀ k ∈ r, 0 ≤ k ∧ k < X.n) (h1 : 1 ≤ r.length) (h2 : r.length ≤ 1000) (p : P (.lst (stL (X.ring r)))) : w_ring_way [X.p, .lst (iL r)] P := by
  have hle := g.le
  unfold w_ring_way t_ring_way
  walk_at "wz"
  refine ⟨⟨_, rfl⟩, p_House_clock g ⟨⟨_, rfl, rfl⟩, X.s, rfl, g.cs, fun _ => ⟨_, rfl⟩, ?_, ?_⟩⟩
  · rw [cut_m1 (by rw [List.length_map]; exact h1), cut_im1 (by rw [List.length_map]; exact h1), List.length_drop, List.length_take, List.length_map]
    omega
  rw [zip_pv (d := (0 : Int)) h1]
  refine forl (fun i ρ => ∃ u v x y : PV, ρ = [X.p, .lst (iL r), .lst (stL (X.segs (lastH 0 r) (r.take i))), .lst (iL (wds X.s)), u, v, x, y]) ⟨_, _, _, _, rfl⟩ (fun i j ρ N hj hi hN => ?_) (fun ρ hi => ?_)
  · obtain ⟨u, v, x, y, rfl⟩ := hi
    obtain ⟨hi, e⟩ := List.getElem?_eq_some_iff.mp hj
    rw [List.length_range] at hi
    rw [List.getElem_range] at e
    subst e
    have hb := cyc_in h1 hr (i : Int)
    have hm : 0 ≤ (cyc r (i : Int) - wd X.s (cyc r (i : Int)) - cyc r ((i : Int) - 1)) % X.n ∧ (cyc r (i : Int) - wd X.s (cyc r (i : Int)) - cyc r ((i : Int) - 1)) % X.n < X.n := mod_bd g.cs.ne _
    have hl := (len_segs g (r.take i) (lastH 0 r)).2
    rw [List.length_take] at hl
    walk_at "wz"
    simp only [cyL_cyc]
    refine ix_cyc (i := cyc r (i : Int)) hb.1 (by rw [wds_length]; exact hb.2) ?_
    rw [cyc_wds g.cs.ne]
    walk_at "wz"
    refine ⟨⟨_, rfl⟩, p_House_hours g ⟨g.pos, by omega, by omega, ?_⟩⟩
    show (rangeP 0 ((cyc r (i : Int) - wd X.s (cyc r (i : Int)) - cyc r ((i : Int) - 1)) % X.n).toNat).length ≤ 100000 ∧ _
    refine ⟨by rw [rangeP0, List.length_map, List.length_range]; omega, ?_⟩
    rw [rangeP0]
    refine lcm (fun (k : Nat) => stP (.keep, (cyc r ((i : Int) - 1) + 1 + (k : Int)) % X.n)) (fun k hk Kt hkt => ?_) ⟨_, rfl, ?_, _, rfl, ?_, ?_⟩
    · walk_at "wz"
      exact ⟨⟨_, rfl⟩, p_House_hours g ⟨g.pos, hkt⟩⟩
    · simp only [List.nil_append, List.length_append, List.length_map, List.length_range]
      omega
    · simp only [List.nil_append, List.length_append, List.length_map, List.length_range]
      omega
    · rw [show stL (X.segs (lastH 0 r) (r.take i)) ++ ([] ++ (List.range ((cyc r (i : Int) - wd X.s (cyc r (i : Int)) - cyc r ((i : Int) - 1)) % X.n).toNat).map fun (k : Nat) => stP (Wd.keep, (cyc r ((i : Int) - 1) + 1 + (k : Int)) % X.n)) ++ [PV.tup [.str "need", .int (cyc r (i : Int))]] = stL (X.segs (lastH 0 r) (r.take (i + 1))) from by
        rw [segs_take h1 hi]
        unfold Hs.seg stL
        simp only [List.map_append, List.map_map, List.append_assoc]
        rfl]
      exact hN _ ⟨_, _, _, _, rfl⟩
  · obtain ⟨u, v, x, y, rfl⟩ := hi
    walk_at "wz"
    rw [List.length_range, List.take_length]
    exact p

theorem p__law_ring_steps {P : PV → Prop} {X : Hs} {r : List Int} (g : X.ok) (hr : ∀ k ∈ r, 0 ≤ k ∧ k < X.n) (h1 : 1 ≤ r.length) (h2 : r.length ≤ 1000) (p : P (.lst (stL (X.ring r)))) : w__law_ring_steps [.lst (iL X.s), .lst (iL r)] P := by
  have hle := g.le
  unfold w__law_ring_steps t__law_ring_steps
  walk_at "wz"
  refine ⟨fun _ => ⟨_, rfl⟩, by omega, by omega, ?_⟩
  rw [Int.toNat_natCast]
  refine forr (fun i ρ => ∃ u v x y : PV, ρ = [.lst (iL X.s), .lst (iL r), .int X.n, .lst (stL (X.segs (lastH 0 r) (r.take i))), u, v, x, y]) ⟨_, _, _, _, rfl⟩ (fun i ρ N hi hI hN => ?_) (fun ρ hi => ?_)
  · obtain ⟨u, v, x, y, rfl⟩ := hI
    have hb := cyc_in h1 hr (i : Int)
    have hm : 0 ≤ (cyc r (i : Int) - wd X.s (cyc r (i : Int)) - cyc r ((i : Int) - 1)) % X.n ∧ (cyc r (i : Int) - wd X.s (cyc r (i : Int)) - cyc r ((i : Int) - 1)) % X.n < X.n := mod_bd g.cs.ne _
    have hl := (len_segs g (r.take i) (lastH 0 r)).2
    rw [List.length_take] at hl
    walk_at "wz"
    refine ix_cycZ (by omega) (by omega) ?_
    walk_at "wz"
    refine ⟨g.pos, ix_cycZ (by omega) (by omega) ⟨X.s, _, rfl, g.cs, ?_⟩⟩
    walk_at "wz"
    rw [serving_len]
    refine ix_cycZ (by omega) (by omega) ?_
    walk_at "wz"
    refine ⟨g.pos, whl (fun m ρ => ∃ k : Nat, k ≤ ((cyc r (i : Int) - wd X.s (cyc r (i : Int)) - cyc r ((i : Int) - 1)) % X.n).toNat ∧ m = ((cyc r (i : Int) - wd X.s (cyc r (i : Int)) - cyc r ((i : Int) - 1)) % X.n).toNat - k ∧
      ρ = [.lst (iL X.s), .lst (iL r), .int X.n, .lst (stL (X.segs (lastH 0 r) (r.take i) ++ (List.range k).map fun (j : Nat) => (Wd.keep, (cyc r ((i : Int) - 1) + 1 + (j : Int)) % X.n))), .int (i : Int), .int ((cyc r ((i : Int) - 1) + 1 + (k : Int)) % X.n), .int (wd X.s (cyc r (i : Int))), .int ((cyc r (i : Int) - wd X.s (cyc r (i : Int)) + 1) % X.n)]) _ ⟨0, Nat.zero_le _, rfl, ?_⟩ (fun m ρ hI => ?_)⟩
    · rw [show cyc r ((i : Int) - 1) + 1 + ((0 : Nat) : Int) = cyc r ((i : Int) - 1) + 1 from by omega, List.range_zero, List.map_nil, List.append_nil]
    · obtain ⟨k, hk, rfl, rfl⟩ := hI
      walk_at "wz"
      have ke := keep_end (n := X.n) (p := cyc r ((i : Int) - 1)) (q := cyc r (i : Int) - wd X.s (cyc r (i : Int))) g.pos hk
      have hlen : (stL (X.segs (lastH 0 r) (r.take i) ++ (List.range k).map fun (j : Nat) => (Wd.keep, (cyc r ((i : Int) - 1) + 1 + (j : Int)) % X.n))).length < 100000 := by
        simp only [List.length_append, List.length_map, List.length_range]
        omega
      refine r_itn (fun e => ?_) (fun e => ?_)
      · have hk2 : k < ((cyc r (i : Int) - wd X.s (cyc r (i : Int)) - cyc r ((i : Int) - 1)) % X.n).toNat := Nat.lt_of_le_of_ne hk fun z => e (ke.mpr z)
        refine ⟨_, rfl, hlen, g.pos, _, ?_, k + 1, hk2, rfl, ?_⟩
        · omega
        · rw [List.range_succ, Int.emod_add_emod, show cyc r ((i : Int) - 1) + 1 + (k : Int) + 1 = cyc r ((i : Int) - 1) + 1 + ((k + 1 : Nat) : Int) from by omega]
          simp only [stL, List.map_append, List.append_assoc]
          rfl
      · have hk2 := ke.mp e
        subst hk2
        refine ix_cycZ (by omega) (by omega) ⟨_, rfl, hlen, ?_⟩
        rw [show stL (X.segs (lastH 0 r) (r.take i) ++ (List.range ((cyc r (i : Int) - wd X.s (cyc r (i : Int)) - cyc r ((i : Int) - 1)) % X.n).toNat).map fun (j : Nat) => (Wd.keep, (cyc r ((i : Int) - 1) + 1 + (j : Int)) % X.n)) ++ [PV.tup [.str "need", .int (cyc r (i : Int))]] = stL (X.segs (lastH 0 r) (r.take (i + 1))) from by
          rw [segs_take h1 hi]
          unfold Hs.seg
          simp only [stL, List.map_append, List.append_assoc]
          rfl]
        exact hN _ ⟨_, _, _, _, rfl⟩
  · obtain ⟨u, v, x, y, rfl⟩ := hi
    walk_at "wz"
    rw [List.take_length]
    exact p

theorem p__law_free_world {P : PV → Prop} {n : Nat} (h1 : 1 ≤ n) (h2 : n ≤ 48) (p : ∀ X : Hs, Good X.s → X.s.length = n → X.sm → P X.w) : w__law_free_world [.bag, .int (n : Int)] P := by
  unfold w__law_free_world t__law_free_world
  walk_at "wz"
  refine ⟨n, rfl, h1, h2, fun ns hn hs => ?_⟩
  have sn : SmC ns n (10 ^ 30) := ⟨hn, hs⟩
  walk_at "wz"
  rw [Int.toNat_natCast]
  refine ⟨by omega, by omega, by omega, by omega, by omega, by omega, by omega, by omega, by omega, ⟨fun _ => ⟨_, rfl⟩, fun _ => ⟨_, rfl⟩, fun _ => ⟨_, rfl⟩⟩, tk (by decide) (by decide) fun kd k0 k1 => ?_⟩
  walk_at "wz"
  rw [rep_n, rep_i]
  refine ⟨cmul01 b01, ?_⟩
  obtain ⟨M, hM, e⟩ : ∃ M : Nat, M ≤ n ∧ ((n : Int) * if decide (0 < kd) = true then 1 else 0) = (M : Int) := by
    rcases b01 (P := 0 < kd) with e | e <;> rw [e]
    · exact ⟨0, by omega, by omega⟩
    · exact ⟨n, by omega, by omega⟩
  rw [e, Int.toNat_natCast]
  refine ⟨by omega, by omega, forr (fun i ρ => ∃ rs ks ds u, ρ = [.bag, .int (n : Int), .lst (iL ns), .lst (oL rs), .lst (iL ks), .lst (oL ds), .int kd, u] ∧ SmO rs n (10 ^ 32) ∧ SmC ks n (10 ^ 31) ∧ SmO ds n (10 ^ 32)) ⟨_, _, _, _, rfl, SmO.non n, SmC.zero n (by decide), SmO.non n⟩ (fun i ρ N hi hI hN => ?_) (fun ρ hI => ?_)⟩
  · obtain ⟨rs, ks, ds, u, rfl, hr, hk, hd⟩ := hI
    have gn := sn.get h1 (i : Int)
    walk_at "wz"
    refine ⟨fun ρ => ∃ rs, ρ = [.bag, .int (n : Int), .lst (iL ns), .lst (oL rs), .lst (iL ks), .lst (oL ds), .int kd, .int (i : Int)] ∧ SmO rs n (10 ^ 32), tk (by decide) (by decide) fun a _ _ => ?_, fun ρ hρ => ?_⟩
    · walk_at "wz"
      refine r_ite (fun _ => ?_) (fun _ => ⟨rs, rfl, hr⟩)
      refine tk (by decide) (by decide) fun b b0 b1 => ?_
      refine ix_cycZ (by omega) (by omega) (tk (by decide) (by decide) fun c _ _ => ?_)
      walk_at "wz"
      refine ⟨cmul01 b01, i, by rw [hr.len]; exact ixN_in (by omega), _, ?_, hr.set (i := i) (z := b + cyc ns (i : Int) * if decide (0 < c) = true then 1 else 0) ?_ ?_⟩
      · rw [set_o]
      · rcases b01 (P := 0 < c) with e | e <;> rw [e] <;> omega
      · rcases b01 (P := 0 < c) with e | e <;> rw [e] <;> omega
    · obtain ⟨rs, rfl, hr⟩ := hρ
      walk_at "wz"
      refine tk (by decide) (by decide) fun a a0 a1 => tk (by decide) (by decide) fun b _ _ => ?_
      walk_at "wz"
      refine ⟨cmul01 b01, i, by rw [hk.len]; exact ixN_in (by omega), ?_⟩
      rw [set_i]
      have hk2 : SmC (ks.set i (a * if decide (b = 0) = true then 1 else 0)) n (10 ^ 31) := hk.set (by rcases b01 (P := b = 0) with e | e <;> rw [e] <;> omega) (by rcases b01 (P := b = 0) with e | e <;> rw [e] <;> omega)
      generalize ks.set i (a * if decide (b = 0) = true then 1 else 0) = ks at hk2 ⊢
      have gk := hk2.get h1 (i : Int)
      walk_at "wz"
      refine tk (by decide) (by decide) fun c _ _ => ?_
      walk_at "wz"
      have stay : N [.bag, .int (n : Int), .lst (iL ns), .lst (oL rs), .lst (iL ks), .lst (oL ds), .int kd, .int (i : Int)] := hN _ ⟨_, _, _, _, rfl, hr, hk2, hd⟩
      refine r_ite (fun _ => ?_) (fun _ => stay)
      refine r_ite (fun _ => ?_) (fun _ => stay)
      refine tk (by decide) (by decide) fun f f0 f1 => ?_
      have hkl := hk2.len
      refine ix_cycZ (by omega) (by omega) (tk (by decide) (by decide) fun h _ _ => ?_)
      walk_at "wz"
      refine ⟨cmul01 b01, i, by rw [hd.len]; exact ixN_in (by omega), hN _ ⟨_, _, _, _, by rw [set_o], hr, hk2, hd.set (i := i) (z := f + cyc ks (i : Int) * if decide (0 < h) = true then 1 else 0) ?_ ?_⟩⟩
      · rcases b01 (P := 0 < h) with e | e <;> rw [e] <;> omega
      · rcases b01 (P := 0 < h) with e | e <;> rw [e] <;> omega
  · obtain ⟨rs, ks, ds, u, rfl, hr, hk, hd⟩ := hI
    walk_at "wz"
    refine ⟨n, rfl, h1, h2, fun s hs gs => ?_⟩
    subst hs
    exact p ⟨s, ns, rs, ks, ds⟩ gs rfl ⟨sn.mono (by decide), hr, hk.mono (by decide), hd⟩

theorem p__law_made {P : PV → Prop} {X : Hs} (g : X.ok) (p : P X.p) : w__law_made [X.w] P := by
  unfold w__law_made t__law_made
  walk_at "wz"
  exact ⟨_, X.s, rfl, .inl rfl, g.cs, _, X.ns, rfl, .inl rfl, g.cn, _, _, _, X.s, X.ns, X.rs, X.ks, X.ds, rfl, .inl rfl, .inl rfl, .inl rfl, g, p⟩

theorem p__law_alike {P : PV → Prop} {x : PV} {w k : Nat} (h : PvD x w k) (hw : w ≤ 300000) (hk : k ≤ 64) (p : P (.bl true)) : w__law_alike [x, x] P := by
  obtain ⟨e, h1, h2, h3⟩ := h.shaped hk
  exact ⟨x, x, e, w, rfl, h1, h1, h2, h3, hw, p⟩

theorem law_true (ns : List Int) (hn : ns.length ≤ 63) : w_law [.scr ns] fun x => x = .bl true := by
  unfold w_law t_law
  walk_at "wz"
  refine ⟨ns, rfl, ?_⟩
  refine ⟨by omega, by omega, ?_⟩
  refine forr (n := 6) (fun i ρ => ∃ a b c d e f g h i j k l m n : PV, ρ = [.scr ns, .bag, a, b, c, d, e, f, g, h, i, j, k, l, m, n]) ⟨_, _, _, _, _, _, _, _, _, _, _, _, _, _, rfl⟩ (fun i ρ N hi hI hN => ?_) (fun ρ hI => ?_)
  · obtain ⟨a, b, c, d, e, f, g, h, i', j, k, l, m, n', rfl⟩ := hI
    have sz : ∀ P : PV → Prop, (∀ n : Nat, 1 ≤ n → n ≤ 24 → P (.int (n : Int))) → (wIf (wTand (wTest (wOp wEq (wVar 2) (wC (.int 0)))) (wTest (wOp wEq (wCall w_take (wCons (wVar 1) (wCons (wC (.int 4)) wNil))) (wC (.int 0))))) (wC (.int 24)) (wOp wAdd (wC (.int 1)) (wCall w_take (wCons (wVar 1) (wCons (wC (.int 10)) wNil))))) [.scr ns, .bag, .int (i : Int), b, c, d, e, f, g, h, i', j, k, l, m, n'] P := fun P hP => by
      have q : ∀ z : Int, 0 ≤ z → z < 10 → P (.int (1 + z)) := fun z z0 z1 => by
        have := hP (1 + z).toNat (by omega) (by omega)
        rw [show (((1 + z).toNat : Nat) : Int) = 1 + z from by omega] at this
        exact this
      walk_at "wz"
      refine r_ite (fun _ => tk (by decide) (by decide) fun u _ _ => ?_) (fun _ => tk (by decide) (by decide) q)
      walk_at "wz"
      exact r_ite (fun _ => hP 24 (by decide) (by decide)) (fun _ => tk (by decide) (by decide) q)
    refine sz _ fun n n1 n2 => ?_
    clear sz
    walk_at "wz"
    refine p__law_free_world n1 (by omega) fun X gs hX hs => ?_
    have g := hs.ok gs
    have hXn : X.n = (n : Int) := by show (X.s.length : Int) = _; rw [hX]
    walk_at "wz"
    refine p__law_made g ?_
    walk_at "wz"
    refine ⟨_, X.s, rfl, .inl rfl, gs, by omega, by omega, ?_⟩
    refine forr (n := 4) (fun t ρ => ∃ f g h i' j k l m n' : PV, ρ = [.scr ns, .bag, .int (i : Int), .int (n : Int), X.w, X.p, clkP X.s, f, g, h, i', j, k, l, m, n']) ⟨_, _, _, _, _, _, _, _, _, rfl⟩ (fun t ρ N2 ht hI hN2 => ?_) (fun ρ hI => ?_)
    · obtain ⟨f, g', h, i', j, k, l, m, n', rfl⟩ := hI
      walk_at "wz"
      refine tk (by decide) (by decide) fun u u0 u1 => ?_
      walk_at "wz"
      refine ⟨by omega, by omega, by rw [rangeP0, List.length_map, List.length_range]; omega, lci (fun z => 0 ≤ z ∧ z < X.n) (fun x _ Kt hk => ?_) fun r hl hr => ?_⟩
      · walk_at "wz"
        refine tk (by omega) (by omega) fun z z0 z1 => hk z ⟨z0, by omega⟩
      rw [rangeP0, List.length_map, List.length_range] at hl
      have r1 : 1 ≤ r.length := by omega
      have r2 : r.length ≤ 6 := by omega
      have rne : r ≠ [] := fun z => by rw [z] at r1; exact absurd r1 (by decide)
      have hst : ∀ t ∈ X.ring r, X.st t := st_segs g r (lastH 0 r) hr
      have hlen := ring_le48 g (r := r)
      have hlen1 := ring_ne g r1
      have pd1 : PvD (.lst (stL (X.ring r))) (300 * 403) 2 := (pd_stL (n := 300) (fun t q => by have gl := g.le; have := hst t q; unfold Hs.st at this; omega) (by omega))
      have pd2 : PvD (.lst (iL r)) (6 * 201) 1 := pd_iL (fun z hz => by have := hr z hz; have := g.le; omega) r2
      walk_at "wz"
      refine p__law_ring_steps g hr r1 (by omega) ?_
      walk_at "wz"
      refine ⟨by omega, by omega, ?_⟩
      refine forr (n := 2) (fun v ρ => ∃ h j k l m n' : PV, ρ = [.scr ns, .bag, .int (i : Int), .int (n : Int), X.w, X.p, clkP X.s, .int (t : Int), .lst (iL r), h, .lst (stL (X.ring r)), j, k, l, m, n']) ⟨_, _, _, _, _, _, rfl⟩ (fun v ρ N3 hv hI hN3 => ?_) (fun ρ hI => ?_)
      · obtain ⟨h, j, k, l, m, n', rfl⟩ := hI
        walk_at "wz"
        refine p_ring_way g hr r1 (by omega) ⟨fun _ => ⟨_, rfl⟩, ?_⟩
        refine p__law_alike (w := 2 * (300 * 403 + 1)) (k := 3) (pd_lst (w := 300 * 403) (k := 2) (n := 2) (fun x hx => by
          rcases List.mem_cons.mp hx with rfl | hx
          · exact pd1
          · rw [List.mem_singleton.mp hx]
            exact pd2.mono (by decide) (by decide)) (Nat.le_refl _)) (by decide) (by decide) ?_
        walk_at "wz"
        exact ⟨_, rfl, by rw [List.length_map]; omega, hN3 _ ⟨_, _, _, _, _, _, rfl⟩⟩
      · obtain ⟨h, j, k, l, m, n', rfl⟩ := hI
        walk_at "wz"
        refine p__law_measure g hst (by omega) ?_
        walk_at "wz"
        refine p__law_is_way g hst hlen1 (by omega) ?_
        walk_at "wz"
        rw [ring_joins g rne]
        walk_at "wz"
        refine p_is_way g hst hlen1 (by omega) ?_
        rw [ring_joins g rne]
        walk_at "wz"
        refine p_turns g hst (by omega) (p_value g hst (by omega) ⟨X.s, r, rfl, gs, rne, by omega, hr, ?_⟩)
        have b1 := trn_bd g (X.ring r) hst
        have b2 := val_bd hs gs (X.ring r)
        have b3 : (X.ring r).length * 10 ^ 32 ≤ 300 * 10 ^ 32 := Nat.mul_le_mul_right _ (by omega)
        have q1 : (X.trn (X.ring r)).natAbs < 10 ^ 40 := by omega
        have q2 : (X.val (X.ring r)).natAbs < 10 ^ 40 := by omega
        rw [← ring_trn g r]
        refine p__law_alike (w := 3 * 201) (k := 1) (pd_iL (ns := [X.trn (X.ring r), X.val (X.ring r), X.trn (X.ring r)]) (n := 3) (fun z hz => by
          rcases List.mem_cons.mp hz with rfl | hz
          · exact q1
          rcases List.mem_cons.mp hz with rfl | hz
          · exact q2
          rw [List.mem_singleton.mp hz]
          exact q1) (Nat.le_refl _)) (by decide) (by decide) ?_
        walk_at "wz"
        exact hN2 _ ⟨_, _, _, _, _, _, _, _, _, rfl⟩
    · obtain ⟨f, g', h, i', j, k, l, m, n', rfl⟩ := hI
      exact hN _ ⟨_, _, _, _, _, _, _, _, _, _, _, _, _, _, rfl⟩
  · obtain ⟨a, b, c, d, e, f, g, h, i, j, k, l, m, n, rfl⟩ := hI
    walk_at "wz"

theorem all_mk {P : Program} {w : World} {K : PySem.W.Frag} {h : Heap} {mg : Str → Option Value} {fa : Addr} (X : K.In h) (G : h.Ns mainGlobals mg) (hfa : mg "law" = some (.ref fa))
    {c_Clock c_House c_Needs f__law_bag f__law_take f__law_number f__law_numbers f__law_stays f__law_free_world f_Needs_hours q_Needs_hours f_Clock_hours q_Clock_hours f_is_integer f_is_count f_are_limits f_are_counts f_House___init__ f_are_stays f_need_order f_width_of f_Clock___init__ f_is_row f_Needs___init__ f__law_made f__law_serving f__law_ring_steps f_Clock_widths f_House_clock q_House_clock f_House_hours q_House_hours f_ring_way f__law_alike f__law_row f__law_measure f__law_rows f__law_is_way f_is_hour f_Needs___getitem__ f_House_limit_of f_is_step f_Clock_width_at f_forward f_told f_is_way f_turns f_value f_step_hours f_winds f_law k_WORDS : Addr}
    {od__law_bag an__law_bag : Option Addr} {sl__law_bag : Array (Option Value)} {oc__law_bag kV__law_bag dc__law_bag pm__law_bag cd__law_bag ct__law_bag : Value}
    {od__law_take an__law_take : Option Addr} {sl__law_take : Array (Option Value)} {oc__law_take kV__law_take dc__law_take pm__law_take cd__law_take ct__law_take : Value}
    {od__law_number an__law_number : Option Addr} {sl__law_number : Array (Option Value)} {oc__law_number kV__law_number dc__law_number pm__law_number cd__law_number ct__law_number : Value}
    {od__law_numbers an__law_numbers : Option Addr} {sl__law_numbers : Array (Option Value)} {oc__law_numbers kV__law_numbers dc__law_numbers pm__law_numbers cd__law_numbers ct__law_numbers : Value}
    {od__law_stays an__law_stays : Option Addr} {sl__law_stays : Array (Option Value)} {oc__law_stays kV__law_stays dc__law_stays pm__law_stays cd__law_stays ct__law_stays : Value}
    {od__law_free_world an__law_free_world : Option Addr} {sl__law_free_world : Array (Option Value)} {oc__law_free_world kV__law_free_world dc__law_free_world pm__law_free_world cd__law_free_world ct__law_free_world : Value}
    {od_Needs_hours an_Needs_hours : Option Addr} {sl_Needs_hours : Array (Option Value)} {oc_Needs_hours kV_Needs_hours dc_Needs_hours pm_Needs_hours cd_Needs_hours ct_Needs_hours : Value}
    {rest_Needs_hours : List Value}
    {od_Clock_hours an_Clock_hours : Option Addr} {sl_Clock_hours : Array (Option Value)} {oc_Clock_hours kV_Clock_hours dc_Clock_hours pm_Clock_hours cd_Clock_hours ct_Clock_hours : Value}
    {rest_Clock_hours : List Value}
    {od_is_integer an_is_integer : Option Addr} {sl_is_integer : Array (Option Value)} {oc_is_integer kV_is_integer dc_is_integer pm_is_integer cd_is_integer ct_is_integer : Value}
    {od_is_count an_is_count : Option Addr} {sl_is_count : Array (Option Value)} {oc_is_count kV_is_count dc_is_count pm_is_count cd_is_count ct_is_count : Value}
    {od_are_limits an_are_limits : Option Addr} {sl_are_limits : Array (Option Value)} {oc_are_limits kV_are_limits dc_are_limits pm_are_limits cd_are_limits ct_are_limits : Value}
    {od_are_counts an_are_counts : Option Addr} {sl_are_counts : Array (Option Value)} {oc_are_counts kV_are_counts dc_are_counts pm_are_counts cd_are_counts ct_are_counts : Value}
    {od_House___init__ an_House___init__ : Option Addr} {sl_House___init__ : Array (Option Value)} {oc_House___init__ kV_House___init__ dc_House___init__ pm_House___init__ cd_House___init__ ct_House___init__ : Value}
    {od_are_stays an_are_stays : Option Addr} {sl_are_stays : Array (Option Value)} {oc_are_stays kV_are_stays dc_are_stays pm_are_stays cd_are_stays ct_are_stays : Value}
    {od_need_order an_need_order : Option Addr} {sl_need_order : Array (Option Value)} {oc_need_order kV_need_order dc_need_order pm_need_order cd_need_order ct_need_order : Value}
    {od_width_of an_width_of : Option Addr} {sl_width_of : Array (Option Value)} {oc_width_of kV_width_of dc_width_of pm_width_of cd_width_of ct_width_of : Value}
    {od_Clock___init__ an_Clock___init__ : Option Addr} {sl_Clock___init__ : Array (Option Value)} {oc_Clock___init__ kV_Clock___init__ dc_Clock___init__ pm_Clock___init__ cd_Clock___init__ ct_Clock___init__ : Value}
    {od_is_row an_is_row : Option Addr} {sl_is_row : Array (Option Value)} {oc_is_row kV_is_row dc_is_row pm_is_row cd_is_row ct_is_row : Value}
    {od_Needs___init__ an_Needs___init__ : Option Addr} {sl_Needs___init__ : Array (Option Value)} {oc_Needs___init__ kV_Needs___init__ dc_Needs___init__ pm_Needs___init__ cd_Needs___init__ ct_Needs___init__ : Value}
    {od__law_made an__law_made : Option Addr} {sl__law_made : Array (Option Value)} {oc__law_made kV__law_made dc__law_made pm__law_made cd__law_made ct__law_made : Value}
    {od__law_serving an__law_serving : Option Addr} {sl__law_serving : Array (Option Value)} {oc__law_serving kV__law_serving dc__law_serving pm__law_serving cd__law_serving ct__law_serving : Value}
    {od__law_ring_steps an__law_ring_steps : Option Addr} {sl__law_ring_steps : Array (Option Value)} {oc__law_ring_steps kV__law_ring_steps dc__law_ring_steps pm__law_ring_steps cd__law_ring_steps ct__law_ring_steps : Value}
    {od_Clock_widths an_Clock_widths : Option Addr} {sl_Clock_widths : Array (Option Value)} {oc_Clock_widths kV_Clock_widths dc_Clock_widths pm_Clock_widths cd_Clock_widths ct_Clock_widths : Value}
    {od_House_clock an_House_clock : Option Addr} {sl_House_clock : Array (Option Value)} {oc_House_clock kV_House_clock dc_House_clock pm_House_clock cd_House_clock ct_House_clock : Value}
    {rest_House_clock : List Value}
    {od_House_hours an_House_hours : Option Addr} {sl_House_hours : Array (Option Value)} {oc_House_hours kV_House_hours dc_House_hours pm_House_hours cd_House_hours ct_House_hours : Value}
    {rest_House_hours : List Value}
    {od_ring_way an_ring_way : Option Addr} {sl_ring_way : Array (Option Value)} {oc_ring_way kV_ring_way dc_ring_way pm_ring_way cd_ring_way ct_ring_way : Value}
    {od__law_alike an__law_alike : Option Addr} {sl__law_alike : Array (Option Value)} {oc__law_alike kV__law_alike dc__law_alike pm__law_alike cd__law_alike ct__law_alike : Value}
    {od__law_row an__law_row : Option Addr} {sl__law_row : Array (Option Value)} {oc__law_row kV__law_row dc__law_row pm__law_row cd__law_row ct__law_row : Value}
    {od__law_measure an__law_measure : Option Addr} {sl__law_measure : Array (Option Value)} {oc__law_measure kV__law_measure dc__law_measure pm__law_measure cd__law_measure ct__law_measure : Value}
    {od__law_rows an__law_rows : Option Addr} {sl__law_rows : Array (Option Value)} {oc__law_rows kV__law_rows dc__law_rows pm__law_rows cd__law_rows ct__law_rows : Value}
    {od__law_is_way an__law_is_way : Option Addr} {sl__law_is_way : Array (Option Value)} {oc__law_is_way kV__law_is_way dc__law_is_way pm__law_is_way cd__law_is_way ct__law_is_way : Value}
    {od_is_hour an_is_hour : Option Addr} {sl_is_hour : Array (Option Value)} {oc_is_hour kV_is_hour dc_is_hour pm_is_hour cd_is_hour ct_is_hour : Value}
    {od_Needs___getitem__ an_Needs___getitem__ : Option Addr} {sl_Needs___getitem__ : Array (Option Value)} {oc_Needs___getitem__ kV_Needs___getitem__ dc_Needs___getitem__ pm_Needs___getitem__ cd_Needs___getitem__ ct_Needs___getitem__ : Value}
    {od_House_limit_of an_House_limit_of : Option Addr} {sl_House_limit_of : Array (Option Value)} {oc_House_limit_of kV_House_limit_of dc_House_limit_of pm_House_limit_of cd_House_limit_of ct_House_limit_of : Value}
    {od_is_step an_is_step : Option Addr} {sl_is_step : Array (Option Value)} {oc_is_step kV_is_step dc_is_step pm_is_step cd_is_step ct_is_step : Value}
    {od_Clock_width_at an_Clock_width_at : Option Addr} {sl_Clock_width_at : Array (Option Value)} {oc_Clock_width_at kV_Clock_width_at dc_Clock_width_at pm_Clock_width_at cd_Clock_width_at ct_Clock_width_at : Value}
    {od_forward an_forward : Option Addr} {sl_forward : Array (Option Value)} {oc_forward kV_forward dc_forward pm_forward cd_forward ct_forward : Value}
    {od_told an_told : Option Addr} {sl_told : Array (Option Value)} {oc_told kV_told dc_told pm_told cd_told ct_told : Value}
    {od_is_way an_is_way : Option Addr} {sl_is_way : Array (Option Value)} {oc_is_way kV_is_way dc_is_way pm_is_way cd_is_way ct_is_way : Value}
    {od_turns an_turns : Option Addr} {sl_turns : Array (Option Value)} {oc_turns kV_turns dc_turns pm_turns cd_turns ct_turns : Value}
    {od_value an_value : Option Addr} {sl_value : Array (Option Value)} {oc_value kV_value dc_value pm_value cd_value ct_value : Value}
    {od_step_hours an_step_hours : Option Addr} {sl_step_hours : Array (Option Value)} {oc_step_hours kV_step_hours dc_step_hours pm_step_hours cd_step_hours ct_step_hours : Value}
    {od_winds an_winds : Option Addr} {sl_winds : Array (Option Value)} {oc_winds kV_winds dc_winds pm_winds cd_winds ct_winds : Value}
    {od_law an_law : Option Addr} {sl_law : Array (Option Value)} {oc_law kV_law dc_law pm_law cd_law ct_law : Value}
    {t_MOST_HOURS : Tok}
    (a_Clock : PySem.W.nsIn K mainGlobals "Clock" = some (some (.ref c_Clock)))
    (pg_Clock : PySem.W.plainGet K c_Clock Str.empty = true)
    (hd_Clock : PySem.W.hasDictIn K c_Clock = true)
    (po_Clock : PySem.W.plainOver K c_Clock = true)
    (sa_Clock : PySem.W.findIn K (.ref c_Clock) "__setattr__" = some (some (.builtin "object.__setattr__")))
    (sf_Clock : PySem.W.selfFirst K c_Clock = true)
    (a_House : PySem.W.nsIn K mainGlobals "House" = some (some (.ref c_House)))
    (pg_House : PySem.W.plainGet K c_House Str.empty = true)
    (hd_House : PySem.W.hasDictIn K c_House = true)
    (po_House : PySem.W.plainOver K c_House = true)
    (sa_House : PySem.W.findIn K (.ref c_House) "__setattr__" = some (some (.builtin "object.__setattr__")))
    (sf_House : PySem.W.selfFirst K c_House = true)
    (a_Needs : PySem.W.nsIn K mainGlobals "Needs" = some (some (.ref c_Needs)))
    (pg_Needs : PySem.W.plainGet K c_Needs Str.empty = true)
    (hd_Needs : PySem.W.hasDictIn K c_Needs = true)
    (po_Needs : PySem.W.plainOver K c_Needs = true)
    (sa_Needs : PySem.W.findIn K (.ref c_Needs) "__setattr__" = some (some (.builtin "object.__setattr__")))
    (sf_Needs : PySem.W.selfFirst K c_Needs = true)
    (n_Clock_kept_stays : PySem.W.findIn K (.ref c_Clock) "kept_stays" = some none)
    (n_Clock_kept_widths : PySem.W.findIn K (.ref c_Clock) "kept_widths" = some none)
    (n_House_own_clock : PySem.W.findIn K (.ref c_House) "own_clock" = some none)
    (n_House_own_doors : PySem.W.findIn K (.ref c_House) "own_doors" = some none)
    (n_House_own_kept : PySem.W.findIn K (.ref c_House) "own_kept" = some none)
    (n_House_own_needs : PySem.W.findIn K (.ref c_House) "own_needs" = some none)
    (n_House_own_rooms : PySem.W.findIn K (.ref c_House) "own_rooms" = some none)
    (n_Needs_kept_row : PySem.W.findIn K (.ref c_Needs) "kept_row" = some none)
    (a__law_bag : PySem.W.nsIn K mainGlobals "_law_bag" = some (some (.ref f__law_bag)))
    (l__law_bag : K.lookup f__law_bag = some ⟨oc__law_bag, od__law_bag, .func (PySem.W.fnOf "_law_bag" "_law_bag" (defArgs s__law_bag) (defBody s__law_bag) (defScope s__law_bag) .none kV__law_bag dc__law_bag pm__law_bag an__law_bag cd__law_bag ct__law_bag), sl__law_bag⟩)
    (c__law_bag : PySem.W.codeIn K cd__law_bag "_law_bag" = true)
    (k__law_bag : PySem.W.keepIn K (.ref f__law_bag) = true)
    (a__law_take : PySem.W.nsIn K mainGlobals "_law_take" = some (some (.ref f__law_take)))
    (l__law_take : K.lookup f__law_take = some ⟨oc__law_take, od__law_take, .func (PySem.W.fnOf "_law_take" "_law_take" (defArgs s__law_take) (defBody s__law_take) (defScope s__law_take) .none kV__law_take dc__law_take pm__law_take an__law_take cd__law_take ct__law_take), sl__law_take⟩)
    (c__law_take : PySem.W.codeIn K cd__law_take "_law_take" = true)
    (k__law_take : PySem.W.keepIn K (.ref f__law_take) = true)
    (a__law_number : PySem.W.nsIn K mainGlobals "_law_number" = some (some (.ref f__law_number)))
    (l__law_number : K.lookup f__law_number = some ⟨oc__law_number, od__law_number, .func (PySem.W.fnOf "_law_number" "_law_number" (defArgs s__law_number) (defBody s__law_number) (defScope s__law_number) .none kV__law_number dc__law_number pm__law_number an__law_number cd__law_number ct__law_number), sl__law_number⟩)
    (c__law_number : PySem.W.codeIn K cd__law_number "_law_number" = true)
    (k__law_number : PySem.W.keepIn K (.ref f__law_number) = true)
    (a__law_numbers : PySem.W.nsIn K mainGlobals "_law_numbers" = some (some (.ref f__law_numbers)))
    (l__law_numbers : K.lookup f__law_numbers = some ⟨oc__law_numbers, od__law_numbers, .func (PySem.W.fnOf "_law_numbers" "_law_numbers" (defArgs s__law_numbers) (defBody s__law_numbers) (defScope s__law_numbers) .none kV__law_numbers dc__law_numbers pm__law_numbers an__law_numbers cd__law_numbers ct__law_numbers), sl__law_numbers⟩)
    (c__law_numbers : PySem.W.codeIn K cd__law_numbers "_law_numbers" = true)
    (k__law_numbers : PySem.W.keepIn K (.ref f__law_numbers) = true)
    (a__law_stays : PySem.W.nsIn K mainGlobals "_law_stays" = some (some (.ref f__law_stays)))
    (l__law_stays : K.lookup f__law_stays = some ⟨oc__law_stays, od__law_stays, .func (PySem.W.fnOf "_law_stays" "_law_stays" (defArgs s__law_stays) (defBody s__law_stays) (defScope s__law_stays) .none kV__law_stays dc__law_stays pm__law_stays an__law_stays cd__law_stays ct__law_stays), sl__law_stays⟩)
    (c__law_stays : PySem.W.codeIn K cd__law_stays "_law_stays" = true)
    (k__law_stays : PySem.W.keepIn K (.ref f__law_stays) = true)
    (a__law_free_world : PySem.W.nsIn K mainGlobals "_law_free_world" = some (some (.ref f__law_free_world)))
    (l__law_free_world : K.lookup f__law_free_world = some ⟨oc__law_free_world, od__law_free_world, .func (PySem.W.fnOf "_law_free_world" "_law_free_world" (defArgs s__law_free_world) (defBody s__law_free_world) (defScope s__law_free_world) .none kV__law_free_world dc__law_free_world pm__law_free_world an__law_free_world cd__law_free_world ct__law_free_world), sl__law_free_world⟩)
    (c__law_free_world : PySem.W.codeIn K cd__law_free_world "_law_free_world" = true)
    (k__law_free_world : PySem.W.keepIn K (.ref f__law_free_world) = true)
    (pa_Needs_hours : PySem.W.findIn K (.ref c_Needs) "hours" = some (some (.ref q_Needs_hours)))
    (pb_Needs_hours : PySem.W.specialIn K (.ref q_Needs_hours) "__get__" = some (some (.builtin "property.__get__")))
    (pc_Needs_hours : PySem.W.takesIn K (.ref q_Needs_hours) = some true)
    (pd_Needs_hours : PySem.W.recIn K q_Needs_hours "property" = some (.ref f_Needs_hours :: rest_Needs_hours))
    (l_Needs_hours : K.lookup f_Needs_hours = some ⟨oc_Needs_hours, od_Needs_hours, .func (PySem.W.fnOf "hours" "Needs.hours" (defArgs s_Needs_hours) (defBody s_Needs_hours) (defScope s_Needs_hours) .none kV_Needs_hours dc_Needs_hours pm_Needs_hours an_Needs_hours cd_Needs_hours ct_Needs_hours), sl_Needs_hours⟩)
    (c_Needs_hours : PySem.W.codeIn K cd_Needs_hours "Needs.hours" = true)
    (k_Needs_hours : PySem.W.keepIn K (.ref f_Needs_hours) = true)
    (pa_Clock_hours : PySem.W.findIn K (.ref c_Clock) "hours" = some (some (.ref q_Clock_hours)))
    (pb_Clock_hours : PySem.W.specialIn K (.ref q_Clock_hours) "__get__" = some (some (.builtin "property.__get__")))
    (pc_Clock_hours : PySem.W.takesIn K (.ref q_Clock_hours) = some true)
    (pd_Clock_hours : PySem.W.recIn K q_Clock_hours "property" = some (.ref f_Clock_hours :: rest_Clock_hours))
    (l_Clock_hours : K.lookup f_Clock_hours = some ⟨oc_Clock_hours, od_Clock_hours, .func (PySem.W.fnOf "hours" "Clock.hours" (defArgs s_Clock_hours) (defBody s_Clock_hours) (defScope s_Clock_hours) .none kV_Clock_hours dc_Clock_hours pm_Clock_hours an_Clock_hours cd_Clock_hours ct_Clock_hours), sl_Clock_hours⟩)
    (c_Clock_hours : PySem.W.codeIn K cd_Clock_hours "Clock.hours" = true)
    (k_Clock_hours : PySem.W.keepIn K (.ref f_Clock_hours) = true)
    (a_is_integer : PySem.W.nsIn K mainGlobals "is_integer" = some (some (.ref f_is_integer)))
    (l_is_integer : K.lookup f_is_integer = some ⟨oc_is_integer, od_is_integer, .func (PySem.W.fnOf "is_integer" "is_integer" (defArgs s_is_integer) (defBody s_is_integer) (defScope s_is_integer) .none kV_is_integer dc_is_integer pm_is_integer an_is_integer cd_is_integer ct_is_integer), sl_is_integer⟩)
    (c_is_integer : PySem.W.codeIn K cd_is_integer "is_integer" = true)
    (k_is_integer : PySem.W.keepIn K (.ref f_is_integer) = true)
    (a_is_count : PySem.W.nsIn K mainGlobals "is_count" = some (some (.ref f_is_count)))
    (l_is_count : K.lookup f_is_count = some ⟨oc_is_count, od_is_count, .func (PySem.W.fnOf "is_count" "is_count" (defArgs s_is_count) (defBody s_is_count) (defScope s_is_count) .none kV_is_count dc_is_count pm_is_count an_is_count cd_is_count ct_is_count), sl_is_count⟩)
    (c_is_count : PySem.W.codeIn K cd_is_count "is_count" = true)
    (k_is_count : PySem.W.keepIn K (.ref f_is_count) = true)
    (a_are_limits : PySem.W.nsIn K mainGlobals "are_limits" = some (some (.ref f_are_limits)))
    (l_are_limits : K.lookup f_are_limits = some ⟨oc_are_limits, od_are_limits, .func (PySem.W.fnOf "are_limits" "are_limits" (defArgs s_are_limits) (defBody s_are_limits) (defScope s_are_limits) .none kV_are_limits dc_are_limits pm_are_limits an_are_limits cd_are_limits ct_are_limits), sl_are_limits⟩)
    (c_are_limits : PySem.W.codeIn K cd_are_limits "are_limits" = true)
    (k_are_limits : PySem.W.keepIn K (.ref f_are_limits) = true)
    (a_are_counts : PySem.W.nsIn K mainGlobals "are_counts" = some (some (.ref f_are_counts)))
    (l_are_counts : K.lookup f_are_counts = some ⟨oc_are_counts, od_are_counts, .func (PySem.W.fnOf "are_counts" "are_counts" (defArgs s_are_counts) (defBody s_are_counts) (defScope s_are_counts) .none kV_are_counts dc_are_counts pm_are_counts an_are_counts cd_are_counts ct_are_counts), sl_are_counts⟩)
    (c_are_counts : PySem.W.codeIn K cd_are_counts "are_counts" = true)
    (k_are_counts : PySem.W.keepIn K (.ref f_are_counts) = true)
    (a_House___init__ : PySem.W.findIn K (.ref c_House) "__init__" = some (some (.ref f_House___init__)))
    (i_House___init__ : PySem.W.isFn K (.ref f_House___init__) = true)
    (mm_House : PySem.W.makesIn K c_House = true)
    (mc_House : PySem.W.keepIn K (.ref c_House) = true)
    (l_House___init__ : K.lookup f_House___init__ = some ⟨oc_House___init__, od_House___init__, .func (PySem.W.fnOf "__init__" "House.__init__" (defArgs s_House___init__) (defBody s_House___init__) (defScope s_House___init__) .none kV_House___init__ dc_House___init__ pm_House___init__ an_House___init__ cd_House___init__ ct_House___init__), sl_House___init__⟩)
    (c_House___init__ : PySem.W.codeIn K cd_House___init__ "House.__init__" = true)
    (k_House___init__ : PySem.W.keepIn K (.ref f_House___init__) = true)
    (a_are_stays : PySem.W.nsIn K mainGlobals "are_stays" = some (some (.ref f_are_stays)))
    (l_are_stays : K.lookup f_are_stays = some ⟨oc_are_stays, od_are_stays, .func (PySem.W.fnOf "are_stays" "are_stays" (defArgs s_are_stays) (defBody s_are_stays) (defScope s_are_stays) .none kV_are_stays dc_are_stays pm_are_stays an_are_stays cd_are_stays ct_are_stays), sl_are_stays⟩)
    (c_are_stays : PySem.W.codeIn K cd_are_stays "are_stays" = true)
    (k_are_stays : PySem.W.keepIn K (.ref f_are_stays) = true)
    (a_need_order : PySem.W.nsIn K mainGlobals "need_order" = some (some (.ref f_need_order)))
    (l_need_order : K.lookup f_need_order = some ⟨oc_need_order, od_need_order, .func (PySem.W.fnOf "need_order" "need_order" (defArgs s_need_order) (defBody s_need_order) (defScope s_need_order) .none kV_need_order dc_need_order pm_need_order an_need_order cd_need_order ct_need_order), sl_need_order⟩)
    (c_need_order : PySem.W.codeIn K cd_need_order "need_order" = true)
    (k_need_order : PySem.W.keepIn K (.ref f_need_order) = true)
    (a_width_of : PySem.W.nsIn K mainGlobals "width_of" = some (some (.ref f_width_of)))
    (l_width_of : K.lookup f_width_of = some ⟨oc_width_of, od_width_of, .func (PySem.W.fnOf "width_of" "width_of" (defArgs s_width_of) (defBody s_width_of) (defScope s_width_of) .none kV_width_of dc_width_of pm_width_of an_width_of cd_width_of ct_width_of), sl_width_of⟩)
    (c_width_of : PySem.W.codeIn K cd_width_of "width_of" = true)
    (k_width_of : PySem.W.keepIn K (.ref f_width_of) = true)
    (a_Clock___init__ : PySem.W.findIn K (.ref c_Clock) "__init__" = some (some (.ref f_Clock___init__)))
    (i_Clock___init__ : PySem.W.isFn K (.ref f_Clock___init__) = true)
    (mm_Clock : PySem.W.makesIn K c_Clock = true)
    (mc_Clock : PySem.W.keepIn K (.ref c_Clock) = true)
    (l_Clock___init__ : K.lookup f_Clock___init__ = some ⟨oc_Clock___init__, od_Clock___init__, .func (PySem.W.fnOf "__init__" "Clock.__init__" (defArgs s_Clock___init__) (defBody s_Clock___init__) (defScope s_Clock___init__) .none kV_Clock___init__ dc_Clock___init__ pm_Clock___init__ an_Clock___init__ cd_Clock___init__ ct_Clock___init__), sl_Clock___init__⟩)
    (c_Clock___init__ : PySem.W.codeIn K cd_Clock___init__ "Clock.__init__" = true)
    (k_Clock___init__ : PySem.W.keepIn K (.ref f_Clock___init__) = true)
    (a_is_row : PySem.W.nsIn K mainGlobals "is_row" = some (some (.ref f_is_row)))
    (l_is_row : K.lookup f_is_row = some ⟨oc_is_row, od_is_row, .func (PySem.W.fnOf "is_row" "is_row" (defArgs s_is_row) (defBody s_is_row) (defScope s_is_row) .none kV_is_row dc_is_row pm_is_row an_is_row cd_is_row ct_is_row), sl_is_row⟩)
    (c_is_row : PySem.W.codeIn K cd_is_row "is_row" = true)
    (k_is_row : PySem.W.keepIn K (.ref f_is_row) = true)
    (a_Needs___init__ : PySem.W.findIn K (.ref c_Needs) "__init__" = some (some (.ref f_Needs___init__)))
    (i_Needs___init__ : PySem.W.isFn K (.ref f_Needs___init__) = true)
    (mm_Needs : PySem.W.makesIn K c_Needs = true)
    (mc_Needs : PySem.W.keepIn K (.ref c_Needs) = true)
    (l_Needs___init__ : K.lookup f_Needs___init__ = some ⟨oc_Needs___init__, od_Needs___init__, .func (PySem.W.fnOf "__init__" "Needs.__init__" (defArgs s_Needs___init__) (defBody s_Needs___init__) (defScope s_Needs___init__) .none kV_Needs___init__ dc_Needs___init__ pm_Needs___init__ an_Needs___init__ cd_Needs___init__ ct_Needs___init__), sl_Needs___init__⟩)
    (c_Needs___init__ : PySem.W.codeIn K cd_Needs___init__ "Needs.__init__" = true)
    (k_Needs___init__ : PySem.W.keepIn K (.ref f_Needs___init__) = true)
    (a__law_made : PySem.W.nsIn K mainGlobals "_law_made" = some (some (.ref f__law_made)))
    (l__law_made : K.lookup f__law_made = some ⟨oc__law_made, od__law_made, .func (PySem.W.fnOf "_law_made" "_law_made" (defArgs s__law_made) (defBody s__law_made) (defScope s__law_made) .none kV__law_made dc__law_made pm__law_made an__law_made cd__law_made ct__law_made), sl__law_made⟩)
    (c__law_made : PySem.W.codeIn K cd__law_made "_law_made" = true)
    (k__law_made : PySem.W.keepIn K (.ref f__law_made) = true)
    (a__law_serving : PySem.W.nsIn K mainGlobals "_law_serving" = some (some (.ref f__law_serving)))
    (l__law_serving : K.lookup f__law_serving = some ⟨oc__law_serving, od__law_serving, .func (PySem.W.fnOf "_law_serving" "_law_serving" (defArgs s__law_serving) (defBody s__law_serving) (defScope s__law_serving) .none kV__law_serving dc__law_serving pm__law_serving an__law_serving cd__law_serving ct__law_serving), sl__law_serving⟩)
    (c__law_serving : PySem.W.codeIn K cd__law_serving "_law_serving" = true)
    (k__law_serving : PySem.W.keepIn K (.ref f__law_serving) = true)
    (a__law_ring_steps : PySem.W.nsIn K mainGlobals "_law_ring_steps" = some (some (.ref f__law_ring_steps)))
    (l__law_ring_steps : K.lookup f__law_ring_steps = some ⟨oc__law_ring_steps, od__law_ring_steps, .func (PySem.W.fnOf "_law_ring_steps" "_law_ring_steps" (defArgs s__law_ring_steps) (defBody s__law_ring_steps) (defScope s__law_ring_steps) .none kV__law_ring_steps dc__law_ring_steps pm__law_ring_steps an__law_ring_steps cd__law_ring_steps ct__law_ring_steps), sl__law_ring_steps⟩)
    (c__law_ring_steps : PySem.W.codeIn K cd__law_ring_steps "_law_ring_steps" = true)
    (k__law_ring_steps : PySem.W.keepIn K (.ref f__law_ring_steps) = true)
    (a_Clock_widths : PySem.W.findIn K (.ref c_Clock) "widths" = some (some (.ref f_Clock_widths)))
    (i_Clock_widths : PySem.W.isFn K (.ref f_Clock_widths) = true)
    (l_Clock_widths : K.lookup f_Clock_widths = some ⟨oc_Clock_widths, od_Clock_widths, .func (PySem.W.fnOf "widths" "Clock.widths" (defArgs s_Clock_widths) (defBody s_Clock_widths) (defScope s_Clock_widths) .none kV_Clock_widths dc_Clock_widths pm_Clock_widths an_Clock_widths cd_Clock_widths ct_Clock_widths), sl_Clock_widths⟩)
    (c_Clock_widths : PySem.W.codeIn K cd_Clock_widths "Clock.widths" = true)
    (k_Clock_widths : PySem.W.keepIn K (.ref f_Clock_widths) = true)
    (pa_House_clock : PySem.W.findIn K (.ref c_House) "clock" = some (some (.ref q_House_clock)))
    (pb_House_clock : PySem.W.specialIn K (.ref q_House_clock) "__get__" = some (some (.builtin "property.__get__")))
    (pc_House_clock : PySem.W.takesIn K (.ref q_House_clock) = some true)
    (pd_House_clock : PySem.W.recIn K q_House_clock "property" = some (.ref f_House_clock :: rest_House_clock))
    (l_House_clock : K.lookup f_House_clock = some ⟨oc_House_clock, od_House_clock, .func (PySem.W.fnOf "clock" "House.clock" (defArgs s_House_clock) (defBody s_House_clock) (defScope s_House_clock) .none kV_House_clock dc_House_clock pm_House_clock an_House_clock cd_House_clock ct_House_clock), sl_House_clock⟩)
    (c_House_clock : PySem.W.codeIn K cd_House_clock "House.clock" = true)
    (k_House_clock : PySem.W.keepIn K (.ref f_House_clock) = true)
    (pa_House_hours : PySem.W.findIn K (.ref c_House) "hours" = some (some (.ref q_House_hours)))
    (pb_House_hours : PySem.W.specialIn K (.ref q_House_hours) "__get__" = some (some (.builtin "property.__get__")))
    (pc_House_hours : PySem.W.takesIn K (.ref q_House_hours) = some true)
    (pd_House_hours : PySem.W.recIn K q_House_hours "property" = some (.ref f_House_hours :: rest_House_hours))
    (l_House_hours : K.lookup f_House_hours = some ⟨oc_House_hours, od_House_hours, .func (PySem.W.fnOf "hours" "House.hours" (defArgs s_House_hours) (defBody s_House_hours) (defScope s_House_hours) .none kV_House_hours dc_House_hours pm_House_hours an_House_hours cd_House_hours ct_House_hours), sl_House_hours⟩)
    (c_House_hours : PySem.W.codeIn K cd_House_hours "House.hours" = true)
    (k_House_hours : PySem.W.keepIn K (.ref f_House_hours) = true)
    (a_ring_way : PySem.W.nsIn K mainGlobals "ring_way" = some (some (.ref f_ring_way)))
    (l_ring_way : K.lookup f_ring_way = some ⟨oc_ring_way, od_ring_way, .func (PySem.W.fnOf "ring_way" "ring_way" (defArgs s_ring_way) (defBody s_ring_way) (defScope s_ring_way) .none kV_ring_way dc_ring_way pm_ring_way an_ring_way cd_ring_way ct_ring_way), sl_ring_way⟩)
    (c_ring_way : PySem.W.codeIn K cd_ring_way "ring_way" = true)
    (k_ring_way : PySem.W.keepIn K (.ref f_ring_way) = true)
    (a__law_alike : PySem.W.nsIn K mainGlobals "_law_alike" = some (some (.ref f__law_alike)))
    (l__law_alike : K.lookup f__law_alike = some ⟨oc__law_alike, od__law_alike, .func (PySem.W.fnOf "_law_alike" "_law_alike" (defArgs s__law_alike) (defBody s__law_alike) (defScope s__law_alike) .none kV__law_alike dc__law_alike pm__law_alike an__law_alike cd__law_alike ct__law_alike), sl__law_alike⟩)
    (c__law_alike : PySem.W.codeIn K cd__law_alike "_law_alike" = true)
    (k__law_alike : PySem.W.keepIn K (.ref f__law_alike) = true)
    (a__law_row : PySem.W.nsIn K mainGlobals "_law_row" = some (some (.ref f__law_row)))
    (l__law_row : K.lookup f__law_row = some ⟨oc__law_row, od__law_row, .func (PySem.W.fnOf "_law_row" "_law_row" (defArgs s__law_row) (defBody s__law_row) (defScope s__law_row) .none kV__law_row dc__law_row pm__law_row an__law_row cd__law_row ct__law_row), sl__law_row⟩)
    (c__law_row : PySem.W.codeIn K cd__law_row "_law_row" = true)
    (k__law_row : PySem.W.keepIn K (.ref f__law_row) = true)
    (a__law_measure : PySem.W.nsIn K mainGlobals "_law_measure" = some (some (.ref f__law_measure)))
    (l__law_measure : K.lookup f__law_measure = some ⟨oc__law_measure, od__law_measure, .func (PySem.W.fnOf "_law_measure" "_law_measure" (defArgs s__law_measure) (defBody s__law_measure) (defScope s__law_measure) .none kV__law_measure dc__law_measure pm__law_measure an__law_measure cd__law_measure ct__law_measure), sl__law_measure⟩)
    (c__law_measure : PySem.W.codeIn K cd__law_measure "_law_measure" = true)
    (k__law_measure : PySem.W.keepIn K (.ref f__law_measure) = true)
    (a__law_rows : PySem.W.nsIn K mainGlobals "_law_rows" = some (some (.ref f__law_rows)))
    (l__law_rows : K.lookup f__law_rows = some ⟨oc__law_rows, od__law_rows, .func (PySem.W.fnOf "_law_rows" "_law_rows" (defArgs s__law_rows) (defBody s__law_rows) (defScope s__law_rows) .none kV__law_rows dc__law_rows pm__law_rows an__law_rows cd__law_rows ct__law_rows), sl__law_rows⟩)
    (c__law_rows : PySem.W.codeIn K cd__law_rows "_law_rows" = true)
    (k__law_rows : PySem.W.keepIn K (.ref f__law_rows) = true)
    (a__law_is_way : PySem.W.nsIn K mainGlobals "_law_is_way" = some (some (.ref f__law_is_way)))
    (l__law_is_way : K.lookup f__law_is_way = some ⟨oc__law_is_way, od__law_is_way, .func (PySem.W.fnOf "_law_is_way" "_law_is_way" (defArgs s__law_is_way) (defBody s__law_is_way) (defScope s__law_is_way) .none kV__law_is_way dc__law_is_way pm__law_is_way an__law_is_way cd__law_is_way ct__law_is_way), sl__law_is_way⟩)
    (c__law_is_way : PySem.W.codeIn K cd__law_is_way "_law_is_way" = true)
    (k__law_is_way : PySem.W.keepIn K (.ref f__law_is_way) = true)
    (a_is_hour : PySem.W.nsIn K mainGlobals "is_hour" = some (some (.ref f_is_hour)))
    (l_is_hour : K.lookup f_is_hour = some ⟨oc_is_hour, od_is_hour, .func (PySem.W.fnOf "is_hour" "is_hour" (defArgs s_is_hour) (defBody s_is_hour) (defScope s_is_hour) .none kV_is_hour dc_is_hour pm_is_hour an_is_hour cd_is_hour ct_is_hour), sl_is_hour⟩)
    (c_is_hour : PySem.W.codeIn K cd_is_hour "is_hour" = true)
    (k_is_hour : PySem.W.keepIn K (.ref f_is_hour) = true)
    (a_Needs___getitem__ : PySem.W.findIn K (.ref c_Needs) "__getitem__" = some (some (.ref f_Needs___getitem__)))
    (i_Needs___getitem__ : PySem.W.isFn K (.ref f_Needs___getitem__) = true)
    (fi_Needs___getitem__ : PySem.W.fnIn K f_Needs___getitem__ = true)
    (l_Needs___getitem__ : K.lookup f_Needs___getitem__ = some ⟨oc_Needs___getitem__, od_Needs___getitem__, .func (PySem.W.fnOf "__getitem__" "Needs.__getitem__" (defArgs s_Needs___getitem__) (defBody s_Needs___getitem__) (defScope s_Needs___getitem__) .none kV_Needs___getitem__ dc_Needs___getitem__ pm_Needs___getitem__ an_Needs___getitem__ cd_Needs___getitem__ ct_Needs___getitem__), sl_Needs___getitem__⟩)
    (c_Needs___getitem__ : PySem.W.codeIn K cd_Needs___getitem__ "Needs.__getitem__" = true)
    (k_Needs___getitem__ : PySem.W.keepIn K (.ref f_Needs___getitem__) = true)
    (a_House_limit_of : PySem.W.findIn K (.ref c_House) "limit_of" = some (some (.ref f_House_limit_of)))
    (i_House_limit_of : PySem.W.isFn K (.ref f_House_limit_of) = true)
    (l_House_limit_of : K.lookup f_House_limit_of = some ⟨oc_House_limit_of, od_House_limit_of, .func (PySem.W.fnOf "limit_of" "House.limit_of" (defArgs s_House_limit_of) (defBody s_House_limit_of) (defScope s_House_limit_of) .none kV_House_limit_of dc_House_limit_of pm_House_limit_of an_House_limit_of cd_House_limit_of ct_House_limit_of), sl_House_limit_of⟩)
    (c_House_limit_of : PySem.W.codeIn K cd_House_limit_of "House.limit_of" = true)
    (k_House_limit_of : PySem.W.keepIn K (.ref f_House_limit_of) = true)
    (a_is_step : PySem.W.nsIn K mainGlobals "is_step" = some (some (.ref f_is_step)))
    (l_is_step : K.lookup f_is_step = some ⟨oc_is_step, od_is_step, .func (PySem.W.fnOf "is_step" "is_step" (defArgs s_is_step) (defBody s_is_step) (defScope s_is_step) .none kV_is_step dc_is_step pm_is_step an_is_step cd_is_step ct_is_step), sl_is_step⟩)
    (c_is_step : PySem.W.codeIn K cd_is_step "is_step" = true)
    (k_is_step : PySem.W.keepIn K (.ref f_is_step) = true)
    (a_Clock_width_at : PySem.W.findIn K (.ref c_Clock) "width_at" = some (some (.ref f_Clock_width_at)))
    (i_Clock_width_at : PySem.W.isFn K (.ref f_Clock_width_at) = true)
    (l_Clock_width_at : K.lookup f_Clock_width_at = some ⟨oc_Clock_width_at, od_Clock_width_at, .func (PySem.W.fnOf "width_at" "Clock.width_at" (defArgs s_Clock_width_at) (defBody s_Clock_width_at) (defScope s_Clock_width_at) .none kV_Clock_width_at dc_Clock_width_at pm_Clock_width_at an_Clock_width_at cd_Clock_width_at ct_Clock_width_at), sl_Clock_width_at⟩)
    (c_Clock_width_at : PySem.W.codeIn K cd_Clock_width_at "Clock.width_at" = true)
    (k_Clock_width_at : PySem.W.keepIn K (.ref f_Clock_width_at) = true)
    (a_forward : PySem.W.nsIn K mainGlobals "forward" = some (some (.ref f_forward)))
    (l_forward : K.lookup f_forward = some ⟨oc_forward, od_forward, .func (PySem.W.fnOf "forward" "forward" (defArgs s_forward) (defBody s_forward) (defScope s_forward) .none kV_forward dc_forward pm_forward an_forward cd_forward ct_forward), sl_forward⟩)
    (c_forward : PySem.W.codeIn K cd_forward "forward" = true)
    (k_forward : PySem.W.keepIn K (.ref f_forward) = true)
    (a_told : PySem.W.nsIn K mainGlobals "told" = some (some (.ref f_told)))
    (l_told : K.lookup f_told = some ⟨oc_told, od_told, .func (PySem.W.fnOf "told" "told" (defArgs s_told) (defBody s_told) (defScope s_told) .none kV_told dc_told pm_told an_told cd_told ct_told), sl_told⟩)
    (c_told : PySem.W.codeIn K cd_told "told" = true)
    (k_told : PySem.W.keepIn K (.ref f_told) = true)
    (a_is_way : PySem.W.nsIn K mainGlobals "is_way" = some (some (.ref f_is_way)))
    (l_is_way : K.lookup f_is_way = some ⟨oc_is_way, od_is_way, .func (PySem.W.fnOf "is_way" "is_way" (defArgs s_is_way) (defBody s_is_way) (defScope s_is_way) .none kV_is_way dc_is_way pm_is_way an_is_way cd_is_way ct_is_way), sl_is_way⟩)
    (c_is_way : PySem.W.codeIn K cd_is_way "is_way" = true)
    (k_is_way : PySem.W.keepIn K (.ref f_is_way) = true)
    (a_turns : PySem.W.nsIn K mainGlobals "turns" = some (some (.ref f_turns)))
    (l_turns : K.lookup f_turns = some ⟨oc_turns, od_turns, .func (PySem.W.fnOf "turns" "turns" (defArgs s_turns) (defBody s_turns) (defScope s_turns) .none kV_turns dc_turns pm_turns an_turns cd_turns ct_turns), sl_turns⟩)
    (c_turns : PySem.W.codeIn K cd_turns "turns" = true)
    (k_turns : PySem.W.keepIn K (.ref f_turns) = true)
    (a_value : PySem.W.nsIn K mainGlobals "value" = some (some (.ref f_value)))
    (l_value : K.lookup f_value = some ⟨oc_value, od_value, .func (PySem.W.fnOf "value" "value" (defArgs s_value) (defBody s_value) (defScope s_value) .none kV_value dc_value pm_value an_value cd_value ct_value), sl_value⟩)
    (c_value : PySem.W.codeIn K cd_value "value" = true)
    (k_value : PySem.W.keepIn K (.ref f_value) = true)
    (a_step_hours : PySem.W.nsIn K mainGlobals "step_hours" = some (some (.ref f_step_hours)))
    (l_step_hours : K.lookup f_step_hours = some ⟨oc_step_hours, od_step_hours, .func (PySem.W.fnOf "step_hours" "step_hours" (defArgs s_step_hours) (defBody s_step_hours) (defScope s_step_hours) .none kV_step_hours dc_step_hours pm_step_hours an_step_hours cd_step_hours ct_step_hours), sl_step_hours⟩)
    (c_step_hours : PySem.W.codeIn K cd_step_hours "step_hours" = true)
    (k_step_hours : PySem.W.keepIn K (.ref f_step_hours) = true)
    (a_winds : PySem.W.nsIn K mainGlobals "winds" = some (some (.ref f_winds)))
    (l_winds : K.lookup f_winds = some ⟨oc_winds, od_winds, .func (PySem.W.fnOf "winds" "winds" (defArgs s_winds) (defBody s_winds) (defScope s_winds) .none kV_winds dc_winds pm_winds an_winds cd_winds ct_winds), sl_winds⟩)
    (c_winds : PySem.W.codeIn K cd_winds "winds" = true)
    (k_winds : PySem.W.keepIn K (.ref f_winds) = true)
    (a_law : PySem.W.nsIn K mainGlobals "law" = some (some (.ref f_law)))
    (l_law : K.lookup f_law = some ⟨oc_law, od_law, .func (PySem.W.fnOf "law" "law" (defArgs s_law) (defBody s_law) (defScope s_law) .none kV_law dc_law pm_law an_law cd_law ct_law), sl_law⟩)
    (c_law : PySem.W.codeIn K cd_law "law" = true)
    (k_law : PySem.W.keepIn K (.ref f_law) = true)
    (z_abs : PySem.W.nsIn K mainGlobals "abs" = some none)
    (z_all : PySem.W.nsIn K mainGlobals "all" = some none)
    (z_bool : PySem.W.nsIn K mainGlobals "bool" = some none)
    (z_enumerate : PySem.W.nsIn K mainGlobals "enumerate" = some none)
    (z_int : PySem.W.nsIn K mainGlobals "int" = some none)
    (z_isinstance : PySem.W.nsIn K mainGlobals "isinstance" = some none)
    (z_len : PySem.W.nsIn K mainGlobals "len" = some none)
    (z_list : PySem.W.nsIn K mainGlobals "list" = some none)
    (z_min : PySem.W.nsIn K mainGlobals "min" = some none)
    (z_range : PySem.W.nsIn K mainGlobals "range" = some none)
    (z_repr : PySem.W.nsIn K mainGlobals "repr" = some none)
    (z_str : PySem.W.nsIn K mainGlobals "str" = some none)
    (z_sum : PySem.W.nsIn K mainGlobals "sum" = some none)
    (z_tuple : PySem.W.nsIn K mainGlobals "tuple" = some none)
    (z_zip : PySem.W.nsIn K mainGlobals "zip" = some none)
    (k_MOST_HOURS : PySem.W.nsIn K mainGlobals "MOST_HOURS" = some (some (.int 48 t_MOST_HOURS)))
    (ka_WORDS : PySem.W.nsIn K mainGlobals "WORDS" = some (some (.ref k_WORDS)))
    (kb_WORDS : Wx.KTup K k_WORDS [("need" : Str), ("room" : Str), ("keep" : Str), ("door" : Str)])
    (ia_Clock : PySem.W.findIn K (.ref c_Clock) "__class__" = some (some (.builtin "object.__class__")))
    (gn_obj : PySem.W.specialIn K (.builtin "object.__class__") "__get__" = some (some (.builtin "getset_descriptor.__get__")))
    (tk_obj : PySem.W.takesIn K (.builtin "object.__class__") = some true)
    (im_Clock : PySem.W.mroIn K c_Clock (.type "object") = some true)
    (ia_Needs : PySem.W.findIn K (.ref c_Needs) "__class__" = some (some (.builtin "object.__class__")))
    (im_Needs : PySem.W.mroIn K c_Needs (.type "object") = some true) :
    ∀ base : Heap, K.In base → base.Ns mainGlobals mg → OkP NoG P w K mg base 9 fa ["_law_script"] (fun vs H Q E => spLaw K vs H Q E) := by
  have e := hfa.symm.trans (PySem.W.mg_of X G a_law)
  cases e
  have T : Tx K mg ⟨c_Clock, c_House, c_Needs, f__law_bag, f__law_take, f__law_number, f__law_numbers, f__law_stays, f__law_free_world, f_Needs_hours, q_Needs_hours, f_Clock_hours, q_Clock_hours, f_is_integer, f_is_count, f_are_limits, f_are_counts, f_House___init__, f_are_stays, f_need_order, f_width_of, f_Clock___init__, f_is_row, f_Needs___init__, f__law_made, f__law_serving, f__law_ring_steps, f_Clock_widths, f_House_clock, q_House_clock, f_House_hours, q_House_hours, f_ring_way, f__law_alike, f__law_row, f__law_measure, f__law_rows, f__law_is_way, f_is_hour, f_Needs___getitem__, f_House_limit_of, f_is_step, f_Clock_width_at, f_forward, f_told, f_is_way, f_turns, f_value, f_step_hours, f_winds, fa, k_WORDS⟩ := {
    g_Clock := PySem.W.mg_of X G a_Clock,
    cl_Clock := ⟨pg_Clock, hd_Clock, po_Clock, sa_Clock⟩,
    sf_Clock := sf_Clock,
    g_House := PySem.W.mg_of X G a_House,
    cl_House := ⟨pg_House, hd_House, po_House, sa_House⟩,
    sf_House := sf_House,
    g_Needs := PySem.W.mg_of X G a_Needs,
    cl_Needs := ⟨pg_Needs, hd_Needs, po_Needs, sa_Needs⟩,
    sf_Needs := sf_Needs,
    n_Clock_kept_stays := n_Clock_kept_stays,
    n_Clock_kept_widths := n_Clock_kept_widths,
    n_House_own_clock := n_House_own_clock,
    n_House_own_doors := n_House_own_doors,
    n_House_own_kept := n_House_own_kept,
    n_House_own_needs := n_House_own_needs,
    n_House_own_rooms := n_House_own_rooms,
    n_Needs_kept_row := n_Needs_kept_row,
    g__law_bag := PySem.W.mg_of X G a__law_bag,
    d__law_bag := ⟨_, fun_mk l__law_bag c__law_bag k__law_bag, (fun_mk (st := s__law_bag) l__law_bag c__law_bag k__law_bag).binds (ps := ["_law_script"]) fun _ _ _ _ _ _ us hl => match us, hl with | [_], _ => rfl⟩,
    g__law_take := PySem.W.mg_of X G a__law_take,
    d__law_take := ⟨_, fun_mk l__law_take c__law_take k__law_take, (fun_mk (st := s__law_take) l__law_take c__law_take k__law_take).binds (ps := ["_law_bag_here", "_law_upto"]) fun _ _ _ _ _ _ us hl => match us, hl with | [_, _], _ => rfl⟩,
    g__law_number := PySem.W.mg_of X G a__law_number,
    d__law_number := ⟨_, fun_mk l__law_number c__law_number k__law_number, (fun_mk (st := s__law_number) l__law_number c__law_number k__law_number).binds (ps := ["_law_bag_here"]) fun _ _ _ _ _ _ us hl => match us, hl with | [_], _ => rfl⟩,
    g__law_numbers := PySem.W.mg_of X G a__law_numbers,
    d__law_numbers := ⟨_, fun_mk l__law_numbers c__law_numbers k__law_numbers, (fun_mk (st := s__law_numbers) l__law_numbers c__law_numbers k__law_numbers).binds (ps := ["_law_bag_here", "_law_many"]) fun _ _ _ _ _ _ us hl => match us, hl with | [_, _], _ => rfl⟩,
    g__law_stays := PySem.W.mg_of X G a__law_stays,
    d__law_stays := ⟨_, fun_mk l__law_stays c__law_stays k__law_stays, (fun_mk (st := s__law_stays) l__law_stays c__law_stays k__law_stays).binds (ps := ["_law_bag_here", "_law_many"]) fun _ _ _ _ _ _ us hl => match us, hl with | [_, _], _ => rfl⟩,
    g__law_free_world := PySem.W.mg_of X G a__law_free_world,
    d__law_free_world := ⟨_, fun_mk l__law_free_world c__law_free_world k__law_free_world, (fun_mk (st := s__law_free_world) l__law_free_world c__law_free_world k__law_free_world).binds (ps := ["_law_bag_here", "_law_many"]) fun _ _ _ _ _ _ us hl => match us, hl with | [_, _], _ => rfl⟩,
    p_Needs_hours := ⟨pa_Needs_hours, pb_Needs_hours, pc_Needs_hours, ⟨_, pd_Needs_hours⟩⟩,
    d_Needs_hours := ⟨_, fun_mk l_Needs_hours c_Needs_hours k_Needs_hours, (fun_mk (st := s_Needs_hours) l_Needs_hours c_Needs_hours k_Needs_hours).binds (ps := ["self"]) fun _ _ _ _ _ _ us hl => match us, hl with | [_], _ => rfl⟩,
    p_Clock_hours := ⟨pa_Clock_hours, pb_Clock_hours, pc_Clock_hours, ⟨_, pd_Clock_hours⟩⟩,
    d_Clock_hours := ⟨_, fun_mk l_Clock_hours c_Clock_hours k_Clock_hours, (fun_mk (st := s_Clock_hours) l_Clock_hours c_Clock_hours k_Clock_hours).binds (ps := ["self"]) fun _ _ _ _ _ _ us hl => match us, hl with | [_], _ => rfl⟩,
    g_is_integer := PySem.W.mg_of X G a_is_integer,
    d_is_integer := ⟨_, fun_mk l_is_integer c_is_integer k_is_integer, (fun_mk (st := s_is_integer) l_is_integer c_is_integer k_is_integer).binds (ps := ["thing"]) fun _ _ _ _ _ _ us hl => match us, hl with | [_], _ => rfl⟩,
    g_is_count := PySem.W.mg_of X G a_is_count,
    d_is_count := ⟨_, fun_mk l_is_count c_is_count k_is_count, (fun_mk (st := s_is_count) l_is_count c_is_count k_is_count).binds (ps := ["thing"]) fun _ _ _ _ _ _ us hl => match us, hl with | [_], _ => rfl⟩,
    g_are_limits := PySem.W.mg_of X G a_are_limits,
    d_are_limits := ⟨_, fun_mk l_are_limits c_are_limits k_are_limits, (fun_mk (st := s_are_limits) l_are_limits c_are_limits k_are_limits).binds (ps := ["hours", "thing"]) fun _ _ _ _ _ _ us hl => match us, hl with | [_, _], _ => rfl⟩,
    g_are_counts := PySem.W.mg_of X G a_are_counts,
    d_are_counts := ⟨_, fun_mk l_are_counts c_are_counts k_are_counts, (fun_mk (st := s_are_counts) l_are_counts c_are_counts k_are_counts).binds (ps := ["hours", "thing"]) fun _ _ _ _ _ _ us hl => match us, hl with | [_, _], _ => rfl⟩,
    mk_House := ⟨mm_House, a_House___init__, i_House___init__, mc_House⟩,
    dk_House___init__ := ⟨_, fun_mk l_House___init__ c_House___init__ k_House___init__, ⟨fun _ us ws _ h1 h2 => match us, ws, h1, h2 with | [_, _, _], [_, _, _], _, _ => .of_eq rfl, fun r1 r2 => r1.append r2⟩⟩,
    g_are_stays := PySem.W.mg_of X G a_are_stays,
    d_are_stays := ⟨_, fun_mk l_are_stays c_are_stays k_are_stays, (fun_mk (st := s_are_stays) l_are_stays c_are_stays k_are_stays).binds (ps := ["thing"]) fun _ _ _ _ _ _ us hl => match us, hl with | [_], _ => rfl⟩,
    g_need_order := PySem.W.mg_of X G a_need_order,
    d_need_order := ⟨_, fun_mk l_need_order c_need_order k_need_order, (fun_mk (st := s_need_order) l_need_order c_need_order k_need_order).binds (ps := ["stays"]) fun _ _ _ _ _ _ us hl => match us, hl with | [_], _ => rfl⟩,
    g_width_of := PySem.W.mg_of X G a_width_of,
    d_width_of := ⟨_, fun_mk l_width_of c_width_of k_width_of, (fun_mk (st := s_width_of) l_width_of c_width_of k_width_of).binds (ps := ["stays", "hour"]) fun _ _ _ _ _ _ us hl => match us, hl with | [_, _], _ => rfl⟩,
    mk_Clock := ⟨mm_Clock, a_Clock___init__, i_Clock___init__, mc_Clock⟩,
    d_Clock___init__ := ⟨_, fun_mk l_Clock___init__ c_Clock___init__ k_Clock___init__, (fun_mk (st := s_Clock___init__) l_Clock___init__ c_Clock___init__ k_Clock___init__).binds (ps := ["self", "stays"]) fun _ _ _ _ _ _ us hl => match us, hl with | [_, _], _ => rfl⟩,
    g_is_row := PySem.W.mg_of X G a_is_row,
    d_is_row := ⟨_, fun_mk l_is_row c_is_row k_is_row, (fun_mk (st := s_is_row) l_is_row c_is_row k_is_row).binds (ps := ["thing"]) fun _ _ _ _ _ _ us hl => match us, hl with | [_], _ => rfl⟩,
    mk_Needs := ⟨mm_Needs, a_Needs___init__, i_Needs___init__, mc_Needs⟩,
    d_Needs___init__ := ⟨_, fun_mk l_Needs___init__ c_Needs___init__ k_Needs___init__, (fun_mk (st := s_Needs___init__) l_Needs___init__ c_Needs___init__ k_Needs___init__).binds (ps := ["self", "row"]) fun _ _ _ _ _ _ us hl => match us, hl with | [_, _], _ => rfl⟩,
    g__law_made := PySem.W.mg_of X G a__law_made,
    d__law_made := ⟨_, fun_mk l__law_made c__law_made k__law_made, (fun_mk (st := s__law_made) l__law_made c__law_made k__law_made).binds (ps := ["_law_world"]) fun _ _ _ _ _ _ us hl => match us, hl with | [_], _ => rfl⟩,
    g__law_serving := PySem.W.mg_of X G a__law_serving,
    d__law_serving := ⟨_, fun_mk l__law_serving c__law_serving k__law_serving, (fun_mk (st := s__law_serving) l__law_serving c__law_serving k__law_serving).binds (ps := ["_law_stays_here", "_law_hour"]) fun _ _ _ _ _ _ us hl => match us, hl with | [_, _], _ => rfl⟩,
    g__law_ring_steps := PySem.W.mg_of X G a__law_ring_steps,
    d__law_ring_steps := ⟨_, fun_mk l__law_ring_steps c__law_ring_steps k__law_ring_steps, (fun_mk (st := s__law_ring_steps) l__law_ring_steps c__law_ring_steps k__law_ring_steps).binds (ps := ["_law_stays_here", "_law_ring"]) fun _ _ _ _ _ _ us hl => match us, hl with | [_, _], _ => rfl⟩,
    m_Clock_widths := ⟨a_Clock_widths, i_Clock_widths, k_Clock_widths⟩,
    d_Clock_widths := ⟨_, fun_mk l_Clock_widths c_Clock_widths k_Clock_widths, (fun_mk (st := s_Clock_widths) l_Clock_widths c_Clock_widths k_Clock_widths).binds (ps := ["self"]) fun _ _ _ _ _ _ us hl => match us, hl with | [_], _ => rfl⟩,
    p_House_clock := ⟨pa_House_clock, pb_House_clock, pc_House_clock, ⟨_, pd_House_clock⟩⟩,
    d_House_clock := ⟨_, fun_mk l_House_clock c_House_clock k_House_clock, (fun_mk (st := s_House_clock) l_House_clock c_House_clock k_House_clock).binds (ps := ["self"]) fun _ _ _ _ _ _ us hl => match us, hl with | [_], _ => rfl⟩,
    p_House_hours := ⟨pa_House_hours, pb_House_hours, pc_House_hours, ⟨_, pd_House_hours⟩⟩,
    d_House_hours := ⟨_, fun_mk l_House_hours c_House_hours k_House_hours, (fun_mk (st := s_House_hours) l_House_hours c_House_hours k_House_hours).binds (ps := ["self"]) fun _ _ _ _ _ _ us hl => match us, hl with | [_], _ => rfl⟩,
    g_ring_way := PySem.W.mg_of X G a_ring_way,
    d_ring_way := ⟨_, fun_mk l_ring_way c_ring_way k_ring_way, (fun_mk (st := s_ring_way) l_ring_way c_ring_way k_ring_way).binds (ps := ["house", "ring"]) fun _ _ _ _ _ _ us hl => match us, hl with | [_, _], _ => rfl⟩,
    g__law_alike := PySem.W.mg_of X G a__law_alike,
    d__law_alike := ⟨_, fun_mk l__law_alike c__law_alike k__law_alike, (fun_mk (st := s__law_alike) l__law_alike c__law_alike k__law_alike).binds (ps := ["_law_found", "_law_due"]) fun _ _ _ _ _ _ us hl => match us, hl with | [_, _], _ => rfl⟩,
    g__law_row := PySem.W.mg_of X G a__law_row,
    d__law_row := ⟨_, fun_mk l__law_row c__law_row k__law_row, (fun_mk (st := s__law_row) l__law_row c__law_row k__law_row).binds (ps := ["_law_world", "_law_row_here"]) fun _ _ _ _ _ _ us hl => match us, hl with | [_, _], _ => rfl⟩,
    g__law_measure := PySem.W.mg_of X G a__law_measure,
    d__law_measure := ⟨_, fun_mk l__law_measure c__law_measure k__law_measure, (fun_mk (st := s__law_measure) l__law_measure c__law_measure k__law_measure).binds (ps := ["_law_world", "_law_way"]) fun _ _ _ _ _ _ us hl => match us, hl with | [_, _], _ => rfl⟩,
    g__law_rows := PySem.W.mg_of X G a__law_rows,
    d__law_rows := ⟨_, fun_mk l__law_rows c__law_rows k__law_rows, (fun_mk (st := s__law_rows) l__law_rows c__law_rows k__law_rows).binds (ps := ["_law_world"]) fun _ _ _ _ _ _ us hl => match us, hl with | [_], _ => rfl⟩,
    g__law_is_way := PySem.W.mg_of X G a__law_is_way,
    d__law_is_way := ⟨_, fun_mk l__law_is_way c__law_is_way k__law_is_way, (fun_mk (st := s__law_is_way) l__law_is_way c__law_is_way k__law_is_way).binds (ps := ["_law_world", "_law_thing"]) fun _ _ _ _ _ _ us hl => match us, hl with | [_, _], _ => rfl⟩,
    g_is_hour := PySem.W.mg_of X G a_is_hour,
    d_is_hour := ⟨_, fun_mk l_is_hour c_is_hour k_is_hour, (fun_mk (st := s_is_hour) l_is_hour c_is_hour k_is_hour).binds (ps := ["hours", "thing"]) fun _ _ _ _ _ _ us hl => match us, hl with | [_, _], _ => rfl⟩,
    m_Needs___getitem__ := ⟨a_Needs___getitem__, i_Needs___getitem__, k_Needs___getitem__⟩,
    fi_Needs___getitem__ := fi_Needs___getitem__,
    d_Needs___getitem__ := ⟨_, fun_mk l_Needs___getitem__ c_Needs___getitem__ k_Needs___getitem__, (fun_mk (st := s_Needs___getitem__) l_Needs___getitem__ c_Needs___getitem__ k_Needs___getitem__).binds (ps := ["self", "hour"]) fun _ _ _ _ _ _ us hl => match us, hl with | [_, _], _ => rfl⟩,
    m_House_limit_of := ⟨a_House_limit_of, i_House_limit_of, k_House_limit_of⟩,
    d_House_limit_of := ⟨_, fun_mk l_House_limit_of c_House_limit_of k_House_limit_of, (fun_mk (st := s_House_limit_of) l_House_limit_of c_House_limit_of k_House_limit_of).binds (ps := ["self", "word", "hour"]) fun _ _ _ _ _ _ us hl => match us, hl with | [_, _, _], _ => rfl⟩,
    g_is_step := PySem.W.mg_of X G a_is_step,
    d_is_step := ⟨_, fun_mk l_is_step c_is_step k_is_step, (fun_mk (st := s_is_step) l_is_step c_is_step k_is_step).binds (ps := ["house", "thing"]) fun _ _ _ _ _ _ us hl => match us, hl with | [_, _], _ => rfl⟩,
    m_Clock_width_at := ⟨a_Clock_width_at, i_Clock_width_at, k_Clock_width_at⟩,
    d_Clock_width_at := ⟨_, fun_mk l_Clock_width_at c_Clock_width_at k_Clock_width_at, (fun_mk (st := s_Clock_width_at) l_Clock_width_at c_Clock_width_at k_Clock_width_at).binds (ps := ["self", "hour"]) fun _ _ _ _ _ _ us hl => match us, hl with | [_, _], _ => rfl⟩,
    g_forward := PySem.W.mg_of X G a_forward,
    d_forward := ⟨_, fun_mk l_forward c_forward k_forward, (fun_mk (st := s_forward) l_forward c_forward k_forward).binds (ps := ["house", "step"]) fun _ _ _ _ _ _ us hl => match us, hl with | [_, _], _ => rfl⟩,
    g_told := PySem.W.mg_of X G a_told,
    d_told := ⟨_, fun_mk l_told c_told k_told, (fun_mk (st := s_told) l_told c_told k_told).binds (ps := ["house", "step"]) fun _ _ _ _ _ _ us hl => match us, hl with | [_, _], _ => rfl⟩,
    g_is_way := PySem.W.mg_of X G a_is_way,
    d_is_way := ⟨_, fun_mk l_is_way c_is_way k_is_way, (fun_mk (st := s_is_way) l_is_way c_is_way k_is_way).binds (ps := ["house", "thing"]) fun _ _ _ _ _ _ us hl => match us, hl with | [_, _], _ => rfl⟩,
    g_turns := PySem.W.mg_of X G a_turns,
    d_turns := ⟨_, fun_mk l_turns c_turns k_turns, (fun_mk (st := s_turns) l_turns c_turns k_turns).binds (ps := ["house", "way"]) fun _ _ _ _ _ _ us hl => match us, hl with | [_, _], _ => rfl⟩,
    g_value := PySem.W.mg_of X G a_value,
    d_value := ⟨_, fun_mk l_value c_value k_value, (fun_mk (st := s_value) l_value c_value k_value).binds (ps := ["house", "way"]) fun _ _ _ _ _ _ us hl => match us, hl with | [_, _], _ => rfl⟩,
    g_step_hours := PySem.W.mg_of X G a_step_hours,
    d_step_hours := ⟨_, fun_mk l_step_hours c_step_hours k_step_hours, (fun_mk (st := s_step_hours) l_step_hours c_step_hours k_step_hours).binds (ps := ["clock", "hour", "later"]) fun _ _ _ _ _ _ us hl => match us, hl with | [_, _, _], _ => rfl⟩,
    g_winds := PySem.W.mg_of X G a_winds,
    d_winds := ⟨_, fun_mk l_winds c_winds k_winds, (fun_mk (st := s_winds) l_winds c_winds k_winds).binds (ps := ["clock", "ring"]) fun _ _ _ _ _ _ us hl => match us, hl with | [_, _], _ => rfl⟩,
    d_law := ⟨_, fun_mk l_law c_law k_law, (fun_mk (st := s_law) l_law c_law k_law).binds (ps := ["_law_script"]) fun _ _ _ _ _ _ us hl => match us, hl with | [_], _ => rfl⟩,
    z_abs := PySem.W.mg_none_of X G z_abs,
    z_all := PySem.W.mg_none_of X G z_all,
    z_bool := PySem.W.mg_none_of X G z_bool,
    z_enumerate := PySem.W.mg_none_of X G z_enumerate,
    z_int := PySem.W.mg_none_of X G z_int,
    z_isinstance := PySem.W.mg_none_of X G z_isinstance,
    z_len := PySem.W.mg_none_of X G z_len,
    z_list := PySem.W.mg_none_of X G z_list,
    z_min := PySem.W.mg_none_of X G z_min,
    z_range := PySem.W.mg_none_of X G z_range,
    z_repr := PySem.W.mg_none_of X G z_repr,
    z_str := PySem.W.mg_none_of X G z_str,
    z_sum := PySem.W.mg_none_of X G z_sum,
    z_tuple := PySem.W.mg_none_of X G z_tuple,
    z_zip := PySem.W.mg_none_of X G z_zip,
    k_MOST_HOURS := ⟨_, PySem.W.mg_of X G k_MOST_HOURS⟩,
    kg_WORDS := PySem.W.mg_of X G ka_WORDS,
    kt_WORDS := kb_WORDS,
    ic_Clock := ⟨⟨pg_Clock, hd_Clock, po_Clock, sa_Clock⟩, ia_Clock, gn_obj, tk_obj, im_Clock⟩,
    ic_Needs := ⟨⟨pg_Needs, hd_Needs, po_Needs, sa_Needs⟩, ia_Needs, gn_obj, tk_obj, im_Needs⟩ }
  intro base _ _
  exact okP_imp (ow_law (d := ⟨c_Clock, c_House, c_Needs, f__law_bag, f__law_take, f__law_number, f__law_numbers, f__law_stays, f__law_free_world, f_Needs_hours, q_Needs_hours, f_Clock_hours, q_Clock_hours, f_is_integer, f_is_count, f_are_limits, f_are_counts, f_House___init__, f_are_stays, f_need_order, f_width_of, f_Clock___init__, f_is_row, f_Needs___init__, f__law_made, f__law_serving, f__law_ring_steps, f_Clock_widths, f_House_clock, q_House_clock, f_House_hours, q_House_hours, f_ring_way, f__law_alike, f__law_row, f__law_measure, f__law_rows, f__law_is_way, f_is_hour, f_Needs___getitem__, f_House_limit_of, f_is_step, f_Clock_width_at, f_forward, f_told, f_is_way, f_turns, f_value, f_step_hours, f_winds, fa, k_WORDS⟩) T) (law_tells law_true bl_N)
def fas0 : List (PySem.W.Frag → Bool) := [
  fun K => decide (PySem.W.nsIn K mainGlobals "Clock" = some (some (.ref (He.ga K "Clock")))),
  fun K => PySem.W.plainGet K (He.ga K "Clock") Str.empty,
  fun K => PySem.W.hasDictIn K (He.ga K "Clock"),
  fun K => PySem.W.plainOver K (He.ga K "Clock"),
  fun K => decide (PySem.W.findIn K (.ref (He.ga K "Clock")) "__setattr__" = some (some (.builtin "object.__setattr__"))),
  fun K => PySem.W.selfFirst K (He.ga K "Clock"),
  fun K => decide (PySem.W.nsIn K mainGlobals "House" = some (some (.ref (He.ga K "House")))),
  fun K => PySem.W.plainGet K (He.ga K "House") Str.empty,
  fun K => PySem.W.hasDictIn K (He.ga K "House"),
  fun K => PySem.W.plainOver K (He.ga K "House"),
  fun K => decide (PySem.W.findIn K (.ref (He.ga K "House")) "__setattr__" = some (some (.builtin "object.__setattr__"))),
  fun K => PySem.W.selfFirst K (He.ga K "House"),
  fun K => decide (PySem.W.nsIn K mainGlobals "Needs" = some (some (.ref (He.ga K "Needs")))),
  fun K => PySem.W.plainGet K (He.ga K "Needs") Str.empty,
  fun K => PySem.W.hasDictIn K (He.ga K "Needs"),
  fun K => PySem.W.plainOver K (He.ga K "Needs"),
  fun K => decide (PySem.W.findIn K (.ref (He.ga K "Needs")) "__setattr__" = some (some (.builtin "object.__setattr__"))),
  fun K => PySem.W.selfFirst K (He.ga K "Needs"),
  fun K => decide (PySem.W.findIn K (.ref (He.ga K "Clock")) "kept_stays" = some none),
  fun K => decide (PySem.W.findIn K (.ref (He.ga K "Clock")) "kept_widths" = some none),
  fun K => decide (PySem.W.findIn K (.ref (He.ga K "House")) "own_clock" = some none),
  fun K => decide (PySem.W.findIn K (.ref (He.ga K "House")) "own_doors" = some none),
  fun K => decide (PySem.W.findIn K (.ref (He.ga K "House")) "own_kept" = some none),
  fun K => decide (PySem.W.findIn K (.ref (He.ga K "House")) "own_needs" = some none),
  fun K => decide (PySem.W.findIn K (.ref (He.ga K "House")) "own_rooms" = some none),
  fun K => decide (PySem.W.findIn K (.ref (He.ga K "Needs")) "kept_row" = some none),
  fun K => decide (PySem.W.nsIn K mainGlobals "_law_bag" = some (some (.ref (He.ga K "_law_bag")))),
  fun K => decide (PySem.W.nsIn K mainGlobals "_law_take" = some (some (.ref (He.ga K "_law_take")))),
  fun K => decide (PySem.W.nsIn K mainGlobals "_law_number" = some (some (.ref (He.ga K "_law_number")))),
  fun K => decide (PySem.W.nsIn K mainGlobals "_law_numbers" = some (some (.ref (He.ga K "_law_numbers")))),
  fun K => decide (PySem.W.nsIn K mainGlobals "_law_stays" = some (some (.ref (He.ga K "_law_stays")))),
  fun K => decide (PySem.W.nsIn K mainGlobals "_law_free_world" = some (some (.ref (He.ga K "_law_free_world")))),
  fun K => decide (PySem.W.findIn K (.ref (He.ga K "Needs")) "hours" = some (some (.ref (He.ma K (He.ga K "Needs") "hours")))),
  fun K => decide (PySem.W.specialIn K (.ref (He.ma K (He.ga K "Needs") "hours")) "__get__" = some (some (.builtin "property.__get__"))),
  fun K => decide (PySem.W.takesIn K (.ref (He.ma K (He.ga K "Needs") "hours")) = some true),
  fun K => rcB K (He.ma K (He.ga K "Needs") "hours") "property",
  fun K => decide (PySem.W.findIn K (.ref (He.ga K "Clock")) "hours" = some (some (.ref (He.ma K (He.ga K "Clock") "hours")))),
  fun K => decide (PySem.W.specialIn K (.ref (He.ma K (He.ga K "Clock") "hours")) "__get__" = some (some (.builtin "property.__get__"))),
  fun K => decide (PySem.W.takesIn K (.ref (He.ma K (He.ga K "Clock") "hours")) = some true),
  fun K => rcB K (He.ma K (He.ga K "Clock") "hours") "property"]
def fas1 : List (PySem.W.Frag → Bool) := [
  fun K => decide (PySem.W.nsIn K mainGlobals "is_integer" = some (some (.ref (He.ga K "is_integer")))),
  fun K => decide (PySem.W.nsIn K mainGlobals "is_count" = some (some (.ref (He.ga K "is_count")))),
  fun K => decide (PySem.W.nsIn K mainGlobals "are_limits" = some (some (.ref (He.ga K "are_limits")))),
  fun K => decide (PySem.W.nsIn K mainGlobals "are_counts" = some (some (.ref (He.ga K "are_counts")))),
  fun K => decide (PySem.W.findIn K (.ref (He.ga K "House")) "__init__" = some (some (.ref (He.ma K (He.ga K "House") "__init__")))),
  fun K => PySem.W.isFn K (.ref (He.ma K (He.ga K "House") "__init__")),
  fun K => PySem.W.makesIn K (He.ga K "House"),
  fun K => PySem.W.keepIn K (.ref (He.ga K "House")),
  fun K => decide (PySem.W.nsIn K mainGlobals "are_stays" = some (some (.ref (He.ga K "are_stays")))),
  fun K => decide (PySem.W.nsIn K mainGlobals "need_order" = some (some (.ref (He.ga K "need_order")))),
  fun K => decide (PySem.W.nsIn K mainGlobals "width_of" = some (some (.ref (He.ga K "width_of")))),
  fun K => decide (PySem.W.findIn K (.ref (He.ga K "Clock")) "__init__" = some (some (.ref (He.ma K (He.ga K "Clock") "__init__")))),
  fun K => PySem.W.isFn K (.ref (He.ma K (He.ga K "Clock") "__init__")),
  fun K => PySem.W.makesIn K (He.ga K "Clock"),
  fun K => PySem.W.keepIn K (.ref (He.ga K "Clock")),
  fun K => decide (PySem.W.nsIn K mainGlobals "is_row" = some (some (.ref (He.ga K "is_row")))),
  fun K => decide (PySem.W.findIn K (.ref (He.ga K "Needs")) "__init__" = some (some (.ref (He.ma K (He.ga K "Needs") "__init__")))),
  fun K => PySem.W.isFn K (.ref (He.ma K (He.ga K "Needs") "__init__")),
  fun K => PySem.W.makesIn K (He.ga K "Needs"),
  fun K => PySem.W.keepIn K (.ref (He.ga K "Needs")),
  fun K => decide (PySem.W.nsIn K mainGlobals "_law_made" = some (some (.ref (He.ga K "_law_made")))),
  fun K => decide (PySem.W.nsIn K mainGlobals "_law_serving" = some (some (.ref (He.ga K "_law_serving")))),
  fun K => decide (PySem.W.nsIn K mainGlobals "_law_ring_steps" = some (some (.ref (He.ga K "_law_ring_steps")))),
  fun K => decide (PySem.W.findIn K (.ref (He.ga K "Clock")) "widths" = some (some (.ref (He.ma K (He.ga K "Clock") "widths")))),
  fun K => PySem.W.isFn K (.ref (He.ma K (He.ga K "Clock") "widths")),
  fun K => decide (PySem.W.findIn K (.ref (He.ga K "House")) "clock" = some (some (.ref (He.ma K (He.ga K "House") "clock")))),
  fun K => decide (PySem.W.specialIn K (.ref (He.ma K (He.ga K "House") "clock")) "__get__" = some (some (.builtin "property.__get__"))),
  fun K => decide (PySem.W.takesIn K (.ref (He.ma K (He.ga K "House") "clock")) = some true),
  fun K => rcB K (He.ma K (He.ga K "House") "clock") "property",
  fun K => decide (PySem.W.findIn K (.ref (He.ga K "House")) "hours" = some (some (.ref (He.ma K (He.ga K "House") "hours")))),
  fun K => decide (PySem.W.specialIn K (.ref (He.ma K (He.ga K "House") "hours")) "__get__" = some (some (.builtin "property.__get__"))),
  fun K => decide (PySem.W.takesIn K (.ref (He.ma K (He.ga K "House") "hours")) = some true),
  fun K => rcB K (He.ma K (He.ga K "House") "hours") "property",
  fun K => decide (PySem.W.nsIn K mainGlobals "ring_way" = some (some (.ref (He.ga K "ring_way")))),
  fun K => decide (PySem.W.nsIn K mainGlobals "_law_alike" = some (some (.ref (He.ga K "_law_alike")))),
  fun K => decide (PySem.W.nsIn K mainGlobals "_law_row" = some (some (.ref (He.ga K "_law_row")))),
  fun K => decide (PySem.W.nsIn K mainGlobals "_law_measure" = some (some (.ref (He.ga K "_law_measure")))),
  fun K => decide (PySem.W.nsIn K mainGlobals "_law_rows" = some (some (.ref (He.ga K "_law_rows")))),
  fun K => decide (PySem.W.nsIn K mainGlobals "_law_is_way" = some (some (.ref (He.ga K "_law_is_way")))),
  fun K => decide (PySem.W.nsIn K mainGlobals "is_hour" = some (some (.ref (He.ga K "is_hour"))))]
def fas2 : List (PySem.W.Frag → Bool) := [
  fun K => decide (PySem.W.findIn K (.ref (He.ga K "Needs")) "__getitem__" = some (some (.ref (He.ma K (He.ga K "Needs") "__getitem__")))),
  fun K => PySem.W.isFn K (.ref (He.ma K (He.ga K "Needs") "__getitem__")),
  fun K => PySem.W.fnIn K (He.ma K (He.ga K "Needs") "__getitem__"),
  fun K => decide (PySem.W.findIn K (.ref (He.ga K "House")) "limit_of" = some (some (.ref (He.ma K (He.ga K "House") "limit_of")))),
  fun K => PySem.W.isFn K (.ref (He.ma K (He.ga K "House") "limit_of")),
  fun K => decide (PySem.W.nsIn K mainGlobals "is_step" = some (some (.ref (He.ga K "is_step")))),
  fun K => decide (PySem.W.findIn K (.ref (He.ga K "Clock")) "width_at" = some (some (.ref (He.ma K (He.ga K "Clock") "width_at")))),
  fun K => PySem.W.isFn K (.ref (He.ma K (He.ga K "Clock") "width_at")),
  fun K => decide (PySem.W.nsIn K mainGlobals "forward" = some (some (.ref (He.ga K "forward")))),
  fun K => decide (PySem.W.nsIn K mainGlobals "told" = some (some (.ref (He.ga K "told")))),
  fun K => decide (PySem.W.nsIn K mainGlobals "is_way" = some (some (.ref (He.ga K "is_way")))),
  fun K => decide (PySem.W.nsIn K mainGlobals "turns" = some (some (.ref (He.ga K "turns")))),
  fun K => decide (PySem.W.nsIn K mainGlobals "value" = some (some (.ref (He.ga K "value")))),
  fun K => decide (PySem.W.nsIn K mainGlobals "step_hours" = some (some (.ref (He.ga K "step_hours")))),
  fun K => decide (PySem.W.nsIn K mainGlobals "winds" = some (some (.ref (He.ga K "winds")))),
  fun K => decide (PySem.W.nsIn K mainGlobals "law" = some (some (.ref (He.ga K "law")))),
  fun K => decide (PySem.W.nsIn K mainGlobals "abs" = some none),
  fun K => decide (PySem.W.nsIn K mainGlobals "all" = some none),
  fun K => decide (PySem.W.nsIn K mainGlobals "bool" = some none),
  fun K => decide (PySem.W.nsIn K mainGlobals "enumerate" = some none),
  fun K => decide (PySem.W.nsIn K mainGlobals "int" = some none),
  fun K => decide (PySem.W.nsIn K mainGlobals "isinstance" = some none),
  fun K => decide (PySem.W.nsIn K mainGlobals "len" = some none),
  fun K => decide (PySem.W.nsIn K mainGlobals "list" = some none),
  fun K => decide (PySem.W.nsIn K mainGlobals "min" = some none),
  fun K => decide (PySem.W.nsIn K mainGlobals "range" = some none),
  fun K => decide (PySem.W.nsIn K mainGlobals "repr" = some none),
  fun K => decide (PySem.W.nsIn K mainGlobals "str" = some none),
  fun K => decide (PySem.W.nsIn K mainGlobals "sum" = some none),
  fun K => decide (PySem.W.nsIn K mainGlobals "tuple" = some none),
  fun K => decide (PySem.W.nsIn K mainGlobals "zip" = some none),
  fun K => itB (PySem.W.nsIn K mainGlobals "MOST_HOURS") 48,
  fun K => Wx.ktB K "WORDS" [("need" : Str), ("room" : Str), ("keep" : Str), ("door" : Str)],
  fun K => decide (PySem.W.findIn K (.ref (He.ga K "Clock")) "__class__" = some (some (.builtin "object.__class__"))),
  fun K => decide (PySem.W.specialIn K (.builtin "object.__class__") "__get__" = some (some (.builtin "getset_descriptor.__get__"))),
  fun K => decide (PySem.W.takesIn K (.builtin "object.__class__") = some true),
  fun K => decide (PySem.W.mroIn K (He.ga K "Clock") (.type "object") = some true),
  fun K => decide (PySem.W.findIn K (.ref (He.ga K "Needs")) "__class__" = some (some (.builtin "object.__class__"))),
  fun K => decide (PySem.W.mroIn K (He.ga K "Needs") (.type "object") = some true)]
def fas : List (PySem.W.Frag → Bool) := fas0 ++ fas1 ++ fas2
def fns0 : List DefH := [
  ⟨fun K => (He.ga K "_law_bag"), "_law_bag", "_law_bag", s__law_bag⟩,
  ⟨fun K => (He.ga K "_law_take"), "_law_take", "_law_take", s__law_take⟩,
  ⟨fun K => (He.ga K "_law_number"), "_law_number", "_law_number", s__law_number⟩,
  ⟨fun K => (He.ga K "_law_numbers"), "_law_numbers", "_law_numbers", s__law_numbers⟩,
  ⟨fun K => (He.ga K "_law_stays"), "_law_stays", "_law_stays", s__law_stays⟩,
  ⟨fun K => (He.ga K "_law_free_world"), "_law_free_world", "_law_free_world", s__law_free_world⟩,
  ⟨fun K => (rcA K (He.ma K (He.ga K "Needs") "hours") "property"), "hours", "Needs.hours", s_Needs_hours⟩,
  ⟨fun K => (rcA K (He.ma K (He.ga K "Clock") "hours") "property"), "hours", "Clock.hours", s_Clock_hours⟩,
  ⟨fun K => (He.ga K "is_integer"), "is_integer", "is_integer", s_is_integer⟩,
  ⟨fun K => (He.ga K "is_count"), "is_count", "is_count", s_is_count⟩,
  ⟨fun K => (He.ga K "are_limits"), "are_limits", "are_limits", s_are_limits⟩,
  ⟨fun K => (He.ga K "are_counts"), "are_counts", "are_counts", s_are_counts⟩,
  ⟨fun K => (He.ma K (He.ga K "House") "__init__"), "__init__", "House.__init__", s_House___init__⟩,
  ⟨fun K => (He.ga K "are_stays"), "are_stays", "are_stays", s_are_stays⟩,
  ⟨fun K => (He.ga K "need_order"), "need_order", "need_order", s_need_order⟩,
  ⟨fun K => (He.ga K "width_of"), "width_of", "width_of", s_width_of⟩,
  ⟨fun K => (He.ma K (He.ga K "Clock") "__init__"), "__init__", "Clock.__init__", s_Clock___init__⟩,
  ⟨fun K => (He.ga K "is_row"), "is_row", "is_row", s_is_row⟩,
  ⟨fun K => (He.ma K (He.ga K "Needs") "__init__"), "__init__", "Needs.__init__", s_Needs___init__⟩,
  ⟨fun K => (He.ga K "_law_made"), "_law_made", "_law_made", s__law_made⟩,
  ⟨fun K => (He.ga K "_law_serving"), "_law_serving", "_law_serving", s__law_serving⟩,
  ⟨fun K => (He.ga K "_law_ring_steps"), "_law_ring_steps", "_law_ring_steps", s__law_ring_steps⟩,
  ⟨fun K => (He.ma K (He.ga K "Clock") "widths"), "widths", "Clock.widths", s_Clock_widths⟩,
  ⟨fun K => (rcA K (He.ma K (He.ga K "House") "clock") "property"), "clock", "House.clock", s_House_clock⟩,
  ⟨fun K => (rcA K (He.ma K (He.ga K "House") "hours") "property"), "hours", "House.hours", s_House_hours⟩,
  ⟨fun K => (He.ga K "ring_way"), "ring_way", "ring_way", s_ring_way⟩,
  ⟨fun K => (He.ga K "_law_alike"), "_law_alike", "_law_alike", s__law_alike⟩,
  ⟨fun K => (He.ga K "_law_row"), "_law_row", "_law_row", s__law_row⟩,
  ⟨fun K => (He.ga K "_law_measure"), "_law_measure", "_law_measure", s__law_measure⟩,
  ⟨fun K => (He.ga K "_law_rows"), "_law_rows", "_law_rows", s__law_rows⟩,
  ⟨fun K => (He.ga K "_law_is_way"), "_law_is_way", "_law_is_way", s__law_is_way⟩,
  ⟨fun K => (He.ga K "is_hour"), "is_hour", "is_hour", s_is_hour⟩,
  ⟨fun K => (He.ma K (He.ga K "Needs") "__getitem__"), "__getitem__", "Needs.__getitem__", s_Needs___getitem__⟩,
  ⟨fun K => (He.ma K (He.ga K "House") "limit_of"), "limit_of", "House.limit_of", s_House_limit_of⟩,
  ⟨fun K => (He.ga K "is_step"), "is_step", "is_step", s_is_step⟩,
  ⟨fun K => (He.ma K (He.ga K "Clock") "width_at"), "width_at", "Clock.width_at", s_Clock_width_at⟩,
  ⟨fun K => (He.ga K "forward"), "forward", "forward", s_forward⟩,
  ⟨fun K => (He.ga K "told"), "told", "told", s_told⟩,
  ⟨fun K => (He.ga K "is_way"), "is_way", "is_way", s_is_way⟩,
  ⟨fun K => (He.ga K "turns"), "turns", "turns", s_turns⟩]
def fns1 : List DefH := [
  ⟨fun K => (He.ga K "value"), "value", "value", s_value⟩,
  ⟨fun K => (He.ga K "step_hours"), "step_hours", "step_hours", s_step_hours⟩,
  ⟨fun K => (He.ga K "winds"), "winds", "winds", s_winds⟩,
  ⟨fun K => (He.ga K "law"), "law", "law", s_law⟩]
def fns : List DefH := fns0 ++ fns1
def loose0 : List Str := [("_wall" : Str), ("NeedError" : Str), ("Wrong" : Str), ("Overtaken" : Str), ("NoHour" : Str), ("Unlike" : Str), ("NoStep" : Str), ("is_integer" : Str), ("is_count" : Str), ("is_hour" : Str), ("are_counts" : Str), ("are_limits" : Str), ("MOST_HOURS" : Str), ("are_stays" : Str), ("need_order" : Str), ("width_of" : Str)]
def loose1 : List Str := [("Clock" : Str), ("is_row" : Str), ("pairs_of" : Str), ("Needs" : Str), ("WORDS" : Str), ("House" : Str), ("is_step" : Str), ("forward" : Str), ("told" : Str), ("is_way" : Str), ("turns" : Str), ("value" : Str), ("ring_way" : Str), ("step_hours" : Str), ("winds" : Str), ("_law_bag" : Str)]
def loose2 : List Str := [("_law_take" : Str), ("_law_number" : Str), ("_law_stays" : Str), ("_law_serving" : Str), ("_law_alike" : Str), ("_law_numbers" : Str), ("_law_free_world" : Str), ("_law_rows" : Str), ("_law_row" : Str), ("_law_is_way" : Str), ("_law_measure" : Str), ("_law_made" : Str), ("_law_ring_steps" : Str)]
def loose : List Str := loose0 ++ loose1 ++ loose2
theorem facts {P : Program} {w : World} {K : PySem.W.Frag} {h : Heap} {mg : Str → Option Value} {fa : Addr} (X : K.In h) (G : h.Ns mainGlobals mg) (hfa : mg "law" = some (.ref fa)) (c : SaysH fas fns K) :
    ∀ base : Heap, K.In base → base.Ns mainGlobals mg → OkP NoG P w K mg base 9 fa ["_law_script"] (fun vs H Q E => spLaw K vs H Q E) := by
  have a_Clock : PySem.W.nsIn K mainGlobals "Clock" = some (some (.ref (He.ga K "Clock"))) := dok (c.fact 0 rfl)
  have pg_Clock : PySem.W.plainGet K (He.ga K "Clock") Str.empty = true := (c.fact 1 rfl)
  have hd_Clock : PySem.W.hasDictIn K (He.ga K "Clock") = true := (c.fact 2 rfl)
  have po_Clock : PySem.W.plainOver K (He.ga K "Clock") = true := (c.fact 3 rfl)
  have sa_Clock : PySem.W.findIn K (.ref (He.ga K "Clock")) "__setattr__" = some (some (.builtin "object.__setattr__")) := dok (c.fact 4 rfl)
  have sf_Clock : PySem.W.selfFirst K (He.ga K "Clock") = true := (c.fact 5 rfl)
  have a_House : PySem.W.nsIn K mainGlobals "House" = some (some (.ref (He.ga K "House"))) := dok (c.fact 6 rfl)
  have pg_House : PySem.W.plainGet K (He.ga K "House") Str.empty = true := (c.fact 7 rfl)
  have hd_House : PySem.W.hasDictIn K (He.ga K "House") = true := (c.fact 8 rfl)
  have po_House : PySem.W.plainOver K (He.ga K "House") = true := (c.fact 9 rfl)
  have sa_House : PySem.W.findIn K (.ref (He.ga K "House")) "__setattr__" = some (some (.builtin "object.__setattr__")) := dok (c.fact 10 rfl)
  have sf_House : PySem.W.selfFirst K (He.ga K "House") = true := (c.fact 11 rfl)
  have a_Needs : PySem.W.nsIn K mainGlobals "Needs" = some (some (.ref (He.ga K "Needs"))) := dok (c.fact 12 rfl)
  have pg_Needs : PySem.W.plainGet K (He.ga K "Needs") Str.empty = true := (c.fact 13 rfl)
  have hd_Needs : PySem.W.hasDictIn K (He.ga K "Needs") = true := (c.fact 14 rfl)
  have po_Needs : PySem.W.plainOver K (He.ga K "Needs") = true := (c.fact 15 rfl)
  have sa_Needs : PySem.W.findIn K (.ref (He.ga K "Needs")) "__setattr__" = some (some (.builtin "object.__setattr__")) := dok (c.fact 16 rfl)
  have sf_Needs : PySem.W.selfFirst K (He.ga K "Needs") = true := (c.fact 17 rfl)
  have n_Clock_kept_stays : PySem.W.findIn K (.ref (He.ga K "Clock")) "kept_stays" = some none := dok (c.fact 18 rfl)
  have n_Clock_kept_widths : PySem.W.findIn K (.ref (He.ga K "Clock")) "kept_widths" = some none := dok (c.fact 19 rfl)
  have n_House_own_clock : PySem.W.findIn K (.ref (He.ga K "House")) "own_clock" = some none := dok (c.fact 20 rfl)
  have n_House_own_doors : PySem.W.findIn K (.ref (He.ga K "House")) "own_doors" = some none := dok (c.fact 21 rfl)
  have n_House_own_kept : PySem.W.findIn K (.ref (He.ga K "House")) "own_kept" = some none := dok (c.fact 22 rfl)
  have n_House_own_needs : PySem.W.findIn K (.ref (He.ga K "House")) "own_needs" = some none := dok (c.fact 23 rfl)
  have n_House_own_rooms : PySem.W.findIn K (.ref (He.ga K "House")) "own_rooms" = some none := dok (c.fact 24 rfl)
  have n_Needs_kept_row : PySem.W.findIn K (.ref (He.ga K "Needs")) "kept_row" = some none := dok (c.fact 25 rfl)
  have a__law_bag : PySem.W.nsIn K mainGlobals "_law_bag" = some (some (.ref (He.ga K "_law_bag"))) := dok (c.fact 26 rfl)
  have a__law_take : PySem.W.nsIn K mainGlobals "_law_take" = some (some (.ref (He.ga K "_law_take"))) := dok (c.fact 27 rfl)
  have a__law_number : PySem.W.nsIn K mainGlobals "_law_number" = some (some (.ref (He.ga K "_law_number"))) := dok (c.fact 28 rfl)
  have a__law_numbers : PySem.W.nsIn K mainGlobals "_law_numbers" = some (some (.ref (He.ga K "_law_numbers"))) := dok (c.fact 29 rfl)
  have a__law_stays : PySem.W.nsIn K mainGlobals "_law_stays" = some (some (.ref (He.ga K "_law_stays"))) := dok (c.fact 30 rfl)
  have a__law_free_world : PySem.W.nsIn K mainGlobals "_law_free_world" = some (some (.ref (He.ga K "_law_free_world"))) := dok (c.fact 31 rfl)
  have pa_Needs_hours : PySem.W.findIn K (.ref (He.ga K "Needs")) "hours" = some (some (.ref (He.ma K (He.ga K "Needs") "hours"))) := dok (c.fact 32 rfl)
  have pb_Needs_hours : PySem.W.specialIn K (.ref (He.ma K (He.ga K "Needs") "hours")) "__get__" = some (some (.builtin "property.__get__")) := dok (c.fact 33 rfl)
  have pc_Needs_hours : PySem.W.takesIn K (.ref (He.ma K (He.ga K "Needs") "hours")) = some true := dok (c.fact 34 rfl)
  obtain ⟨_, pd_Needs_hours⟩ := rcB_ok (c.fact 35 rfl)
  have pa_Clock_hours : PySem.W.findIn K (.ref (He.ga K "Clock")) "hours" = some (some (.ref (He.ma K (He.ga K "Clock") "hours"))) := dok (c.fact 36 rfl)
  have pb_Clock_hours : PySem.W.specialIn K (.ref (He.ma K (He.ga K "Clock") "hours")) "__get__" = some (some (.builtin "property.__get__")) := dok (c.fact 37 rfl)
  have pc_Clock_hours : PySem.W.takesIn K (.ref (He.ma K (He.ga K "Clock") "hours")) = some true := dok (c.fact 38 rfl)
  obtain ⟨_, pd_Clock_hours⟩ := rcB_ok (c.fact 39 rfl)
  have a_is_integer : PySem.W.nsIn K mainGlobals "is_integer" = some (some (.ref (He.ga K "is_integer"))) := dok (c.fact 40 rfl)
  have a_is_count : PySem.W.nsIn K mainGlobals "is_count" = some (some (.ref (He.ga K "is_count"))) := dok (c.fact 41 rfl)
  have a_are_limits : PySem.W.nsIn K mainGlobals "are_limits" = some (some (.ref (He.ga K "are_limits"))) := dok (c.fact 42 rfl)
  have a_are_counts : PySem.W.nsIn K mainGlobals "are_counts" = some (some (.ref (He.ga K "are_counts"))) := dok (c.fact 43 rfl)
  have a_House___init__ : PySem.W.findIn K (.ref (He.ga K "House")) "__init__" = some (some (.ref (He.ma K (He.ga K "House") "__init__"))) := dok (c.fact 44 rfl)
  have i_House___init__ : PySem.W.isFn K (.ref (He.ma K (He.ga K "House") "__init__")) = true := (c.fact 45 rfl)
  have mm_House : PySem.W.makesIn K (He.ga K "House") = true := (c.fact 46 rfl)
  have mc_House : PySem.W.keepIn K (.ref (He.ga K "House")) = true := (c.fact 47 rfl)
  have a_are_stays : PySem.W.nsIn K mainGlobals "are_stays" = some (some (.ref (He.ga K "are_stays"))) := dok (c.fact 48 rfl)
  have a_need_order : PySem.W.nsIn K mainGlobals "need_order" = some (some (.ref (He.ga K "need_order"))) := dok (c.fact 49 rfl)
  have a_width_of : PySem.W.nsIn K mainGlobals "width_of" = some (some (.ref (He.ga K "width_of"))) := dok (c.fact 50 rfl)
  have a_Clock___init__ : PySem.W.findIn K (.ref (He.ga K "Clock")) "__init__" = some (some (.ref (He.ma K (He.ga K "Clock") "__init__"))) := dok (c.fact 51 rfl)
  have i_Clock___init__ : PySem.W.isFn K (.ref (He.ma K (He.ga K "Clock") "__init__")) = true := (c.fact 52 rfl)
  have mm_Clock : PySem.W.makesIn K (He.ga K "Clock") = true := (c.fact 53 rfl)
  have mc_Clock : PySem.W.keepIn K (.ref (He.ga K "Clock")) = true := (c.fact 54 rfl)
  have a_is_row : PySem.W.nsIn K mainGlobals "is_row" = some (some (.ref (He.ga K "is_row"))) := dok (c.fact 55 rfl)
  have a_Needs___init__ : PySem.W.findIn K (.ref (He.ga K "Needs")) "__init__" = some (some (.ref (He.ma K (He.ga K "Needs") "__init__"))) := dok (c.fact 56 rfl)
  have i_Needs___init__ : PySem.W.isFn K (.ref (He.ma K (He.ga K "Needs") "__init__")) = true := (c.fact 57 rfl)
  have mm_Needs : PySem.W.makesIn K (He.ga K "Needs") = true := (c.fact 58 rfl)
  have mc_Needs : PySem.W.keepIn K (.ref (He.ga K "Needs")) = true := (c.fact 59 rfl)
  have a__law_made : PySem.W.nsIn K mainGlobals "_law_made" = some (some (.ref (He.ga K "_law_made"))) := dok (c.fact 60 rfl)
  have a__law_serving : PySem.W.nsIn K mainGlobals "_law_serving" = some (some (.ref (He.ga K "_law_serving"))) := dok (c.fact 61 rfl)
  have a__law_ring_steps : PySem.W.nsIn K mainGlobals "_law_ring_steps" = some (some (.ref (He.ga K "_law_ring_steps"))) := dok (c.fact 62 rfl)
  have a_Clock_widths : PySem.W.findIn K (.ref (He.ga K "Clock")) "widths" = some (some (.ref (He.ma K (He.ga K "Clock") "widths"))) := dok (c.fact 63 rfl)
  have i_Clock_widths : PySem.W.isFn K (.ref (He.ma K (He.ga K "Clock") "widths")) = true := (c.fact 64 rfl)
  have pa_House_clock : PySem.W.findIn K (.ref (He.ga K "House")) "clock" = some (some (.ref (He.ma K (He.ga K "House") "clock"))) := dok (c.fact 65 rfl)
  have pb_House_clock : PySem.W.specialIn K (.ref (He.ma K (He.ga K "House") "clock")) "__get__" = some (some (.builtin "property.__get__")) := dok (c.fact 66 rfl)
  have pc_House_clock : PySem.W.takesIn K (.ref (He.ma K (He.ga K "House") "clock")) = some true := dok (c.fact 67 rfl)
  obtain ⟨_, pd_House_clock⟩ := rcB_ok (c.fact 68 rfl)
  have pa_House_hours : PySem.W.findIn K (.ref (He.ga K "House")) "hours" = some (some (.ref (He.ma K (He.ga K "House") "hours"))) := dok (c.fact 69 rfl)
  have pb_House_hours : PySem.W.specialIn K (.ref (He.ma K (He.ga K "House") "hours")) "__get__" = some (some (.builtin "property.__get__")) := dok (c.fact 70 rfl)
  have pc_House_hours : PySem.W.takesIn K (.ref (He.ma K (He.ga K "House") "hours")) = some true := dok (c.fact 71 rfl)
  obtain ⟨_, pd_House_hours⟩ := rcB_ok (c.fact 72 rfl)
  have a_ring_way : PySem.W.nsIn K mainGlobals "ring_way" = some (some (.ref (He.ga K "ring_way"))) := dok (c.fact 73 rfl)
  have a__law_alike : PySem.W.nsIn K mainGlobals "_law_alike" = some (some (.ref (He.ga K "_law_alike"))) := dok (c.fact 74 rfl)
  have a__law_row : PySem.W.nsIn K mainGlobals "_law_row" = some (some (.ref (He.ga K "_law_row"))) := dok (c.fact 75 rfl)
  have a__law_measure : PySem.W.nsIn K mainGlobals "_law_measure" = some (some (.ref (He.ga K "_law_measure"))) := dok (c.fact 76 rfl)
  have a__law_rows : PySem.W.nsIn K mainGlobals "_law_rows" = some (some (.ref (He.ga K "_law_rows"))) := dok (c.fact 77 rfl)
  have a__law_is_way : PySem.W.nsIn K mainGlobals "_law_is_way" = some (some (.ref (He.ga K "_law_is_way"))) := dok (c.fact 78 rfl)
  have a_is_hour : PySem.W.nsIn K mainGlobals "is_hour" = some (some (.ref (He.ga K "is_hour"))) := dok (c.fact 79 rfl)
  have a_Needs___getitem__ : PySem.W.findIn K (.ref (He.ga K "Needs")) "__getitem__" = some (some (.ref (He.ma K (He.ga K "Needs") "__getitem__"))) := dok (c.fact 80 rfl)
  have i_Needs___getitem__ : PySem.W.isFn K (.ref (He.ma K (He.ga K "Needs") "__getitem__")) = true := (c.fact 81 rfl)
  have fi_Needs___getitem__ : PySem.W.fnIn K (He.ma K (He.ga K "Needs") "__getitem__") = true := (c.fact 82 rfl)
  have a_House_limit_of : PySem.W.findIn K (.ref (He.ga K "House")) "limit_of" = some (some (.ref (He.ma K (He.ga K "House") "limit_of"))) := dok (c.fact 83 rfl)
  have i_House_limit_of : PySem.W.isFn K (.ref (He.ma K (He.ga K "House") "limit_of")) = true := (c.fact 84 rfl)
  have a_is_step : PySem.W.nsIn K mainGlobals "is_step" = some (some (.ref (He.ga K "is_step"))) := dok (c.fact 85 rfl)
  have a_Clock_width_at : PySem.W.findIn K (.ref (He.ga K "Clock")) "width_at" = some (some (.ref (He.ma K (He.ga K "Clock") "width_at"))) := dok (c.fact 86 rfl)
  have i_Clock_width_at : PySem.W.isFn K (.ref (He.ma K (He.ga K "Clock") "width_at")) = true := (c.fact 87 rfl)
  have a_forward : PySem.W.nsIn K mainGlobals "forward" = some (some (.ref (He.ga K "forward"))) := dok (c.fact 88 rfl)
  have a_told : PySem.W.nsIn K mainGlobals "told" = some (some (.ref (He.ga K "told"))) := dok (c.fact 89 rfl)
  have a_is_way : PySem.W.nsIn K mainGlobals "is_way" = some (some (.ref (He.ga K "is_way"))) := dok (c.fact 90 rfl)
  have a_turns : PySem.W.nsIn K mainGlobals "turns" = some (some (.ref (He.ga K "turns"))) := dok (c.fact 91 rfl)
  have a_value : PySem.W.nsIn K mainGlobals "value" = some (some (.ref (He.ga K "value"))) := dok (c.fact 92 rfl)
  have a_step_hours : PySem.W.nsIn K mainGlobals "step_hours" = some (some (.ref (He.ga K "step_hours"))) := dok (c.fact 93 rfl)
  have a_winds : PySem.W.nsIn K mainGlobals "winds" = some (some (.ref (He.ga K "winds"))) := dok (c.fact 94 rfl)
  have a_law : PySem.W.nsIn K mainGlobals "law" = some (some (.ref (He.ga K "law"))) := dok (c.fact 95 rfl)
  have z_abs : PySem.W.nsIn K mainGlobals "abs" = some none := dok (c.fact 96 rfl)
  have z_all : PySem.W.nsIn K mainGlobals "all" = some none := dok (c.fact 97 rfl)
  have z_bool : PySem.W.nsIn K mainGlobals "bool" = some none := dok (c.fact 98 rfl)
  have z_enumerate : PySem.W.nsIn K mainGlobals "enumerate" = some none := dok (c.fact 99 rfl)
  have z_int : PySem.W.nsIn K mainGlobals "int" = some none := dok (c.fact 100 rfl)
  have z_isinstance : PySem.W.nsIn K mainGlobals "isinstance" = some none := dok (c.fact 101 rfl)
  have z_len : PySem.W.nsIn K mainGlobals "len" = some none := dok (c.fact 102 rfl)
  have z_list : PySem.W.nsIn K mainGlobals "list" = some none := dok (c.fact 103 rfl)
  have z_min : PySem.W.nsIn K mainGlobals "min" = some none := dok (c.fact 104 rfl)
  have z_range : PySem.W.nsIn K mainGlobals "range" = some none := dok (c.fact 105 rfl)
  have z_repr : PySem.W.nsIn K mainGlobals "repr" = some none := dok (c.fact 106 rfl)
  have z_str : PySem.W.nsIn K mainGlobals "str" = some none := dok (c.fact 107 rfl)
  have z_sum : PySem.W.nsIn K mainGlobals "sum" = some none := dok (c.fact 108 rfl)
  have z_tuple : PySem.W.nsIn K mainGlobals "tuple" = some none := dok (c.fact 109 rfl)
  have z_zip : PySem.W.nsIn K mainGlobals "zip" = some none := dok (c.fact 110 rfl)
  obtain ⟨_, k_MOST_HOURS⟩ := itB_ok (c.fact 111 rfl)
  obtain ⟨ka_WORDS, kb_WORDS⟩ := Wx.ktB_ok (c.fact 112 rfl)
  have ia_Clock : PySem.W.findIn K (.ref (He.ga K "Clock")) "__class__" = some (some (.builtin "object.__class__")) := dok (c.fact 113 rfl)
  have gn_obj : PySem.W.specialIn K (.builtin "object.__class__") "__get__" = some (some (.builtin "getset_descriptor.__get__")) := dok (c.fact 114 rfl)
  have tk_obj : PySem.W.takesIn K (.builtin "object.__class__") = some true := dok (c.fact 115 rfl)
  have im_Clock : PySem.W.mroIn K (He.ga K "Clock") (.type "object") = some true := dok (c.fact 116 rfl)
  have ia_Needs : PySem.W.findIn K (.ref (He.ga K "Needs")) "__class__" = some (some (.builtin "object.__class__")) := dok (c.fact 117 rfl)
  have im_Needs : PySem.W.mroIn K (He.ga K "Needs") (.type "object") = some true := dok (c.fact 118 rfl)
  obtain ⟨_, _, _, _, _, _, _, _, _, l__law_bag, c__law_bag, k__law_bag⟩ := c.def_ 0 (d := ⟨fun K => (He.ga K "_law_bag"), "_law_bag", "_law_bag", s__law_bag⟩) rfl
  obtain ⟨_, _, _, _, _, _, _, _, _, l__law_take, c__law_take, k__law_take⟩ := c.def_ 1 (d := ⟨fun K => (He.ga K "_law_take"), "_law_take", "_law_take", s__law_take⟩) rfl
  obtain ⟨_, _, _, _, _, _, _, _, _, l__law_number, c__law_number, k__law_number⟩ := c.def_ 2 (d := ⟨fun K => (He.ga K "_law_number"), "_law_number", "_law_number", s__law_number⟩) rfl
  obtain ⟨_, _, _, _, _, _, _, _, _, l__law_numbers, c__law_numbers, k__law_numbers⟩ := c.def_ 3 (d := ⟨fun K => (He.ga K "_law_numbers"), "_law_numbers", "_law_numbers", s__law_numbers⟩) rfl
  obtain ⟨_, _, _, _, _, _, _, _, _, l__law_stays, c__law_stays, k__law_stays⟩ := c.def_ 4 (d := ⟨fun K => (He.ga K "_law_stays"), "_law_stays", "_law_stays", s__law_stays⟩) rfl
  obtain ⟨_, _, _, _, _, _, _, _, _, l__law_free_world, c__law_free_world, k__law_free_world⟩ := c.def_ 5 (d := ⟨fun K => (He.ga K "_law_free_world"), "_law_free_world", "_law_free_world", s__law_free_world⟩) rfl
  obtain ⟨_, _, _, _, _, _, _, _, _, l_Needs_hours, c_Needs_hours, k_Needs_hours⟩ := c.def_ 6 (d := ⟨fun K => (rcA K (He.ma K (He.ga K "Needs") "hours") "property"), "hours", "Needs.hours", s_Needs_hours⟩) rfl
  obtain ⟨_, _, _, _, _, _, _, _, _, l_Clock_hours, c_Clock_hours, k_Clock_hours⟩ := c.def_ 7 (d := ⟨fun K => (rcA K (He.ma K (He.ga K "Clock") "hours") "property"), "hours", "Clock.hours", s_Clock_hours⟩) rfl
  obtain ⟨_, _, _, _, _, _, _, _, _, l_is_integer, c_is_integer, k_is_integer⟩ := c.def_ 8 (d := ⟨fun K => (He.ga K "is_integer"), "is_integer", "is_integer", s_is_integer⟩) rfl
  obtain ⟨_, _, _, _, _, _, _, _, _, l_is_count, c_is_count, k_is_count⟩ := c.def_ 9 (d := ⟨fun K => (He.ga K "is_count"), "is_count", "is_count", s_is_count⟩) rfl
  obtain ⟨_, _, _, _, _, _, _, _, _, l_are_limits, c_are_limits, k_are_limits⟩ := c.def_ 10 (d := ⟨fun K => (He.ga K "are_limits"), "are_limits", "are_limits", s_are_limits⟩) rfl
  obtain ⟨_, _, _, _, _, _, _, _, _, l_are_counts, c_are_counts, k_are_counts⟩ := c.def_ 11 (d := ⟨fun K => (He.ga K "are_counts"), "are_counts", "are_counts", s_are_counts⟩) rfl
  obtain ⟨_, _, _, _, _, _, _, _, _, l_House___init__, c_House___init__, k_House___init__⟩ := c.def_ 12 (d := ⟨fun K => (He.ma K (He.ga K "House") "__init__"), "__init__", "House.__init__", s_House___init__⟩) rfl
  obtain ⟨_, _, _, _, _, _, _, _, _, l_are_stays, c_are_stays, k_are_stays⟩ := c.def_ 13 (d := ⟨fun K => (He.ga K "are_stays"), "are_stays", "are_stays", s_are_stays⟩) rfl
  obtain ⟨_, _, _, _, _, _, _, _, _, l_need_order, c_need_order, k_need_order⟩ := c.def_ 14 (d := ⟨fun K => (He.ga K "need_order"), "need_order", "need_order", s_need_order⟩) rfl
  obtain ⟨_, _, _, _, _, _, _, _, _, l_width_of, c_width_of, k_width_of⟩ := c.def_ 15 (d := ⟨fun K => (He.ga K "width_of"), "width_of", "width_of", s_width_of⟩) rfl
  obtain ⟨_, _, _, _, _, _, _, _, _, l_Clock___init__, c_Clock___init__, k_Clock___init__⟩ := c.def_ 16 (d := ⟨fun K => (He.ma K (He.ga K "Clock") "__init__"), "__init__", "Clock.__init__", s_Clock___init__⟩) rfl
  obtain ⟨_, _, _, _, _, _, _, _, _, l_is_row, c_is_row, k_is_row⟩ := c.def_ 17 (d := ⟨fun K => (He.ga K "is_row"), "is_row", "is_row", s_is_row⟩) rfl
  obtain ⟨_, _, _, _, _, _, _, _, _, l_Needs___init__, c_Needs___init__, k_Needs___init__⟩ := c.def_ 18 (d := ⟨fun K => (He.ma K (He.ga K "Needs") "__init__"), "__init__", "Needs.__init__", s_Needs___init__⟩) rfl
  obtain ⟨_, _, _, _, _, _, _, _, _, l__law_made, c__law_made, k__law_made⟩ := c.def_ 19 (d := ⟨fun K => (He.ga K "_law_made"), "_law_made", "_law_made", s__law_made⟩) rfl
  obtain ⟨_, _, _, _, _, _, _, _, _, l__law_serving, c__law_serving, k__law_serving⟩ := c.def_ 20 (d := ⟨fun K => (He.ga K "_law_serving"), "_law_serving", "_law_serving", s__law_serving⟩) rfl
  obtain ⟨_, _, _, _, _, _, _, _, _, l__law_ring_steps, c__law_ring_steps, k__law_ring_steps⟩ := c.def_ 21 (d := ⟨fun K => (He.ga K "_law_ring_steps"), "_law_ring_steps", "_law_ring_steps", s__law_ring_steps⟩) rfl
  obtain ⟨_, _, _, _, _, _, _, _, _, l_Clock_widths, c_Clock_widths, k_Clock_widths⟩ := c.def_ 22 (d := ⟨fun K => (He.ma K (He.ga K "Clock") "widths"), "widths", "Clock.widths", s_Clock_widths⟩) rfl
  obtain ⟨_, _, _, _, _, _, _, _, _, l_House_clock, c_House_clock, k_House_clock⟩ := c.def_ 23 (d := ⟨fun K => (rcA K (He.ma K (He.ga K "House") "clock") "property"), "clock", "House.clock", s_House_clock⟩) rfl
  obtain ⟨_, _, _, _, _, _, _, _, _, l_House_hours, c_House_hours, k_House_hours⟩ := c.def_ 24 (d := ⟨fun K => (rcA K (He.ma K (He.ga K "House") "hours") "property"), "hours", "House.hours", s_House_hours⟩) rfl
  obtain ⟨_, _, _, _, _, _, _, _, _, l_ring_way, c_ring_way, k_ring_way⟩ := c.def_ 25 (d := ⟨fun K => (He.ga K "ring_way"), "ring_way", "ring_way", s_ring_way⟩) rfl
  obtain ⟨_, _, _, _, _, _, _, _, _, l__law_alike, c__law_alike, k__law_alike⟩ := c.def_ 26 (d := ⟨fun K => (He.ga K "_law_alike"), "_law_alike", "_law_alike", s__law_alike⟩) rfl
  obtain ⟨_, _, _, _, _, _, _, _, _, l__law_row, c__law_row, k__law_row⟩ := c.def_ 27 (d := ⟨fun K => (He.ga K "_law_row"), "_law_row", "_law_row", s__law_row⟩) rfl
  obtain ⟨_, _, _, _, _, _, _, _, _, l__law_measure, c__law_measure, k__law_measure⟩ := c.def_ 28 (d := ⟨fun K => (He.ga K "_law_measure"), "_law_measure", "_law_measure", s__law_measure⟩) rfl
  obtain ⟨_, _, _, _, _, _, _, _, _, l__law_rows, c__law_rows, k__law_rows⟩ := c.def_ 29 (d := ⟨fun K => (He.ga K "_law_rows"), "_law_rows", "_law_rows", s__law_rows⟩) rfl
  obtain ⟨_, _, _, _, _, _, _, _, _, l__law_is_way, c__law_is_way, k__law_is_way⟩ := c.def_ 30 (d := ⟨fun K => (He.ga K "_law_is_way"), "_law_is_way", "_law_is_way", s__law_is_way⟩) rfl
  obtain ⟨_, _, _, _, _, _, _, _, _, l_is_hour, c_is_hour, k_is_hour⟩ := c.def_ 31 (d := ⟨fun K => (He.ga K "is_hour"), "is_hour", "is_hour", s_is_hour⟩) rfl
  obtain ⟨_, _, _, _, _, _, _, _, _, l_Needs___getitem__, c_Needs___getitem__, k_Needs___getitem__⟩ := c.def_ 32 (d := ⟨fun K => (He.ma K (He.ga K "Needs") "__getitem__"), "__getitem__", "Needs.__getitem__", s_Needs___getitem__⟩) rfl
  obtain ⟨_, _, _, _, _, _, _, _, _, l_House_limit_of, c_House_limit_of, k_House_limit_of⟩ := c.def_ 33 (d := ⟨fun K => (He.ma K (He.ga K "House") "limit_of"), "limit_of", "House.limit_of", s_House_limit_of⟩) rfl
  obtain ⟨_, _, _, _, _, _, _, _, _, l_is_step, c_is_step, k_is_step⟩ := c.def_ 34 (d := ⟨fun K => (He.ga K "is_step"), "is_step", "is_step", s_is_step⟩) rfl
  obtain ⟨_, _, _, _, _, _, _, _, _, l_Clock_width_at, c_Clock_width_at, k_Clock_width_at⟩ := c.def_ 35 (d := ⟨fun K => (He.ma K (He.ga K "Clock") "width_at"), "width_at", "Clock.width_at", s_Clock_width_at⟩) rfl
  obtain ⟨_, _, _, _, _, _, _, _, _, l_forward, c_forward, k_forward⟩ := c.def_ 36 (d := ⟨fun K => (He.ga K "forward"), "forward", "forward", s_forward⟩) rfl
  obtain ⟨_, _, _, _, _, _, _, _, _, l_told, c_told, k_told⟩ := c.def_ 37 (d := ⟨fun K => (He.ga K "told"), "told", "told", s_told⟩) rfl
  obtain ⟨_, _, _, _, _, _, _, _, _, l_is_way, c_is_way, k_is_way⟩ := c.def_ 38 (d := ⟨fun K => (He.ga K "is_way"), "is_way", "is_way", s_is_way⟩) rfl
  obtain ⟨_, _, _, _, _, _, _, _, _, l_turns, c_turns, k_turns⟩ := c.def_ 39 (d := ⟨fun K => (He.ga K "turns"), "turns", "turns", s_turns⟩) rfl
  obtain ⟨_, _, _, _, _, _, _, _, _, l_value, c_value, k_value⟩ := c.def_ 40 (d := ⟨fun K => (He.ga K "value"), "value", "value", s_value⟩) rfl
  obtain ⟨_, _, _, _, _, _, _, _, _, l_step_hours, c_step_hours, k_step_hours⟩ := c.def_ 41 (d := ⟨fun K => (He.ga K "step_hours"), "step_hours", "step_hours", s_step_hours⟩) rfl
  obtain ⟨_, _, _, _, _, _, _, _, _, l_winds, c_winds, k_winds⟩ := c.def_ 42 (d := ⟨fun K => (He.ga K "winds"), "winds", "winds", s_winds⟩) rfl
  obtain ⟨_, _, _, _, _, _, _, _, _, l_law, c_law, k_law⟩ := c.def_ 43 (d := ⟨fun K => (He.ga K "law"), "law", "law", s_law⟩) rfl
  exact all_mk X G hfa a_Clock pg_Clock hd_Clock po_Clock sa_Clock sf_Clock a_House pg_House hd_House po_House sa_House sf_House a_Needs pg_Needs hd_Needs po_Needs sa_Needs sf_Needs n_Clock_kept_stays n_Clock_kept_widths n_House_own_clock n_House_own_doors n_House_own_kept n_House_own_needs n_House_own_rooms n_Needs_kept_row a__law_bag l__law_bag c__law_bag k__law_bag a__law_take l__law_take c__law_take k__law_take a__law_number l__law_number c__law_number k__law_number a__law_numbers l__law_numbers c__law_numbers k__law_numbers a__law_stays l__law_stays c__law_stays k__law_stays a__law_free_world l__law_free_world c__law_free_world k__law_free_world pa_Needs_hours pb_Needs_hours pc_Needs_hours pd_Needs_hours l_Needs_hours c_Needs_hours k_Needs_hours pa_Clock_hours pb_Clock_hours pc_Clock_hours pd_Clock_hours l_Clock_hours c_Clock_hours k_Clock_hours a_is_integer l_is_integer c_is_integer k_is_integer a_is_count l_is_count c_is_count k_is_count a_are_limits l_are_limits c_are_limits k_are_limits a_are_counts l_are_counts c_are_counts k_are_counts a_House___init__ i_House___init__ mm_House mc_House l_House___init__ c_House___init__ k_House___init__ a_are_stays l_are_stays c_are_stays k_are_stays a_need_order l_need_order c_need_order k_need_order a_width_of l_width_of c_width_of k_width_of a_Clock___init__ i_Clock___init__ mm_Clock mc_Clock l_Clock___init__ c_Clock___init__ k_Clock___init__ a_is_row l_is_row c_is_row k_is_row a_Needs___init__ i_Needs___init__ mm_Needs mc_Needs l_Needs___init__ c_Needs___init__ k_Needs___init__ a__law_made l__law_made c__law_made k__law_made a__law_serving l__law_serving c__law_serving k__law_serving a__law_ring_steps l__law_ring_steps c__law_ring_steps k__law_ring_steps a_Clock_widths i_Clock_widths l_Clock_widths c_Clock_widths k_Clock_widths pa_House_clock pb_House_clock pc_House_clock pd_House_clock l_House_clock c_House_clock k_House_clock pa_House_hours pb_House_hours pc_House_hours pd_House_hours l_House_hours c_House_hours k_House_hours a_ring_way l_ring_way c_ring_way k_ring_way a__law_alike l__law_alike c__law_alike k__law_alike a__law_row l__law_row c__law_row k__law_row a__law_measure l__law_measure c__law_measure k__law_measure a__law_rows l__law_rows c__law_rows k__law_rows a__law_is_way l__law_is_way c__law_is_way k__law_is_way a_is_hour l_is_hour c_is_hour k_is_hour a_Needs___getitem__ i_Needs___getitem__ fi_Needs___getitem__ l_Needs___getitem__ c_Needs___getitem__ k_Needs___getitem__ a_House_limit_of i_House_limit_of l_House_limit_of c_House_limit_of k_House_limit_of a_is_step l_is_step c_is_step k_is_step a_Clock_width_at i_Clock_width_at l_Clock_width_at c_Clock_width_at k_Clock_width_at a_forward l_forward c_forward k_forward a_told l_told c_told k_told a_is_way l_is_way c_is_way k_is_way a_turns l_turns c_turns k_turns a_value l_value c_value k_value a_step_hours l_step_hours c_step_hours k_step_hours a_winds l_winds c_winds k_winds a_law l_law c_law k_law z_abs z_all z_bool z_enumerate z_int z_isinstance z_len z_list z_min z_range z_repr z_str z_sum z_tuple z_zip k_MOST_HOURS ka_WORDS kb_WORDS ia_Clock gn_obj tk_obj im_Clock ia_Needs im_Needs
abbrev R : PySem.W.OpenRow := PySem.W.OpenLaw.row PySem.Challenge.rw_hourneeds_k45_ways_of_rings
def agl0 : List Str := [("_law_bag" : Str), ("_law_take" : Str), ("_law_number" : Str), ("_law_numbers" : Str), ("_law_stays" : Str), ("_law_free_world" : Str), ("is_integer" : Str), ("is_count" : Str), ("are_limits" : Str), ("are_counts" : Str), ("are_stays" : Str), ("need_order" : Str), ("width_of" : Str), ("is_row" : Str), ("_law_made" : Str), ("_law_serving" : Str)]
def agl1 : List Str := [("_law_ring_steps" : Str), ("ring_way" : Str), ("_law_alike" : Str), ("_law_row" : Str), ("_law_measure" : Str), ("_law_rows" : Str), ("_law_is_way" : Str), ("is_hour" : Str), ("is_step" : Str), ("forward" : Str), ("told" : Str), ("is_way" : Str), ("turns" : Str), ("value" : Str), ("step_hours" : Str), ("winds" : Str)]
def agl2 : List Str := [("law" : Str), ("WORDS" : Str)]
def agl : List Str := agl0 ++ agl1 ++ agl2
def acl0 : List Str := [("Clock" : Str), ("House" : Str), ("Needs" : Str)]
def acl : List Str := acl0
def ame0 : List (Str × Str) := [(("House" : Str), ("__init__" : Str)), (("Clock" : Str), ("__init__" : Str)), (("Needs" : Str), ("__init__" : Str)), (("Clock" : Str), ("widths" : Str)), (("Needs" : Str), ("__getitem__" : Str)), (("House" : Str), ("limit_of" : Str)), (("Clock" : Str), ("width_at" : Str))]
def ame : List (Str × Str) := ame0
def apr0 : List (Str × Str) := [(("Needs" : Str), ("hours" : Str)), (("Clock" : Str), ("hours" : Str)), (("House" : Str), ("clock" : Str)), (("House" : Str), ("hours" : Str))]
def apr : List (Str × Str) := apr0
def ast0 : List (Str × Str) := []
def ast : List (Str × Str) := ast0
def adrs (g : Addr → Option Obj) : List Addr := asH agl acl ame apr ast g
abbrev hk : PySem.W.Hook := hookH adrs fas fns
def ob (s : PySem.W.SharedT) : He.AlD := obsHG adrs fas fns (HandSHeadRun.getT s)
theorem ob_eq (s : PySem.W.SharedT) : ob s = hk.obs s.abs := obsHG_eq (HandSHeadRun.getT_eq s)
end Pf

namespace Pf
open PySem PySem.Spec PyProof.Rows L2 Evl Hn
set_option maxRecDepth 100000 in
set_option maxHeartbeats 0 in
theorem run (w : World) : HandSHeadRun.RunEq R (PySem.W.view R.prog [53]) hk ob 8000 loose w := by
  intro os
  kernel_rfl
end Pf
open PySem PySem.W PySem.Calls PyProof.Rows in
set_option maxRecDepth 100000 in
set_option maxHeartbeats 0 in
theorem PySem.Challenge.cw_hourneeds_k45_ways_of_rings_holds : PySem.Challenge.rw_hourneeds_k45_ways_of_rings.Holds := by
  w_on; o_law
  refine HandSHeadRun.head_any (r := (PySem.W.OpenLaw.row PySem.Challenge.rw_hourneeds_k45_ways_of_rings)) (q := view (PySem.W.OpenLaw.row PySem.Challenge.rw_hourneeds_k45_ways_of_rings).prog [53]) (H := Pf.hk) (ob := Pf.ob) (M := 8000) (loose := Pf.loose) (d := HandSHeadRun.topDef (PySem.W.OpenLaw.row PySem.Challenge.rw_hourneeds_k45_ways_of_rings).prog 53) (kwd := []) Pf.ob_eq
    (by kernel_rfl) (fun s => by kernel_rfl) Pf.run (by kernel_rfl) (by kernel_rfl) (by kernel_rfl) (by rfl) (by first | assumption | decide +kernel) (by decide +kernel) ⟨rfl, rfl, rfl, rfl, rfl, by decide +kernel⟩ ?hw ?hc
  case hw => w_witness2
  case hc =>
    refine Hn.walkGE (l := PySem.Challenge.rw_hourneeds_k45_ways_of_rings) (n := 63) (k := 9) (x := "_law_script") rfl (by decide) (by kernel_rfl) ⟨rfl, by decide, by decide⟩ ?F
    intro w mg fa h Y G hmg0
    obtain ⟨K, KX, c⟩ := Y
    have hmg : mg ("law" : PySem.Str) = some (.ref fa) := by
      have e : (HandSHeadRun.topDef (PySem.W.OpenLaw.row PySem.Challenge.rw_hourneeds_k45_ways_of_rings).prog 53).name = ("law" : PySem.Str) := by kernel_rfl
      rw [← e]
      exact hmg0
    exact ⟨K, _, KX, fun H a ns hl hS => ⟨a, ns, rfl, hS, hl, fun _ => rfl⟩, Pf.facts (P := (PySem.Challenge.rw_hourneeds_k45_ways_of_rings).prog) (w := w) KX G hmg c⟩
#print axioms PySem.Challenge.cw_hourneeds_k45_ways_of_rings_holds
