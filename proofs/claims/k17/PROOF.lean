import PyProof.Rows.All
import Wide.All
import OpenK.AllK
import Wide.FinOn
import HandS.ForMost
import HandS.ForExc
import HandS.Evl
import HandS.Walk
import HandS.Property
import HandS.IsInst
import HandS.Style
import HandS.More
import HandS.SetFor
import HandS.Zip
import HandS.TupAny
import HandS.Wide
import HandS.Deep
import KE.KOpsOwn
import KE.KDictZip
import KE.RegKIsAll
import KE.GoesEnum
import KE.Datum
import KE.IntTextLaws
import PyProof.StrBlock2
import KE.GoesMore
import KE.KItemsList
import HandS.ListItems
import KE.KTupSum
import OpenK.KOps
import HandS.OwnIter
import HandS.IterVal
import PyProof.ReprRoads
import PyProof.ReprLen
import PyProof.CallFns
import HandS.Conv
import HandS.ClsMeth
import HandS.TryOnly
import HandS.Text
import HandS.Exc
import KE.KExcSuper
import KE.KExcMake
import KE.KExcIs
import HandS.ExcIs
import HandS.WordsExc
import HandS.ExcOwn
import PySem.Challenge.RW_hourneeds_k17_whole_stays_changed_one_by
set_option Elab.async false
set_option linter.all false
set_option maxRecDepth 100000
set_option maxHeartbeats 2000000
/-! Rules of our own over the hand layer: items of lists by +=, operators, comparisons and subscripts of own classes. -/
namespace Hn
open PySem PySem.Spec PyProof.Rows L2

/-- xs[i] by getItem (for xs[i] += e) -/
theorem get_list {X : Cx} : PGet X (rIxL X.K) := by
  intro pins s σ H x y v u Q I rx ry h
  obtain ⟨p, xs, i, z, rfl, rfl, hq, he, q⟩ := h
  cases rx
  obtain ⟨t, rfl⟩ := ry
  obtain ⟨its, r, pl, hz⟩ := I.list hq
  obtain ⟨j, h1, h2, h3, h4, h5⟩ := atI_get he
  obtain ⟨w, ew, rw'⟩ := r.get h2
  have hl := r.length
  have hn := line63
  have fin : EP X pins σ Q w s := ⟨z, H, I, rw', q⟩
  by_cases h0 : 0 ≤ i
  · have hj : i.toNat = j := by
      rw [seqIndex_of h0 h5] at h1
      exact Option.some.inj h1
    exact wpAny_getItem_list pl.isList h0 (by omega) (by rw [hj]; simpa using ew) fin
  · have hj : (i + (its.toArray.size : Int)).toNat = j := by
      rw [seqIndex_neg (by omega) h4] at h1
      rw [List.size_toArray, ← hl]
      exact Option.some.inj h1
    exact wpAny_getItem_list_neg pl.isList (by omega) (by rw [List.size_toArray] <;> omega) (by omega) (by rw [hj]; simpa using ew) fin

section
variable {X : Cx} {CX : CXT} {k : Nat} {f C : Addr} {fd : FuncData} {ps : List Str} {sp : Sp} {E : XK}

/-- a promise whose answers are never NotImplemented: nothing to ask, values V have none -/
theorem back_ne {pins : List (Addr × Obj)} {σ : L2.St} {Q : VK} {v : Value} {s' : Shared} (h : EP X pins σ Q v s') : PySem.W.CmpBack (EP X pins σ Q) v s' := by
  obtain ⟨z, H', I', r, q⟩ := id h
  cases z with
  | non => cases r; exact h
  | bl b => cases r; exact h
  | int i => obtain ⟨t, rfl⟩ := r; exact h
  | str i => obtain ⟨t, rfl⟩ := r; exact h
  | byt i => obtain ⟨t, rfl⟩ := r; exact h
  | flt i => obtain ⟨t, rfl⟩ := r; exact h
  | ref a => cases r; exact h
  | ty n => cases r; exact h

/-- x op y by the class's own method, both of one class -/
def rOwn (C : Addr) (sp : Sp) (E : XK) : R2 := fun x y H Q => ∃ a b dx dy fs gs, x = .ref a ∧ y = .ref b ∧ H a = some (.ins C dx fs) ∧ H b = some (.ins C dy gs) ∧ sp [x, y] H Q E
theorem op_own {op : Operator} (F : FnOk X.prog X.w X.K X.mg X.base CX k f fd ps sp) (hr : Room k X.A) (hb : Binds X.K fd ps []) (hx : Passes CX X E)
    (hc : PySem.W.selfFirst X.K C = true) (hs : PySem.W.findIn X.K (.ref C) (PySem.dunder op.info.2) = some (some (.ref f))) (hf : PySem.W.isFn X.K (.ref f) = true) :
    OpR X (binaryOp op) (rOwn C sp E) := by
  intro pins s σ H x y v u Q I rx ry h
  obtain ⟨a, b, dx, dy, fs, gs, rfl, rfl, ha, hbb, q⟩ := h
  cases rx
  cases ry
  obtain ⟨mA, J, _⟩ := ins_get I.hok ha
  obtain ⟨mB, J', _⟩ := ins_get I.hok hbb
  obtain ⟨od, J, _⟩ := J.look
  obtain ⟨od', J', _⟩ := J'.look
  obtain ⟨m, hF⟩ := I.fr
  refine PySem.W.binop_K hF I.ok.mod.kin J J'.type hc hs hf ?_
  exact wpAny_mono (run_fn (us := [.ref a, .ref b]) (vs := [.ref a, .ref b]) F hr hb .nil hx I (.cons rfl (.cons rfl .nil)) q) (fun v s' hv => back_ne hv) fun _ _ e => e

/-- x op n, n an int -/
def rOwnI (C : Addr) (sp : Sp) (E : XK) : R2 := fun x y H Q => ∃ a i dx fs, x = .ref a ∧ y = .int i ∧ H a = some (.ins C dx fs) ∧ sp [x, y] H Q E
theorem op_ownI {op : Operator} {rc fo ro : Option Value} (F : FnOk X.prog X.w X.K X.mg X.base CX k f fd ps sp) (hr : Room k X.A) (hb : Binds X.K fd ps []) (hx : Passes CX X E)
    (hc : PySem.W.selfFirst X.K C = true) (hs : PySem.W.findIn X.K (.ref C) (PySem.dunder op.info.2) = some (some (.ref f))) (hf : PySem.W.isFn X.K (.ref f) = true)
    (hrc : PySem.W.findIn X.K (.ref C) (dunderR op.info.2) = some rc) (hp : rc = none ∨ ∃ g : Addr, rc = some (.ref g))
    (h1 : PySem.W.findIn X.K (.type "int") (PySem.dunder op.info.2) = some fo) (h2 : PySem.W.findIn X.K (.type "int") (dunderR op.info.2) = some ro) (hsub : PySem.W.subIn X.K (.type "int") (.ref C) = some false) :
    OpR X (binaryOp op) (rOwnI C sp E) := by
  intro pins s σ H x y v u Q I rx ry h
  obtain ⟨a, i, dx, fs, rfl, rfl, ha, q⟩ := h
  cases rx
  obtain ⟨t, rfl⟩ := ry
  obtain ⟨mA, J, _⟩ := ins_get I.hok ha
  obtain ⟨od, J, _⟩ := J.look
  obtain ⟨m, hF⟩ := I.fr
  refine PySem.W.ksp_binT (b := .int i t) (T := "int") hF I.ok.mod.kin J rfl hc hs hf hrc hp h1 h2 hsub ?_
  exact wpAny_mono (run_fn (us := [.ref a, .int i t]) (vs := [.ref a, .int i]) F hr hb .nil hx I (.cons rfl (.cons ⟨t, rfl⟩ .nil)) q) (fun v s' hv => back_ne hv) fun _ _ e => e

/-- x == y by the class's own method -/
theorem op_eqOwn (F : FnOk X.prog X.w X.K X.mg X.base CX k f fd ps sp) (hr : Room k X.A) (hb : Binds X.K fd ps []) (hx : Passes CX X E)
    (hs : PySem.W.findIn X.K (.ref C) "__eq__" = some (some (.ref f))) (hf : PySem.W.isFn X.K (.ref f) = true) :
    OpR X (compareOp .Eq) (rOwn C sp E) := by
  intro pins s σ H x y v u Q I rx ry h
  obtain ⟨a, b, dx, dy, fs, gs, rfl, rfl, ha, hbb, q⟩ := h
  cases rx
  cases ry
  obtain ⟨mA, J, _⟩ := ins_get I.hok ha
  obtain ⟨mB, J', _⟩ := ins_get I.hok hbb
  obtain ⟨od, J, _⟩ := J.look
  obtain ⟨od', J', _⟩ := J'.look
  obtain ⟨m, hF⟩ := I.fr
  refine PySem.W.cmp_K (op := .Eq) (tb := .ref C) hr.units0 hF I.ok.mod.kin J J'.type (by simp [PySem.W.notFirst]) hs hf ?_
  exact wpAny_mono (run_fn (us := [.ref a, .ref b]) (vs := [.ref a, .ref b]) F hr hb .nil hx I (.cons rfl (.cons rfl .nil)) q) (fun v s' hv => back_ne hv) fun _ _ e => e

/-- the callee runs, called by a built-in -/
theorem run_fn1 {pins : List (Addr × Obj)} {σ : L2.St} {H : Hp} {s : Shared} {Q : VK} {us : List Value} {vs : List V} (F : FnOk X.prog X.w X.K X.mg X.base CX k f fd ps sp) (hr : Room (k + 1) X.A) (hb : Binds X.K fd ps []) (hx : Passes CX X E)
    (I : Inv X pins σ H s) (r : Vals vs us) (h : sp vs H Q E) : wpAny (model X.prog X.w) X.A.in1 (call (.ref f) us) (EP X pins σ Q) X.xe s := by
  have hl : (us ++ []).length = ps.length := by
    rw [List.append_nil, ← r.length]
    exact F.len _ _ _ _ h
  have hb' := hb s us I.kIn hl
  rw [List.append_nil] at hb'
  refine wpAny_call (codeAny_mono (F.run X.A.in1 X.stack s H ⟨us, []⟩ us vs Q E hr.in1 I.env0.in1 hb' r h) fun r s' hq => ?_)
  cases r with
  | error e => exact hx pins σ H s e s' I hq
  | ok fl =>
    cases fl with
    | ret u => exact I.after hq
    | next => exact False.elim hq
    | brk => exact False.elim hq
    | cont => exact False.elim hq

section
open PySem.W
variable {prog : Program} {w : World} {A : Around} {E' : Value → Shared → Prop} {s : Shared} {K : Frag} {x L : Addr} {h0 : Heap} {m : Str → Option Value} {ox : Obj} {od : Option Obj} {b : Value}
theorem ne_slot : Slot "object" "__ne__" "object.__ne__" :=
  .of (owner := "object") (n := "__ne__") (by rw [typeLookup_type, builtinLookup_eq_fast]; kernel_rfl) (by decide +kernel) (by decide +kernel) (by decide +kernel)
    (by first | exact .inl (by decide +kernel) | exact .inr (by decide +kernel)) (by rw [isSubtype_type]; kernel_rfl)
/-- object.__ne__ asks the own __eq__ -/
theorem objNe_K {Q : Fin → Shared → Prop} (hu : A.units < cLine) (X : K.In s.heap) (I : InstAt s.heap x ox C od) (hs : findIn K (.ref C) "__eq__" = some (some (.ref f))) (hf : isFn K (.ref f) = true)
    (h : wpAny (model prog w) A (call (.ref f) [.ref x, b]) (fun v s' => ∃ r, v = .bool r ∧ Q (.done (.ret (.bool (!r)))) s') E' s) :
    wpAny (model prog w) A (Builtin.«object.__ne__» ⟨[.ref x, b], []⟩) Q E' s := by
  have one : wpAny (model prog w) A (callSpecialIfBound? (.ref x) (Str.ofString "__eq__") [b]) (fun v s' => ∃ r, v = some (.bool r) ∧ Q (.done (.ret (.bool (!r)))) s') E' s :=
    ifBound_K X I hs hf (wpAny_mono h (fun v s' hv => by obtain ⟨r, rfl, q⟩ := hv; exact ⟨r, rfl, q⟩) fun _ _ e => e)
  unfold Builtin.«object.__ne__»
  obtain ⟨hh, g, d, t, os⟩ := s
  repeat (first
    | with_reducible refine wpAny_cRoomFor hu ?_
    | (refine wpAny_bind (m := callSpecialIfBound? (.ref x) (Str.ofString "__eq__") [b]) (wpAny_mono one (fun v s' hv => ?_) fun _ _ e => e); obtain ⟨r, rfl, hq⟩ := hv)
    | exact hq
    | exact wpAny_pure hq
    | (refine wpAny_bind (m := truthy (.bool _)) (wpAny_truthy_bool ?_))
    | wp_step)
/-- x's type is below object -/
theorem isObj_K {M : Model} (X : K.In s.heap) (I : InstAt s.heap x ox C od) (hm : mroIn K C (.type "object") = some true) : Looks M s.heap (isInstance (.ref x) (.type "object")) true :=
  I.type.andThen (looks_mroIn X hm)
theorem tryNe_K {Q : Option Value → Shared → Prop} (hu : A.units + 1 < cLine) (X : K.In s.heap) (I : InstAt s.heap x ox C od) (hn : findIn K (.ref C) "__ne__" = some (some (.builtin "object.__ne__"))) (hm : mroIn K C (.type "object") = some true)
    (hs : findIn K (.ref C) "__eq__" = some (some (.ref f))) (hf : isFn K (.ref f) = true)
    (h : wpAny (model prog w) A.in1 (call (.ref f) [.ref x, b]) (fun v s' => ∃ r, v = .bool r ∧ Q (some (.bool (!r))) s') E' s) :
    wpAny (model prog w) A (tryCompare (.ref x) "__ne__" b) Q E' s := by
  unfold tryCompare
  simp only [callSpecialIfBound?, bindSpecialIfBound?]
  refine wpAny_bind (wpAny_holding (wpAny_bind (wpAny_bind (wpAny_bind (I.type.here ((looks_findIn X hn).here ?_))))))
  simp only [ne_slot.bind]
  refine wpAny_bind (wpAny_askSetting (wpAny_ite ?_))
  have fin : wpAny (model prog w) A (call (.builtin "object.__ne__") ([.ref x] ++ [b])) (fun v s' => ∃ r, v = .bool r ∧ Q (some v) s') E' s := by
    refine wpAny_call (codeAny_call_builtin ne_slot.plain F.cmpEntry_ne (check_slot F.cmpKind_ne F.cmpSplit_ne (isObj_K X I hm) (F.cmpArgs_ne _ _) ?_))
    refine objNe_K (A := A.in1) hu X I hs hf (wpAny_mono h (fun v s' hv => ?_) fun _ _ e => e)
    obtain ⟨r, rfl, q⟩ := hv
    exact ⟨r, rfl, ⟨!r, rfl, q⟩⟩
  have fin2 : wpAny (model prog w) A (call (.builtin "object.__ne__") ([.ref x] ++ [b]) >>= fun v => pure (some v)) (fun v s' => ∃ r, v = some (.bool r) ∧ Q v s') E' s :=
    wpAny_bind (wpAny_mono fin (fun v s' hv => wpAny_pure (by obtain ⟨r, rfl, q⟩ := hv; exact ⟨r, rfl, q⟩)) fun _ _ e => e)
  have fin3 : wpAny (model prog w) A (call (.builtin "object.__ne__") ([.ref x] ++ [b]) >>= fun v => pure (some v)) (fun v s' => wpAny (model prog w) A (match v with
    | some .notImplemented => pure none | none => pure none | some v => pure (some v)) Q E' s') E' s :=
    wpAny_mono fin2 (fun v s' hv => by obtain ⟨r, rfl, q⟩ := hv; exact wpAny_pure q) fun _ _ e => e
  split
  · exact wpAny_bind (wpAny_pure (wpAny_pure fin3))
  · exact wpAny_tryCatch (wpAny_bind (wpAny_pure (wpAny_pure fin3)))
theorem ne_K {Q : Value → Shared → Prop} (hu : A.units + 1 < cLine) (X : K.In s.heap) (I : InstAt s.heap x ox C od) (hb : Looks (model prog w) s.heap (typeOf b) (.ref C)) (hn : findIn K (.ref C) "__ne__" = some (some (.builtin "object.__ne__")))
    (hm : mroIn K C (.type "object") = some true) (hs : findIn K (.ref C) "__eq__" = some (some (.ref f))) (hf : isFn K (.ref f) = true) (hone : ∀ v, b = .ref v ∨ True)
    (ho : oneThing? .NotEq (.ref x) b = none)
    (h : wpAny (model prog w) A.in1 (call (.ref f) [.ref x, b]) (fun v s' => ∃ r, v = .bool r ∧ Q (.bool (!r)) s') E' s) : wpAny (model prog w) A (richCompare .NotEq (.ref x) b) Q E' s := by
  unfold richCompare
  simp only [ho]
  refine wpAny_holding (wpAny_bind (wpAny_cRoomFor (Nat.lt_of_succ_lt hu) ?_))
  rw [cmpInfo_NotEq]
  dsimp only
  refine wpAny_bind (I.type.here (wpAny_bind (hb.here ?_)))
  rw [show (Value.ref C != Value.ref C) = false from by simp]
  simp only [Bool.false_eq_true, if_false]
  refine wpAny_bind (wpAny_pure ?_)
  simp only [Bool.false_eq_true, if_false]
  refine wpAny_bind (tryNe_K hu X I hn hm hs hf (wpAny_mono h (fun v s' hv => ?_) fun _ _ e => e))
  obtain ⟨r, rfl, q⟩ := hv
  exact ⟨r, rfl, wpAny_pure q⟩
end
/-- x != y by the class's own __eq__ -/
def rOwnNe (C : Addr) (sp : Sp) (E : XK) : R2 := fun x y H Q => ∃ a b dx dy fs gs, x = .ref a ∧ y = .ref b ∧ H a = some (.ins C dx fs) ∧ H b = some (.ins C dy gs) ∧ sp [x, y] H (fun z H' => ∃ r, z = .bl r ∧ Q (.bl (!r)) H') E
theorem op_neOwn (F : FnOk X.prog X.w X.K X.mg X.base CX k f fd ps sp) (hr : Room (k + 1) X.A) (hb : Binds X.K fd ps []) (hx : Passes CX X E)
    (hs : PySem.W.findIn X.K (.ref C) "__eq__" = some (some (.ref f))) (hf : PySem.W.isFn X.K (.ref f) = true)
    (hn : PySem.W.findIn X.K (.ref C) "__ne__" = some (some (.builtin "object.__ne__"))) (hm : PySem.W.mroIn X.K C (.type "object") = some true) :
    OpR X (compareOp .NotEq) (rOwnNe C sp E) := by
  intro pins s σ H x y v u Q I rx ry h
  obtain ⟨a, b, dx, dy, fs, gs, rfl, rfl, ha, hbb, q⟩ := h
  cases rx
  cases ry
  obtain ⟨mA, J, _⟩ := ins_get I.hok ha
  obtain ⟨mB, J', _⟩ := ins_get I.hok hbb
  obtain ⟨od, J, _⟩ := J.look
  obtain ⟨od', J', _⟩ := J'.look
  have hu := hr.units
  refine ne_K (by omega) I.kIn J J'.type hn hm hs hf (fun _ => .inr trivial) (by simp only [oneThing_ref]) ?_
  refine wpAny_mono (run_fn1 (us := [.ref a, .ref b]) (vs := [.ref a, .ref b]) F hr hb hx I (.cons rfl (.cons rfl .nil)) q) (fun v s' hv => ?_) fun _ _ e => e
  obtain ⟨z, H', I', rz, r, rfl, q⟩ := hv
  cases rz
  exact ⟨r, rfl, .bl (!r), H', I', rfl, q⟩
end
end Hn

/-! Defs by their promise alone; comprehensions by what each item is; the bag of drawn numbers. -/
namespace Hn
open PySem PySem.Spec PyProof.Rows L2 Evl

/-! ### defs -/
/-- the def at f keeps the promise sp, by at most level k -/
def Okf (P : Program) (w : World) (K : PySem.W.Frag) (mg : Str → Option Value) (base : Heap) (k : Nat) (f : Addr) (ps : List Str) (sp : Sp) : Prop :=
  ∃ fd, FnOk P w K mg base (L2.CX P w) k f fd ps sp ∧ Binds K fd ps []
section
variable {P : Program} {w : World} {K : PySem.W.Frag} {mg : Str → Option Value} {base : Heap}
theorem Okf.mono {j k : Nat} {f : Addr} {ps : List Str} {sp : Sp} (F : Okf P w K mg base j f ps sp) (h : j ≤ k) : Okf P w K mg base k f ps sp :=
  let ⟨fd, a, b⟩ := F
  ⟨fd, a.mono h, b⟩
theorem Okf.imp {k : Nat} {f : Addr} {ps : List Str} {sp sp' : Sp} (F : Okf P w K mg base k f ps sp) (h : ∀ vs H Q E, sp' vs H Q E → sp vs H Q E) : Okf P w K mg base k f ps sp' :=
  let ⟨fd, a, b⟩ := F
  ⟨fd, a.imp h, b⟩
/-- a def of the text that stands at f, and how it binds -/
def Df (K : PySem.W.Frag) (x qual : Str) (st : Stmt) (f : Addr) (ps : List Str) : Prop := ∃ fd, Fun K x qual st f fd ∧ Binds K fd ps []
theorem Df.kp {x qual : Str} {st : Stmt} {f : Addr} {ps : List Str} (F : Df K x qual st f ps) : PySem.W.keepIn K (.ref f) = true := let ⟨_, a, _⟩ := F; a.kp
/-- a def that lets nothing out keeps its promise wherever something may be let out -/
theorem fn_lift {CX : CXT} {k : Nat} {f : Addr} {fd : FuncData} {ps : List Str} {sp : Sp} (F : FnOk P w K mg base CX0 k f fd ps sp) : FnOk P w K mg base CX k f fd ps sp :=
  ⟨F.len, fun A outer s H args us vs Q E hr e0 hb r q => codeAny_mono (F.run A outer s H args us vs Q E hr e0 hb r q) fun rr s' hc => by
    cases rr with
    | error e => exact False.elim hc
    | ok fl => cases fl <;> exact hc⟩
theorem okf_of {x qual : Str} {st : Stmt} {f : Addr} {N ps : List Str} {k : Nat} {sp : Sp} (F : Df K x qual st f ps) (S : FnScope N ps (defScope st)) (len : ∀ vs H Q E, sp vs H Q E → vs.length = ps.length)
    (hbody : ∀ (cdv : Value) (A : Around) (outer : List Env) (s : Shared) (H : Hp) (vs : List V) (Q : VK) (E : XK), Room k (A.deeper (envOfC qual (defScope st) s.heap.objs.size f cdv)) → sp vs H Q E →
      ∃ t, PSs (cxOf CX0 P w K mg base N qual (defScope st) f cdv A outer s H E).nox (defBody st) t ∧ t { nx := fun _ H' => Q .non H', rt := Q } (start N vs) H) : Okf P w K mg base (k + 1) f ps sp :=
  let ⟨fd, a, b⟩ := F
  ⟨fd, fn_lift (a.ok S len hbody), b⟩
end
section
variable {X : Cx} {k : Nat} {f C : Addr} {ps : List Str} {sp : Sp} {x m : Str} {p pos apos : Pos} {e o : Expr} {es : List Expr} {ta : TE} {t : TA}
theorem pf_call (G : Okf X.prog X.w X.K X.mg X.base k f ps sp) (hr : Room k X.A) (hg : Gl X x) (hm : X.mg x = some (.ref f)) (hk : PySem.W.keepIn X.K (.ref f) = true)
    (ha : PA X (e :: es) t) (hdb : (x == ("__debug__" : Str)) = false := by decide) (he : starEach (e :: es) X.env = (false, eval e X.env) :: starEach es X.env := by rfl) (hpl : (backTo pos (starEach es X.env)).any (·.1) = false := by rfl) :
    PE X (.Call (.Name x p) (e :: es) [] pos) (tCall sp [] E0 t) :=
  let ⟨_, a, b⟩ := G
  pe_call a hr hg hm hk b .nil passL ha hdb he hpl
theorem pf_meth {pl : Sem Bool} (G : Okf X.prog X.w X.K X.mg X.base k f ps sp) (hr : Room k X.A) (c : Cls X.K C) (hm : Meth X.K C m f) (he : PE X o ta) (ha : PA X (e :: es) t)
    (hst : starEach (e :: es) X.env = (false, eval e X.env) :: starEach es X.env := by rfl) (hpl : (backTo pos (starEach es X.env)).any (·.1) = false := by rfl)
    (ht : eval (.Call (.Attribute o m apos) (e :: es) [] pos) X.env = (do
      let ov ← eval o X.env
      standAt apos.atName
      let (f, first) ← holding [ov] (getMethod ov m pl)
      callWith pos f first (backTo pos (starEach (e :: es) X.env)) (backToKw pos (keywordEach [] X.env))) := by rfl) :
    PE X (.Call (.Attribute o m apos) (e :: es) [] pos) (tMeth C m sp [] E0 ta t) :=
  let ⟨_, a, b⟩ := G
  pe_meth he c hm a hr b .nil passL ha hst hpl ht
theorem pf_meth0 {pl : Sem Bool} (G : Okf X.prog X.w X.K X.mg X.base k f ps sp) (hr : Room k X.A) (c : Cls X.K C) (hm : Meth X.K C m f) (he : PE X o ta)
    (ht : eval (.Call (.Attribute o m apos) [] [] pos) X.env = (do
      let ov ← eval o X.env
      standAt apos.atName
      let (f, first) ← holding [ov] (getMethod ov m pl)
      callWith pos f first (backTo pos (starEach [] X.env)) (backToKw pos (keywordEach [] X.env))) := by rfl) :
    PE X (.Call (.Attribute o m apos) [] [] pos) (tMeth C m sp [] E0 ta tNil) :=
  let ⟨_, a, b⟩ := G
  pe_meth0 he c hm a hr b .nil passL ht
theorem pf_make (G : Okf X.prog X.w X.K X.mg X.base k f ps sp) (hr : Room (k + 1) X.A) (M : Mk X.K C f) (hg : Gl X x) (hm : X.mg x = some (.ref C))
    (ha : PA X (e :: es) t) (hdb : (x == ("__debug__" : Str)) = false := by decide) (he : starEach (e :: es) X.env = (false, eval e X.env) :: starEach es X.env := by rfl) (hpl : (backTo pos (starEach es X.env)).any (·.1) = false := by rfl) :
    PE X (.Call (.Name x p) (e :: es) [] pos) (tMake C sp [] E0 t) :=
  let ⟨_, a, b⟩ := G
  pe_make M a hr hg hm b .nil passL ha hdb he hpl
theorem passN {X : Cx} : Passes (L2.CX X.prog X.w) X.nox E0 := fun _ _ _ _ _ _ _ h => by
  obtain ⟨_, _, _, _, _, _, _, _, _, _, _, _, z⟩ := h
  exact z.elim
theorem pf_prop {q : Addr} (G : Okf X.prog X.w X.K X.mg X.base k f ps sp) (hr : Room (k + 1) X.A) (c : Cls X.K C) (hp : PropOf X.K C m q f) (he : PE X e ta)
    (hab : attributeBase e m X.env (eval e X.env) = eval e X.env := by rfl) : PE X (.Attribute e m pos) (tProp C sp [] E0 ta) :=
  let ⟨_, a, b⟩ := G
  pe_prop he c hp a hr b .nil passN hab
end

/-! ### sequences -/
/-- a list or a tuple -/
def Sq (K : PySem.W.Frag) (H : Hp) (a : Addr) (xs : List V) : Prop := SqL K H a xs ∨ SqT K H a xs
theorem Sq.mono {K : PySem.W.Frag} {H H' : Hp} {a : Addr} {xs : List V} (e : Ex H H') (h : Sq K H a xs) : Sq K H' a xs := h.elim (fun h => .inl (ex_l e h)) (fun h => .inr (ex_t e h))
theorem Ex.upd2 {H H1 : Hp} {p : Addr} {o : HO} (e : Ex H H1) (h : H1 p = none) : Ex H (upd H1 p o) := e.trans (Ex.new h)

/-! ### items of rows of ints -/
theorem at_int {ns : List Int} {i : Int} (h0 : 0 ≤ i) (h1 : i < (ns.length : Int)) : atI (ns.map V.int) i = some (.int (ns.getD i.toNat 0)) := by
  obtain ⟨j, rfl⟩ : ∃ j : Nat, i = (j : Int) := ⟨i.toNat, by omega⟩
  have hj : j < ns.length := by omega
  refine atI_nat ?_
  rw [List.getElem?_map, List.getElem?_eq_getElem hj, Int.toNat_natCast, List.getD_eq_getElem?_getD, List.getElem?_eq_getElem hj]
  rfl
theorem int_at {ns : List Int} {i : Nat} {x : V} (h : (ns.map V.int)[i]? = some x) : x = .int (ns.getD i 0) := by
  rw [List.getElem?_map] at h
  rw [List.getD_eq_getElem?_getD]
  cases e : ns[i]? with
  | none => rw [e] at h; cases h
  | some u => rw [e] at h; exact (Option.some.inj h).symm
theorem gD_mem {ns : List Int} {j : Nat} (h : j < ns.length) : ns.getD j 0 ∈ ns := by
  rw [List.getD_eq_getElem?_getD, List.getElem?_eq_getElem h]
  exact List.getElem_mem h

/-! ### all but lists stays -/
def isLst : HO → Bool
  | .lst _ => true
  | _ => false
/-- what is no list stands as it stood -/
def Xl (H H' : Hp) : Prop := ∀ a o, H a = some o → isLst o = false → H' a = some o
theorem Xl.refl (H : Hp) : Xl H H := fun _ _ h _ => h
theorem Xl.trans {H H1 H2 : Hp} (a : Xl H H1) (b : Xl H1 H2) : Xl H H2 := fun x o h n => b x o (a x o h n) n
theorem Xl.of {H H' : Hp} (e : Ex H H') : Xl H H' := fun a o h _ => e a o h
theorem Xl.set {H : Hp} {l : Addr} {xs ys : List V} (h : H l = some (.lst xs)) : Xl H (upd H l (.lst ys)) := fun a o e n => by
  rw [upd_ne (ne_of e h (by intro z; rw [z] at n; cases n))]
  exact e

/-! ### comprehensions: each item is told by R, which stays -/
section
variable {J : It} {n : Nat} {G : Hp → Prop} {Y : Nat → Hp → V → Hp → Prop}
/-- what a comprehension's reading asks behind the walked thing -/
def LcTail (J : It) (H1 : Hp) (g : TG) (tt : TT) (te : TE) (vs : List Nat) (σ : L2.St) (Q : VK) : Prop :=
  ∀ D, H1 D = none → ∃ W : Nat → Nat → Hp → Prop, (∃ m, W 0 m (upd H1 D (.lst []))) ∧ ∀ i m H, W i m H →
      (J.stop i H ∧ Q (.ref D) H) ∨ (J.go i H ∧ ∃ Nx : Hp → Prop, (∀ H', Nx H' → ∃ m', m' < m ∧ W (i + 1) m' H') ∧ ∀ x H', J.yld i H x H' → g x (wipe σ vs) H' fun σ2 H2 => wipe σ2 vs = wipe σ vs ∧ tt σ2 H2 fun b H3 =>
        if b = true then te σ2 H3 fun y H4 => ∃ acc, H4 D = some (.lst acc) ∧ acc.length < sizeLine ∧ Nx (upd H4 D (.lst (acc ++ [y]))) else Nx H3)
/-- items f i of the turns i that pass the test p -/
theorem lc_fil (w : Walk J n G Y) {g : TG} {tt : TT} {te : TE} {vs : List Nat} {σ : L2.St} {H1 : Hp} {Q : VK} (p : Nat → Bool) (R : Addr → Nat → V → Hp → Prop) (hG : ∀ D H H', Ex H1 H' → Ex H H' → H1 D = none → (∃ xs, H D = some (.lst xs)) → G H')
    (hR1 : ∀ D i v H H', Ex H H' → R D i v H → R D i v H') (hR2 : ∀ D i v H xs ys, H D = some (.lst xs) → R D i v H → R D i v (upd H D (.lst ys))) (hn : n ≤ 100000)
    (turn : ∀ D i x H H', i < n → Ex H1 H → H1 D = none → (∃ xs, H D = some (.lst xs)) → Y i H x H' → ∀ k : Bool → Hp → Prop, ∀ kk : VK, (∀ y H4, p i = true → Ex H H4 → R D i y H4 → kk y H4) → (∀ H3, p i = false → Ex H H3 → k false H3) →
      g x (wipe σ vs) H' fun σ2 H2 => wipe σ2 vs = wipe σ vs ∧ tt σ2 H2 fun b H3 => if b = true then te σ2 H3 kk else k false H3)
    (fin : ∀ D H ys, H1 D = none → Ex H1 H → H D = some (.lst ys) → ys.length = ((List.range n).filter p).length → (∀ (j : Nat) (y : V) (i : Nat), ys[j]? = some y → ((List.range n).filter p)[j]? = some i → R D i y H) → Q (.ref D) H) :
    LcTail J H1 g tt te vs σ Q := by
  intro D hD
  refine lc_it w (fun i H => Ex H1 H ∧ ∃ ys, H D = some (.lst ys) ∧ ys.length = ((List.range i).filter p).length ∧ ∀ (j : Nat) (y : V) (i' : Nat), ys[j]? = some y → ((List.range i).filter p)[j]? = some i' → R D i' y H) ⟨Ex.new hD, [], upd_same, rfl, fun j y i h => by simp at h⟩ (fun i H _ q => hG D H H q.1 (Ex.refl H) hD (let ⟨ys, h, _⟩ := q.2; ⟨ys, h⟩)) (fun i x H H' hi q y => ?_) fun H q => ?_
  · obtain ⟨e, ys, hy, hl, hr⟩ := q
    have hlen : ys.length ≤ i := by
      rw [hl]
      have := List.length_filter_le p (List.range i)
      rw [List.length_range] at this
      exact this
    have T := turn D i x H H' hi e hD ⟨ys, hy⟩ y (fun _ H3 => Ex H1 H3 ∧ ∃ ys, H3 D = some (.lst ys) ∧ ys.length = ((List.range (i + 1)).filter p).length ∧ ∀ (j : Nat) (y : V) (i' : Nat), ys[j]? = some y → ((List.range (i + 1)).filter p)[j]? = some i' → R D i' y H3)
      (fun y H4 => ∃ acc, H4 D = some (.lst acc) ∧ acc.length < sizeLine ∧ Ex H1 (upd H4 D (.lst (acc ++ [y]))) ∧ ∃ ys, (upd H4 D (.lst (acc ++ [y]))) D = some (.lst ys) ∧ ys.length = ((List.range (i + 1)).filter p).length ∧ ∀ (j : Nat) (y' : V) (i' : Nat), ys[j]? = some y' → ((List.range (i + 1)).filter p)[j]? = some i' → R D i' y' (upd H4 D (.lst (acc ++ [y]))))
      ?_ ?_
    · exact T
    · intro z H4 pi e4 rz
      have hfil : (List.range (i + 1)).filter p = (List.range i).filter p ++ [i] := by
        rw [List.range_succ, List.filter_append, List.filter_cons, if_pos pi] <;> rfl
      have hD4 := e4 D _ hy
      refine ⟨ys, hD4, sz_lt (by omega), Ex.mut (e.trans e4) hD, ys ++ [z], upd_same, ?_, fun j u i' hj hi' => ?_⟩
      · rw [hfil, List.length_append, List.length_append, hl]
        rfl
      · rw [hfil] at hi'
        refine hR2 D i' u H4 ys _ hD4 ?_
        rcases Nat.lt_or_ge j ys.length with h | h
        · rw [List.getElem?_append_left h] at hj
          rw [List.getElem?_append_left (by omega)] at hi'
          exact hR1 D i' u H H4 e4 (hr j u i' hj hi')
        · have h0 : j = ys.length := by
            have := (List.getElem?_eq_some_iff.mp hj).1
            rw [List.length_append, List.length_singleton] at this
            omega
          subst h0
          rw [List.getElem?_append_right (Nat.le_refl _), Nat.sub_self] at hj
          rw [hl, List.getElem?_append_right (Nat.le_refl _), Nat.sub_self] at hi'
          have ej : z = u := by simpa using hj
          have ei : i = i' := by simpa using hi'
          rw [← ej, ← ei]
          exact rz
    · intro H3 pi e3
      have hfil : (List.range (i + 1)).filter p = (List.range i).filter p := by
        rw [List.range_succ, List.filter_append, List.filter_cons, if_neg (by rw [pi]; decide)]
        exact List.append_nil _
      rw [hfil]
      exact ⟨e.trans e3, ys, e3 D _ hy, hl, fun j u i' hj hi' => hR1 D i' u H H3 e3 (hr j u i' hj hi')⟩
  · obtain ⟨e, ys, hy, hl, hr⟩ := q
    exact fin D H ys hD e hy hl fun j y i h1 h2 => hr j y i h1 h2
/-- range(n) -/
theorem walk_r0 {n : Nat} : Walk (Itr 0 n) n (fun _ => True) (fun i H x H' => H' = H ∧ x = .int (i : Int)) :=
  ⟨fun _ _ hi _ => hi, fun _ _ => Nat.le_refl _, fun i _ x _ _ _ y => ⟨y.1, by rw [y.2, Int.zero_add]⟩⟩
theorem filter_all (n : Nat) : (List.range n).filter (fun _ => true) = List.range n := List.filter_eq_self.mpr fun _ _ => rfl
/-- every turn gives an item -/
theorem lc_map (w : Walk J n G Y) {g : TG} {te : TE} {vs : List Nat} {σ : L2.St} {H1 : Hp} {Q : VK} (R : Addr → Nat → V → Hp → Prop) (hG : ∀ D H H', Ex H1 H' → Ex H H' → H1 D = none → (∃ xs, H D = some (.lst xs)) → G H')
    (hR1 : ∀ D i v H H', Ex H H' → R D i v H → R D i v H') (hR2 : ∀ D i v H xs ys, H D = some (.lst xs) → R D i v H → R D i v (upd H D (.lst ys))) (hn : n ≤ 100000)
    (turn : ∀ D i x H H', i < n → Ex H1 H → H1 D = none → (∃ xs, H D = some (.lst xs)) → Y i H x H' → ∀ k : VK, (∀ y H4, Ex H H4 → R D i y H4 → k y H4) → g x (wipe σ vs) H' fun σ2 H2 => wipe σ2 vs = wipe σ vs ∧ te σ2 H2 k)
    (fin : ∀ D H ys, H1 D = none → Ex H1 H → H D = some (.lst ys) → ys.length = n → (∀ (i : Nat) (y : V), ys[i]? = some y → R D i y H) → Q (.ref D) H) :
    LcTail J H1 g tYes te vs σ Q := by
  refine lc_fil w (fun _ => true) R hG hR1 hR2 hn (fun D i x H H' hi e hD hx y k kk h1 _ => turn D i x H H' hi e hD hx y kk fun z H4 e4 r => h1 z H4 rfl e4 r) fun D H ys hD e hy hl hr => ?_
  rw [filter_all, List.length_range] at hl
  refine fin D H ys hD e hy hl fun i y h => hr i y i h ?_
  have hi := (List.getElem?_eq_some_iff.mp h).1
  rw [filter_all, List.getElem?_range (by omega)]
/-- .. each item a value that says nothing of the heap -/
theorem lc_val (w : Walk J n G Y) {g : TG} {te : TE} {vs : List Nat} {σ : L2.St} {H1 : Hp} {Q : VK} (R : Nat → V → Prop) (hG : ∀ H, Ex H1 H → G H) (hn : n ≤ 100000)
    (turn : ∀ i x H H', i < n → Ex H1 H → Y i H x H' → ∀ k : VK, (∀ y H4, Ex H H4 → R i y → k y H4) → g x (wipe σ vs) H' fun σ2 H2 => wipe σ2 vs = wipe σ vs ∧ te σ2 H2 k)
    (fin : ∀ D H ys, H1 D = none → Ex H1 H → H D = some (.lst ys) → ys.length = n → (∀ (i : Nat) (y : V), ys[i]? = some y → R i y) → Q (.ref D) H) : LcTail J H1 g tYes te vs σ Q :=
  lc_map w (fun _ i v _ => R i v) (fun _ _ H' e _ _ _ => hG H' e) (fun _ _ _ _ _ _ r => r) (fun _ _ _ _ _ _ _ r => r) hn (fun _ i x H H' hi e _ _ y k h => turn i x H H' hi e y k h) fun D H ys hD e hy hl hr => fin D H ys hD e hy hl hr
/-- .. each item just f i -/
theorem lc_fun (w : Walk J n G Y) {g : TG} {te : TE} {vs : List Nat} {σ : L2.St} {H1 : Hp} {Q : VK} (f : Nat → V) (hG : ∀ H, Ex H1 H → G H) (hn : n ≤ 100000)
    (turn : ∀ i x H H', i < n → Ex H1 H → Y i H x H' → ∀ k : VK, (∀ H4, Ex H H4 → k (f i) H4) → g x (wipe σ vs) H' fun σ2 H2 => wipe σ2 vs = wipe σ vs ∧ te σ2 H2 k)
    (fin : ∀ D H, H1 D = none → Ex H1 H → H D = some (.lst ((List.range n).map f)) → Q (.ref D) H) : LcTail J H1 g tYes te vs σ Q :=
  lc_val w (fun i y => y = f i) hG hn (fun i x H H' hi e y k h => turn i x H H' hi e y k fun H4 e4 => h _ H4 e4 rfl) fun D H ys hD e hy hl hr => by
    refine fin D H hD e ?_
    rw [hy]
    congr 2
    refine List.ext_getElem? fun i => ?_
    rcases Nat.lt_or_ge i n with h | h
    · have h2 : i < ys.length := by omega
      rw [List.getElem?_eq_getElem h2, List.getElem?_map, List.getElem?_range h, hr i ys[i] (List.getElem?_eq_getElem h2)]
      rfl
    · rw [List.getElem?_eq_none (by omega), List.getElem?_eq_none (by rw [List.length_map, List.length_range]; omega)]
/-- .. each item that passes just f i -/
theorem lc_filf (w : Walk J n G Y) {g : TG} {tt : TT} {te : TE} {vs : List Nat} {σ : L2.St} {H1 : Hp} {Q : VK} (p : Nat → Bool) (f : Nat → V) (hG : ∀ H, Ex H1 H → G H) (hn : n ≤ 100000)
    (turn : ∀ i x H H', i < n → Ex H1 H → Y i H x H' → ∀ k : Bool → Hp → Prop, ∀ kk : VK, (∀ H4, p i = true → Ex H H4 → kk (f i) H4) → (∀ H3, p i = false → Ex H H3 → k false H3) →
      g x (wipe σ vs) H' fun σ2 H2 => wipe σ2 vs = wipe σ vs ∧ tt σ2 H2 fun b H3 => if b = true then te σ2 H3 kk else k false H3)
    (fin : ∀ D H, H1 D = none → Ex H1 H → H D = some (.lst (((List.range n).filter p).map f)) → Q (.ref D) H) : LcTail J H1 g tt te vs σ Q :=
  lc_fil w p (fun _ i v _ => v = f i) (fun _ _ H' e _ _ _ => hG H' e) (fun _ _ _ _ _ _ r => r) (fun _ _ _ _ _ _ _ r => r) hn (fun _ i x H H' hi e _ _ y k kk h1 h2 => turn i x H H' hi e y k kk (fun H4 pi e4 => h1 _ H4 pi e4 rfl) h2) fun D H ys hD e hy hl hr => by
    refine fin D H hD e ?_
    rw [hy]
    congr 2
    refine List.ext_getElem? fun j => ?_
    rcases Nat.lt_or_ge j ys.length with h | h
    · have h2 : j < ((List.range n).filter p).length := by omega
      rw [List.getElem?_eq_getElem h, List.getElem?_map, List.getElem?_eq_getElem h2, hr j ys[j] _ (List.getElem?_eq_getElem h) (List.getElem?_eq_getElem h2)]
      rfl
    · rw [List.getElem?_eq_none (by omega), List.getElem?_eq_none (by rw [List.length_map]; omega)]
end
end Hn

/-! The bag of drawn numbers: its state is not told, so a draw changes nothing that is known. -/
namespace Hn
open PySem PySem.Spec PyProof.Rows L2 Evl

/-- what a bag's list holds -/
def BagV (l : Addr) (xs : List V) : Prop := ∃ c0 c1 c2 : Int, xs = [.int c0, .int c1, .int c2, .ref l] ∧ 0 ≤ c0 ∧ 0 ≤ c1 ∧ c1 < 2147483647 ∧ 0 ≤ c2
/-- the bag's own object: a list of such four -/
def BagO (b l : Addr) (h : Heap) : Prop := ∃ xs, BagV l xs ∧ ∃ (its : List Value) (n : Nat), Vals xs its ∧ h.get? b = some { cls := .type "list", data := .seq its.toArray n }
/-- a bag stands at b -/
def Bag (H : Hp) (b : Addr) : Prop := ∃ (l : Addr) (o : Obj) (cs : List Int), H b = some (.ext (BagO b l)) ∧ H l = some (.frz o (.lst (cs.map V.int))) ∧ (∀ c ∈ cs, 0 ≤ c) ∧ cs.length ≤ 63
theorem Bag.mono {H H' : Hp} {b : Addr} (e : Xl H H') (h : Bag H b) : Bag H' b :=
  let ⟨l, o, cs, h1, h2, h3, h4⟩ := h
  ⟨l, o, cs, e _ _ h1 rfl, e _ _ h2 rfl, h3, h4⟩

/-! ### another view of the heap at a def's end -/
section
variable {P : Program} {w : World} {K : PySem.W.Frag} {mg : Str → Option Value} {base : Heap} {CX : CXT}
/-- what is tracked may be told otherwise when a def ends -/
theorem fn_alt {k : Nat} {f : Addr} {fd : FuncData} {ps : List Str} {sp sp' : Sp} (F : FnOk P w K mg base CX k f fd ps sp)
    (h : ∀ vs H Q E, sp' vs H Q E → sp vs H (fun v H1 => ∀ h' : Heap, HOk P w H1 h' → ∃ H2 : Hp, HOk P w H2 h' ∧ (∀ a, H1 a = none → H2 a = none) ∧ (∀ b xs, H b = some (.tup xs) → H2 b = some (.tup xs)) ∧
      (∀ b o u, H b = some (.frz o u) → H2 b = some (.frz o u)) ∧ (∀ b qs, H b = some (.tbl qs) → ∃ more, H2 b = some (.tbl (qs ++ more))) ∧ Q v H2) E) : FnOk P w K mg base CX k f fd ps sp' := by
  refine ⟨fun vs H Q E q => F.len _ _ _ _ (h vs H Q E q), fun A outer s H args us vs Q E hr e0 hb r q => ?_⟩
  refine codeAny_mono (F.run A outer s H args us vs _ E hr e0 hb r (h vs H Q E q)) fun rr s' hc => ?_
  cases rr with
  | error e => exact hc
  | ok fl =>
    cases fl with
    | ret u =>
      obtain ⟨v, H1, h1, h2, un, hok, rv, q⟩ := hc
      obtain ⟨H2, k1, k2, k3, k4, k5, k6⟩ := q s'.heap hok
      exact ⟨v, H2, h1, h2, ⟨un.keep, un.slot, fun b o e n x => k2 b (un.free b o e n x), un.there, k3, k4, k5⟩, k1, rv, k6⟩
    | next => exact False.elim hc
    | brk => exact False.elim hc
    | cont => exact False.elim hc
theorem okf_alt {k : Nat} {f : Addr} {ps : List Str} {sp sp' : Sp} (F : Okf P w K mg base k f ps sp)
    (h : ∀ vs H Q E, sp' vs H Q E → sp vs H (fun v H1 => ∀ h' : Heap, HOk P w H1 h' → ∃ H2 : Hp, HOk P w H2 h' ∧ (∀ a, H1 a = none → H2 a = none) ∧ (∀ b xs, H b = some (.tup xs) → H2 b = some (.tup xs)) ∧
      (∀ b o u, H b = some (.frz o u) → H2 b = some (.frz o u)) ∧ (∀ b qs, H b = some (.tbl qs) → ∃ more, H2 b = some (.tbl (qs ++ more))) ∧ Q v H2) E) : Okf P w K mg base k f ps sp' :=
  let ⟨fd, a, b⟩ := F
  ⟨fd, fn_alt a h, b⟩
/-- what stands at a may be told otherwise, if it is so and nothing leans on it -/
theorem hok_put {H : Hp} {h : Heap} {a : Addr} {o u : HO} (x : HOk P w H h) (ha : H a = some o) (hm : Mut (some o)) (hu : ObjOk P w (upd H a u) h a u) : HOk P w (upd H a u) h := fun b q e => by
  by_cases hb : b = a
  · subst hb
    rw [upd_same] at e
    cases e
    exact hu
  · rw [upd_ne hb] at e
    refine (x b q e).stay (fun _ _ _ z => z) (fun c z => ?_) fun c xs z => ?_
    · rw [upd_ne (ne_of z ha (by intro q; rw [← q] at hm; exact hm))]
      exact z
    · rw [upd_ne (ne_of z ha (by intro q; rw [← q] at hm; exact hm))]
      exact z
theorem ext_ok {H : Hp} {h : Heap} {b l : Addr} {xs : List V} (hx : BagV l xs) (ok : ObjOk P w H h b (.lst xs)) (H' : Hp) : ObjOk P w H' h b (.ext (BagO b l)) := by
  obtain ⟨_, its, n, r, e⟩ := ok
  refine ⟨⟨xs, hx, its, n, r, e⟩, ⟨_, e⟩, fun h1 h2 q k => ?_⟩
  obtain ⟨xs', hx', its', n', r', e'⟩ := q
  exact ⟨xs', hx', its', n', r', k _ e'⟩

/-- what _law_take promises of the list itself -/
def spTakeL : Sp := fun vs H Q _ => ∃ (b l : Addr) (u : Int) (o : Obj) (cs : List Int) (xs : List V), vs = [.ref b, .int u] ∧ H b = some (.lst xs) ∧ BagV l xs ∧ H l = some (.frz o (.lst (cs.map V.int))) ∧ (∀ c ∈ cs, 0 ≤ c) ∧ cs.length ≤ 63 ∧ 0 < u ∧ u < 1073741824 ∧
  ∀ (n : Int) (ys : List V), 0 ≤ n → n < u → BagV l ys → Q (.int n) (upd H b (.lst ys))
/-- .. of the bag: some number below the bound, nothing else is otherwise -/
def spTake : Sp := fun vs H Q _ => ∃ (b : Addr) (u : Int), vs = [.ref b, .int u] ∧ Bag H b ∧ 0 < u ∧ u < 1073741824 ∧ ∀ n : Int, 0 ≤ n → n < u → Q (.int n) H

theorem take_ok {k : Nat} {f : Addr} {ps : List Str} (F : Okf P w K mg base k f ps spTakeL) (hl : ps.length = 2) : Okf P w K mg base k f ps spTake := by
  obtain ⟨fd, F, hb⟩ := F
  refine ⟨fd, ⟨fun vs H Q E q => ?_, fun A outer s H args us vs Q E hr e0 hbd r q => ?_⟩, hb⟩
  · obtain ⟨b, u, rfl, _⟩ := q
    exact hl.symm
  · obtain ⟨b, u, rfl, ⟨l, o, cs, hB, hL, hc, hcl⟩, hu0, hu1, k⟩ := q
    obtain ⟨⟨xs, hx, its, n, rv, hobj⟩, _, _⟩ := e0.hok b _ hB
    have hz : xs.length ≤ sizeLine := by
      obtain ⟨c0, c1, c2, rfl, _⟩ := hx
      show 4 ≤ sizeLine
      decide
    have ok1 : HOk P w (upd H b (.lst xs)) s.heap := hok_put e0.hok hB trivial ⟨hz, its, n, rv, hobj⟩
    have nb : ∀ c, H c = none → c ≠ b := fun c z y => by rw [y, hB] at z; cases z
    have e1 : Env0 P w K mg base A outer s (upd H b (.lst xs)) :=
      ⟨e0.frames, e0.mod, fun c q e => ⟨(e0.bs c q e).1, by rw [upd_ne (nb c (e0.bs c q e).2)]; exact (e0.bs c q e).2⟩, e0.bsz, e0.funs, fun c hc' => by rw [upd_ne (nb c (e0.frf c hc'))]; exact e0.frf c hc', ok1, e0.bare⟩
    have nl : l ≠ b := ne_of hL hB (by intro z; cases z)
    refine codeAny_mono (F.run A outer s (upd H b (.lst xs)) args us [.ref b, .int u] (fun v H' => ∃ m ys, v = .int m ∧ 0 ≤ m ∧ m < u ∧ BagV l ys ∧ H' = upd H b (.lst ys)) E0 hr e1 hbd r
      ⟨b, l, u, o, cs, xs, rfl, upd_same, hx, by rw [upd_ne nl]; exact hL, hc, hcl, hu0, hu1, fun m ys h0 h1 hy => ⟨m, ys, rfl, h0, h1, hy, upd_upd⟩⟩) fun rr s' hc' => ?_
    cases rr with
    | error e =>
      obtain ⟨_, _, _, _, _, _, _, _, _, _, _, _, z⟩ := hc'
      exact z.elim
    | ok fl =>
      cases fl with
      | ret uu =>
        obtain ⟨v, H1, h1, h2, un, hok, rv', m, ys, rfl, m0, m1, hy, rfl⟩ := hc'
        refine ⟨.int m, H, h1, h2, ⟨fun c q e n hf hx' => ?_, fun c q e n hf hx' => ?_, fun c q e n hx' => n, un.there, fun _ _ z => z, fun _ _ _ z => z, fun c qs z => ⟨#[], by rw [z]; simp⟩⟩, ?_, rv', k m m0 m1⟩
        · exact un.keep c q e (by rw [upd_ne (nb c n)]; exact n) hf hx'
        · exact un.slot c q e (by rw [upd_ne (nb c n)]; exact n) hf hx'
        · have ok2 := hok_put hok (upd_same (H := H)) trivial (u := .ext (BagO b l)) (ext_ok hy (hok b _ upd_same) _)
          rw [upd_upd] at ok2
          have eH : upd H b (.ext (BagO b l)) = H := by
            funext c
            by_cases hcb : c = b
            · subst hcb
              rw [upd_same, hB]
            · rw [upd_ne hcb]
          rw [eH] at ok2
          exact ok2
      | next => exact False.elim hc'
      | brk => exact False.elim hc'
      | cont => exact False.elim hc'

/-- what _law_bag promises of the lists themselves, and of the bag -/
def spBagL (K : PySem.W.Frag) : Sp := fun vs H Q _ => ∃ (a : Addr) (ns : List Int), vs = [.ref a] ∧ SqL K H a (ns.map V.int) ∧ ns.length ≤ 63 ∧
  ∀ (b l : Addr) (cs : List Int) (H' : Hp), Ex H H' → H b = none → H l = none → H' b = some (.lst [.int 0, .int 1234567891, .int 0, .ref l]) → H' l = some (.lst (cs.map V.int)) → (∀ c ∈ cs, 0 ≤ c) → cs.length ≤ 63 → Q (.ref b) H'
def spBag (K : PySem.W.Frag) : Sp := fun vs H Q _ => ∃ (a : Addr) (ns : List Int), vs = [.ref a] ∧ SqL K H a (ns.map V.int) ∧ ns.length ≤ 63 ∧ ∀ (b : Addr) (H' : Hp), Ex H H' → Bag H' b → Q (.ref b) H'
theorem bag_ok {k : Nat} {f : Addr} {ps : List Str} (F : Okf P w K mg base k f ps (spBagL K)) : Okf P w K mg base k f ps (spBag K) := by
  refine okf_alt F fun vs H Q E q => ?_
  obtain ⟨a, ns, rfl, hS, hl, k⟩ := q
  refine ⟨a, ns, rfl, hS, hl, fun b l cs H' e nb nl hb hL h0 hcl h' hok => ?_⟩
  have nlb : l ≠ b := ne_of hL hb (by
    intro z
    have z' : cs.map V.int = [.int 0, .int 1234567891, .int 0, .ref l] := by injection z
    have := congrArg (fun z => z[3]?) z'
    rw [List.getElem?_map] at this
    cases hh : cs[3]? with
    | none => rw [hh] at this; simp at this
    | some q => rw [hh] at this; simp at this)
  obtain ⟨hz, its, n, r, hobj⟩ := hok l _ hL
  have ok1 : HOk P w (upd H' l (.frz { cls := .type "list", data := .seq its.toArray n } (.lst (cs.map V.int)))) h' := hok_put hok hL trivial ⟨hobj, hz, its, n, r, hobj⟩
  have hb1 : upd H' l (.frz { cls := .type "list", data := .seq its.toArray n } (.lst (cs.map V.int))) b = some (.lst [.int 0, .int 1234567891, .int 0, .ref l]) := by rw [upd_ne nlb.symm]; exact hb
  have hv : BagV l [.int 0, .int 1234567891, .int 0, .ref l] := ⟨0, 1234567891, 0, rfl, by decide, by decide, by decide, by decide⟩
  have ok2 := hok_put ok1 hb1 trivial (u := .ext (BagO b l)) (ext_ok hv (ok1 b _ hb1) _)
  have e2 : Ex H (upd (upd H' l (.frz { cls := .type "list", data := .seq its.toArray n } (.lst (cs.map V.int)))) b (.ext (BagO b l))) := Ex.mut (Ex.mut e nl) nb
  refine ⟨_, ok2, fun c hc => ?_, fun c xs z => e2 _ _ z, fun c o u z => e2 _ _ z, fun c qs z => ⟨#[], by rw [e2 _ _ z]; simp⟩, k b _ e2 ⟨l, _, cs, upd_same, by rw [upd_ne nlb]; exact upd_same, h0, hcl⟩⟩
  have c1 : c ≠ b := fun z => by rw [z, hb] at hc; cases hc
  have c2 : c ≠ l := fun z => by rw [z, hL] at hc; cases hc
  rw [upd_ne c1, upd_ne c2]
  exact hc
end
end Hn

/-! More rules: the operators by promises, constants, subscripts of own classes. -/
namespace Hn
open PySem PySem.Spec PyProof.Rows L2 Evl
section
variable {X : Cx} {k : Nat} {f C : Addr} {ps : List Str} {sp : Sp}
theorem pe_gint {x : Str} {i : Int} {pos : Pos} (hg : Gl X x) (hm : ∃ t : Tok, X.mg x = some (.int i t)) (hd : (x == ("__debug__" : Str)) = false := by decide) : PE X (.Name x pos) (tC (.int i)) :=
  let ⟨t, h⟩ := hm
  pe_glob hg h ⟨t, rfl⟩ hd
theorem op_ownB {op : Operator} (G : Okf X.prog X.w X.K X.mg X.base k f ps sp) (hr : Room k X.A)
    (hc : PySem.W.selfFirst X.K C = true) (hs : PySem.W.findIn X.K (.ref C) (PySem.dunder op.info.2) = some (some (.ref f))) (hf : PySem.W.isFn X.K (.ref f) = true) : OpR X (binaryOp op) (rOwn C sp E0) :=
  let ⟨_, a, b⟩ := G
  op_own a hr b passL hc hs hf
theorem op_eqB (G : Okf X.prog X.w X.K X.mg X.base k f ps sp) (hr : Room k X.A)
    (hs : PySem.W.findIn X.K (.ref C) "__eq__" = some (some (.ref f))) (hf : PySem.W.isFn X.K (.ref f) = true) : OpR X (compareOp .Eq) (rOwn C sp E0) :=
  let ⟨_, a, b⟩ := G
  op_eqOwn a hr b passL hs hf
theorem op_neB (G : Okf X.prog X.w X.K X.mg X.base k f ps sp) (hr : Room (k + 1) X.A)
    (hs : PySem.W.findIn X.K (.ref C) "__eq__" = some (some (.ref f))) (hf : PySem.W.isFn X.K (.ref f) = true)
    (hn : PySem.W.findIn X.K (.ref C) "__ne__" = some (some (.builtin "object.__ne__"))) (hm : PySem.W.mroIn X.K C (.type "object") = some true) : OpR X (compareOp .NotEq) (rOwnNe C sp E0) :=
  let ⟨_, a, b⟩ := G
  op_neOwn a hr b passL hs hf hn hm
end
end Hn

/-! Readings opened one by one, by their heads. -/
namespace Hn
open PySem PySem.Spec PyProof.Rows L2 Evl
section
variable {K : PySem.W.Frag} {σ : L2.St} {H : Hp} {Q : VK} {QB : Bool → Hp → Prop} {D : Ends} {ta tb tc te : TE} {t u : TS} {tt tu : TT} {ar : TA} {QA : List V → Hp → Prop} {r r' : R2} {x y v : V} {i j : Int} {n : Nat} {wi : TI} {g : TG} {R : It → Hp → Prop} {vs : List Nat}
theorem r_seq (h : t { D with nx := u D } σ H) : tSeq t u D σ H := h
theorem r_next (h : D.nx σ H) : tNext D σ H := h
theorem r_asg (h : te σ H fun x H1 => g x σ H1 D.nx) : tAsg te g D σ H := h
theorem r_name {q : L2.St → Hp → Prop} (h : q (σ.set n (some v)) H) : gName n v σ H q := h
theorem r_ret (h : te σ H D.rt) : tRet te D σ H := h
theorem r_retN (h : D.rt .non H) : tRetN D σ H := h
theorem r_drop (h : te σ H fun _ H1 => D.nx σ H1) : tDrop te D σ H := h
theorem r_ifS (h : tt σ H fun b H1 => if b = true then t D σ H1 else u D σ H1) : tIfS tt t u D σ H := h
theorem r_test (h : te σ H fun x H' => ∃ k, x = .bl k ∧ QB k H') : tTest te σ H QB := h
theorem r_B (h : te σ H fun x H' => ∃ k, x = .bl k ∧ QB k H') : tB te σ H QB := h
theorem r_and (h : tt σ H fun c H1 => if c = true then tu σ H1 QB else QB false H1) : tAnd tt tu σ H QB := h
theorem r_or (h : tt σ H fun c H1 => if c = true then QB true H1 else tu σ H1 QB) : tOr tt tu σ H QB := h
theorem r_not (h : tt σ H fun c H1 => QB (!c) H1) : tNot tt σ H QB := h
theorem r_andV (h : ta σ H fun x H1 => ∃ c, x = .bl c ∧ if c = true then tb σ H1 Q else Q (.bl false) H1) : tAndV ta tb σ H Q := h
theorem r_orV (h : ta σ H fun x H1 => ∃ c, x = .bl c ∧ if c = true then Q (.bl true) H1 else tb σ H1 Q) : tOrV ta tb σ H Q := h
theorem r_notV (h : ta σ H fun x H1 => ∃ c, x = .bl c ∧ Q (.bl (!c)) H1) : tNotV ta σ H Q := h
theorem r_if (h : tt σ H fun c H1 => if c = true then ta σ H1 Q else tb σ H1 Q) : tIf tt ta tb σ H Q := h
theorem r_var (h : σ[n]? = some (some v)) (q : Q v H) : tVar n σ H Q := ⟨v, h, q⟩
theorem r_c (q : Q v H) : tC v σ H Q := q
theorem r_op (h : ta σ H fun x H1 => tb σ H1 fun y H2 => r x y H2 Q) : tOp r ta tb σ H Q := h
theorem r_un {ru : V → Hp → VK → Prop} (h : ta σ H fun x H1 => ru x H1 Q) : tUn ru ta σ H Q := h
theorem r_chain (h : ta σ H fun x H1 => tb σ H1 fun y H2 => r x y H2 fun z H3 => ∃ k, z = .bl k ∧ (if k = true then tc σ H3 fun w' H4 => r' y w' H4 Q else Q (.bl false) H3)) : tChain r r' ta tb tc σ H Q := h
theorem r_lst (h : ar σ H fun xs H1 => xs.length ≤ sizeLine ∧ ∀ p, H1 p = none → Q (.ref p) (upd H1 p (.lst xs))) : tLst ar σ H Q := h
theorem r_tup (h : ar σ H fun xs H1 => xs.length ≤ sizeLine ∧ ∀ p, H1 p = none → Q (.ref p) (upd H1 p (.tup xs))) : tTup ar σ H Q := h
theorem r_nil (h : QA [] H) : tNil σ H QA := h
theorem r_cons (h : ta σ H fun x H1 => ar σ H1 fun xs H2 => QA (x :: xs) H2) : tCons ta ar σ H QA := h
theorem r_call {sp : Sp} {dvs : List V} {E : XK} (h : ar σ H fun vs H1 => sp (vs ++ dvs) H1 Q E) : tCall sp dvs E ar σ H Q := h
theorem r_call1 {sp : Sp} {E : XK} {ws : List V} (h : sp ws H Q E) : sp (ws ++ []) H Q E := by rw [List.append_nil]; exact h
theorem r_meth {sp : Sp} {C : Addr} {m : Str} {E : XK} (h : ta σ H fun x H1 => ∃ a dx fs, x = .ref a ∧ H1 a = some (.ins C dx fs) ∧ fs.lookup m = none ∧ ar σ H1 fun vs H2 => sp (x :: (vs ++ [])) H2 Q E) : tMeth C m sp [] E ta ar σ H Q := h
theorem r_make {sp : Sp} {C : Addr} {E : XK} (h : ar σ H fun vs H1 => ∀ x dx, H1 x = none → H1 dx = none → dx ≠ x → sp (.ref x :: (vs ++ [])) (upd (upd H1 dx (.own x)) x (.ins C dx [])) (fun v H2 => v = .non ∧ Q (.ref x) H2) E) : tMake C sp [] E ar σ H Q := h
theorem r_prop {sp : Sp} {C : Addr} {E : XK} (h : ta σ H fun x H1 => ∃ a dx fs, x = .ref a ∧ H1 a = some (.ins C dx fs) ∧ sp [.ref a] H1 Q E) : tProp C sp [] E ta σ H Q := h
theorem r_cb {rc : List V → Hp → VK → Prop} (h : ar σ H fun vs H1 => rc vs H1 Q) : tCB rc ar σ H Q := h
theorem r_bm {T : String} {rm : V → List V → Hp → VK → Prop} (h : te σ H fun x H1 => tyV K T x H1 ∧ ar σ H1 fun xs H2 => rm x xs H2 Q) : tBM K T rm te ar σ H Q := h
theorem r_bm0 {T : String} {rm : V → List V → Hp → VK → Prop} (h : te σ H fun x H1 => tyV K T x H1 ∧ rm x [] H1 Q) : tBM0 K T rm te σ H Q := h
theorem r_sl {rs : V → Option Int → Option Int → Hp → VK → Prop} {tl th : TO} (h : te σ H fun x H1 => tl σ H1 fun l H2 => th σ H2 fun u H3 => rs x l u H3 Q) : L2.tSl rs te tl th σ H Q := h
theorem r_noPart {q : Option Int → Hp → Prop} (h : q none H) : tNoPart σ H q := h
theorem r_part {q : Option Int → Hp → Prop} (h : te σ H fun x H1 => ∃ i, x = .int i ∧ q (some i) H1) : tPart te σ H q := h
theorem r_int1 {p : Int → Prop} (h : p i) : ∃ k, V.int i = .int k ∧ p k := ⟨i, rfl, h⟩
theorem r_bl1 {b : Bool} {p : Bool → Prop} (h : p b) : ∃ k, V.bl b = .bl k ∧ p k := ⟨b, rfl, h⟩
theorem r_revL (h : te σ H fun x H1 => ∃ a xs, x = .ref a ∧ SqL K H1 a xs ∧ ∀ p, H1 p = none → Q (.ref p) (upd H1 p (.lst xs.reverse))) : tRevL K te σ H Q := h
theorem r_lc (h : wi σ H fun J H1 => LcTail J H1 g tt te vs σ Q) : tLc wi g tt te vs σ H Q := h
theorem r_par {n m : Nat} (h : ar σ H fun vs H1 => ∃ v w, vs = [v, w] ∧ D.nx ((σ.set n (some v)).set m (some w)) H1) : tPar n m ar D σ H := h
theorem r_par3 {n m l : Nat} (h : ar σ H fun vs H1 => ∃ u v w, vs = [u, v, w] ∧ D.nx (((σ.set n (some u)).set m (some v)).set l (some w)) H1) : tPar3 n m l ar D σ H := h
theorem r_two {p : V → V → Prop} {a b : V} (h : p a b) : ∃ v w, [a, b] = [v, w] ∧ p v w := ⟨a, b, rfl, h⟩
theorem r_three {p : V → V → V → Prop} {a b c : V} (h : p a b c) : ∃ u v w, [a, b, c] = [u, v, w] ∧ p u v w := ⟨a, b, c, rfl, h⟩
theorem r_aug {ti : TIp} {x : V} (h : σ[n]? = some (some x)) (q : te σ H fun y H1 => ti x y H1 fun z H2 => D.nx (σ.set n (some z)) H2) : tAug n te ti D σ H := ⟨x, h, q⟩
theorem r_augS {ti te' : TE} {tget : V → V → Hp → VK → Prop} {tip : TIp} {tset : TSet} (h : ta σ H fun o H1 => ti σ H1 fun i H2 => tget o i H2 fun x H3 => te' σ H3 fun y H4 => tip x y H4 fun z H5 => tset o i z H5 fun H6 => D.nx σ H6) : tAugS ta ti te' tget tip tset D σ H := h
theorem r_sub {tset : TSet} {q : L2.St → Hp → Prop} (h : ta σ H fun o H1 => tb σ H1 fun i H2 => tset o i v H2 fun H3 => q σ H3) : gSub ta tb tset v σ H q := h
theorem r_fld {f : Str} (h : ta σ H fun x H1 => ∃ a C dx fs v, x = .ref a ∧ H1 a = some (.ins C dx fs) ∧ Cls K C ∧ NoAttr K C f ∧ fs.lookup f = some v ∧ Q v H1) : tFld K ta f σ H Q := h
theorem r_sfld {f : Str} (h : tb σ H fun y H1 => ta σ H1 fun x H2 => ∃ a C dx fs, x = .ref a ∧ H2 a = some (.ins C dx fs) ∧ Cls K C ∧ NoAttr K C f ∧ fs.length < 1000 ∧ D.nx σ (upd H2 a (.ins C dx (putF f y fs)))) : sFld K ta tb f D σ H := h
theorem r_iList (h : te σ H fun x H1 => ∃ a, x = .ref a ∧ (∃ xs, SqL K H1 a xs) ∧ R (Itl K a) H1) : iList K te σ H R := h
theorem r_iTup (h : te σ H fun x H1 => ∃ a, x = .ref a ∧ (∃ xs, SqT K H1 a xs) ∧ R (Itt K a) H1) : iTup K te σ H R := h
theorem r_iRng1 (h : ar σ H fun vs H1 => ∃ j : Int, vs = [.int j] ∧ -(2 ^ 62) ≤ j ∧ j < 2 ^ 62 ∧ R (Itr 0 j.toNat) H1) : iRng1 ar σ H R := h
theorem r_iRng2 (h : ar σ H fun vs H1 => ∃ i j : Int, vs = [.int i, .int j] ∧ (-(2 ^ 62) ≤ i ∧ i < 2 ^ 62 ∧ -(2 ^ 62) ≤ j ∧ j < 2 ^ 62) ∧ R (Itr i (j - i).toNat) H1) : iRng2 ar σ H R := h
theorem r_iEnum (h : ar σ H fun vs H1 => ∃ a xs, vs = [.ref a] ∧ SqL K H1 a xs ∧ R (Ite K a) H1) : iEnum K ar σ H R := h
theorem r_iZip (h : ar σ H fun vs H1 => ∃ a b xs ys, vs = [.ref a, .ref b] ∧ SqL K H1 a xs ∧ SqL K H1 b ys ∧ R (Itz K a b) H1) : iZip K ar σ H R := h
theorem r_range1 {p : Int → Prop} (h0 : -(2 ^ 62) ≤ i) (h1 : i < 2 ^ 62) (h : p i) : ∃ j : Int, [V.int i] = [.int j] ∧ -(2 ^ 62) ≤ j ∧ j < 2 ^ 62 ∧ p j := ⟨i, rfl, h0, h1, h⟩
theorem r_yes (h : QB true H) : tYes σ H QB := h
theorem r_wipe {σ2 : L2.St} {p : Prop} (e : wipe σ2 vs = wipe σ vs) (h : p) : wipe σ2 vs = wipe σ vs ∧ p := ⟨e, h⟩
theorem r_pair {T : Addr} {n m : Nat} {q : L2.St → Hp → Prop} (h : q ((σ.set n (some x)).set m (some y)) (upd H T (.tup [x, y]))) : gTup K 2 (gCons (gName n) (gCons (gName m) gNil)) (.ref T) σ (upd H T (.tup [x, y])) q :=
  ⟨T, [x, y], rfl, .inl (.inl upd_same), rfl, x, [y], rfl, y, [], rfl, rfl, h⟩
/-! values -/
theorem r_I0 {f : Int → Int → V} (q : Q (f i j) H) : rI0 f (.int i) (.int j) H Q := ⟨i, j, rfl, rfl, q⟩
theorem r_I {C : Int → Int → Prop} {f : Int → Int → V} (c : C i j) (q : Q (f i j) H) : rI C f (.int i) (.int j) H Q := ⟨i, j, rfl, rfl, c, q⟩
theorem r_U {f : Int → V} (q : Q (f i) H) : rU f (.int i) H Q := ⟨i, rfl, q⟩
theorem r_eqI (q : Q (.bl (decide (i = j))) H) : rEq (.int i) (.int j) H Q := by
  refine ⟨rfl, ?_⟩
  have e : decide (V.int i = V.int j) = decide (i = j) := by rw [Bool.eq_iff_iff]; simp
  rw [e]
  exact q
theorem r_neI (q : Q (.bl (!decide (i = j))) H) : rNe (.int i) (.int j) H Q := by
  refine ⟨rfl, ?_⟩
  have e : decide (V.int i = V.int j) = decide (i = j) := by rw [Bool.eq_iff_iff]; simp
  rw [e]
  exact q
theorem r_eqB {a b : Bool} (q : Q (.bl (decide (a = b))) H) : rEq (.bl a) (.bl b) H Q := by
  refine ⟨rfl, ?_⟩
  have e : decide (V.bl a = V.bl b) = decide (a = b) := by rw [Bool.eq_iff_iff]; simp
  rw [e]
  exact q
theorem r_neB {a b : Bool} (q : Q (.bl (!decide (a = b))) H) : rNe (.bl a) (.bl b) H Q := by
  refine ⟨rfl, ?_⟩
  have e : decide (V.bl a = V.bl b) = decide (a = b) := by rw [Bool.eq_iff_iff]; simp
  rw [e]
  exact q
theorem r_ipI {f : Int → Int → Int} (q : Q (.int (f i j)) H) : ipI f (.int i) (.int j) H Q := ⟨i, j, rfl, rfl, q⟩
theorem r_ixL {p : Addr} {xs : List V} (h : SqL K H p xs) (ha : atI xs i = some v) (q : Q v H) : rIxL K (.ref p) (.int i) H Q := ⟨p, xs, i, v, rfl, rfl, h, ha, q⟩
theorem r_ixT {p : Addr} {xs : List V} (h : SqT K H p xs) (ha : atI xs i = some v) (q : Q v H) : rIxT K (.ref p) (.int i) H Q := ⟨p, xs, i, v, rfl, rfl, h, ha, q⟩
theorem r_ixS {p : Addr} {xs : List V} (h : Sq K H p xs) (ha : atI xs i = some v) (q : Q v H) : rIx K (.ref p) (.int i) H Q :=
  h.elim (fun h => .inl ⟨p, xs, i, v, rfl, rfl, h, ha, q⟩) fun h => .inr (.inl ⟨p, xs, i, v, rfl, rfl, h, ha, q⟩)
theorem r_setL {p : Addr} {xs : List V} {k : Int} {m : Nat} {q : Hp → Prop} (h : H p = some (.lst xs)) (hk : ixN xs.length k = some m) (hq : q (upd H p (.lst (xs.set m v)))) : rSetL (.ref p) (.int k) v H q := ⟨p, xs, k, m, rfl, rfl, h, hk, hq⟩
/-! tests -/
theorem r_ite {p A B : Prop} [Decidable p] (h1 : p → A) (h2 : ¬ p → B) : if decide p = true then A else B := ite2 (fun h => h1 (of_decide_eq_true h)) fun h => h2 fun z => h (decide_eq_true z)
theorem r_itn {p A B : Prop} [Decidable p] (h1 : ¬ p → A) (h2 : p → B) : if (!decide p) = true then A else B := by
  by_cases h : p
  · rw [decide_eq_true h]
    exact iteF (h2 h)
  · rw [decide_eq_false h]
    exact iteT (h1 h)
theorem r_itb {b : Bool} {A B : Prop} (h1 : b = true → A) (h2 : b = false → B) : if b = true then A else B := by
  cases b
  · exact iteF (h2 rfl)
  · exact iteT (h1 rfl)
theorem r_itnb {b : Bool} {A B : Prop} (h1 : b = false → A) (h2 : b = true → B) : if (!b) = true then A else B := by
  cases b
  · exact iteT (h1 rfl)
  · exact iteF (h2 rfl)
/-! loops -/
/-- what a for's reading asks behind the walked thing -/
def ForTail (J : It) (H1 : Hp) (g : TG) (tb : TS) (D : Ends) (σ : L2.St) : Prop := ∃ W : Nat → Nat → L2.St → Hp → Prop, (∃ m, W 0 m σ H1) ∧ ∀ i m σ H, W i m σ H →
  (J.stop i H ∧ D.nx σ H) ∨ (J.go i H ∧ ∃ N : L2.St → Hp → Prop, (∀ σ' H', N σ' H' → ∃ m', m' < m ∧ W (i + 1) m' σ' H') ∧ ∀ x H', J.yld i H x H' → g x σ H' fun σ2 H2 => tb { D with nx := N, ct := N, bk := D.nx } σ2 H2)
theorem r_for (h : wi σ H fun J H1 => ForTail J H1 g t D σ) : tFor wi g t D σ H := h
theorem for_w {J : It} {G : Hp → Prop} {Y : Nat → Hp → V → Hp → Prop} (w : Walk J n G Y) (Pv : Nat → L2.St → Hp → Prop) (h0 : Pv 0 σ H) (hG : ∀ i σ H, i ≤ n → Pv i σ H → G H)
    (hs : ∀ i x σ H H', i < n → Pv i σ H → Y i H x H' → g x σ H' fun σ2 H2 => t { D with nx := Pv (i + 1), ct := Pv (i + 1), bk := D.nx } σ2 H2) (hd : ∀ σ H, Pv n σ H → D.nx σ H) : ForTail J H g t D σ :=
  for_it w Pv h0 hG hs hd
end
end Hn

/-! Lists and tuples walked alike; enumerate of a tuple; t[::-1]; c[i] by an own __getitem__. -/
namespace Hn
open PySem PySem.Spec PyProof.Rows L2 Evl

/-! ### enumerate(v), v a tuple -/
theorem meets_enum1 {v : Value} {o : Obj} {P : Heap → Prop} (B : Begins v o P) :
    Meets (Builtin.«enumerate.__new__» ⟨[.type "enumerate", v], []⟩) (fun _ R s => P s.heap ∧
      R (.ok (.ret (.ref (s.heap.push o).objs.size))) { s with heap := (s.heap.push o).push { cls := .type "enumerate", data := .fields #[.none, .bool false, .ref s.heap.objs.size, rawInt 0, .none, .none] } }) :=
  .of_wp fun prog w A R s h => by
    obtain ⟨hp, g, d, tk, os⟩ := s
    obtain ⟨h1, h⟩ := h
    have hsub := sub_enumerate
    have q1 : ∀ {A' : Around} {E : Value → Shared → Prop} {Q : Value → Shared → Prop}, Q (.ref hp.objs.size) ⟨hp.push o, g, d, tk, os⟩ → wpAny (model prog w) A' (pyIter v) Q E ⟨hp, g, d, tk, os⟩ := fun q => B.iter prog w _ _ ⟨hp, g, d, tk, os⟩ _ h1 q
    wp_walk using q1
    refine wpAny_stack_any fun st => wpAny_pure ?_
    split
    · rename_i c _ _ _ _ _
      cases (c == Value.type "enumerate") <;> (wp_walk using q1; exact ⟨_, rfl, h⟩)
    · wp_walk using q1
      exact ⟨_, rfl, h⟩
theorem call_enum1 {prog : Program} {w : World} {A : Around} {E : Value → Shared → Prop} {s : Shared} {v : Value} {o : Obj} {P : Heap → Prop} {Q : Value → Shared → Prop} (B : Begins v o P) (h1 : P s.heap)
    (h : ∀ h' : Heap, IsEnum h' (s.heap.objs.size + 1) s.heap.objs.size 0 .none → h'.get? s.heap.objs.size = some o → (∀ b o, s.heap.get? b = some o → h'.get? b = some o) → Q (.ref (s.heap.objs.size + 1)) { s with heap := h' }) :
    wpAny (model prog w) A (call (.type "enumerate") [v]) Q E s := by
  refine callType_new F.called_enumerate (by decide) (F.typeCall_enumerate_1 _) (F.newCall_enumerate_1 _) (fun obj => F.args_object_init_2 obj _) F.entry_enumerate_new (meets_enum1 B) ⟨h1, ?_⟩
  have hz : (s.heap.push o).objs.size = s.heap.objs.size + 1 := Heap.size_push ..
  have hg := Heap.get?_push_size (s.heap.push o) (o := { cls := .type "enumerate", data := .fields #[.none, .bool false, .ref s.heap.objs.size, rawInt 0, .none, .none] }) rfl
  rw [hz] at hg
  show _ ∧ _
  rw [hz]
  exact ⟨⟨_, hg, rfl⟩, h _ hg (Heap.get?_push_of_some _ (Heap.get?_push_size _ B.free)) fun b o x => Heap.get?_push_of_some _ (Heap.get?_push_of_some _ x)⟩
/-- the tuple at a, each item in a new pair behind its place -/
def Itet (K : PySem.W.Frag) (a : Addr) : It :=
  ⟨fun i H => ∃ (xs : List V) (x : V), SqT K H a xs ∧ xs[i]? = some x, fun i H v H' => ∃ T x, v = .ref T ∧ H T = none ∧ H' = upd H T (.tup [.int (i : Nat), x]) ∧ ∀ xs, SqT K H a xs → xs[i]? = some x, fun i H => ∃ xs : List V, SqT K H a xs ∧ xs.length = i⟩
theorem walk_enumT {K : PySem.W.Frag} {a : Addr} {xs : List V} : Walk (Itet K a) xs.length (fun H => SqT K H a xs) (YPair (fun i => some (.int (i : Nat))) (fun i => xs[i]?)) := by
  refine ⟨fun i _ hi q => ⟨xs, xs[i], q, by simp [hi]⟩, fun _ q => ⟨xs, q, rfl⟩, fun i H v H' _ q y => ?_⟩
  obtain ⟨T, x, h1, h2, h3, h4⟩ := y
  exact ⟨T, _, x, h1, h2, h3, rfl, h4 xs q⟩
theorem turn_enumT {P : Program} {w : World} {K : PySem.W.Frag} {elts : List Expr} {kk : Nat} {tpos : Pos} (a e it : Addr) (hne : e ≠ it) (ha : a ≠ it) (hae : e ≠ a) :
    Turn P w K (.Tuple elts kk tpos) (Itet K a) [e, it] e (fun i h => (∃ old, IsEnum h e it ((i : Nat) : Int) old) ∧ h.IsTupleIter it a i) where
  mem := by simp
  obj := fun i h st b hb => by
    obtain ⟨⟨old, he⟩, ⟨o, ho, hc, hd⟩⟩ := st
    rcases (show b = e ∨ b = it by simpa using hb) with z | z
    · rw [z]
      exact ⟨_, he, fun v q => nomatch q⟩
    · rw [z]
      exact ⟨o, ho, fun v q => by rw [hd] at q; cases q⟩
  keep := fun i h h' st k => by
    obtain ⟨⟨old, he⟩, hi⟩ := st
    exact ⟨⟨old, k e (by simp) _ he⟩, hi.at fun o q => k it (by simp) o q⟩
  item := by
    intro X hP hw hK hc i pins s σ H E I hf st hg
    subst hP hw hK
    obtain ⟨⟨old, he⟩, hit⟩ := st
    obtain ⟨xs, x, hq, hx⟩ := hg
    obtain ⟨its, rv, p, hz⟩ := I.tuple hq
    obtain ⟨u, hu, ru⟩ := rv.get hx
    have hel : e < s.heap.objs.size := Heap.lt_size he
    have hil : it < s.heap.objs.size := by obtain ⟨_, q, _⟩ := hit; exact Heap.lt_size q
    have hn : i < its.toArray.size := by
      rw [List.size_toArray]
      exact (List.getElem?_eq_some_iff.mp hu).1
    have D := Draws.tuple (prog := X.prog) (w := X.w) (A := X.A.in1) (I.ok.hd hc) it a ha its.toArray
    refine wpAny_pyNext_enum_itemC D he ⟨hit, p⟩ hn hne (by simp [hne, hae]) fun x' h' tk hx' ho hst' hT hsz hk => ?_
    have ex : x' = u := by
      have z : its.toArray[i]? = some u := by simpa using hu
      rw [z] at hx'
      exact (Option.some.inj hx').symm
    subst ex
    refine ⟨_, rfl, wpAny_letOwnedTupleGo_enum (s := { s with heap := h', toks := tk + 1 }) ho fun h'' he' sb => ?_⟩
    have hT2 : h''.get? s.heap.objs.size = some { cls := .type "tuple", data := .seq #[.int i tk, x'] } := (sb.2 _ (Nat.ne_of_gt hel)).trans hT
    have new : ObjOk X.prog X.w (upd H s.heap.objs.size (.tup [.int (i : Nat), x])) h'' s.heap.objs.size (.tup [.int (i : Nat), x]) :=
      ⟨by show 2 ≤ sizeLine; decide, [.int i tk, x'], .cons ⟨_, rfl⟩ (.cons ru .nil), ⟨_, hT2, rfl, _, rfl⟩⟩
    have I1 : Inv X pins σ (upd H s.heap.objs.size (.tup [.int (i : Nat), x])) { s with heap := h'', toks := tk + 1 } :=
      I.turnedNew (ch := [e, it]) (fun b ob hb q => (sb.2 b (fun z => hb (by simp [z]))).trans (hk b ob (fun z => hb (by simp [z])) (fun z => hb (by simp [z])) q)) hf (Nat.le_refl _) new
    refine ⟨.ref s.heap.objs.size, _, I1, rfl, ⟨_, x, rfl, I.hok.fresh (Nat.le_refl _), rfl, fun ys hy => ?_⟩, ⟨⟨x', ?_⟩, hst'.1.at fun o q => (sb.2 it (Ne.symm hne)).trans q⟩, fun b hb => ?_⟩
    · rw [I.tuple_inj hy hq]
      exact hx
    · have e1 : ((i + 1 : Nat) : Int) = (i : Int) + 1 := by omega
      rw [e1]
      exact he'
    · have hb' : b < s.heap.objs.size := by
        rcases (show b = e ∨ b = it by simpa using hb) with z | z
        · rw [z]; exact hel
        · rw [z]; exact hil
      rw [upd_ne (Nat.ne_of_lt hb')]
      exact (hf b hb).1
  done := by
    intro X hP hw hK hc i pins s σ H E I hf st hg
    subst hP hw hK
    obtain ⟨⟨old, he⟩, hit⟩ := st
    obtain ⟨xs, hq, hx⟩ := hg
    obtain ⟨its, rv, p, hz⟩ := I.tuple hq
    obtain ⟨f0, f1, f2, f3, f4, f5⟩ := hf it (by simp)
    have hl : its.toArray.size = i := by
      rw [List.size_toArray, ← rv.length]
      exact hx
    have D := Draws.tuple (prog := X.prog) (w := X.w) (A := X.A.in1) (I.ok.hd hc) it a ha its.toArray
    refine wpAny_pyNext_enum_endD D he ⟨by rw [hl]; exact hit, p⟩ fun h' eb => ?_
    exact ⟨rfl, I.turned (t' := s.toks) (fun b o hb q => eb b o hb q) f0 f1 f3 f4 f5⟩
  self := fun A i s Q E st h => by
    obtain ⟨⟨_, he⟩, _⟩ := st
    exact wpAny_pyIter_enum he h
/-! ### a list or a tuple walked -/
section
variable {X : Cx} {tg : Expr}
/-- a walk that gives xs as long as what stands in H1 stands -/
def Goes1 (H1 : Hp) (n : Nat) (Y : Nat → Hp → V → Hp → Prop) (J : It) : Prop := ∃ G : Hp → Prop, Walk J n G Y ∧ ∀ H, Ex H1 H → G H
def iSeq (K : PySem.W.Frag) (tl : TE) : TI := fun σ H R => tl σ H fun x H1 => ∃ a xs H0, x = .ref a ∧ Sq K H0 a xs ∧ Ex H0 H1 ∧ ∀ J, Goes1 H0 xs.length (YAt xs) J → R J H1
theorem new1 {pins : List (Addr × Obj)} {σ : L2.St} {H : Hp} {s : Shared} (I : Inv X pins σ H s) : (∀ b ∈ [s.heap.objs.size], FpOk X pins H b) ∧ ∀ o, Inv X pins σ H { s with heap := s.heap.push o } :=
  ⟨fun b hb => by
    obtain rfl : b = s.heap.objs.size := by simpa using hb
    exact I.fpOk (Nat.le_refl _) (I.hok.fresh (Nat.le_refl _)), fun o => I.kept (t' := s.toks) fun b o e => Heap.get?_push_of_some _ e⟩
theorem pi_seq {l : Expr} {tl : TE} (hl : PE X l tl) : PI X tg l (iSeq X.K tl) := by
  refine ⟨fun pins s σ H R I h => ?_⟩
  refine thn (hl.run pins s σ H _ I h) fun v s1 ⟨x, H1, I1, r1, a, xs, H0, ex, hq0, e0, q⟩ => ?_
  subst ex
  cases r1
  obtain ⟨fp, kp⟩ := new1 I1
  rcases hq0 with hq | hq
  · obtain ⟨its, rv, p, hz⟩ := I1.list (ex_l e0 hq)
    refine wpAny_pyIter_list p.isList ?_
    exact ⟨s1.heap.objs.size, [s1.heap.objs.size], _, _, H1, rfl, kp _, turn_list a _, ⟨_, Heap.get?_push_size _ rfl, rfl, rfl⟩, fp, q _ ⟨_, walk_list, fun H' e => ex_l e hq⟩⟩
  · obtain ⟨its, rv, p, hz⟩ := I1.tuple (ex_t e0 hq)
    refine wpAny_pyIter_tuple (show s1.heap.IsTuple a its.toArray from p) ?_
    exact ⟨s1.heap.objs.size, [s1.heap.objs.size], _, _, H1, rfl, kp _, turn_tuple a _, ⟨_, Heap.get?_push_size _ rfl, rfl, rfl⟩, fp, q _ ⟨_, walk_tup, fun H' e => ex_t e hq⟩⟩
/-- enumerate of a list or a tuple -/
def YEnum (xs : List V) : Nat → Hp → V → Hp → Prop := YPair (fun i => some (.int (i : Nat))) (fun i => xs[i]?)
def iEnumS (K : PySem.W.Frag) (ta : TA) : TI := fun σ H R => ta σ H fun vs H1 => ∃ a xs H0, vs = [.ref a] ∧ Sq K H0 a xs ∧ Ex H0 H1 ∧ ∀ J, Goes1 H0 xs.length (YEnum xs) J → R J H1
theorem pi_enumS {e : Expr} {ta : TA} {p pos tpos : Pos} {elts : List Expr} {kk : Nat} (hg : Gl X "enumerate") (hm : X.mg "enumerate" = none) (ha : PA X [e] ta) (hs : starEach [e] X.env = [(false, eval e X.env)] := by rfl) :
    PI X (.Tuple elts kk tpos) (.Call (.Name "enumerate" p) [e] [] pos) (iEnumS X.K ta) := by
  refine ⟨fun pins s σ H R I h => ?_⟩
  refine Call_ (ld_blt I hg hm boot_enumerate (PyProof.Rows.callWith_type1 (thn (ha.run pos pins s σ H _ I h) fun us s1 ⟨vs, H1, I1, r1, a, xs, H0, ex, hq0, e0, q⟩ => ?_) hs rfl))
  subst ex
  obtain rfl := Vals.ref1 r1
  have fp : ∀ b ∈ [s1.heap.objs.size + 1, s1.heap.objs.size], FpOk X pins H1 b := fun b hb => by
    have hle : s1.heap.objs.size ≤ b := by
      rcases (show b = s1.heap.objs.size + 1 ∨ b = s1.heap.objs.size by simpa using hb) with z | z <;> omega
    exact I1.fpOk hle (I1.hok.fresh hle)
  rcases hq0 with hq | hq
  · obtain ⟨its, rv, p', hz⟩ := I1.list (ex_l e0 hq)
    refine call_enumerate_list p'.isList fun h' he hit hsz hk => wpAny_pyIter_enum he ?_
    exact ⟨s1.heap.objs.size + 1, [s1.heap.objs.size + 1, s1.heap.objs.size], _, _, H1, rfl, I1.kept (t' := s1.toks) hk, turn_enum a (s1.heap.objs.size + 1) s1.heap.objs.size, ⟨⟨.none, he⟩, hit, Nat.succ_ne_self _⟩, fp, q _ ⟨_, walk_enum, fun H' e => ex_l e hq⟩⟩
  · obtain ⟨its, rv, p', hz⟩ := I1.tuple (ex_t e0 hq)
    have hlt : a < s1.heap.objs.size := by obtain ⟨o, ho, _⟩ := id p'; exact Heap.lt_size ho
    refine call_enum1 (begins_tuple a its.toArray) p' fun h' he hit hk => wpAny_pyIter_enum he ?_
    exact ⟨s1.heap.objs.size + 1, [s1.heap.objs.size + 1, s1.heap.objs.size], _, _, H1, rfl, I1.kept (t' := s1.toks) hk, turn_enumT a (s1.heap.objs.size + 1) s1.heap.objs.size (Nat.succ_ne_self _) (Nat.ne_of_lt hlt) (Nat.ne_of_gt (Nat.lt_succ_of_lt hlt)), ⟨⟨.none, he⟩, ⟨_, hit, rfl, rfl⟩⟩, fp, q _ ⟨_, walk_enumT, fun H' e => ex_t e hq⟩⟩
end
section
variable {K : PySem.W.Frag} {σ : L2.St} {H : Hp} {te : TE} {ar : TA} {R : It → Hp → Prop}
theorem r_iSeq (h : te σ H fun x H1 => ∃ a xs H0, x = .ref a ∧ Sq K H0 a xs ∧ Ex H0 H1 ∧ ∀ J, Goes1 H0 xs.length (YAt xs) J → R J H1) : iSeq K te σ H R := h
theorem r_iEnumS (h : ar σ H fun vs H1 => ∃ a xs H0, vs = [.ref a] ∧ Sq K H0 a xs ∧ Ex H0 H1 ∧ ∀ J, Goes1 H0 xs.length (YEnum xs) J → R J H1) : iEnumS K ar σ H R := h
end
/-! ### t[::-1] -/
theorem adjust_rev (n : Nat) : Builtin.Slice.sliceAdjust none none (-1) (n : Int) = ((n : Int) - 1, -1) := by
  unfold Builtin.Slice.sliceAdjust
  simp
theorem places_rev (n : Nat) : Builtin.Slice.slicePlaces ((n : Int) - 1) (-1) (-1) = n := by
  unfold Builtin.Slice.slicePlaces
  rw [if_neg (by decide)]
  split <;> simp <;> omega
section
open HT
variable {prog : Program} {w : World} {A : Around} {E : Value → Shared → Prop} {s : Shared}
theorem sliceApplied_rev {sl : Addr} {vs : Value} {n : Nat} {Q : Int × Int × Nat → Shared → Prop} (hs : s.heap.IsSliceOf sl .none .none vs) (ps : IsPart vs (some (-1)))
    (h : Q ((n : Int) - 1, -1, n) s) : wpAny (model prog w) A (Builtin.Slice.sliceApplied (.ref sl) (pure (n : Int))) Q E s := by
  obtain ⟨os, hos, hcs, hds⟩ := id hs
  unfold Builtin.Slice.sliceApplied Builtin.Slice.sliceFields
  refine wpAny_bind (wpAny_bind (wpAny_field hos hds (x := .none) rfl (wpAny_bind (wpAny_field hos hds (x := .none) rfl (wpAny_bind (wpAny_field hos hds (x := vs) rfl (wpAny_pure ?_)))))))
  refine wpAny_bind (slicePart_ ps ?_)
  show wpAny _ _ (if ((-1 : Int) == 0) = true then _ else _) _ _ s
  rw [if_neg (by decide)]
  refine wpAny_bind (slicePart_none (wpAny_bind (slicePart_none (wpAny_bind (wpAny_pure ?_)))))
  show wpAny _ _ (match Builtin.Slice.sliceAdjust none none (-1) (n : Int) with | (lo, hi) => pure (lo, (-1 : Int), Builtin.Slice.slicePlaces lo hi (-1))) _ _ s
  rw [adjust_rev n]
  show wpAny _ _ (pure ((n : Int) - 1, (-1 : Int), Builtin.Slice.slicePlaces ((n : Int) - 1) (-1) (-1))) _ _ s
  rw [places_rev]
  exact wpAny_pure h
theorem pick_rev (xs : Array Value) : ((List.range xs.size).filterMap fun (k : Nat) => xs[((xs.size : Int) - 1 + (k : Int) * -1).toNat]?).toArray = xs.toList.reverse.toArray := by
  congr 1
  have e : ((List.range xs.size).filterMap fun (k : Nat) => xs[((xs.size : Int) - 1 + (k : Int) * -1).toNat]?) = ((List.range xs.size).map (fun k => xs.size - 1 - k)).filterMap (xs[·]?) := by
    rw [List.filterMap_map]
    congr 1
    funext k
    have : ((xs.size : Int) - 1 + (k : Int) * -1).toNat = xs.size - 1 - k := by omega
    show xs[((xs.size : Int) - 1 + (k : Int) * -1).toNat]? = xs[xs.size - 1 - k]?
    rw [this]
  rw [e, PySem.W.krv_range, List.filterMap_reverse, PySem.W.krv_all]
theorem getItem_tuple_rev {t sl : Addr} {items : Array Value} {vs : Value} {Q : Value → Shared → Prop} (ht : IsTup s.heap t items) (hs : s.heap.IsSliceOf sl .none .none vs) (ps : IsPart vs (some (-1))) (hsz : items.size ≤ sizeLine)
    (h : Q (.ref s.heap.objs.size) { s with heap := s.heap.push { cls := .type "tuple", data := .seq items.toList.reverse.toArray } }) : wpAny (model prog w) A (getItem (.ref t) (.ref sl)) Q E s := by
  have htake : sizeOk (.seq items.toList.reverse.toArray) := by
    show items.toList.reverse.toArray.size ≤ sizeLine
    rw [List.size_toArray, List.length_reverse, Array.length_toList]
    exact hsz
  obtain ⟨os, hos, hcs, hds⟩ := id hs
  have hTs : s.TypeIs (.ref sl) "slice" := ⟨os, hos, hcs⟩
  unfold getItem
  try with_reducible refine wpAny_holding ?_
  first | refine wpAny_bind (wpAny_pure ?_) | skip
  refine wpAny_bind (wpAny_sequenceKey ht.typeIs (by decide) (wpAny_bind (wpAny_callSpecial?_slot (name := Str.ofString "__getitem__") ht.typeIs PyProof.Rows.slot_tuple_getitem (wpAny_call_entry PyProof.Rows.slot_tuple_getitem ht.typeIs entry_tuple_getitem ?_ (args_tuple_getitem _ _)))))
  show wpAny _ _ (Builtin.Tuple.tupleItemsOf (.ref t) >>= _) _ _ s
  refine wpAny_bind (tupleItemsOf_ ht (wpAny_bind (wpAny_typeOf hTs ?_)))
  rw [if_pos (by decide)]
  refine wpAny_bind (sliceApplied_rev hs ps ?_)
  show wpAny _ _ (if (((items.size : Int) - 1 == 0) && ((-1 : Int) == 1) && items.size == items.size) = true then _ else _) _ _ s
  rw [if_neg (by rw [show ((-1 : Int) == 1) = false from rfl, Bool.and_false, Bool.false_and]; decide), pick_rev]
  first
    | exact wpAny_bind (m := Builtin.Tuple.tupleExact _) (wpAny_newObj_type (wpAny_pure ⟨_, rfl, wpAny_pure h⟩) htake)
    | exact wpAny_bind (wpAny_bind (m := Builtin.Tuple.tupleExact _) (wpAny_newObj_type (wpAny_pure (wpAny_pure ⟨_, rfl, wpAny_pure h⟩)) htake))
    | exact wpAny_bind (wpAny_bind (m := Builtin.Tuple.tupleExact _) (wpAny_newObj_type (wpAny_pure ⟨_, rfl, wpAny_pure h⟩) htake))
end
section
variable {X : Cx}
def tRevT (K : PySem.W.Frag) (te : TE) : TE := fun σ H Q => te σ H fun x H1 => ∃ a xs, x = .ref a ∧ SqT K H1 a xs ∧ ∀ p, H1 p = none → Q (.ref p) (upd H1 p (.tup xs.reverse))
theorem r_revT {K : PySem.W.Frag} {σ : L2.St} {H : Hp} {te : TE} {Q : VK} (h : te σ H fun x H1 => ∃ a xs, x = .ref a ∧ SqT K H1 a xs ∧ ∀ p, H1 p = none → Q (.ref p) (upd H1 p (.tup xs.reverse))) : tRevT K te σ H Q := h
theorem pe_revT {e : Expr} {te : TE} {k : Nat} {p1 p2 p3 pos : Pos} (he : PE X e te) : PE X (.Subscript e (.Slice none none (some (.UnaryOp .USub (.Constant (.int 1) k p1) p2)) p3) pos) (tRevT X.K te) := by
  refine ⟨fun pins s σ H Q I h => ?_⟩
  refine Subscript_ (thn (he.run pins s σ H _ I h) fun v s1 ⟨x, H1, I1, r1, a, xs, ex, hx, q⟩ => ?_)
  subst ex
  cases r1
  have hst : PO X (some (.UnaryOp .USub (.Constant (.int 1) k p1) p2)) (tPart (tUn (rU fun i => .int (-i)) (tC (.int 1)))) := po_some (pe_un un_neg pe_int)
  refine wpAny_Slice (thn (po_none.run pins s1 σ H1 (fun o H2 => o = none ∧ H2 = H1) I1 ⟨rfl, rfl⟩) fun vl s2 ⟨l, H2, I2, pl, el, e2⟩ => ?_)
  subst el e2
  refine thn (po_none.run pins s2 σ H2 (fun o H3 => o = none ∧ H3 = H2) I2 ⟨rfl, rfl⟩) fun vu s3 ⟨u, H3, I3, pu, eu, e3⟩ => ?_
  subst eu e3
  refine thn (hst.run pins s3 σ H3 (fun o H4 => o = some (-1) ∧ H4 = H3) I3 ⟨1, rfl, -1, rfl, rfl, rfl⟩) fun vs s4 ⟨o, H4, I4, ps, eo, e4⟩ => ?_
  subst eo e4
  cases pl
  cases pu
  have I5 : Inv X pins σ H4 { s4 with heap := s4.heap.push { cls := .type "slice", data := .fields #[.none, .none, vs] } } := I4.kept (t' := s4.toks) fun b ob q => Heap.get?_push_of_some _ q
  obtain ⟨its, r, ht, hz⟩ := I5.tuple hx
  have hlen := r.length
  show wpAny (model X.prog X.w) X.A (subscriptTail e (.Slice none none (some (.UnaryOp .USub (.Constant (.int 1) k p1) p2)) p3) (.ref a) (.ref s4.heap.objs.size)) (EP X pins σ Q) X.xe { s4 with heap := s4.heap.push { cls := .type "slice", data := .fields #[.none, .none, vs] } }
  refine tail_any (ops := [.ref a, .ref s4.heap.objs.size]) ht.typeIs (PyProof.Rows.slot_tuple_getitem.lookup) ?_ (by with_unfolding_all rfl)
  refine getItem_tuple_rev ht (Heap.IsSliceOf.new _ .none .none vs) ps (by rw [List.size_toArray]; omega) ?_
  refine ⟨.ref _, _, I5.laid (t' := s4.toks) (o := .tup xs.reverse) (fun b ob q => Heap.get?_push_of_some _ q) (Nat.le_refl _) ?_, rfl, q _ (I5.hok.fresh (Nat.le_refl _))⟩
  exact ⟨by rw [List.length_reverse]; exact hz, its.reverse, r.reverse, ⟨_, Heap.get?_push_size _ rfl, rfl, _, rfl⟩⟩

/-! ### c[i] by the class's own __getitem__ -/
variable {k : Nat} {f C : Addr} {ps : List Str} {sp : Sp}
def tIxO (C : Addr) (sp : Sp) (ta tb : TE) : TE := fun σ H Q => ta σ H fun x H1 => tb σ H1 fun y H2 => ∃ a dx fs, x = .ref a ∧ H2 a = some (.ins C dx fs) ∧ sp [x, y] H2 Q E0
theorem r_ixO {C : Addr} {sp : Sp} {σ : L2.St} {H : Hp} {ta tb : TE} {Q : VK} (h : ta σ H fun x H1 => tb σ H1 fun y H2 => ∃ a dx fs, x = .ref a ∧ H2 a = some (.ins C dx fs) ∧ sp [x, y] H2 Q E0) : tIxO C sp ta tb σ H Q := h
theorem pe_ixB {a b : Expr} {ta tb : TE} {pos : Pos} (G : Okf X.prog X.w X.K X.mg X.base k f ps sp) (hr : Room (k + 1) X.A)
    (hs : PySem.W.findIn X.K (.ref C) "__getitem__" = some (some (.ref f))) (hf : PySem.W.fnIn X.K f = true) (hfn : PySem.W.isFn X.K (.ref f) = true) (ha : PE X a ta) (hb : PE X b tb)
    (hsl : ∀ x i, subscripted b true (.ref x) i = runValue (.builtin "lifetime.subscript" ⟨[.ref x, i], []⟩) := by intro _ _; with_unfolding_all rfl) : PE X (.Subscript a b pos) (tIxO C sp ta tb) := by
  obtain ⟨fd, F, hbd⟩ := G
  refine ⟨fun pins s σ H Q I h => ?_⟩
  refine Subscript_ (binT ha hb I h fun v u s2 x y H2 I2 rx ry q => ?_)
  obtain ⟨p, dx, fs, rfl, hp, q⟩ := q
  cases rx
  obtain ⟨mA, J, _⟩ := ins_get I2.hok hp
  obtain ⟨od, J, _⟩ := J.look
  obtain ⟨m, hF⟩ := I2.fr
  refine PySem.W.sub_K hF I2.ok.mod.kin J hs hf hfn ?_ (hsl p u)
  exact run_fn1 (us := [.ref p, u]) (vs := [.ref p, y]) F hr hbd passL I2 (.cons rfl (.cons ry .nil)) q
end
end Hn

/-! Clocks, plainly: stays round about, widths. -/
namespace Hn

/-- the item at any place, round about -/
def cyc (s : List Int) (i : Int) : Int := s.getD (i % (s.length : Int)).toNat 0
/-- how many begins back serve the hour h -/
def wd (s : List Int) (h : Int) : Int := (((List.range s.length).filter fun (b : Nat) => decide ((b : Int) < cyc s (h - (b : Int)))).length : Int)
def wds (s : List Int) : List Int := (List.range s.length).map fun (h : Nat) => wd s h
def okStays (s : List Int) : Bool := decide (1 ≤ s.length) && decide (s.length ≤ 48) && s.all fun x => decide (1 ≤ x) && decide (x ≤ (s.length : Int))
structure Good (s : List Int) : Prop where
  ne : 1 ≤ s.length
  le : s.length ≤ 48
  lo : ∀ i : Int, 1 ≤ cyc s i
  hi : ∀ i : Int, cyc s i ≤ (s.length : Int)
  od : ∀ i : Int, cyc s i ≤ 1 + cyc s (i + 1)

theorem mod_bd {n : Nat} (h : 1 ≤ n) (i : Int) : 0 ≤ i % (n : Int) ∧ i % (n : Int) < (n : Int) := ⟨Int.emod_nonneg _ (by omega), Int.emod_lt_of_pos _ (by omega)⟩
theorem cyc_mem {s : List Int} (h : 1 ≤ s.length) (i : Int) : cyc s i ∈ s := by
  have := mod_bd h i
  unfold cyc
  rw [List.getD_eq_getElem?_getD, List.getElem?_eq_getElem (by omega)]
  exact List.getElem_mem _
theorem cyc_at {s : List Int} {j : Nat} (h : j < s.length) : cyc s (j : Int) = s.getD j 0 := by
  unfold cyc
  rw [Int.emod_eq_of_lt (by omega) (by omega), Int.toNat_natCast]
theorem cyc_mod (s : List Int) (i : Int) : cyc s (i % (s.length : Int)) = cyc s i := by
  unfold cyc
  rw [Int.emod_emod_of_dvd _ (Int.dvd_refl _)]
theorem cyc_congr {s : List Int} {i j : Int} (h : i % (s.length : Int) = j % (s.length : Int)) : cyc s i = cyc s j := by
  unfold cyc
  rw [h]
theorem okStays_iff {s : List Int} : okStays s = true ↔ (1 ≤ s.length ∧ s.length ≤ 48 ∧ ∀ x ∈ s, 1 ≤ x ∧ x ≤ (s.length : Int)) := by
  unfold okStays
  simp only [Bool.and_eq_true, decide_eq_true_eq, List.all_eq_true]
  constructor
  · rintro ⟨⟨a, b⟩, c⟩
    exact ⟨a, b, c⟩
  · rintro ⟨a, b, c⟩
    exact ⟨⟨a, b⟩, c⟩
theorem Good.ok {s : List Int} (g : Good s) : okStays s = true := by
  refine okStays_iff.mpr ⟨g.ne, g.le, fun x hx => ?_⟩
  obtain ⟨j, hj, rfl⟩ := List.mem_iff_getElem.mp hx
  have e : cyc s (j : Int) = s[j] := by
    rw [cyc_at hj, List.getD_eq_getElem?_getD, List.getElem?_eq_getElem hj]
    rfl
  rw [← e]
  exact ⟨g.lo _, g.hi _⟩
theorem Good.of {s : List Int} (h : okStays s = true) (o : ∀ j : Nat, j < s.length → s.getD j 0 ≤ 1 + cyc s ((j : Int) + 1)) : Good s := by
  obtain ⟨h1, h2, h3⟩ := okStays_iff.mp h
  refine ⟨h1, h2, fun i => (h3 _ (cyc_mem h1 i)).1, fun i => (h3 _ (cyc_mem h1 i)).2, fun i => ?_⟩
  have hb := mod_bd h1 i
  have e1 := o (i % (s.length : Int)).toNat (by omega)
  have e2 : (((i % (s.length : Int)).toNat : Nat) : Int) = i % (s.length : Int) := by omega
  rw [e2] at e1
  have e3 : cyc s (i % (s.length : Int) + 1) = cyc s (i + 1) := cyc_congr (by rw [Int.emod_add_emod])
  rw [e3] at e1
  exact e1

/-! ### windows have no gap -/
theorem down {s : List Int} (g : Good s) (h : Int) : ∀ (b : Nat), (b : Int) + 1 < cyc s (h - ((b : Int) + 1)) → (b : Int) < cyc s (h - b) := fun b q => by
  have := g.od (h - ((b : Int) + 1))
  rw [show h - ((b : Int) + 1) + 1 = h - b by omega] at this
  omega
theorem down' {s : List Int} (g : Good s) (h : Int) : ∀ (k b : Nat), (((b + k : Nat) : Int)) < cyc s (h - ((b + k : Nat) : Int)) → (b : Int) < cyc s (h - b)
  | 0, b, q => q
  | k + 1, b, q => down' g h k b (by
      have := down g h (b + k)
      rw [show ((b + (k + 1) : Nat) : Int) = ((b + k : Nat) : Int) + 1 by omega] at q
      exact this q)
/-- a downward closed test on the first numbers: how many pass is where it ends -/
theorem count_down (p : Nat → Bool) : ∀ n : Nat, (∀ b, p (b + 1) = true → p b = true) → ∀ b, b < n → (b < ((List.range n).filter p).length ↔ p b = true) := by
  intro n hp
  have hp' : ∀ k b, p (b + k) = true → p b = true := fun k => by
    induction k with
    | zero => exact fun b h => h
    | succ k ih => exact fun b h => ih b (hp (b + k) h)
  induction n with
  | zero => intro b hb; omega
  | succ n ih =>
    intro b hb
    rw [List.range_succ, List.filter_append, List.length_append, List.filter_cons]
    have hle : ((List.range n).filter p).length ≤ n := by
      have := List.length_filter_le p (List.range n)
      rw [List.length_range] at this
      exact this
    by_cases hn : p n = true
    · have all : ((List.range n).filter p).length = n := by
        have e : (List.range n).filter p = List.range n := List.filter_eq_self.mpr fun a ha => hp' (n - a) a (by
          have := List.mem_range.mp ha
          rw [show a + (n - a) = n by omega]
          exact hn)
        rw [e, List.length_range]
      rw [if_pos hn, all]
      simp only [List.filter_nil, List.length_cons, List.length_nil]
      refine ⟨fun _ => hp' (n - b) b (by rw [show b + (n - b) = n by omega]; exact hn), fun _ => by omega⟩
    · rw [if_neg hn]
      simp only [List.filter_nil, List.length_nil, Nat.add_zero]
      rcases Nat.lt_or_ge b n with h | h
      · exact ih b h
      · have e : b = n := by omega
        subst e
        exact ⟨fun h => absurd h (by omega), fun h => absurd h hn⟩
/-- the hour h is served by the begin b hours back just if b is less than its width -/
theorem wd_iff {s : List Int} (g : Good s) (h : Int) {b : Nat} (hb : b < s.length) : (b : Int) < wd s h ↔ (b : Int) < cyc s (h - b) := by
  have := count_down (fun (b : Nat) => decide ((b : Int) < cyc s (h - (b : Int)))) s.length (fun b q => by
    have q' := of_decide_eq_true q
    exact decide_eq_true (down g h b (by
      rw [show ((b + 1 : Nat) : Int) = (b : Int) + 1 by omega] at q'
      exact q'))) b hb
  unfold wd
  rw [decide_eq_true_eq] at this
  rw [← this]
  omega
theorem wd_le {s : List Int} (h : Int) : wd s h ≤ (s.length : Int) := by
  unfold wd
  have := List.length_filter_le (fun (b : Nat) => decide ((b : Int) < cyc s (h - (b : Int)))) (List.range s.length)
  rw [List.length_range] at this
  omega
theorem wd_nn {s : List Int} (h : Int) : 0 ≤ wd s h := by
  unfold wd
  omega
theorem wd_pos {s : List Int} (g : Good s) (h : Int) : 1 ≤ wd s h := by
  have := (wd_iff g h (b := 0) g.ne).mpr (by have := g.lo (h - ((0 : Nat) : Int)); omega)
  omega
theorem wd_mod (s : List Int) (h : Int) : wd s (h % (s.length : Int)) = wd s h := by
  unfold wd
  congr 2
  refine List.filter_congr fun b _ => ?_
  rw [cyc_congr (i := h % (s.length : Int) - b) (j := h - b) (by rw [Int.emod_sub_emod])]
theorem wds_length (s : List Int) : (wds s).length = s.length := by
  unfold wds
  rw [List.length_map, List.length_range]
theorem cyc_wds {s : List Int} (h1 : 1 ≤ s.length) (h : Int) : cyc (wds s) h = wd s h := by
  have hb := mod_bd h1 h
  unfold cyc
  rw [wds_length, List.getD_eq_getElem?_getD]
  unfold wds
  rw [List.getElem?_map, List.getElem?_range (by omega)]
  show wd s (((h % (s.length : Int)).toNat : Nat) : Int) = wd s h
  rw [show (((h % (s.length : Int)).toNat : Nat) : Int) = h % (s.length : Int) by omega, wd_mod]
theorem wd_step {s : List Int} (g : Good s) (h : Int) : wd s (h + 1) ≤ 1 + wd s h := by
  rcases Int.lt_or_le (1 + wd s h) (wd s (h + 1)) with q | q
  · exfalso
    have h0 := wd_nn (s := s) h
    have h1 := wd_le (s := s) (h + 1)
    obtain ⟨b, hb⟩ : ∃ b : Nat, wd s h = (b : Int) := ⟨(wd s h).toNat, by omega⟩
    have e1 := (wd_iff g (h + 1) (b := b + 1) (by omega)).mp (by omega)
    have e2 : (b : Int) < cyc s (h - b) := by
      rw [show h + 1 - ((b + 1 : Nat) : Int) = h - b by omega] at e1
      omega
    have e3 := (wd_iff g h (b := b) (by omega)).mpr e2
    omega
  · omega
end Hn

/-! Kinds of values; calls by name, read. -/
namespace Hn
open PySem PySem.Spec PyProof.Rows L2 Evl
section
variable {K : PySem.W.Frag} {σ : L2.St} {H : Hp} {Q : VK} {a : Addr} {xs : List V} {i : Int}
theorem sq_ty (h : Sq K H a xs) : TyX K H (.ref a) (.type "list") ∨ TyX K H (.ref a) (.type "tuple") := by
  rcases h with h | h
  · rcases h with (h | ⟨o, h⟩) | ⟨o, its, n, h1, h2, _⟩
    · exact .inl (.base (.lst h))
    · exact .inl (.base (.frz h))
    · exact .inl (.kList h1 h2)
  · rcases h with (h | ⟨o, h⟩) | ⟨o, its, n, h1, h2, _⟩
    · exact .inr (.base (.tup h))
    · exact .inr (.fTuple h)
    · exact .inr (.kTuple h1 h2)
theorem r_isiSeq {tp : Addr} (h : Sq K H a xs) (ht : H tp = some (.tup [.ty "list", .ty "tuple"])) (q : Q (.bl true) H) : rIsiT K [.ref a, .ref tp] H Q := by
  have pc : Paired ClsV [V.ty "list", V.ty "tuple"] [.type "list", .type "tuple"] := .cons (.ty _) (.cons (.ty _) .nil)
  rcases sq_ty h with t | t
  · exact ⟨.ref a, tp, _, _, _, true, rfl, ht, pc, t, kitAny_cons (b := true) (kit_ty (by decide +kernel)) (fun z => nomatch z) (fun _ => rfl), q⟩
  · exact ⟨.ref a, tp, _, _, _, true, rfl, ht, pc, t, kitAny_cons (b := false) (kit_ty (by decide +kernel)) (fun _ => kitAny_cons (b := true) (kit_ty (by decide +kernel)) (fun z => nomatch z) (fun _ => rfl)) (fun z => nomatch z), q⟩
theorem r_isiInt (q : Q (.bl true) H) : rIsi K [.int i, .ty "int"] H Q := ⟨.int i, .ty "int", _, _, true, rfl, .ty _, .base (.int i), kit_ty (by decide +kernel), q⟩
theorem r_isiIntB (q : Q (.bl false) H) : rIsi K [.int i, .ty "bool"] H Q := ⟨.int i, .ty "bool", _, _, false, rfl, .ty _, .base (.int i), kit_ty (by decide +kernel), q⟩
theorem r_all {bs : List Bool} (h : SqL K H a (bs.map V.bl)) (q : Q (.bl (bs.all id)) H) : rAll K [.ref a] H Q := ⟨a, bs, rfl, h, q⟩
theorem r_sum {ns : List Int} (h : SqL K H a (ns.map V.int)) (q : Q (.int ns.sum) H) : rSum K [.ref a] H Q := ⟨a, ns, rfl, h, q⟩
theorem ty_lst (h : H a = some (.lst xs)) : tyV K "list" (.ref a) H := .inl ⟨rfl, xs, .inl (.inl h)⟩
theorem szc (h : Nat.ble xs.length 1000 = true) : xs.length ≤ sizeLine := by
  have : (1000 : Nat) ≤ sizeLine := by decide
  have := Nat.le_of_ble_eq_true h
  omega
/-- a new list that nobody else holds -/
def RetN (xs : List V) (H : Hp) (Q : VK) : Prop := ∀ p H', H p = none → Ex H H' → H' p = some (.lst xs) → Q (.ref p) H'
theorem tup_mono {H' : Hp} (e : Xl H H') (h : SqT K H a xs) : SqT K H' a xs := by
  rcases h with (h | ⟨o, h⟩) | h
  · exact .inl (.inl (e _ _ h rfl))
  · exact .inl (.inr ⟨o, e _ _ h rfl⟩)
  · exact .inr h
/-- a tuple stands though an instance is written -/
theorem tup_ins {C dx : Addr} {fs : List (Str × V)} {p : Addr} {o : HO} (hp : H p = some (.ins C dx fs)) (h : SqT K H a xs) : SqT K (upd H p o) a xs := by
  rcases h with (h | ⟨o', h⟩) | h
  · exact .inl (.inl (by rw [upd_ne (ne_of h hp (by intro z; cases z))]; exact h))
  · exact .inl (.inr ⟨o', by rw [upd_ne (ne_of h hp (by intro z; cases z))]; exact h⟩)
  · exact .inr h
theorem map_range_int (ns : List Int) (f : Int → V) : (List.range ns.length).map (fun i => f (ns.getD i 0)) = ns.map f := by
  refine List.ext_getElem? fun i => ?_
  rw [List.getElem?_map, List.getElem?_map]
  rcases Nat.lt_or_ge i ns.length with h | h
  · rw [List.getElem?_range h, List.getElem?_eq_getElem h, Option.map_some, Option.map_some, List.getD_eq_getElem?_getD, List.getElem?_eq_getElem h]
    rfl
  · rw [List.getElem?_eq_none (by rw [List.length_range]; omega), List.getElem?_eq_none h]
    rfl
end
end Hn

/-! The rules with the written part by its own name, so that they fit within a comprehension's block. -/
namespace Hn
open PySem PySem.Spec PyProof.Rows L2 Evl
section
variable {X : Cx} {K : PySem.W.Frag} {tg l e : Expr} {tl te : TE} {ar : TA}
theorem k_ixL (h : X.K = K) : IxR X (rIxL K) := h ▸ ix_list
theorem k_ixT (h : X.K = K) : IxR X (rIxT K) := h ▸ ix_tup
theorem k_ixS (h : X.K = K) : IxR X (rIx K) := h ▸ ix_seq
theorem k_getL (h : X.K = K) : PGet X (rIxL K) := h ▸ get_list
def rLen (K : PySem.W.Frag) : List V → Hp → VK → Prop := fun xs H Q => ∃ p ys, xs = [.ref p] ∧ (SqL K H p ys ∨ SqT K H p ys) ∧ Q (.int ys.length) H
def rListOf (K : PySem.W.Frag) : List V → Hp → VK → Prop := fun xs H Q => ∃ p ys, xs = [.ref p] ∧ (SqL K H p ys ∨ SqT K H p ys) ∧ ∀ l, H l = none → Q (.ref l) (upd H l (.lst ys))
def rTupOf (K : PySem.W.Frag) : List V → Hp → VK → Prop := fun xs H Q => ∃ p ys, xs = [.ref p] ∧ ((SqL K H p ys ∧ ∀ l, H l = none → Q (.ref l) (upd H l (.tup ys))) ∨ (SqT K H p ys ∧ Q (.ref p) H))
def rAbs : List V → Hp → VK → Prop := fun xs H Q => ∃ i, xs = [.int i] ∧ Q (.int (if i < 0 then -i else i)) H
def rInt1 : List V → Hp → VK → Prop := fun xs H Q => (∃ i, xs = [.int i] ∧ Q (.int i) H) ∨ ∃ k, xs = [.bl k] ∧ Q (.int (if k then 1 else 0)) H
def rIsNon : R2 := fun x y H Q => y = .non ∧ Q (.bl (decide (x = .non))) H
def rNotNon : R2 := fun x y H Q => y = .non ∧ Q (.bl (!decide (x = .non))) H
def rInsert : V → List V → Hp → VK → Prop := fun x vs H Q => ∃ (l : Addr) (xs : List V) (i : Int) (y : V), x = .ref l ∧ vs = [.int i, y] ∧ H l = some (.lst xs) ∧ xs.length < sizeLine ∧ 0 ≤ i ∧ i < 2 ^ 63 ∧
    Q .non (upd H l (.lst (xs.take i.toNat ++ [y] ++ xs.drop i.toNat)))
def rMin2 : List V → Hp → VK → Prop := fun xs H Q => ∃ i j, xs = [.int i, .int j] ∧ Q (.int (if j < i then j else i)) H
def rMx2 : List V → Hp → VK → Prop := fun xs H Q => ∃ i j, xs = [.int i, .int j] ∧ Q (.int (if j > i then j else i)) H
theorem k_len (h : X.K = K) : CallR X (.builtin "len") (rLen K) := h ▸ call_len_seq
theorem k_listOf (h : X.K = K) : CallR X (.type "list") (rListOf K) := h ▸ call_list_of
theorem k_tupOf (h : X.K = K) : CallR X (.type "tuple") (rTupOf K) := h ▸ call_tuple_of
theorem k_abs : CallR X (.builtin "abs") rAbs := call_abs
theorem k_int1 : CallR X (.type "int") rInt1 := call_int1
theorem k_isN : OpR X (compareOp .Is) rIsNon := op_isN
theorem k_notN : OpR X (compareOp .IsNot) rNotNon := op_notN
theorem k_insert : MtR X "list.insert" rInsert := mt_insert
theorem k_min2 (hc : X.calm = true) : CallR X (.builtin "min") rMin2 := call_min2 hc
theorem k_max2 (hc : X.calm = true) : CallR X (.builtin "max") rMx2 := call_max2 hc
section
variable {H : Hp} {Q : VK} {i j : Int} {x : V} {a : Addr} {xs : List V}
theorem r_len (h : Sq K H a xs) (q : Q (.int (xs.length : Int)) H) : rLen K [.ref a] H Q := ⟨a, xs, rfl, h, q⟩
theorem r_listOf (h : Sq K H a xs) (q : ∀ l, H l = none → Q (.ref l) (upd H l (.lst xs))) : rListOf K [.ref a] H Q := ⟨a, xs, rfl, h, q⟩
/-- tuple(x): some tuple of the items, x itself or a new one -/
theorem r_tupOf (h : Sq K H a xs) (q : ∀ l H', Ex H H' → SqT K H' l xs → Q (.ref l) H') : rTupOf K [.ref a] H Q :=
  h.elim (fun h => ⟨a, xs, rfl, .inl ⟨h, fun l nl => q l _ (Ex.new nl) (.inl (.inl upd_same))⟩⟩) fun h => ⟨a, xs, rfl, .inr ⟨h, q a H (Ex.refl H) h⟩⟩
theorem r_abs (q : Q (.int (if i < 0 then -i else i)) H) : rAbs [.int i] H Q := ⟨i, rfl, q⟩
theorem r_intP (q : Q (.int i) H) : rInt1 [.int i] H Q := .inl ⟨i, rfl, q⟩
theorem r_intB {b : Bool} (q : Q (.int (if b then 1 else 0)) H) : rInt1 [.bl b] H Q := .inr ⟨b, rfl, q⟩
theorem r_min2 (q : Q (.int (if j < i then j else i)) H) : rMin2 [.int i, .int j] H Q := ⟨i, j, rfl, q⟩
theorem r_max2 (q : Q (.int (if j > i then j else i)) H) : rMx2 [.int i, .int j] H Q := ⟨i, j, rfl, q⟩
theorem r_isN (q : Q (.bl (decide (x = .non))) H) : rIsNon x .non H Q := ⟨rfl, q⟩
theorem r_notN (q : Q (.bl (!decide (x = .non))) H) : rNotNon x .non H Q := ⟨rfl, q⟩
theorem r_isNi (q : Q (.bl false) H) : rIsNon (.int i) .non H Q := ⟨rfl, q⟩
theorem r_isNr (q : Q (.bl false) H) : rIsNon (.ref a) .non H Q := ⟨rfl, q⟩
theorem r_isNn (q : Q (.bl true) H) : rIsNon .non .non H Q := ⟨rfl, q⟩
theorem r_notNi (q : Q (.bl true) H) : rNotNon (.int i) .non H Q := ⟨rfl, q⟩
theorem r_notNr (q : Q (.bl true) H) : rNotNon (.ref a) .non H Q := ⟨rfl, q⟩
theorem r_notNn (q : Q (.bl false) H) : rNotNon .non .non H Q := ⟨rfl, q⟩
end
theorem k_all (h : X.K = K) (hc : X.calm = true) : CallR X (.builtin "all") (rAll K) := h ▸ cr_all hc
theorem k_any (h : X.K = K) (hc : X.calm = true) : CallR X (.builtin "any") (rAny K) := h ▸ cr_any hc
theorem k_sum (h : X.K = K) (hc : X.calm = true) : CallR X (.builtin "sum") (rSum K) := h ▸ cr_sum hc
theorem k_min (h : X.K = K) (hc : X.calm = true) : CallR X (.builtin "min") (rMin K) := h ▸ cr_min hc
theorem k_max (h : X.K = K) (hc : X.calm = true) : CallR X (.builtin "max") (rMax K) := h ▸ cr_max hc
theorem k_in (h : X.K = K) : OpR X (compareOp .In) (rIn K false) := h ▸ op_in_seq
theorem k_notIn (h : X.K = K) : OpR X (compareOp .NotIn) (rIn K true) := h ▸ op_notIn_seq
theorem k_eqD (h : X.K = K) (hu : X.A.units + 64 < cLine) : OpR X (compareOp .Eq) (rEqD K) := h ▸ op_eqD hu
theorem k_neD (h : X.K = K) (hu : X.A.units + 64 < cLine) : OpR X (compareOp .NotEq) (rNeD K) := h ▸ op_neD hu
theorem k_isi (h : X.K = K) : CallR X (.builtin "isinstance") (rIsi K) := h ▸ call_isi
theorem k_isiT (h : X.K = K) : CallR X (.builtin "isinstance") (rIsiT K) := h ▸ call_isiT
theorem k_slL (h : X.K = K) : SlR X (rSlL K) := h ▸ sl_list
theorem k_piL (h : X.K = K) (hl : PE X l tl) : PI X tg l (iList K tl) := h ▸ pi_list hl
theorem k_piT (h : X.K = K) (hl : PE X l tl) : PI X tg l (iTup K tl) := h ▸ pi_tup hl
theorem k_piS (h : X.K = K) (hl : PE X l tl) : PI X tg l (iSeq K tl) := h ▸ pi_seq hl
theorem k_piE {p pos tpos : Pos} {elts : List Expr} {kk : Nat} (h : X.K = K) (hg : Gl X "enumerate") (hm : X.mg "enumerate" = none) (ha : PA X [e] ar) (hs : starEach [e] X.env = [(false, eval e X.env)] := by rfl) :
    PI X (.Tuple elts kk tpos) (.Call (.Name "enumerate" p) [e] [] pos) (iEnumS K ar) := h ▸ pi_enumS hg hm ha hs
theorem k_piZ {e2 : Expr} {p pos tpos : Pos} {elts : List Expr} {kk : Nat} (h : X.K = K) (hg : Gl X "zip") (hm : X.mg "zip" = none) (ha : PA X [e, e2] ar)
    (hs : starEach [e, e2] X.env = (false, eval e X.env) :: starEach [e2] X.env := by rfl) (hpl : (backTo pos (starEach [e2] X.env)).any (·.1) = false := by rfl) :
    PI X (.Tuple elts kk tpos) (.Call (.Name "zip" p) [e, e2] [] pos) (iZip K ar) := h ▸ pi_zip hg hm ha hs hpl
theorem k_fld {f : Str} {pos : Pos} (h : X.K = K) (he : PE X e te) (hb : attributeBase e f X.env (eval e X.env) = eval e X.env := by rfl) : PE X (.Attribute e f pos) (tFld K te f) := h ▸ pe_fld he hb
theorem k_sfld {o : Expr} {ta : TE} {f : Str} {pos pos' : Pos} (h : X.K = K) (ha : PE X o ta) (hv : PE X e te) (hs : swapsWith e (some (.Attribute o f pos')) pos.line X.env = pure false := by rfl) : PS X (.Assign [.Attribute o f pos'] e pos) (sFld K ta te f) := h ▸ ps_fld ha hv hs
theorem k_revL {k : Nat} {p1 p2 p3 pos : Pos} (h : X.K = K) (he : PE X e te) : PE X (.Subscript e (.Slice none none (some (.UnaryOp .USub (.Constant (.int 1) k p1) p2)) p3) pos) (tRevL K te) := h ▸ pe_revL he
theorem k_revT {k : Nat} {p1 p2 p3 pos : Pos} (h : X.K = K) (he : PE X e te) : PE X (.Subscript e (.Slice none none (some (.UnaryOp .USub (.Constant (.int 1) k p1) p2)) p3) pos) (tRevT K te) := h ▸ pe_revT he
theorem k_gtup {es : List Expr} {k : Nat} {t : TGs} {n : Nat} {pos : Pos} (h : X.K = K) (hc : X.calm = true) (hh : PGs X es t)
    (hn : (assignEach es X.env).length = n := by rfl) (hst : (assignEach es X.env).findIdx? (·.1) = none := by rfl) : PG X (.Tuple es k pos) (gTup K n t) := h ▸ pg_tup hc hh hn hst
theorem pe_bty {x : Str} {n : String} {pos : Pos} (hg : Gl X x) (hm : X.mg x = none) (hv : bootBuiltins x = some (.type n)) (hn : x ≠ "__name__" := by decide) (hd : (x == ("__debug__" : Str)) = false := by decide) : PE X (.Name x pos) (tC (.ty n)) := pe_bltn hg hm hv rfl hn hd
end
end Hn

/-! Clocks as objects. -/
namespace Hn
open PySem PySem.Spec PyProof.Rows L2 Evl
theorem at_cyc {ns : List Int} (h : 1 ≤ ns.length) (j : Int) : atI (ns.map V.int) (j % (ns.length : Int)) = some (.int (cyc ns j)) := by
  have hb := mod_bd h j
  rw [at_int hb.1 hb.2]
  rfl
/-- the fields of a clock -/
def clkF (a b : Addr) : List (Str × V) := putF "kept_widths" (.ref b) (putF "kept_stays" (.ref a) [])
theorem clkF_stays (a b : Addr) : (clkF a b).lookup ("kept_stays" : Str) = some (.ref a) := by
  unfold clkF
  rw [lookup_putF, if_neg (by decide +kernel), lookup_putF, if_pos rfl]
theorem clkF_widths (a b : Addr) : (clkF a b).lookup ("kept_widths" : Str) = some (.ref b) := by
  unfold clkF
  rw [lookup_putF, if_pos rfl]
theorem clkF_no (a b : Addr) {m : Str} (h1 : ¬ m = "kept_widths") (h2 : ¬ m = "kept_stays") : (clkF a b).lookup m = none := by
  unfold clkF
  rw [lookup_putF, if_neg h1, lookup_putF, if_neg h2]
  rfl
/-- a Clock of the stays s -/
def Clk (K : PySem.W.Frag) (C : Addr) (H : Hp) (v : V) (s : List Int) : Prop :=
  ∃ p dx a b, v = .ref p ∧ H p = some (.ins C dx (clkF a b)) ∧ SqT K H a (s.map V.int) ∧ SqT K H b ((wds s).map V.int) ∧ Good s
theorem Clk.mono {K : PySem.W.Frag} {C : Addr} {H H' : Hp} {v : V} {s : List Int} (e : Xl H H') (h : Clk K C H v s) : Clk K C H' v s :=
  let ⟨p, dx, a, b, h1, h2, h3, h4, h5⟩ := h
  ⟨p, dx, a, b, h1, e _ _ h2 rfl, tup_mono e h3, tup_mono e h4, h5⟩
theorem Clk.ex {K : PySem.W.Frag} {C : Addr} {H H' : Hp} {v : V} {s : List Int} (e : Ex H H') (h : Clk K C H v s) : Clk K C H' v s := h.mono (.of e)
theorem Clk.good {K : PySem.W.Frag} {C : Addr} {H : Hp} {v : V} {s : List Int} (h : Clk K C H v s) : Good s := let ⟨_, _, _, _, _, _, _, _, h5⟩ := h; h5
/-- what the making of a Clock asks: items that are good stays, and gives: the Clock -/
def MkClk (K : PySem.W.Frag) (C : Addr) (H : Hp) (v : V) (Q : Addr → Hp → Prop) : Prop := ∃ a s, v = .ref a ∧ Sq K H a (s.map V.int) ∧ Good s ∧ ∀ u H', Ex H H' → Clk K C H' (.ref u) s → Q u H'
/-- its __init__'s promise -/
def spClkInit (K : PySem.W.Frag) (C : Addr) : Sp := fun vs H Q _ => ∃ (H0 : Hp) (x dx a : Addr) (s : List Int), vs = [.ref x, .ref a] ∧ H = upd (upd H0 dx (.own x)) x (.ins C dx []) ∧ H0 x = none ∧ H0 dx = none ∧ dx ≠ x ∧ Sq K H0 a (s.map V.int) ∧ Good s ∧
  ∀ H', Ex H0 H' → Clk K C H' (.ref x) s → Q .non H'
theorem mkClk {K : PySem.W.Frag} {C : Addr} {H : Hp} {v : V} {Q : Addr → Hp → Prop} {E : XK} (h : MkClk K C H v Q) : ∀ x dx, H x = none → H dx = none → dx ≠ x → spClkInit K C (.ref x :: ([v] ++ [])) (upd (upd H dx (.own x)) x (.ins C dx [])) (fun v H2 => v = .non ∧ Q x H2) E := by
  intro x dx nx ndx ne
  obtain ⟨a, s, rfl, hS, g, k⟩ := h
  exact ⟨H, x, dx, a, s, rfl, rfl, nx, ndx, ne, hS, g, fun H' e c => ⟨rfl, k _ _ e c⟩⟩
/-- a method of a Clock is asked -/
theorem r_clkM {K : PySem.W.Frag} {C : Addr} {H : Hp} {v : V} {s : List Int} {m : Str} {p : Prop} (h : Clk K C H v s) (q : p) (h1 : ¬ m = "kept_widths" := by decide +kernel) (h2 : ¬ m = "kept_stays" := by decide +kernel) : ∃ a dx fs, v = .ref a ∧ H a = some (.ins C dx fs) ∧ fs.lookup m = none ∧ p :=
  let ⟨x, dx, a, b, e, hp, _⟩ := h
  ⟨x, dx, _, e, hp, clkF_no a b h1 h2, q⟩
theorem r_clkP {K : PySem.W.Frag} {C : Addr} {H : Hp} {v : V} {s : List Int} {p : Addr → Prop} (h : Clk K C H v s) (q : ∀ a, v = .ref a → p a) : ∃ a dx fs, v = .ref a ∧ H a = some (.ins C dx fs) ∧ p a :=
  let ⟨x, dx, _, _, e, hp, _⟩ := h
  ⟨x, dx, _, e, hp, q x e⟩
theorem r_clkG {K : PySem.W.Frag} {C : Addr} {H : Hp} {v : V} {s : List Int} {p : Prop} (h : Clk K C H v s) (q : p) : ∃ a dx fs, v = .ref a ∧ H a = some (.ins C dx fs) ∧ p :=
  let ⟨x, dx, _, _, e, hp, _⟩ := h
  ⟨x, dx, _, e, hp, q⟩
end Hn

/-! Clocks turned, mirrored; sums round about. -/
namespace Hn
/-- n items by their place -/
def rowOf (n : Nat) (f : Int → Int) : List Int := (List.range n).map fun (i : Nat) => f (i : Int)
theorem rowOf_length (n : Nat) (f : Int → Int) : (rowOf n f).length = n := by
  unfold rowOf
  rw [List.length_map, List.length_range]
theorem rowOf_getD {n : Nat} (f : Int → Int) {j : Nat} (h : j < n) : (rowOf n f).getD j 0 = f (j : Int) := by
  unfold rowOf
  rw [List.getD_eq_getElem?_getD, List.getElem?_map, List.getElem?_range h]
  rfl
theorem cyc_rowOf {n : Nat} (f : Int → Int) (h : 1 ≤ n) (i : Int) : cyc (rowOf n f) i = f (i % (n : Int)) := by
  have hb := mod_bd h i
  unfold cyc
  rw [rowOf_length, rowOf_getD f (by omega), show ((i % (n : Int)).toNat : Int) = i % (n : Int) by omega]
theorem rowOf_congr {n : Nat} {f g : Int → Int} (h : ∀ i : Int, 0 ≤ i → i < (n : Int) → f i = g i) : rowOf n f = rowOf n g := by
  unfold rowOf
  refine List.map_congr_left fun i hi => h _ (by omega) ?_
  have := List.mem_range.mp hi
  omega
theorem row_ext {s : List Int} {n : Nat} (f : Int → Int) (hl : s.length = n) (h : ∀ j : Nat, j < n → s.getD j 0 = f (j : Int)) : s = rowOf n f := by
  refine List.ext_getElem? fun i => ?_
  rcases Nat.lt_or_ge i n with q | q
  · have := h i q
    rw [List.getD_eq_getElem?_getD, List.getElem?_eq_getElem (by omega)] at this
    rw [List.getElem?_eq_getElem (by omega)]
    unfold rowOf
    rw [List.getElem?_map, List.getElem?_range q]
    exact congrArg some this
  · rw [List.getElem?_eq_none (by omega), List.getElem?_eq_none (by rw [rowOf_length]; omega)]
/-- a row is told by its items round about -/
theorem row_cyc (s : List Int) : s = rowOf s.length (cyc s) := row_ext _ rfl fun _ hj => (cyc_at hj).symm
theorem eq_of_cyc {s t : List Int} (hl : s.length = t.length) (h : ∀ i : Int, 0 ≤ i → i < (s.length : Int) → cyc s i = cyc t i) : s = t := by
  rw [row_cyc s, row_cyc t, ← hl]
  exact rowOf_congr h
theorem wds_row (s : List Int) : wds s = rowOf s.length (wd s) := rfl
/-! ### turned -/
def turnS (s : List Int) (b : Int) : List Int := rowOf s.length fun i => cyc s (i + b)
theorem turnS_length (s : List Int) (b : Int) : (turnS s b).length = s.length := rowOf_length _ _
theorem cyc_turn {s : List Int} (h : 1 ≤ s.length) (b i : Int) : cyc (turnS s b) i = cyc s (i + b) := by
  unfold turnS
  rw [cyc_rowOf _ h]
  exact cyc_congr (by rw [Int.emod_add_emod])
theorem Good.turn {s : List Int} (g : Good s) (b : Int) : Good (turnS s b) := by
  have hl := turnS_length s b
  refine ⟨by rw [hl]; exact g.ne, by rw [hl]; exact g.le, fun i => ?_, fun i => ?_, fun i => ?_⟩
  · rw [cyc_turn g.ne]
    exact g.lo _
  · rw [cyc_turn g.ne, hl]
    exact g.hi _
  · rw [cyc_turn g.ne, cyc_turn g.ne, show i + 1 + b = (i + b) + 1 by omega]
    exact g.od _
theorem wd_turn {s : List Int} (h : 1 ≤ s.length) (b i : Int) : wd (turnS s b) i = wd s (i + b) := by
  unfold wd
  rw [turnS_length]
  congr 2
  refine List.filter_congr fun c _ => ?_
  rw [cyc_turn h, show i - (c : Int) + b = i + b - c by omega]
/-! ### mirrored -/
theorem cyc_rev {s : List Int} (h : 1 ≤ s.length) (i : Int) : cyc s.reverse i = cyc s (-1 - i) := by
  have h1 := mod_bd h i
  have h2 := mod_bd h (-1 - i)
  have e : (-1 - i) % (s.length : Int) = (s.length : Int) - 1 - i % (s.length : Int) := by
    have e1 : (-1 - i) % (s.length : Int) = ((s.length : Int) - 1 - i % (s.length : Int)) % (s.length : Int) := by
      rw [show (s.length : Int) - 1 - i % (s.length : Int) = (-1 - i % (s.length : Int)) + (s.length : Int) by omega, Int.add_emod_right, Int.sub_emod_emod]
    rw [e1, Int.emod_eq_of_lt (by omega) (by omega)]
  unfold cyc
  rw [List.length_reverse, e, List.getD_eq_getElem?_getD, List.getD_eq_getElem?_getD, List.getElem?_reverse (by omega)]
  congr 2
  omega
def mirS (s : List Int) : List Int := (wds s).reverse
theorem mirS_length (s : List Int) : (mirS s).length = s.length := by
  unfold mirS
  rw [List.length_reverse, wds_length]
theorem cyc_mir {s : List Int} (h : 1 ≤ s.length) (i : Int) : cyc (mirS s) i = wd s (-1 - i) := by
  unfold mirS
  rw [cyc_rev (by rw [wds_length]; exact h), cyc_wds h]
theorem Good.mir {s : List Int} (g : Good s) : Good (mirS s) := by
  have hl := mirS_length s
  refine ⟨by rw [hl]; exact g.ne, by rw [hl]; exact g.le, fun i => ?_, fun i => ?_, fun i => ?_⟩
  · rw [cyc_mir g.ne]
    exact wd_pos g _
  · rw [cyc_mir g.ne, hl]
    exact wd_le _
  · rw [cyc_mir g.ne, cyc_mir g.ne, show (-1 - i : Int) = (-1 - (i + 1)) + 1 by omega]
    exact wd_step g _
theorem wd_mir {s : List Int} (g : Good s) (h : Int) : wd (mirS s) h = cyc s (-1 - h) := by
  have gm := g.mir
  have hl := mirS_length s
  have key : ∀ b : Nat, b < s.length → ((b : Int) < wd (mirS s) h ↔ (b : Int) < cyc s (-1 - h)) := fun b hb => by
    rw [wd_iff gm h (by rw [hl]; exact hb), cyc_mir g.ne, show (-1 - (h - (b : Int))) = (-1 - h) + b by omega, wd_iff g _ hb, show (-1 - h) + (b : Int) - b = -1 - h by omega]
  have a1 := wd_nn (s := mirS s) h
  have a2 := wd_le (s := mirS s) h
  have a3 := g.lo (-1 - h)
  have a4 := g.hi (-1 - h)
  rw [hl] at a2
  rcases Int.lt_trichotomy (wd (mirS s) h) (cyc s (-1 - h)) with q | q | q
  · have := (key (wd (mirS s) h).toNat (by omega)).mpr (by omega)
    omega
  · exact q
  · have := (key (cyc s (-1 - h)).toNat (by omega)).mp (by omega)
    omega
theorem mir_mir {s : List Int} (g : Good s) : mirS (mirS s) = s := by
  refine eq_of_cyc (by rw [mirS_length, mirS_length]) fun i _ _ => ?_
  rw [cyc_mir (by rw [mirS_length]; exact g.ne), wd_mir g, show (-1 - (-1 - i)) = i by omega]
/-! ### sums -/
def Sg : Nat → (Int → Int) → Int
  | 0, _ => 0
  | n + 1, f => Sg n f + f (n : Int)
theorem Sg_congr {n : Nat} {f g : Int → Int} (h : ∀ i : Int, 0 ≤ i → i < (n : Int) → f i = g i) : Sg n f = Sg n g := by
  induction n with
  | zero => rfl
  | succ n ih =>
    show Sg n f + f n = Sg n g + g n
    rw [ih fun i h0 h1 => h i h0 (by omega), h n (by omega) (by omega)]
theorem Sg_add {n : Nat} {f g : Int → Int} : Sg n (fun i => f i + g i) = Sg n f + Sg n g := by
  induction n with
  | zero => rfl
  | succ n ih =>
    show Sg n _ + (f n + g n) = (Sg n f + f n) + (Sg n g + g n)
    rw [ih]
    omega
theorem Sg_zero {n : Nat} : Sg n (fun _ => 0) = 0 := by
  induction n with
  | zero => rfl
  | succ n ih => show Sg n _ + 0 = 0; rw [ih]; rfl
theorem Sg_mul {n : Nat} (c : Int) (f : Int → Int) : Sg n (fun i => c * f i) = c * Sg n f := by
  induction n with
  | zero => exact (Int.mul_zero c).symm
  | succ n ih =>
    show Sg n _ + c * f n = c * (Sg n f + f n)
    rw [ih, Int.mul_add]
theorem Sg_swap {n m : Nat} (f : Int → Int → Int) : Sg n (fun i => Sg m (fun j => f i j)) = Sg m (fun j => Sg n (fun i => f i j)) := by
  induction n with
  | zero => exact Sg_zero.symm
  | succ n ih =>
    show Sg n _ + Sg m (fun j => f n j) = Sg m (fun j => Sg n (fun i => f i j) + f n j)
    rw [ih, Sg_add]
theorem Sg_first {n : Nat} (f : Int → Int) : Sg (n + 1) f = f 0 + Sg n (fun i => f (i + 1)) := by
  induction n with
  | zero => show 0 + f ((0 : Nat) : Int) = f 0 + 0; rw [Int.zero_add, Int.add_zero]; rfl
  | succ n ih =>
    show Sg (n + 1) f + f ((n + 1 : Nat) : Int) = f 0 + (Sg n _ + f ((n : Int) + 1))
    rw [ih, show ((n + 1 : Nat) : Int) = (n : Int) + 1 by omega]
    omega
/-- round about a sum may begin anywhere -/
theorem Sg_turn1 {n : Nat} {f : Int → Int} (p : ∀ i, f (i + (n : Int)) = f i) : Sg n (fun i => f (i + 1)) = Sg n f := by
  cases n with
  | zero => rfl
  | succ n =>
    rw [Sg_first (n := n) f]
    show Sg n (fun i => f (i + 1)) + f ((n : Int) + 1) = _
    have := p 0
    rw [show (0 : Int) + ((n + 1 : Nat) : Int) = (n : Int) + 1 by omega] at this
    rw [this]
    omega
theorem Sg_turnN {n : Nat} {f : Int → Int} (p : ∀ i, f (i + (n : Int)) = f i) : ∀ k : Nat, Sg n (fun i => f (i + (k : Int))) = Sg n f
  | 0 => Sg_congr fun i _ _ => by rw [show i + ((0 : Nat) : Int) = i by omega]
  | k + 1 => by
    rw [← Sg_turnN p k, ← Sg_turn1 (f := fun i => f (i + (k : Int))) (fun i => by rw [show i + (n : Int) + k = (i + k) + n by omega]; exact p _)]
    exact Sg_congr fun i _ _ => by rw [show i + ((k + 1 : Nat) : Int) = i + 1 + k by omega]
theorem Sg_turn {n : Nat} {f : Int → Int} (p : ∀ i, f (i + (n : Int)) = f i) (b : Int) : Sg n (fun i => f (i + b)) = Sg n f := by
  rcases Int.lt_or_le b 0 with h | h
  · have e := Sg_turnN (f := fun i => f (i + b)) (fun i => by rw [show i + (n : Int) + b = (i + b) + n by omega]; exact p _) (-b).toNat
    rw [← e]
    exact Sg_congr fun i _ _ => by rw [show i + ((-b).toNat : Int) + b = i by omega]
  · have e := Sg_turnN p b.toNat
    rw [← e]
    exact Sg_congr fun i _ _ => by rw [show i + (b.toNat : Int) = i + b by omega]
/-- .. and go the other way -/
theorem Sg_rev {n : Nat} (f : Int → Int) : Sg n (fun i => f ((n : Int) - 1 - i)) = Sg n f := by
  induction n with
  | zero => rfl
  | succ n ih =>
    rw [Sg_first]
    show f (((n + 1 : Nat) : Int) - 1 - 0) + _ = Sg n f + f n
    rw [← ih, show ((n + 1 : Nat) : Int) - 1 - 0 = n by omega, Int.add_comm]
    congr 1
    exact Sg_congr fun i _ _ => by rw [show ((n + 1 : Nat) : Int) - 1 - (i + 1) = (n : Int) - 1 - i by omega]
theorem sum_row (n : Nat) (f : Int → Int) : (rowOf n f).sum = Sg n f := by
  induction n with
  | zero => rfl
  | succ n ih =>
    show _ = Sg n f + f n
    rw [← ih]
    unfold rowOf
    rw [List.range_succ, List.map_append, List.sum_append]
    show _ + (f n + 0) = _
    rw [Int.add_zero]
theorem sum_cyc (s : List Int) : s.sum = Sg s.length (cyc s) := by
  have := sum_row s.length (cyc s)
  rw [← row_cyc s] at this
  exact this
theorem cyc_per (s : List Int) (i : Int) : cyc s (i + (s.length : Int)) = cyc s i := cyc_congr (by rw [Int.add_emod_right])
theorem wd_per (s : List Int) (i : Int) : wd s (i + (s.length : Int)) = wd s i := by
  rw [← wd_mod, Int.add_emod_right, wd_mod]
/-- how many pass, as a sum -/
theorem count_sum (p : Nat → Bool) (n : Nat) : (((List.range n).filter p).length : Int) = Sg n (fun i => if p i.toNat = true then 1 else 0) := by
  induction n with
  | zero => rfl
  | succ n ih =>
    show _ = Sg n _ + (if p ((n : Int)).toNat = true then 1 else 0)
    rw [← ih, List.range_succ, List.filter_append, List.length_append, Int.toNat_natCast, List.filter_cons]
    by_cases h : p n = true
    · rw [if_pos h, if_pos h]
      show ((_ + 1 : Nat) : Int) = _
      omega
    · rw [if_neg h, if_neg h]
      show ((_ + 0 : Nat) : Int) = _
      omega
theorem wd_sum (s : List Int) (h : Int) : wd s h = Sg s.length (fun b => if b < cyc s (h - b) then 1 else 0) := by
  unfold wd
  rw [count_sum]
  refine Sg_congr fun i h0 _ => ?_
  rw [show ((i.toNat : Nat) : Int) = i by omega]
  by_cases q : i < cyc s (h - i)
  · rw [if_pos (decide_eq_true q), if_pos q]
  · rw [if_neg (by rw [decide_eq_false q]; decide), if_neg q]
theorem cnt_below {n : Nat} {c : Int} : ∀ (_ : 0 ≤ c) (_ : c ≤ (n : Int)), Sg n (fun b => if b < c then 1 else 0) = c := by
  induction n generalizing c with
  | zero => intro h0 h1; show (0 : Int) = c; omega
  | succ n ih =>
    intro h0 h1
    show Sg n _ + (if (n : Int) < c then 1 else 0) = c
    by_cases q : (n : Int) < c
    · rw [if_pos q]
      have e : Sg n (fun b => if b < c then 1 else 0) = Sg n (fun b => if b < (n : Int) then 1 else 0) := Sg_congr fun i _ h => by rw [if_pos (by omega), if_pos h]
      rw [e, ih (c := (n : Int)) (by omega) (by omega)]
      omega
    · rw [if_neg q, ih h0 (by omega)]
      omega
/-- stays and widths have one sum -/
theorem wds_sum {s : List Int} (g : Good s) : (wds s).sum = s.sum := by
  rw [wds_row, sum_row, sum_cyc]
  have e1 : Sg s.length (wd s) = Sg s.length (fun h => Sg s.length (fun b => if b < cyc s (h - b) then 1 else 0)) := Sg_congr fun i _ _ => wd_sum s i
  rw [e1, Sg_swap]
  have e2 : Sg s.length (fun j => Sg s.length (fun i => if j < cyc s (i - j) then 1 else 0)) = Sg s.length (fun j => Sg s.length (fun i => if j < cyc s i then 1 else 0)) := Sg_congr fun j _ _ => by
    rw [← Sg_turn (f := fun i => if j < cyc s i then 1 else 0) (fun i => by rw [cyc_per]) (-j)]
    exact Sg_congr fun i _ _ => by rw [show i - j = i + -j by omega]
  rw [e2, Sg_swap]
  exact Sg_congr fun i _ _ => cnt_below (by have := g.lo i; omega) (g.hi i)
/-! ### rows of least sums are stays in order -/
/-- the least of the drawn ones ahead, each with the way to it -/
theorem Good.least {m : List Int} {n : Nat} {dr : List Int} {top : Int} (hn : 1 ≤ n) (hn2 : n ≤ 48) (hl : m.length = n) (hd : dr.length = n) (ht : top ≤ (n : Int)) (h1 : ∀ i, 1 ≤ cyc dr i ∧ cyc dr i ≤ top)
    (hm : ∀ j : Nat, j < n → (∃ a : Nat, a < n ∧ m.getD j 0 = cyc dr ((j : Int) + a) + a) ∧ ∀ a : Nat, a < n → m.getD j 0 ≤ cyc dr ((j : Int) + a) + a) : Good m := by
  have hc : ∀ i : Int, (∃ a : Nat, a < n ∧ cyc m i = cyc dr (i + a) + a) ∧ ∀ a : Nat, a < n → cyc m i ≤ cyc dr (i + a) + a := fun i => by
    have hb := mod_bd hn i
    have e : cyc m i = m.getD (i % (n : Int)).toNat 0 := by
      unfold cyc
      rw [hl]
    have er : ∀ a : Nat, cyc dr (((i % (n : Int)).toNat : Int) + a) = cyc dr (i + a) := fun a => cyc_congr (by
      rw [show ((i % (n : Int)).toNat : Int) = i % (n : Int) by omega, hd, Int.emod_add_emod])
    obtain ⟨⟨a, ha, e1⟩, e2⟩ := hm (i % (n : Int)).toNat (by omega)
    refine ⟨⟨a, ha, by rw [e, e1, er]⟩, fun a ha => ?_⟩
    have := e2 a ha
    rw [er] at this
    rw [e]
    exact this
  refine ⟨by omega, by omega, fun i => ?_, fun i => ?_, fun i => ?_⟩
  · obtain ⟨⟨a, ha, e⟩, _⟩ := hc i
    have := (h1 (i + a)).1
    omega
  · have e := (hc i).2 0 (by omega)
    have := (h1 (i + ((0 : Nat) : Int))).2
    omega
  · obtain ⟨⟨a, ha, e⟩, _⟩ := hc (i + 1)
    rcases Nat.lt_or_ge (a + 1) n with q | q
    · have := (hc i).2 (a + 1) q
      rw [show i + ((a + 1 : Nat) : Int) = i + 1 + a by omega] at this
      omega
    · have e0 := (hc i).2 0 (by omega)
      have e2 : cyc dr (i + 1 + (a : Int)) = cyc dr (i + ((0 : Nat) : Int)) := by
        rw [show i + 1 + (a : Int) = (i + ((0 : Nat) : Int)) + (dr.length : Int) by omega]
        exact cyc_per dr _
      omega
theorem Good.const {n : Nat} {c : Int} (hn : 1 ≤ n) (hn2 : n ≤ 48) (h0 : 1 ≤ c) (h1 : c ≤ (n : Int)) : Good (List.replicate n c) := by
  have e : ∀ i, cyc (List.replicate n c) i = c := fun i => by
    have hb := mod_bd hn i
    unfold cyc
    rw [List.length_replicate, List.getD_eq_getElem?_getD, List.getElem?_replicate, if_pos (by omega)]
    rfl
  refine ⟨by rw [List.length_replicate]; exact hn, by rw [List.length_replicate]; exact hn2, fun i => by rw [e]; exact h0, fun i => by rw [e, List.length_replicate]; exact h1, fun i => by rw [e, e]; omega⟩
/-! ### served and serving -/
/-- the hours that one serves who begins at h -/
def servedOf (s : List Int) (h : Int) : List Int := (List.range (cyc s h).toNat).map fun (k : Nat) => (h + (k : Int)) % (s.length : Int)
/-- the hours of the window of h -/
def servingOf (s : List Int) (h : Int) : List Int := (List.range (wd s h).toNat).map fun (k : Nat) => (h - wd s h + 1 + (k : Int)) % (s.length : Int)
theorem serv_rev (s : List Int) (h : Int) : servingOf s h = ((List.range (wd s h).toNat).map fun (k : Nat) => (h - (k : Int)) % (s.length : Int)).reverse := by
  unfold servingOf
  have h0 := wd_nn (s := s) h
  refine List.ext_getElem? fun i => ?_
  rcases Nat.lt_or_ge i (wd s h).toNat with q | q
  · rw [List.getElem?_reverse (by rw [List.length_map, List.length_range]; exact q), List.getElem?_map, List.getElem?_map, List.length_map, List.length_range, List.getElem?_range q, List.getElem?_range (by omega)]
    show some ((h - wd s h + 1 + (i : Int)) % (s.length : Int)) = some ((h - (((wd s h).toNat - 1 - i : Nat) : Int)) % (s.length : Int))
    rw [show h - wd s h + 1 + (i : Int) = h - (((wd s h).toNat - 1 - i : Nat) : Int) by omega]
  · rw [List.getElem?_eq_none (by rw [List.length_map, List.length_range]; exact q), List.getElem?_eq_none (by rw [List.length_reverse, List.length_map, List.length_range]; exact q)]
theorem mem_served {s : List Int} (g : Good s) {h b : Int} (h0 : 0 ≤ h) (h1 : h < (s.length : Int)) : h ∈ servedOf s b ↔ (h - b) % (s.length : Int) < cyc s b := by
  unfold servedOf
  rw [List.mem_map]
  have hm := mod_bd g.ne (h - b)
  have hl := g.lo b
  have hh := g.hi b
  constructor
  · rintro ⟨k, hk, e⟩
    rw [List.mem_range] at hk
    rw [← e, Int.emod_sub_emod, show b + (k : Int) - b = k by omega, Int.emod_eq_of_lt (by omega) (by omega)]
    omega
  · intro q
    refine ⟨((h - b) % (s.length : Int)).toNat, List.mem_range.mpr (by omega), ?_⟩
    rw [show ((((h - b) % (s.length : Int)).toNat : Nat) : Int) = (h - b) % (s.length : Int) by omega, Int.add_emod_emod, show b + (h - b) = h by omega, Int.emod_eq_of_lt h0 h1]
theorem mem_serving {s : List Int} (g : Good s) {h b : Int} (h0 : 0 ≤ b) (h1 : b < (s.length : Int)) : b ∈ servingOf s h ↔ (h - b) % (s.length : Int) < wd s h := by
  rw [serv_rev, List.mem_reverse, List.mem_map]
  have hm := mod_bd g.ne (h - b)
  have hl := wd_nn (s := s) h
  have hh := wd_le (s := s) h
  constructor
  · rintro ⟨k, hk, e⟩
    rw [List.mem_range] at hk
    rw [← e, Int.sub_emod_emod, show h - (h - (k : Int)) = k by omega, Int.emod_eq_of_lt (by omega) (by omega)]
    omega
  · intro q
    refine ⟨((h - b) % (s.length : Int)).toNat, List.mem_range.mpr (by omega), ?_⟩
    rw [show ((((h - b) % (s.length : Int)).toNat : Nat) : Int) = (h - b) % (s.length : Int) by omega, Int.sub_emod_emod, show h - (h - b) = b by omega, Int.emod_eq_of_lt h0 h1]
/-- an hour is served by a begin just if the begin is in its window -/
theorem served_iff {s : List Int} (g : Good s) {h b : Int} (h0 : 0 ≤ h) (h1 : h < (s.length : Int)) (b0 : 0 ≤ b) (b1 : b < (s.length : Int)) : h ∈ servedOf s b ↔ b ∈ servingOf s h := by
  rw [mem_served g h0 h1, mem_serving g b0 b1]
  have hm := mod_bd g.ne (h - b)
  have := wd_iff g h (b := ((h - b) % (s.length : Int)).toNat) (by omega)
  rw [show ((((h - b) % (s.length : Int)).toNat : Nat) : Int) = (h - b) % (s.length : Int) by omega] at this
  rw [this, cyc_congr (i := h - (h - b) % (s.length : Int)) (j := b) (by rw [Int.sub_emod_emod, show h - (h - b) = b by omega])]
theorem mod_flip {n : Nat} (h : 1 ≤ n) (x : Int) : (n : Int) - 1 - x % (n : Int) = ((n : Int) - 1 - x) % (n : Int) := by
  have hb := mod_bd h x
  have e : ((n : Int) - 1 - x) % (n : Int) = ((n : Int) - 1 - x % (n : Int)) % (n : Int) := (Int.sub_emod_emod ..).symm
  exact (e.trans (Int.emod_eq_of_lt (by omega) (by omega))).symm
theorem mir_served {s : List Int} (g : Good s) (h : Int) : servedOf (mirS s) ((s.length : Int) - 1 - h) = ((servingOf s h).map fun x => (s.length : Int) - 1 - x).reverse := by
  have e : cyc (mirS s) ((s.length : Int) - 1 - h) = wd s h := by
    rw [cyc_mir g.ne, show (-1 - ((s.length : Int) - 1 - h)) = h - (s.length : Int) by omega]
    have := wd_per s (h - (s.length : Int))
    rw [show h - (s.length : Int) + (s.length : Int) = h by omega] at this
    exact this.symm
  rw [serv_rev, List.map_reverse, List.reverse_reverse, List.map_map]
  unfold servedOf
  rw [e, mirS_length]
  refine List.map_congr_left fun k _ => ?_
  show _ = (s.length : Int) - 1 - (h - (k : Int)) % (s.length : Int)
  rw [mod_flip g.ne, show (s.length : Int) - 1 - (h - (k : Int)) = (s.length : Int) - 1 - h + k by omega]
theorem mir_serving {s : List Int} (g : Good s) (h : Int) : servingOf (mirS s) ((s.length : Int) - 1 - h) = ((servedOf s h).map fun x => (s.length : Int) - 1 - x).reverse := by
  have e : wd (mirS s) ((s.length : Int) - 1 - h) = cyc s h := by
    rw [wd_mir g, show (-1 - ((s.length : Int) - 1 - h)) = h - (s.length : Int) by omega]
    have := cyc_per s (h - (s.length : Int))
    rw [show h - (s.length : Int) + (s.length : Int) = h by omega] at this
    exact this.symm
  rw [serv_rev, e, mirS_length]
  unfold servedOf
  rw [List.map_map]
  congr 1
  refine List.map_congr_left fun k _ => ?_
  show _ = (s.length : Int) - 1 - (h + (k : Int)) % (s.length : Int)
  rw [mod_flip g.ne, show (s.length : Int) - 1 - (h + (k : Int)) = (s.length : Int) - 1 - h - k by omega]
/-! ### windows read off the stays -/
theorem filter_down (p : Nat → Bool) (hp : ∀ b, p (b + 1) = true → p b = true) : ∀ n : Nat, (List.range n).filter p = List.range ((List.range n).filter p).length := by
  have hp' : ∀ k b, p (b + k) = true → p b = true := fun k => by
    induction k with
    | zero => exact fun b h => h
    | succ k ih => exact fun b h => ih b (hp (b + k) h)
  intro n
  induction n with
  | zero => rfl
  | succ n ih =>
    rw [List.range_succ, List.filter_append, List.length_append, List.filter_cons]
    by_cases hn : p n = true
    · have e : (List.range n).filter p = List.range n := List.filter_eq_self.mpr fun a ha => hp' (n - a) a (by
        have := List.mem_range.mp ha
        rw [show a + (n - a) = n by omega]
        exact hn)
      rw [if_pos hn, e, List.length_range]
      simp only [List.filter_nil, List.length_cons, List.length_nil]
      exact (List.range_succ).symm
    · rw [if_neg hn]
      simp only [List.filter_nil, List.length_nil, Nat.add_zero, List.append_nil]
      exact ih
theorem serving_filter {s : List Int} (g : Good s) (h : Int) : (((List.range s.length).filter fun (b : Nat) => decide ((b : Int) < cyc s (h - (b : Int)))).map fun (b : Nat) => (h - (b : Int)) % (s.length : Int)).reverse = servingOf s h := by
  have e := filter_down (fun (b : Nat) => decide ((b : Int) < cyc s (h - (b : Int)))) (fun b q => by
    have q' := of_decide_eq_true q
    exact decide_eq_true (down g h b (by
      rw [show ((b + 1 : Nat) : Int) = (b : Int) + 1 by omega] at q'
      exact q'))) s.length
  rw [e, serv_rev]
  congr 3
theorem serving_len (s : List Int) (h : Int) : ((servingOf s h).length : Int) = wd s h := by
  unfold servingOf
  rw [List.length_map, List.length_range]
  have := wd_nn (s := s) h
  omega
/-! ### clocks there and back -/
theorem wds_turn {s : List Int} (g : Good s) (b : Int) : wds (turnS s b) = turnS (wds s) b := by
  have hl := turnS_length s b
  refine eq_of_cyc (by rw [wds_length, turnS_length, turnS_length, wds_length]) fun i _ _ => ?_
  rw [cyc_wds (by rw [hl]; exact g.ne), wd_turn g.ne, cyc_turn (by rw [wds_length]; exact g.ne), cyc_wds g.ne]
theorem wds_mir {s : List Int} (g : Good s) : wds (mirS s) = s.reverse := by
  have hl := mirS_length s
  refine eq_of_cyc (by rw [wds_length, mirS_length, List.length_reverse]) fun i _ _ => ?_
  rw [cyc_wds (by rw [hl]; exact g.ne), wd_mir g, cyc_rev g.ne]
theorem turn_turn {s : List Int} (h : 1 ≤ s.length) (a b : Int) : turnS (turnS s a) b = turnS s (a + b) := by
  refine eq_of_cyc (by rw [turnS_length, turnS_length, turnS_length]) fun i _ _ => ?_
  rw [cyc_turn (by rw [turnS_length]; exact h), cyc_turn h, cyc_turn h, show i + b + a = i + (a + b) by omega]
theorem turn_zero {s : List Int} (h : 1 ≤ s.length) : turnS s 0 = s := by
  refine eq_of_cyc (by rw [turnS_length]) fun i _ _ => ?_
  rw [cyc_turn h, Int.add_zero]
theorem turn_back {s : List Int} (h : 1 ≤ s.length) (b : Int) : turnS (turnS s b) (0 - b) = s := by
  rw [turn_turn h, show b + (0 - b) = 0 by omega, turn_zero h]
theorem turn_all {s : List Int} (h : 1 ≤ s.length) : turnS s (s.length : Int) = s := by
  refine eq_of_cyc (by rw [turnS_length]) fun i _ _ => ?_
  rw [cyc_turn h, cyc_per]
theorem mir_turn {s : List Int} (g : Good s) (b : Int) : mirS (turnS s b) = turnS (mirS s) (0 - b) := by
  have hl := turnS_length s b
  refine eq_of_cyc (by rw [mirS_length, turnS_length, turnS_length, mirS_length]) fun i _ _ => ?_
  rw [cyc_mir (by rw [hl]; exact g.ne), wd_turn g.ne, cyc_turn (by rw [mirS_length]; exact g.ne), cyc_mir g.ne, show -1 - i + b = -1 - (i + (0 - b)) by omega]
theorem cyc_rep {n : Nat} (h : 1 ≤ n) (c i : Int) : cyc (List.replicate n c) i = c := by
  have hb := mod_bd h i
  unfold cyc
  rw [List.length_replicate, List.getD_eq_getElem?_getD, List.getElem?_replicate, if_pos (by omega)]
  rfl
theorem turn_rep {n : Nat} (h : 1 ≤ n) (c b : Int) : turnS (List.replicate n c) b = List.replicate n c := by
  refine eq_of_cyc (by rw [turnS_length]) fun i _ _ => ?_
  rw [cyc_turn (by rw [List.length_replicate]; exact h), cyc_rep h, cyc_rep h]
theorem wd_rep {n : Nat} (h : 1 ≤ n) {c : Int} (h0 : 0 ≤ c) (h1 : c ≤ (n : Int)) (i : Int) : wd (List.replicate n c) i = c := by
  rw [wd_sum, List.length_replicate]
  rw [Sg_congr (g := fun b => if b < c then 1 else 0) fun j _ _ => by rw [cyc_rep h]]
  exact cnt_below h0 h1
theorem wds_rep {n : Nat} (h : 1 ≤ n) {c : Int} (h0 : 0 ≤ c) (h1 : c ≤ (n : Int)) : wds (List.replicate n c) = List.replicate n c := by
  have hl : 1 ≤ (List.replicate n c).length := by rw [List.length_replicate]; exact h
  refine eq_of_cyc (by rw [wds_length]) fun i _ _ => ?_
  rw [cyc_wds hl, wd_rep h h0 h1, cyc_rep h]
theorem mir_rep {n : Nat} (h : 1 ≤ n) {c : Int} (h0 : 0 ≤ c) (h1 : c ≤ (n : Int)) : mirS (List.replicate n c) = List.replicate n c := by
  unfold mirS
  rw [wds_rep h h0 h1, List.reverse_replicate]
end Hn

/-! Data told by a Lean value; a text a number of times. -/
namespace Hn
open PySem PySem.Spec PyProof.Rows L2 Evl
section
variable {α β : Type} [DecidableEq α] [PySem.W.Datum α] [DecidableEq β] [PySem.W.Datum β] {K : PySem.W.Frag} {H H' : Hp} {Q : VK} {x y : V} {a b : Addr} {vs : List V} {ns : List Int}
/-- the heap holds u at the value x -/
def Hd (K : PySem.W.Frag) (H : Hp) (x : V) (u : α) : Prop := Dp K H x (PySem.W.Datum.toD u)
def HdAll (K : PySem.W.Frag) (H : Hp) (vs : List V) (us : List α) : Prop := DpAll K H vs (us.map PySem.W.Datum.toD)
/-- data of this kind can be laid -/
def LayT (α : Type) [DecidableEq α] [PySem.W.Datum α] : Prop := ∀ u : α, PyData.canLay0 (PySem.W.Datum.toD u) = true
theorem lay_int : LayT Int := fun _ => rfl
theorem lay_bool : LayT Bool := fun _ => rfl
theorem lay_unit : LayT Unit := fun _ => rfl
theorem lay_all (h : LayT α) : ∀ us : List α, PyData.canLayAll0 (us.map PySem.W.Datum.toD) = true
  | [] => rfl
  | u :: us => by
    rw [List.map_cons, PyData.canLayAll0, h u, lay_all h us]
    rfl
theorem lay_list (h : LayT α) : LayT (List α) := fun us => by
  show PyData.canLay0 (.list _) = true
  rw [PyData.canLay0]
  exact lay_all h us
theorem lay_tup (h : LayT α) : LayT (PySem.W.Tup α) := fun us => by
  show PyData.canLay0 (.tuple _) = true
  rw [PyData.canLay0]
  exact lay_all h us.items
theorem lay_pair (h : LayT α) (h2 : LayT β) : LayT (α × β) := fun u => by
  show PyData.canLay0 (.tuple _) = true
  rw [PyData.canLay0, PyData.canLayAll0, PyData.canLayAll0, PyData.canLayAll0, h u.1, h2 u.2]
  rfl
theorem lay_sh (h : LayT α) (hd : PySem.W.Datum.depth α ≤ 64) (u : α) : SeqAt.shaped (PySem.W.Datum.toD u) = true := by
  unfold SeqAt.shaped
  rw [h u]
  exact decide_eq_true (Nat.le_trans (PySem.W.Datum.depth_le u) hd)
theorem r_eqH (l : LayT α) {u v : α} (hx : Hd K H x u) (hy : Hd K H y v) (q : Q (.bl (decide (u = v))) H) (hd : PySem.W.Datum.depth α ≤ 64 := by decide) : rEqD K x y H Q :=
  ⟨_, _, hx, hy, lay_sh l hd u, lay_sh l hd v, by rw [PySem.W.Datum.eqv]; exact q⟩
theorem r_neH (l : LayT α) {u v : α} (hx : Hd K H x u) (hy : Hd K H y v) (q : Q (.bl (!decide (u = v))) H) (hd : PySem.W.Datum.depth α ≤ 64 := by decide) : rNeD K x y H Q :=
  ⟨_, _, hx, hy, lay_sh l hd u, lay_sh l hd v, by rw [PySem.W.Datum.eqv]; exact q⟩
theorem hd_list {us : List α} (h : SqL K H a vs) (hv : HdAll K H vs us) : Hd K H (.ref a) us := .lst h hv
theorem hd_tup {us : List α} (h : SqT K H a vs) (hv : HdAll K H vs us) : Hd K H (.ref a) (PySem.W.Tup.mk us) := .tup h hv
theorem hda_ints : ∀ ns : List Int, HdAll K H (ns.map V.int) ns
  | [] => .nil
  | n :: ns => .cons (.int n) (hda_ints ns)
theorem hda_bools : ∀ bs : List Bool, HdAll K H (bs.map V.bl) bs
  | [] => .nil
  | n :: ns => .cons (.bl n) (hda_bools ns)
theorem hd_ints (h : SqL K H a (ns.map V.int)) : Hd K H (.ref a) ns := hd_list h (hda_ints ns)
theorem hd_intsT (h : SqT K H a (ns.map V.int)) : Hd K H (.ref a) (PySem.W.Tup.mk ns) := hd_tup h (hda_ints ns)
theorem hd_bools {bs : List Bool} (h : SqL K H a (bs.map V.bl)) : Hd K H (.ref a) bs := hd_list h (hda_bools bs)
theorem hda_ix : ∀ {vs : List V} {us : List α}, vs.length = us.length → (∀ (i : Nat) v u, vs[i]? = some v → us[i]? = some u → Hd K H v u) → HdAll K H vs us
  | [], [], _, _ => .nil
  | _ :: _, [], h, _ => by cases h
  | [], _ :: _, h, _ => by cases h
  | v :: vs, u :: us, h, f => .cons (f 0 v u rfl rfl) (hda_ix (by simpa using h) fun i v u h1 h2 => f (i + 1) v u (by simpa using h1) (by simpa using h2))
mutual
theorem dp_ex (e : Ex H H') : ∀ {x : V} {u : PyData}, Dp K H x u → Dp K H' x u
  | _, _, .non => .non
  | _, _, .bl b => .bl b
  | _, _, .int i => .int i
  | _, _, .str y => .str y
  | _, _, .lst a b => .lst (ex_l e a) (dpa_ex e b)
  | _, _, .tup a b => .tup (ex_t e a) (dpa_ex e b)
theorem dpa_ex (e : Ex H H') : ∀ {vs : List V} {us : List PyData}, DpAll K H vs us → DpAll K H' vs us
  | _, _, .nil => .nil
  | _, _, .cons a b => .cons (dp_ex e a) (dpa_ex e b)
end
theorem hd_ex {u : α} (e : Ex H H') (h : Hd K H x u) : Hd K H' x u := dp_ex e h
/-- lists of ints, one int after another alike -/
theorem r_eqL {ms : List Int} (h1 : SqL K H a (ns.map V.int)) (h2 : SqL K H b (ms.map V.int)) (q : Q (.bl (decide (ns = ms))) H) : rEqD K (.ref a) (.ref b) H Q := r_eqH (lay_list lay_int) (hd_ints h1) (hd_ints h2) q
theorem r_neL {ms : List Int} (h1 : SqL K H a (ns.map V.int)) (h2 : SqL K H b (ms.map V.int)) (q : Q (.bl (!decide (ns = ms))) H) : rNeD K (.ref a) (.ref b) H Q := r_neH (lay_list lay_int) (hd_ints h1) (hd_ints h2) q
theorem r_eqT {ms : List Int} (h1 : SqT K H a (ns.map V.int)) (h2 : SqT K H b (ms.map V.int)) (q : Q (.bl (decide (ns = ms))) H) : rEqD K (.ref a) (.ref b) H Q := r_eqH (lay_tup lay_int) (hd_intsT h1) (hd_intsT h2) (by
  rw [show decide (PySem.W.Tup.mk ns = PySem.W.Tup.mk ms) = decide (ns = ms) from decide_eq_decide.mpr ⟨fun e => by cases e; rfl, fun e => by rw [e]⟩]
  exact q)
theorem r_neT {ms : List Int} (h1 : SqT K H a (ns.map V.int)) (h2 : SqT K H b (ms.map V.int)) (q : Q (.bl (!decide (ns = ms))) H) : rNeD K (.ref a) (.ref b) H Q := r_neH (lay_tup lay_int) (hd_intsT h1) (hd_intsT h2) (by
  rw [show decide (PySem.W.Tup.mk ns = PySem.W.Tup.mk ms) = decide (ns = ms) from decide_eq_decide.mpr ⟨fun e => by cases e; rfl, fun e => by rw [e]⟩]
  exact q)
theorem inV_int (i : Int) : ∀ ns : List Int, inV (.int i) (ns.map V.int) = decide (i ∈ ns)
  | [] => rfl
  | n :: ns => by
    have ih := inV_int i ns
    unfold inV at ih ⊢
    rw [List.map_cons, List.any_cons, ih]
    have e : eqV (.int n) (.int i) = decide (n = i) := by
      show decide _ = _
      rfl
    rw [e, Bool.eq_iff_iff]
    simp only [Bool.or_eq_true, decide_eq_true_eq, List.mem_cons]
    exact ⟨fun h => h.elim (fun h => .inl h.symm) .inr, fun h => h.elim (fun h => .inl h.symm) .inr⟩
theorem flat_ints (ns : List Int) : (ns.map V.int).all flatV = true := by
  rw [List.all_map]
  exact List.all_eq_true.mpr fun _ _ => rfl
theorem r_inI {i : Int} (h : Sq K H a (ns.map V.int)) (q : Q (.bl (decide (i ∈ ns))) H) : rIn K false (.int i) (.ref a) H Q := ⟨a, _, rfl, h, rfl, flat_ints ns, by rw [inV_int]; exact q⟩
theorem r_notInI {i : Int} (h : Sq K H a (ns.map V.int)) (q : Q (.bl (!decide (i ∈ ns))) H) : rIn K true (.int i) (.ref a) H Q := ⟨a, _, rfl, h, rfl, flat_ints ns, by rw [inV_int]; exact q⟩
end
section
variable {X : Cx}
/-- a text, n times: n small -/
def rStrMul : R2 := fun x y H Q => ∃ (a : Str) (n : Int), x = .str a ∧ y = .int n ∧ 0 ≤ n ∧ n < 1000 ∧ a.length ≤ 10 ∧ Q (.str (Txt.mul a n)) H
theorem op_strmul : OpR X (binaryOp .Mult) rStrMul := by
  intro pins s σ H x y v u Q I rx ry h
  obtain ⟨a, n, rfl, rfl, h0, h1, h2, q⟩ := h
  obtain ⟨t, rfl⟩ := rx
  obtain ⟨t', rfl⟩ := ry
  refine SB.mul ⟨?_, fun h3 _ => ?_, fun h3 _ => ?_⟩ fun t'' k => ⟨.str _, H, I.tok _, ⟨_, rfl⟩, q⟩
  · rw [Bool.or_eq_false_iff]
    exact ⟨decide_eq_false (by omega), decide_eq_false (by omega)⟩
  · have e : (10 : Int) ≤ (2 ^ 63 - 1) / n := (Int.le_ediv_iff_mul_le (by omega)).mpr (by omega)
    have e2 : (a.length : Int) ≤ 10 := by omega
    omega
  · unfold Builtin.Str.tooLong
    refine decide_eq_false ?_
    have : a.length * n.toNat ≤ 10 * 1000 := Nat.mul_le_mul h2 (by omega)
    have e : (10 * 1000 : Nat) ≤ sizeLine := by decide
    omega
def rAddS : R2 := fun x y H Q => ∃ i j, x = .str i ∧ y = .str j ∧ i.length + j.length ≤ sizeLine ∧ Q (.str (i ++ j)) H
theorem k_addS : OpR X (binaryOp .Add) rAddS := op_add_str
def rIntS : List V → Hp → VK → Prop := fun xs H Q => ∃ a n, xs = [.str a] ∧ PySem.intText? a = some n ∧ a.length ≤ 640 ∧ Q (.int n) H
theorem k_intS : CallR X (.type "int") rIntS := call_int_str
/-- a one and k noughts: the number -/
theorem ten_text : ∀ k : Fin 40, ((PySem.intText? (Str.ofString "1" ++ Txt.mul (Str.ofString "0") (k.1 : Int))).isSome && decide ((Str.ofString "1" ++ Txt.mul (Str.ofString "0") (k.1 : Int)).length ≤ 640)) = true := by decide +kernel
end
/-- values that are ints, as a row -/
theorem ints_of {P : Int → Prop} : ∀ {vs : List V}, (∀ v ∈ vs, ∃ z : Int, P z ∧ v = .int z) → ∃ ns : List Int, (∀ z ∈ ns, P z) ∧ vs = ns.map V.int
  | [], _ => ⟨[], fun _ h => (nomatch h), rfl⟩
  | v :: vs, h => by
    obtain ⟨z, hz, rfl⟩ := h v (List.mem_cons_self ..)
    obtain ⟨ns, hns, rfl⟩ := ints_of (vs := vs) fun w hw => h w (List.mem_cons_of_mem _ hw)
    refine ⟨z :: ns, fun y hy => ?_, rfl⟩
    rcases List.mem_cons.mp hy with rfl | hy
    · exact hz
    · exact hns y hy
theorem flat_rep {α : Type} (x : α) : ∀ n : Nat, (List.replicate n [x]).flatten = List.replicate n x
  | 0 => rfl
  | n + 1 => by rw [List.replicate_succ, List.flatten_cons, flat_rep x n, List.replicate_succ]; rfl
/-- a list of new lists -/
def Rows (H : Hp) (D : Addr) (n : Nat) (f : Nat → List V) : Prop := ∃ ys, H D = some (.lst ys) ∧ ys.length = n ∧ ∀ (i : Nat) y, ys[i]? = some y → ∃ p, y = .ref p ∧ H p = some (.lst (f i))
theorem Rows.ex {H H' : Hp} {D : Addr} {n : Nat} {f : Nat → List V} (e : Ex H H') (h : Rows H D n f) : Rows H' D n f :=
  let ⟨ys, h1, h2, h3⟩ := h
  ⟨ys, e _ _ h1, h2, fun i y hy => let ⟨p, hp, q⟩ := h3 i y hy; ⟨p, hp, e _ _ q⟩⟩
theorem Rows.sq {K : PySem.W.Frag} {H : Hp} {D : Addr} {n : Nat} {f : Nat → List V} (h : Rows H D n f) {Q : VK} {i : Nat} (hi : i < n) (q : ∀ p, H p = some (.lst (f i)) → Q (.ref p) H) : rIxL K (.ref D) (.int (i : Int)) H Q := by
  obtain ⟨ys, h1, h2, h3⟩ := h
  have hy : ys[i]? = some ys[i] := List.getElem?_eq_getElem (by omega)
  obtain ⟨p, hp, hq⟩ := h3 i _ hy
  refine ⟨D, ys, i, .ref p, rfl, rfl, .inl (.inl h1), atI_nat ?_, q p hq⟩
  rw [hy, hp]
theorem Rows.hd {α : Type} [DecidableEq α] [PySem.W.Datum α] {K : PySem.W.Frag} {H : Hp} {D : Addr} {n : Nat} {f : Nat → List V} (h : Rows H D n f) (us : Nat → List α) (hu : ∀ i, i < n → HdAll K H (f i) (us i)) : Hd K H (.ref D) ((List.range n).map us) := by
  obtain ⟨ys, h1, h2, h3⟩ := h
  refine hd_list (.inl (.inl h1)) (hda_ix (by rw [List.length_map, List.length_range]; exact h2) fun i v u hv hu' => ?_)
  obtain ⟨p, rfl, hp⟩ := h3 i v hv
  have hi : i < n := by
    have := (List.getElem?_eq_some_iff.mp hv).1
    omega
  rw [List.getElem?_map, List.getElem?_range hi] at hu'
  cases hu'
  exact hd_list (.inl (.inl hp)) (hu i hi)
section
variable {J : It} {n : Nat} {G : Hp → Prop} {Y : Nat → Hp → V → Hp → Prop}
/-- each item a new list -/
theorem lc_rows (w : Walk J n G Y) {g : TG} {te : TE} {vs : List Nat} {σ : L2.St} {H1 : Hp} {Q : VK} (f : Nat → List V) (hG : ∀ H, Ex H1 H → G H) (hn : n ≤ 100000)
    (turn : ∀ i x H H', i < n → Ex H1 H → Y i H x H' → ∀ k : VK, RetN (f i) H k → g x (wipe σ vs) H' fun σ2 H2 => wipe σ2 vs = wipe σ vs ∧ te σ2 H2 k)
    (fin : ∀ D H, H1 D = none → Ex H1 H → Rows H D n f → Q (.ref D) H) : LcTail J H1 g tYes te vs σ Q :=
  lc_map w (fun D i v H => ∃ p, v = .ref p ∧ H p = some (.lst (f i)) ∧ p ≠ D) (fun _ _ H' e _ _ _ => hG H' e) (fun D i v H H' e ⟨p, h1, h2, h3⟩ => ⟨p, h1, e _ _ h2, h3⟩) (fun D i v H xs ys _ ⟨p, h1, h2, h3⟩ => ⟨p, h1, by rw [upd_ne h3]; exact h2, h3⟩) hn
    (fun D i x H H' hi e hD ⟨xs, hx⟩ y k h => turn i x H H' hi e y k fun p H4 np e4 hp => h _ _ e4 ⟨p, rfl, hp, fun z => by rw [z, hx] at np; cases np⟩)
    fun D H ys hD e hy hl hr => fin D H hD e ⟨ys, hy, hl, fun i y h => let ⟨p, h1, h2, _⟩ := hr i y h; ⟨p, h1, h2⟩⟩
end
/-- what a law asks and gives -/
def spLaw (K : PySem.W.Frag) : Sp := fun vs H Q _ => ∃ (a : Addr) (ns : List Int), vs = [.ref a] ∧ SqL K H a (ns.map V.int) ∧ ns.length ≤ 63 ∧ ∀ H', Q (.bl true) H'
/-- a list of new lists that are such and such -/
def RowsP (H : Hp) (D : Addr) (n : Nat) (P : Nat → List V → Prop) : Prop := ∃ ys, H D = some (.lst ys) ∧ ys.length = n ∧ ∀ (i : Nat) y, ys[i]? = some y → ∃ p xs, y = .ref p ∧ H p = some (.lst xs) ∧ P i xs
theorem RowsP.ex {H H' : Hp} {D : Addr} {n : Nat} {P : Nat → List V → Prop} (e : Ex H H') (h : RowsP H D n P) : RowsP H' D n P :=
  let ⟨ys, h1, h2, h3⟩ := h
  ⟨ys, e _ _ h1, h2, fun i y hy => let ⟨p, xs, hp, q, r⟩ := h3 i y hy; ⟨p, xs, hp, e _ _ q, r⟩⟩
theorem RowsP.sq {K : PySem.W.Frag} {H : Hp} {D : Addr} {n : Nat} {P : Nat → List V → Prop} (h : RowsP H D n P) {Q : VK} {i : Nat} (hi : i < n) (q : ∀ p xs, P i xs → H p = some (.lst xs) → Q (.ref p) H) : rIxL K (.ref D) (.int (i : Int)) H Q := by
  obtain ⟨ys, h1, h2, h3⟩ := h
  have hy : ys[i]? = some ys[i] := List.getElem?_eq_getElem (by omega)
  obtain ⟨p, xs, hp, hq, hr⟩ := h3 i _ hy
  refine ⟨D, ys, i, .ref p, rfl, rfl, .inl (.inl h1), atI_nat ?_, q p xs hr hq⟩
  rw [hy, hp]
section
variable {J : It} {n : Nat} {G : Hp → Prop} {Y : Nat → Hp → V → Hp → Prop}
theorem lc_rowsP (w : Walk J n G Y) {g : TG} {te : TE} {vs : List Nat} {σ : L2.St} {H1 : Hp} {Q : VK} (P : Nat → List V → Prop) (hG : ∀ H, Ex H1 H → G H) (hn : n ≤ 100000)
    (turn : ∀ i x H H', i < n → Ex H1 H → Y i H x H' → ∀ k : VK, (∀ xs, P i xs → RetN xs H k) → g x (wipe σ vs) H' fun σ2 H2 => wipe σ2 vs = wipe σ vs ∧ te σ2 H2 k)
    (fin : ∀ D H, H1 D = none → Ex H1 H → RowsP H D n P → Q (.ref D) H) : LcTail J H1 g tYes te vs σ Q :=
  lc_map w (fun D i v H => ∃ p xs, v = .ref p ∧ H p = some (.lst xs) ∧ P i xs ∧ p ≠ D) (fun _ _ H' e _ _ _ => hG H' e) (fun D i v H H' e ⟨p, xs, h1, h2, h3, h4⟩ => ⟨p, xs, h1, e _ _ h2, h3, h4⟩) (fun D i v H xs ys _ ⟨p, us, h1, h2, h3, h4⟩ => ⟨p, us, h1, by rw [upd_ne h4]; exact h2, h3, h4⟩) hn
    (fun D i x H H' hi e hD ⟨xs, hx⟩ y k h => turn i x H H' hi e y k fun us hP p H4 np e4 hp => h _ _ e4 ⟨p, us, rfl, hp, hP, fun z => by rw [z, hx] at np; cases np⟩)
    fun D H ys hD e hy hl hr => fin D H hD e ⟨ys, hy, hl, fun i y h => let ⟨p, xs, h1, h2, h3, _⟩ := hr i y h; ⟨p, xs, h1, h2, h3⟩⟩
end
end Hn

/-! list(zip(a, b)): each given tuple stays out. -/
namespace Hn
open PySem PySem.W PySem.Calls PySem.Spec PyProof.Rows L2 Evl
open Sem (wp)
theorem zip_nolen : typeLookup (.type "zip") "__len__" = pure none := by rw [typeLookup_type, builtinLookup_eq_fast]; kernel_rfl
theorem zip_nohint : typeLookup (.type "zip") "__length_hint__" = pure none := by rw [typeLookup_type, builtinLookup_eq_fast]; kernel_rfl
section
variable {prog : Program} {w : World} {A : Around} {E : Value → Shared → Prop} {s : Shared} {z TI TO T i1 i2 S : Addr} {fp1 fp2 : List Addr} {n i : Nat} {P1 P2 : Nat → Value → Prop} {St1 St2 : Nat → Heap → Prop} {f : Bool} {oT : Obj}
theorem zh_item {Q : Value → Shared → Prop} (D : ZipSep2 z TI TO i1 i2 fp1 fp2) (D1 : Draws prog w A i1 fp1 n P1 St1) (D2 : Draws prog w A i2 fp2 n P2 St2)
    (hz : IsZipHeld s.heap z TI TO T f) (hT : s.heap.get? T = some oT) (hTI : IsTupOf2 s.heap TI (.ref i1) (.ref i2)) (st1 : St1 i s.heap) (st2 : St2 i s.heap) (hi : i < n)
    (hQ : ∀ x1 x2 h' tk, P1 i x1 → P2 i x2 → IsZipHeld h' z TI TO T true → St1 (i + 1) h' → St2 (i + 1) h' → IsTupOf2 h' s.heap.objs.size x1 x2 → h'.objs.size = s.heap.objs.size + 1 →
      (∀ c o, c ≠ z → c ≠ i1 → c ≠ i2 → s.heap.get? c = some o → h'.get? c = some o) → Q (.ref s.heap.objs.size) { s with heap := h', toks := tk }) :
    wpAny (model prog w) A (Builtin.«zip.__next__» ⟨[.ref z], []⟩) (fun fin s' => ∃ v, fin = .done (.ret v) ∧ Q v s') E s := by
  obtain ⟨hp, g, d, tk0, os⟩ := s
  show wpAny _ _ (field (.ref z) 2 >>= _) _ _ _
  refine wpAny_bind (wpAny_field hz rfl (x := .bool false) rfl ?_)
  show wpAny _ _ (field (.ref z) 3 >>= _) _ _ _
  refine wpAny_bind (wpAny_field hz rfl (x := .ref TI) rfl ?_)
  refine wpAny_bind (wpAny_seqItems hTI rfl ?_)
  show wpAny _ _ (Builtin.SmallTypes.ownedTupleIsFree (.ref z) >>= _) _ _ _
  refine wpAny_bind (wpAny_tupleHeld_zip hz hT fun g0 hz0 hs0 => ?_)
  replace hs0 : Heap.SameBut z hp g0 := hs0
  simp only [Bool.false_eq_true, if_false]
  refine wpAny_bind ?_
  rw [← Array.forIn_toList]
  simp only [List.forIn_cons, List.forIn_nil]
  refine wpAny_bind (wpAny_bind (wpAny_holding ?_))
  show wpAny _ _ (Builtin.SmallTypes.nextOf (.ref i1) >>= _) _ _ ⟨g0, g, d, tk0, os⟩
  refine wpAny_bind (D1.item i _ _ _ hi (D1.over st1 hs0 D.zf1) fun x1 p1 tk1 hx1 sn1 hp1 => wpAny_pure ?_)
  replace hp1 : Heap.SameBut i1 g0 p1 := hp1
  refine wpAny_pure ?_
  refine wpAny_bind (wpAny_bind (wpAny_holding ?_))
  show wpAny _ _ (Builtin.SmallTypes.nextOf (.ref i2) >>= _) _ _ ⟨p1, g, d, tk1, os⟩
  refine wpAny_bind (D2.item i _ _ _ hi (D2.over (D2.over st2 hs0 D.zf2) hp1 D.sep1_2) fun x2 p2 tk2 hx2 sn2 hp2 => wpAny_pure ?_)
  replace hp2 : Heap.SameBut i2 p1 p2 := hp2
  refine wpAny_pure (wpAny_pure ?_)
  show wpAny _ _ (newTuple [x1, x2] >>= _) _ _ ⟨p2, g, d, tk2, os⟩
  refine wpAny_bind (wpAny_newTuple ?_)
  have hsz : p2.objs.size = hp.objs.size := by rw [hp2.1, hp1.1, hs0.1]
  have hzz : IsZipHeld p2 z TI TO T true := hp2.extBut _ _ D.zi2 (hp1.extBut _ _ D.zi1 hz0)
  have hkk : ∀ c o, c ≠ z → c ≠ i1 → c ≠ i2 → hp.get? c = some o → p2.get? c = some o := fun c o cz c1 c2 e => hp2.extBut _ _ c2 (hp1.extBut _ _ c1 (hs0.extBut _ _ cz e))
  have hj1 : St1 (i + 1) p2 := D1.over sn1 hp2 D.sep2_1
  have up : ∀ c o, p2.get? c = some o → (p2.push { cls := .type "tuple", data := .seq #[x1, x2] }).get? c = some o := fun c o e => Heap.get?_push_of_some _ e
  have hp3 : IsTupOf2 (p2.push { cls := .type "tuple", data := .seq #[x1, x2] }) p2.objs.size x1 x2 := Heap.get?_push_size _ rfl
  have hz4 : (p2.push { cls := .type "tuple", data := .seq #[x1, x2] }).objs.size = p2.objs.size + 1 := Heap.size_push ..
  refine wpAny_pure ⟨_, rfl, ?_⟩
  show Q (.ref p2.objs.size) ⟨p2.push { cls := .type "tuple", data := .seq #[x1, x2] }, g, d, tk2, os⟩
  rw [hsz] at hp3 hz4 ⊢
  exact hQ x1 x2 _ tk2 hx1 hx2 (up _ _ hzz) (D1.frame _ _ _ hj1 fun b _ o e => up b o e) (D2.frame _ _ _ sn2 fun b _ o e => up b o e) hp3 hz4 fun c o cz c1 c2 e => up c o (hkk c o cz c1 c2 e)
theorem zh_end {Q : Fin → Shared → Prop} (D : ZipSep2 z TI TO i1 i2 fp1 fp2) (D1 : Draws prog w A i1 fp1 n P1 St1)
    (hz : IsZipHeld s.heap z TI TO T f) (hT : s.heap.get? T = some oT) (hTI : IsTupOf2 s.heap TI (.ref i1) (.ref i2)) (st1 : St1 n s.heap)
    (hE : ∀ h' tk e, (∀ c o, c ≠ z → c ≠ i1 → c ≠ i2 → s.heap.get? c = some o → h'.get? c = some o) → (∃ o, h'.get? e = some o ∧ o.cls = .type "StopIteration") → E (.ref e) { s with heap := h', toks := tk }) :
    wpAny (model prog w) A (Builtin.«zip.__next__» ⟨[.ref z], []⟩) Q E s := by
  obtain ⟨hp, g, d, tk0, os⟩ := s
  show wpAny _ _ (field (.ref z) 2 >>= _) _ _ _
  refine wpAny_bind (wpAny_field hz rfl (x := .bool false) rfl ?_)
  show wpAny _ _ (field (.ref z) 3 >>= _) _ _ _
  refine wpAny_bind (wpAny_field hz rfl (x := .ref TI) rfl ?_)
  refine wpAny_bind (wpAny_seqItems hTI rfl ?_)
  show wpAny _ _ (Builtin.SmallTypes.ownedTupleIsFree (.ref z) >>= _) _ _ _
  refine wpAny_bind (wpAny_tupleHeld_zip hz hT fun g0 hz0 hs0 => ?_)
  replace hs0 : Heap.SameBut z hp g0 := hs0
  simp only [Bool.false_eq_true, if_false]
  refine wpAny_bind ?_
  rw [← Array.forIn_toList]
  simp only [List.forIn_cons, List.forIn_nil]
  refine wpAny_bind (wpAny_bind (wpAny_holding ?_))
  show wpAny _ _ (Builtin.SmallTypes.nextOf (.ref i1) >>= _) _ _ ⟨g0, g, d, tk0, os⟩
  refine wpAny_bind (D1.done ⟨g0, g, d, tk0, os⟩ _ _ (D1.over st1 hs0 D.zf1) fun q e hq he => ?_)
  replace hq : Heap.ExtBut i1 g0 q := hq
  exact hE q tk0 e (fun c o cz c1 _ x => hq _ _ c1 (hs0.extBut _ _ cz x)) he
theorem zn_held {Q : Option Value → Shared → Prop} (D : ZipSep2 z TI TO i1 i2 fp1 fp2) (D1 : Draws prog w A.in1 i1 fp1 n P1 St1) (D2 : Draws prog w A.in1 i2 fp2 n P2 St2)
    (hz : IsZipHeld s.heap z TI TO T f) (hT : s.heap.get? T = some oT) (hTI : IsTupOf2 s.heap TI (.ref i1) (.ref i2)) (st1 : St1 i s.heap) (st2 : St2 i s.heap) (hi : i < n)
    (hQ : ∀ x1 x2 h' tk, P1 i x1 → P2 i x2 → IsZipHeld h' z TI TO T true → St1 (i + 1) h' → St2 (i + 1) h' → IsTupOf2 h' s.heap.objs.size x1 x2 → h'.objs.size = s.heap.objs.size + 1 →
      (∀ c o, c ≠ z → c ≠ i1 → c ≠ i2 → s.heap.get? c = some o → h'.get? c = some o) → Q (some (.ref s.heap.objs.size)) { s with heap := h', toks := tk }) :
    wpAny (model prog w) A (pyNext (.ref z)) Q E s := by
  have hTy : s.TypeIs (.ref z) "zip" := ⟨_, hz, rfl⟩
  unfold pyNext
  exact wpAny_bind (wpAny_attempt (wpAny_callSpecial?_slot (name := Str.ofString "__next__") hTy F.slot_zip_next
    (wpAny_call_entry F.slot_zip_next hTy F.entry_zip_next
      (zh_item D D1 D2 hz hT hTI st1 st2 hi fun x1 x2 h' tk a1 a2 a3 a4 a5 a6 a7 a8 => wpAny_pure (hQ x1 x2 h' tk a1 a2 a3 a4 a5 a6 a7 a8)) (F.args_zip_next_1 _))))
theorem zn_first {Q : Option Value → Shared → Prop} {a1 a2 : Value} (D : ZipSep2 z TI TO i1 i2 fp1 fp2) (D1 : Draws prog w A.in1 i1 fp1 n P1 St1) (D2 : Draws prog w A.in1 i2 fp2 n P2 St2)
    (hz : IsZip s.heap z TI TO .none) (hTI : IsTupOf2 s.heap TI (.ref i1) (.ref i2)) (hTO : IsTupOf2 s.heap TO a1 a2) (st1 : St1 i s.heap) (st2 : St2 i s.heap) (hi : i < n)
    (hQ : ∀ x1 x2 h' tk, P1 i x1 → P2 i x2 → IsZip h' z TI TO (rawInt s.heap.objs.size) → St1 (i + 1) h' → St2 (i + 1) h' → IsTupOf2 h' s.heap.objs.size x1 x2 → h'.objs.size = s.heap.objs.size + 1 →
      (∀ c o, c ≠ z → c ≠ TO → c ≠ i1 → c ≠ i2 → s.heap.get? c = some o → h'.get? c = some o) → Q (some (.ref s.heap.objs.size)) { s with heap := h', toks := tk }) :
    wpAny (model prog w) A (pyNext (.ref z)) Q E s := by
  have hTy : s.TypeIs (.ref z) "zip" := ⟨_, hz, rfl⟩
  unfold pyNext
  exact wpAny_bind (wpAny_attempt (wpAny_callSpecial?_slot (name := Str.ofString "__next__") hTy F.slot_zip_next
    (wpAny_call_entry F.slot_zip_next hTy F.entry_zip_next
      (zipD2_next_item D D1 D2 hz hTI hTO st1 st2 hi hi fun x1 x2 h' tk a1 a2 a3 _ a4 a5 a6 a7 a8 => wpAny_pure (hQ x1 x2 h' tk a1 a2 a3 a4 a5 a6 a7 a8)) (F.args_zip_next_1 _))))
theorem zn_end {Q : Option Value → Shared → Prop} (D : ZipSep2 z TI TO i1 i2 fp1 fp2) (D1 : Draws prog w A.in1 i1 fp1 n P1 St1)
    (hz : IsZipHeld s.heap z TI TO T f) (hT : s.heap.get? T = some oT) (hTI : IsTupOf2 s.heap TI (.ref i1) (.ref i2)) (st1 : St1 n s.heap)
    (hQ : ∀ h' tk, (∀ c o, c ≠ z → c ≠ i1 → c ≠ i2 → s.heap.get? c = some o → h'.get? c = some o) → Q none { s with heap := h', toks := tk }) : wpAny (model prog w) A (pyNext (.ref z)) Q E s := by
  have hTy : s.TypeIs (.ref z) "zip" := ⟨_, hz, rfl⟩
  unfold pyNext
  refine wpAny_bind (wpAny_attempt (wpAny_callSpecial?_slot (name := Str.ofString "__next__") hTy F.slot_zip_next
    (wpAny_call_entry F.slot_zip_next hTy F.entry_zip_next (zh_end D D1 hz hT hTI st1 fun h' tk e hk he => ?_) (F.args_zip_next_1 _))))
  obtain ⟨o, ho, hc⟩ := he
  refine wpAny_bind (wpAny_isInstance (T := "StopIteration") (b := true) ⟨o, ho, hc⟩ isSubtype_stop ?_)
  exact wpAny_pure (hQ _ _ hk)
/-- where a zip stands while its tuples are kept in the list at S -/
structure ZS (z TI TO i1 i2 S : Addr) (St1 St2 : Nat → Heap → Prop) (i : Nat) (h : Heap) : Prop where
  ti : IsTupOf2 h TI (.ref i1) (.ref i2)
  s1 : St1 i h
  s2 : St2 i h
  zz : (i = 0 ∧ IsZip h z TI TO .none ∧ ∃ a b, IsTupOf2 h TO a b) ∨ (0 < i ∧ ∃ T f oT, IsZipHeld h z TI TO T f ∧ h.get? T = some oT ∧ T ≠ S ∧ T ≠ z ∧ T ≠ i1 ∧ T ≠ i2)
/-- the tuples given -/
structure ZG (P1 P2 : Nat → Value → Prop) (lo : Addr) (h : Heap) (as : List Addr) : Prop where
  rise : as.Pairwise (· < ·)
  above : ∀ a ∈ as, lo < a
  pairs : ∀ (j : Nat) (a : Addr), as[j]? = some a → ∃ x1 x2, P1 j x1 ∧ P2 j x2 ∧ IsTupOf2 h a x1 x2
theorem ZG.there {lo : Addr} {h : Heap} {as : List Addr} (g : ZG P1 P2 lo h as) {a : Addr} (ha : a ∈ as) : a < h.objs.size := by
  obtain ⟨j, hj⟩ := List.mem_iff_getElem?.mp ha
  obtain ⟨_, _, _, _, e⟩ := g.pairs j a hj
  exact Heap.lt_size e
end
/-- all iterators' cells lie below S -/
structure ZB (z TI TO i1 i2 S : Addr) (fp1 fp2 : List Addr) : Prop where
  z : z < S
  TI : TI < S
  TO : TO < S
  i1 : i1 < S
  i2 : i2 < S
  f1 : ∀ b ∈ fp1, b < S
  f2 : ∀ b ∈ fp2, b < S
section
variable {prog : Program} {w : World} {z TI TO i1 i2 S : Addr} {fp1 fp2 : List Addr} {n : Nat} {P1 P2 : Nat → Value → Prop} {St1 St2 : Nat → Heap → Prop}
theorem ZS.keep {A : Around} {i : Nat} {h h' : Heap} (B : ZB z TI TO i1 i2 S fp1 fp2) (D1 : Draws prog w A i1 fp1 n P1 St1) (D2 : Draws prog w A i2 fp2 n P2 St2) (x : ZS z TI TO i1 i2 S St1 St2 i h) (k : ∀ b o, b ≠ S → h.get? b = some o → h'.get? b = some o) : ZS z TI TO i1 i2 S St1 St2 i h' :=
  ⟨k _ _ (Nat.ne_of_lt B.TI) x.ti, D1.frame _ _ _ x.s1 fun b hb o e => k b o (Nat.ne_of_lt (B.f1 b hb)) e, D2.frame _ _ _ x.s2 fun b hb o e => k b o (Nat.ne_of_lt (B.f2 b hb)) e, by
    rcases x.zz with ⟨h0, h1, a, b, h2⟩ | ⟨h0, T, f, oT, h1, h2, h3, h4⟩
    · exact .inl ⟨h0, k _ _ (Nat.ne_of_lt B.z) h1, a, b, k _ _ (Nat.ne_of_lt B.TO) h2⟩
    · exact .inr ⟨h0, T, f, oT, k _ _ (Nat.ne_of_lt B.z) h1, k _ _ h3 h2, h3, h4⟩⟩
variable {A : Around} {E : Value → Shared → Prop} {s : Shared} {R : Result → Shared → Prop}
/-- the next one, wherever the zip stands -/
theorem zs_next {i : Nat} {Q : Option Value → Shared → Prop} (D : ZipSep2 z TI TO i1 i2 fp1 fp2) (B : ZB z TI TO i1 i2 S fp1 fp2) (D1 : Draws prog w A.in1 i1 fp1 n P1 St1) (D2 : Draws prog w A.in1 i2 fp2 n P2 St2) (hS : S < s.heap.objs.size)
    (x : ZS z TI TO i1 i2 S St1 St2 i s.heap) (hi : i < n)
    (hQ : ∀ x1 x2 h' tk, P1 i x1 → P2 i x2 → ZS z TI TO i1 i2 S St1 St2 (i + 1) h' → IsTupOf2 h' s.heap.objs.size x1 x2 → h'.objs.size = s.heap.objs.size + 1 →
      (∀ c o, c ≠ z → c ≠ TO → c ≠ i1 → c ≠ i2 → s.heap.get? c = some o → h'.get? c = some o) → Q (some (.ref s.heap.objs.size)) { s with heap := h', toks := tk }) :
    wpAny (model prog w) A (pyNext (.ref z)) Q E s := by
  have big : ∀ b, b < S → s.heap.objs.size ≠ b := fun b hb => Nat.ne_of_gt (Nat.lt_trans hb hS)
  rcases x.zz with ⟨h0, h1, a, b, h2⟩ | ⟨h0, T, f, oT, h1, h2, h3, h4, h5, h6⟩
  · refine zn_first D D1 D2 h1 x.ti h2 x.s1 x.s2 hi fun x1 x2 h' tk p1 p2 z' t1 t2 tp sz k => ?_
    exact hQ x1 x2 h' tk p1 p2 ⟨k _ _ D.TIz D.TITO D.TIi1 D.TIi2 x.ti, t1, t2, .inr ⟨Nat.succ_pos _, s.heap.objs.size, false, _, z', tp, Nat.ne_of_gt hS, big _ B.z, big _ B.i1, big _ B.i2⟩⟩ tp sz k
  · refine zn_held D D1 D2 h1 h2 x.ti x.s1 x.s2 hi fun x1 x2 h' tk p1 p2 z' t1 t2 tp sz k => ?_
    exact hQ x1 x2 h' tk p1 p2 ⟨k _ _ D.TIz D.TIi1 D.TIi2 x.ti, t1, t2, .inr ⟨Nat.succ_pos _, T, true, oT, z', k _ _ h4 h5 h6 h2, h3, h4, h5, h6⟩⟩ tp sz fun c o c1 _ c3 c4 e => k c o c1 c3 c4 e
theorem zl_loop (D : ZipSep2 z TI TO i1 i2 fp1 fp2) (B : ZB z TI TO i1 i2 S fp1 fp2) (D1 : Draws prog w A.in1.in1 i1 fp1 n P1 St1) (D2 : Draws prog w A.in1.in1 i2 fp2 n P2 St2) (hn : n ≤ sizeLine) (hn1 : 1 ≤ n) (res : Value) {h₁ : Heap}
    (hR : ∀ h' tk acc c as, (∀ b o, b ≠ S → b ≠ z → b ≠ TO → b ≠ i1 → b ≠ i2 → h₁.get? b = some o → h'.get? b = some o) → h'.get? S = some { cls := .type "list", dict := none, data := .seq acc c, slots := #[] } → as.length = n → ZG P1 P2 S h' as →
      acc.toList = as.map Value.ref → R (.ok (.ret res)) { s with heap := h', toks := tk }) :
    ∀ (k i : Nat) (h : Heap) (tk c : Nat) (acc : Array Value) (as : List Addr), n - i = k → i ≤ n → ZS z TI TO i1 i2 S St1 St2 i h → (∀ b o, b ≠ S → b ≠ z → b ≠ TO → b ≠ i1 → b ≠ i2 → h₁.get? b = some o → h.get? b = some o) →
      h.get? S = some { cls := .type "list", dict := none, data := .seq acc c, slots := #[] } → acc.toList = as.map Value.ref → as.length = i → ZG P1 P2 S h as →
      codeAny (model prog w) A (.builtin "list.extend.loop" ⟨[.ref S, .ref z, res], []⟩) R { s with heap := h, toks := tk } := by
  have ne : ∀ a, S < a → a ≠ z ∧ a ≠ TO ∧ a ≠ i1 ∧ a ≠ i2 := fun a ha => ⟨Nat.ne_of_gt (Nat.lt_trans B.z ha), Nat.ne_of_gt (Nat.lt_trans B.TO ha), Nat.ne_of_gt (Nat.lt_trans B.i1 ha), Nat.ne_of_gt (Nat.lt_trans B.i2 ha)⟩
  intro k
  induction k with
  | zero =>
    intro i h tk c acc as hk hi hst hkeep hS hacc hal hG
    obtain rfl : i = n := by omega
    refine codeAny_builtin PySem.F.entry_extend_loop ?_
    rw [Around.under_plainId PySem.F.plain_extend_loop _]
    show wpAny _ A.in1 (pyNext (.ref z) >>= _) _ _ _
    rcases hst.zz with ⟨h0, _⟩ | ⟨h0, T, f, oT, h1, h2, h3, h4, h5, h6⟩
    · omega
    · refine wpAny_bind (zn_end (s := { s with heap := h, toks := tk }) (A := A.in1) D D1 h1 h2 hst.ti hst.s1 fun h' tk' he => ?_)
      refine wpAny_pure (hR h' tk' acc c as (fun b o b1 b2 b3 b4 b5 e => he b o b2 b4 b5 (hkeep b o b1 b2 b3 b4 b5 e)) (he S _ (Nat.ne_of_gt B.z) (Nat.ne_of_gt B.i1) (Nat.ne_of_gt B.i2) hS) hal ⟨hG.rise, hG.above, fun j a hj => ?_⟩ hacc)
      obtain ⟨x1, x2, q1, q2, e3⟩ := hG.pairs j a hj
      obtain ⟨n1, n2, n3, n4⟩ := ne a (hG.above a (List.mem_of_getElem? hj))
      exact ⟨x1, x2, q1, q2, he a _ n1 n3 n4 e3⟩
  | succ k ih =>
    intro i h tk c acc as hk hi hst hkeep hS hacc hal hG
    have hlt : i < n := by omega
    have hsz : acc.size = i := by rw [← Array.length_toList, hacc, List.length_map, hal]
    have hSl : S < h.objs.size := Heap.lt_size hS
    refine codeAny_builtin PySem.F.entry_extend_loop ?_
    rw [Around.under_plainId PySem.F.plain_extend_loop _]
    show wpAny _ A.in1 (pyNext (.ref z) >>= _) _ _ _
    refine wpAny_bind (zs_next (s := { s with heap := h, toks := tk }) (A := A.in1) D B D1 D2 hSl hst hlt fun x1 x2 h' tk' p1 p2 hst' ht hz hkp => ?_)
    dsimp only at ht hz hkp ⊢
    have hS' := hkp S _ (Nat.ne_of_gt B.z) (Nat.ne_of_gt B.TO) (Nat.ne_of_gt B.i1) (Nat.ne_of_gt B.i2) hS
    have up : ∀ b o, b ≠ S → h'.get? b = some o → (h'.update S (Obj.mapSeq (·.push (Value.ref h.objs.size)))).get? b = some o := fun b o hb e => (Heap.get?_update_other _ _ (Ne.symm hb)).trans e
    show wpAny _ A.in1 (updateSeq S (·.push (Value.ref h.objs.size)) >>= _) _ _ _
    refine wpAny_bind ?_
    refine wpAny_updateSeq hS' rfl (wpAny_pure ⟨plainId_quiet PySem.F.plain_extend_loop _, ih (i + 1) _ tk' _ (acc.push (Value.ref h.objs.size)) (as ++ [h.objs.size]) (by omega) hlt (hst'.keep B D1 D2 up)
      (fun b o b1 b2 b3 b4 b5 e => up b o b1 (hkp b o b2 b3 b4 b5 (hkeep b o b1 b2 b3 b4 b5 e))) (Heap.get?_update_self _ hS' rfl) (by rw [Array.toList_push, hacc, List.map_append]; rfl) (by rw [List.length_append, hal]; rfl) ⟨?_, ?_, ?_⟩⟩) (by rw [hsz]; omega) (by show (acc.push (Value.ref h.objs.size)).size ≤ sizeLine + 1; rw [Array.size_push, hsz]; omega)
    · refine List.pairwise_append.mpr ⟨hG.rise, List.pairwise_singleton _ _, fun a ha b hb => ?_⟩
      rw [List.mem_singleton.mp hb]
      exact hG.there ha
    · intro a ha
      rcases List.mem_append.mp ha with ha | ha
      · exact hG.above a ha
      · rw [List.mem_singleton.mp ha]; exact hSl
    · intro j b hj
      rcases Nat.lt_trichotomy j as.length with h1 | h1 | h1
      · rw [List.getElem?_append_left h1] at hj
        obtain ⟨y1, y2, q1, q2, e3⟩ := hG.pairs j b hj
        have hb := hG.above b (List.mem_of_getElem? hj)
        obtain ⟨n1, n2, n3, n4⟩ := ne b hb
        exact ⟨y1, y2, q1, q2, up b _ (Nat.ne_of_gt hb) (hkp b _ n1 n2 n3 n4 e3)⟩
      · subst h1
        have hb : h.objs.size = b := by simpa using hj
        subst hb
        exact ⟨x1, x2, by rw [hal]; exact p1, by rw [hal]; exact p2, up _ _ (Nat.ne_of_gt hSl) ht⟩
      · have hnone : (as ++ [h.objs.size])[j]? = none := List.getElem?_eq_none (by rw [List.length_append, List.length_singleton]; omega)
        rw [hnone] at hj; cases hj
/-- list(z) of a zip that has given nothing yet -/
theorem zl_call {Q : Value → Shared → Prop} {a1 a2 : Value} (D : ZipSep2 z TI TO i1 i2 fp1 fp2) (B : ZB z TI TO i1 i2 s.heap.objs.size fp1 fp2) (D1 : ∀ A : Around, A.handled = none → Draws prog w A i1 fp1 n P1 St1) (D2 : ∀ A : Around, A.handled = none → Draws prog w A i2 fp2 n P2 St2) (hh : A.handled = none)
    (hz : IsZip s.heap z TI TO .none) (hTI : IsTupOf2 s.heap TI (.ref i1) (.ref i2)) (hTO : IsTupOf2 s.heap TO a1 a2) (st1 : St1 0 s.heap) (st2 : St2 0 s.heap) (hn : n ≤ sizeLine) (hn1 : 1 ≤ n)
    (hQ : ∀ h' tk acc c as, (∀ b o, b ≠ z → b ≠ TO → b ≠ i1 → b ≠ i2 → s.heap.get? b = some o → h'.get? b = some o) → h'.get? s.heap.objs.size = some { cls := .type "list", dict := none, data := .seq acc c, slots := #[] } → as.length = n → ZG P1 P2 s.heap.objs.size h' as →
      acc.toList = as.map Value.ref → Q (.ref s.heap.objs.size) { s with heap := h', toks := tk }) :
    wpAny (model prog w) A (call (.type "list") [.ref z]) Q E s := by
  refine callType_codes (Q₁ := fun obj s₁ => obj = .ref s.heap.objs.size ∧ s₁ = { s with heap := s.heap.push { cls := .type "list", data := .seq #[] } }) PySem.F.called_list (PySem.F.typeCall_list_1 _) PySem.F.entry_list_init
    (code_list_new _ ⟨rfl, rfl⟩) fun obj s₁ h₁ => ?_
  obtain ⟨rfl, rfl⟩ := h₁
  have hS : (s.heap.push { cls := .type "list", data := .seq #[] }).get? s.heap.objs.size = some { cls := .type "list", data := .seq #[] } := Heap.get?_push_size _ rfl
  have hzS : s.heap.objs.size ≠ z := Nat.ne_of_gt B.z
  refine ⟨⟨_, hS, rfl⟩, PySem.F.args_list_init_2 _ _, ?_⟩
  show wpAny _ _ (do let old ← Builtin.List.listItems (.ref s.heap.objs.size); Builtin.List.listUpdate (.ref s.heap.objs.size) (fun _ => #[]); letGo old.toList.reverse; Builtin.List.listExtendWith (.ref s.heap.objs.size) (.ref z) .none) _ _ _
  refine wpAny_bind ?_
  unfold Builtin.List.listItems
  refine wpAny_bind (wpAny_seqItems hS rfl (wpAny_pure ?_))
  show wpAny _ _ (updateSeq s.heap.objs.size (fun _ => #[]) >>= fun _ => letGo (#[] : Array Value).toList.reverse >>= fun _ => Builtin.List.listExtendWith (.ref s.heap.objs.size) (.ref z) .none) _ _ _
  refine wpAny_bind (wpAny_updateSeq hS rfl ?_)
  have hS₂ := Heap.get?_update_self (Obj.mapSeq (fun _ => (#[] : Array Value))) hS rfl
  have oth : ∀ b o, b ≠ s.heap.objs.size → (s.heap.push { cls := .type "list", data := .seq #[] }).get? b = some o → ((s.heap.push { cls := .type "list", data := .seq #[] }).update s.heap.objs.size (Obj.mapSeq (fun _ => (#[] : Array Value)))).get? b = some o :=
    fun b o hb e => (Heap.get?_update_other _ _ (Ne.symm hb)).trans e
  refine wpAny_bind (wpAny_letGo ?_)
  have kp : ∀ b o, s.heap.get? b = some o → ((s.heap.push { cls := .type "list", data := .seq #[] }).update s.heap.objs.size (Obj.mapSeq (fun _ => (#[] : Array Value)))).get? b = some o := fun b o e => oth b o (Nat.ne_of_lt (Heap.lt_size e)) (Heap.get?_push_of_some _ e)
  have hz2 := kp _ _ hz
  have hh1 : A.in1.in1.in1.handled = none := hh
  have d1 := D1 A.in1.in1.in1 hh1
  have d2 := D2 A.in1.in1.in1 hh1
  unfold Builtin.List.listExtendWith
  refine wpAny_bind (wpAny_typeOf (T := "zip") ⟨_, hz2, rfl⟩ ?_)
  have h1 : Builtin.List.listSameRef (.ref s.heap.objs.size) (.ref z) = false := by simp [Builtin.List.listSameRef, hzS]
  have h2 : (Value.type "zip" == Value.type "list") = false := by decide
  have h3 : (Value.type "zip" == Value.type "tuple") = false := by decide
  simp only [h1, h2, h3, Bool.or_false, Bool.false_eq_true, if_false]
  refine wpAny_bind (wpAny_pyIter_zip hz2 ?_)
  refine wpAny_bind (wpAny_holding ?_)
  unfold Builtin.List.listLengthHint
  refine wpAny_bind (wpAny_specialOf (T := "zip") ⟨_, hz2, rfl⟩ zip_nolen ?_)
  refine wpAny_bind (wpAny_specialOf (T := "zip") ⟨_, hz2, rfl⟩ zip_nohint ?_)
  refine wpAny_pure ?_
  rw [Bool.true_or, if_pos rfl]
  refine wpAny_bind (wpAny_rule ?_)
  refine wpAny_bind ?_
  show wpAny _ _ (updateSeq s.heap.objs.size (·.push .none) >>= fun _ => updateSeq s.heap.objs.size (·.pop)) _ _ _
  refine wpAny_bind (wpAny_updateSeq hS₂ rfl ?_)
  have hS₃ := Heap.get?_update_self (Obj.mapSeq (·.push Value.none)) hS₂ rfl
  refine wpAny_updateSeq (hz := by seq_fits) hS₃ rfl ?_
  have hS₄ := Heap.get?_update_self (Obj.mapSeq (·.pop)) hS₃ rfl
  have kp2 : ∀ b o, s.heap.get? b = some o → _ := fun b o e => (Heap.get?_update_other _ (Obj.mapSeq (·.pop)) (Ne.symm (Nat.ne_of_lt (Heap.lt_size e)))).trans ((Heap.get?_update_other _ (Obj.mapSeq (·.push Value.none)) (Ne.symm (Nat.ne_of_lt (Heap.lt_size e)))).trans (kp b o e))
  refine wpAny_pure ⟨plainId_quiet PySem.F.plain_extend_loop _, zl_loop (h₁ := s.heap) D B d1 d2 hn hn1 .none (fun h' tk acc c as hk hS' hl hG hacc => ?_) n 0 _ _ _ _ [] rfl (Nat.zero_le _)
    ⟨kp2 _ _ hTI, (D1 A hh).frame _ _ _ st1 fun b _ o e => kp2 b o e, (D2 A hh).frame _ _ _ st2 fun b _ o e => kp2 b o e, .inl ⟨rfl, kp2 _ _ hz, _, _, kp2 _ _ hTO⟩⟩ (fun b o _ _ _ _ _ e => kp2 b o e) hS₄ rfl rfl ⟨List.Pairwise.nil, (fun _ ha => nomatch ha), (fun j a hj => by simp at hj)⟩⟩
  exact ⟨rfl, hQ h' tk acc c as (fun b o b1 b2 b3 b4 e => hk b o (Nat.ne_of_lt (Heap.lt_size e)) b1 b2 b3 b4 e) hS' hl hG hacc⟩
end
/-! ### tracked -/
/-- the tuples tracked at their addresses -/
def putP : Hp → List Addr → List (V × V) → Hp
  | H, a :: as, p :: ps => putP (upd H a (.tup [p.1, p.2])) as ps
  | H, _, _ => H
theorem putP_off {b : Addr} : ∀ (as : List Addr) (ps : List (V × V)) (H : Hp), b ∉ as → putP H as ps b = H b
  | [], _, _, _ => rfl
  | _ :: _, [], _, _ => rfl
  | a :: as, p :: ps, H, h => by
    show putP (upd H a _) as ps b = H b
    rw [putP_off as ps _ (fun z => h (List.mem_cons_of_mem _ z)), upd_ne (fun z => h (by rw [z]; exact List.mem_cons_self))]
theorem putP_at : ∀ (as : List Addr) (ps : List (V × V)) (H : Hp), as.Nodup → ∀ (j : Nat) (a : Addr) (p : V × V), as[j]? = some a → ps[j]? = some p → putP H as ps a = some (.tup [p.1, p.2])
  | [], _, _, _, _, _, _, h, _ => by simp at h
  | _ :: _, [], _, _, _, _, _, _, h => by simp at h
  | a :: as, p :: ps, H, hn, j, b, q, h1, h2 => by
    have hn' := List.nodup_cons.mp hn
    show putP (upd H a _) as ps b = _
    cases j with
    | zero =>
      obtain rfl : a = b := by simpa using h1
      obtain rfl : p = q := by simpa using h2
      rw [putP_off as ps _ hn'.1, upd_same]
    | succ j => exact putP_at as ps _ hn'.2 j b q (by simpa using h1) (by simpa using h2)
section
variable {X : Cx}
theorem pairs_laid {pins : List (Addr × Obj)} {σ : L2.St} {H : Hp} {s : Shared} {h' : Heap} {tk : Nat} {zs : List (V × V)} {acc : Array Value} {c : Nat} {as : List Addr} {S : Addr} (I : Inv X pins σ H s) (hS0 : s.heap.objs.size ≤ S) (hz : zs.length ≤ sizeLine)
    (hk : ∀ b o, s.heap.get? b = some o → h'.get? b = some o) (hS : h'.get? S = some { cls := .type "list", dict := none, data := .seq acc c, slots := #[] }) (hl : as.length = zs.length) (rise : as.Pairwise (· < ·)) (above : ∀ a ∈ as, S < a)
    (pairs : ∀ (j : Nat) (a : Addr) (p : V × V), as[j]? = some a → zs[j]? = some p → ∃ x1 x2, RelV p.1 x1 ∧ RelV p.2 x2 ∧ IsTupOf2 h' a x1 x2) (hacc : acc.toList = as.map Value.ref) :
    ∃ H' : Hp, Ex H H' ∧ H S = none ∧ (∀ t ∈ as, H t = none) ∧ S ∉ as ∧ H' S = some (.lst (as.map V.ref)) ∧ (∀ (j : Nat) (a : Addr) (p : V × V), as[j]? = some a → zs[j]? = some p → H' a = some (.tup [p.1, p.2])) ∧ Inv X pins σ H' { s with heap := h', toks := tk } := by
  have hSn : S ∉ as := fun z => Nat.lt_irrefl _ (above _ z)
  have nd : as.Nodup := List.Pairwise.imp (fun {a b} (h : a < b) => Nat.ne_of_lt h) rise
  have new : ∀ t ∈ as, H t = none := fun t ht => I.hok.fresh (Nat.le_trans hS0 (Nat.le_of_lt (above t ht)))
  have newS : H S = none := I.hok.fresh hS0
  have atP := putP_at as zs (upd H S (.lst (as.map V.ref))) nd
  have off : ∀ b, b ∉ as → b ≠ S → putP (upd H S (.lst (as.map V.ref))) as zs b = H b := fun b h1 h2 => by rw [putP_off as zs _ h1, upd_ne h2]
  have low : ∀ b o, s.heap.get? b = some o → b ∉ as ∧ b ≠ S := fun b o e => ⟨fun z => absurd (Heap.lt_size e) (Nat.not_lt.mpr (Nat.le_trans hS0 (Nat.le_of_lt (above b z)))), fun z => absurd (Heap.lt_size e) (Nat.not_lt.mpr (z ▸ hS0))⟩
  have kp : ∀ b u, H b = some u → (putP (upd H S (.lst (as.map V.ref))) as zs) b = some u := fun b u e => by
    rw [off b (fun z => by rw [new b z] at e; cases e) (fun z => by rw [z, newS] at e; cases e)]
    exact e
  have eS : putP (upd H S (.lst (as.map V.ref))) as zs S = some (.lst (as.map V.ref)) := by rw [putP_off as zs _ hSn, upd_same]
  refine ⟨putP (upd H S (.lst (as.map V.ref))) as zs, kp, newS, new, hSn, eS, atP, ?_⟩
  refine I.call' (ch := []) rfl ⟨fun b o q _ _ _ => hk b o q, fun b o q _ _ _ => ⟨o.slots, hk b o q⟩, fun b o q n _ => ?_, fun b o q _ => ⟨o, hk b o q⟩, fun b xs q => kp b _ q, fun b o u q => kp b _ q, fun b ps q => ⟨#[], by rw [kp b _ q]; simp⟩⟩ (fun b u q => ?_) I.bare fun b z => by simp at z
  · obtain ⟨z1, z2⟩ := low b o q
    rw [off b z1 z2]
    exact n
  · by_cases hb : b ∈ as
    · obtain ⟨j, hj⟩ := List.mem_iff_getElem?.mp hb
      have hj2 : j < zs.length := by
        have := (List.getElem?_eq_some_iff.mp hj).1
        omega
      have e2 : zs[j]? = some zs[j] := List.getElem?_eq_getElem hj2
      rw [atP j b _ hj e2] at q
      cases q
      obtain ⟨x1, x2, f1, f2, f3⟩ := pairs j b _ hj e2
      exact ⟨by show 2 ≤ sizeLine; decide, [x1, x2], .cons f1 (.cons f2 .nil), ⟨_, f3, rfl, _, rfl⟩⟩
    · by_cases hb2 : b = S
      · rw [hb2] at q ⊢
        rw [eS] at q
        cases q
        refine ⟨by rw [List.length_map]; omega, acc.toList, c, by rw [hacc]; exact LiI.vals_refs as, ?_⟩
        rw [Array.toArray_toList]
        exact hS
      · rw [off b hb hb2] at q
        exact (I.hok b u q).stay (fun d v _ y => hk d v y) (fun d y => kp d _ y) fun d xs y => kp d _ y
/-- a list or a tuple as a source of an iterator at it -/
theorem sq_src {pins : List (Addr × Obj)} {σ : L2.St} {H : Hp} {s : Shared} {a : Addr} {xs : List V} (I : Inv X pins σ H s) (hq : Sq X.K H a xs) {it : Addr} (hit : s.heap.objs.size ≤ it) :
    ∃ (its : List Value) (o : Obj) (HH : Heap → Prop) (St : Nat → Heap → Prop), Vals xs its ∧ xs.length ≤ sizeLine ∧ Begins (.ref a) o HH ∧ HH s.heap ∧ a < s.heap.objs.size ∧
      (∀ A : Around, A.handled = none → Draws X.prog X.w A it [it, a] its.length (fun i v => its[i]? = some v) St) ∧ ∀ h', HH h' → h'.get? it = some o → St 0 h' := by
  rcases hq with hq | hq
  · obtain ⟨its, rv, p, hz⟩ := I.list hq
    have hlt : a < s.heap.objs.size := p.lt
    have hd : ∀ A : Around, A.handled = none → Draws X.prog X.w A it [it, a] its.toArray.size (fun i v => its.toArray[i]? = some v) (fun i h => h.IsListIter it a i ∧ h.IsList a its.toArray) := fun A hh => Draws.list hh it a (Nat.ne_of_lt (Nat.lt_of_lt_of_le hlt hit)) its.toArray
    simp only [List.size_toArray, List.getElem?_toArray] at hd
    exact ⟨its, _, _, _, rv, hz, begins_list a its.toArray, p.isList, hlt, hd, fun h' h1 h2 => ⟨⟨_, h2, rfl, rfl⟩, h1⟩⟩
  · obtain ⟨its, rv, p, hz⟩ := I.tuple hq
    have hlt : a < s.heap.objs.size := by obtain ⟨o, ho, _⟩ := id p; exact Heap.lt_size ho
    have hd : ∀ A : Around, A.handled = none → Draws X.prog X.w A it [it, a] its.toArray.size (fun i v => its.toArray[i]? = some v) (fun i h => h.IsTupleIter it a i ∧ h.IsTuple a its.toArray) := fun A hh => Draws.tuple hh it a (Nat.ne_of_lt (Nat.lt_of_lt_of_le hlt hit)) its.toArray
    simp only [List.size_toArray, List.getElem?_toArray] at hd
    exact ⟨its, _, _, _, rv, hz, begins_tuple a its.toArray, p, hlt, hd, fun h' h1 h2 => ⟨⟨_, h2, rfl, rfl⟩, h1⟩⟩
def rListZip (K : PySem.W.Frag) : List V → Hp → VK → Prop := fun vs H Q => ∃ a b xs ys, vs = [.ref a, .ref b] ∧ Sq K H a xs ∧ Sq K H b ys ∧ xs.length = ys.length ∧ 1 ≤ xs.length ∧
  ∀ (H' : Hp) (p : Addr) (ts : List Addr), Ex H H' → H p = none → (∀ t ∈ ts, H t = none) → p ∉ ts → H' p = some (.lst (ts.map V.ref)) → ts.length = xs.length →
    (∀ (j : Nat) t x y, ts[j]? = some t → xs[j]? = some x → ys[j]? = some y → H' t = some (.tup [x, y])) → Q (.ref p) H'
def tListZip (K : PySem.W.Frag) (ar : TA) : TE := fun σ H Q => ar σ H fun vs H1 => rListZip K vs H1 Q
theorem vals_get : ∀ {xs : List V} {us : List Value}, Vals xs us → ∀ {i : Nat} {u : Value}, us[i]? = some u → ∃ x, xs[i]? = some x ∧ RelV x u
  | _, _, .nil, _, _, h => by simp at h
  | _, _, .cons r t, 0, u, h => by
    obtain rfl := Option.some.inj h
    exact ⟨_, rfl, r⟩
  | _, _, .cons r t, i + 1, u, h => vals_get t h
theorem vals_len {xs : List V} {us : List Value} (h : Vals xs us) : xs.length = us.length := by
  induction h with
  | nil => rfl
  | cons _ _ ih => rw [List.length_cons, List.length_cons, ih]
/-- list(zip(a, b)) -/
theorem pe_listZip {e e2 : Expr} {ta : TA} {p p2 cpos pos : Pos} {K : PySem.W.Frag} (hKK : X.K = K) (hc : X.calm = true) (hg : Gl X "list") (hm : X.mg "list" = none) (hg2 : Gl X "zip") (hm2 : X.mg "zip" = none) (ha : PA X [e, e2] ta)
    (hs2 : starEach [e, e2] X.env = (false, eval e X.env) :: starEach [e2] X.env := by rfl) (hpl : (backTo cpos (starEach [e2] X.env)).any (·.1) = false := by rfl)
    (hs : starEach [.Call (.Name "zip" p2) [e, e2] [] cpos] X.env = (false, eval (.Call (.Name "zip" p2) [e, e2] [] cpos) X.env) :: starEach [] X.env := by rfl) :
    PE X (.Call (.Name "list" p) [.Call (.Name "zip" p2) [e, e2] [] cpos] [] pos) (tListZip K ta) := by
  subst hKK
  refine ⟨fun pins s σ H Q I hq => ?_⟩
  refine wpAny_Call_Name_kw (ld_blt I hg hm (show bootBuiltins "list" = some (.type "list") by decide +kernel) ?_)
  refine PyProof.Rows.callWith_type1 ?_ hs rfl
  rw [hs]
  show wpAny _ _ (spliced ((false, eval (.Call (.Name "zip" p2) [e, e2] [] cpos) X.env) :: backTo pos (starEach [] X.env))) _ _ s
  refine Calls.spliced_cons ?_
  refine Call_ (ld_blt I hg2 hm2 PyProof.Rows.boot_zip (PyProof.Rows.callWith_type1 (thn (ha.run cpos pins s σ H _ I hq) fun us s1 ⟨vs, H1, I1, r1, q1⟩ => ?_) hs2 hpl))
  obtain ⟨a, b, xs, ys, ex, hx, hy, hl, h1, q⟩ := q1
  subst ex
  cases r1 with
  | cons r rr =>
    cases rr with
    | cons r' rr =>
      cases rr
      cases r
      cases r'
      obtain ⟨its, o1, HH1, St1, rv1, hz1, B1, hh1, lt1, D1, S1⟩ := sq_src I1 hx (it := s1.heap.objs.size) (Nat.le_refl _)
      obtain ⟨its2, o2, HH2, St2, rv2, hz2, B2, hh2, lt2, D2, S2⟩ := sq_src I1 hy (it := s1.heap.objs.size + 1) (Nat.le_succ _)
      have ll : its2.length = its.length := by rw [← vals_len rv1, ← vals_len rv2, hl]
      rw [ll] at D2
      refine zip_begins2 B1 B2 hh1 hh2 fun h' hz hTI hTO g1 g2 hsz hk => ?_
      refine Calls.spliced_nil ?_
      have bnd : ∀ k : Nat, k < 5 → s1.heap.objs.size + k < h'.objs.size := fun k hk => by
        rw [hsz]
        exact Nat.add_lt_add_left hk _
      refine zl_call (s := { s1 with heap := h' }) (fp1 := [s1.heap.objs.size, a]) (fp2 := [s1.heap.objs.size + 1, b]) (zip_sep2 (fun c hc => by rw [List.mem_singleton.mp hc]; exact lt1) (fun c hc => by rw [List.mem_singleton.mp hc]; exact lt2))
        ⟨bnd 4 (by decide), bnd 2 (by decide), bnd 3 (by decide), bnd 0 (by decide), bnd 1 (by decide), fun c hc => ?_, fun c hc => ?_⟩ D1 D2 (I1.ok.hd hc) hz hTI hTO (S1 h' (B1.keeps _ _ hh1 hk) g1) (S2 h' (B2.keeps _ _ hh2 hk) g2) (by rw [← vals_len rv1]; exact hz1) (by rw [← vals_len rv1]; exact h1) fun h'' tk acc c as hk2 hS hlen hG hacc => ?_
      · rcases List.mem_cons.mp hc with rfl | hc
        · exact bnd 0 (by decide)
        · rw [List.mem_singleton.mp hc]
          exact Nat.lt_trans lt1 (bnd 0 (by decide))
      · rcases List.mem_cons.mp hc with rfl | hc
        · exact bnd 1 (by decide)
        · rw [List.mem_singleton.mp hc]
          exact Nat.lt_trans lt2 (bnd 0 (by decide))
      · have low : ∀ b o, s1.heap.get? b = some o → ∀ k : Nat, b ≠ s1.heap.objs.size + k := fun b o e k z => absurd (Heap.lt_size e) (Nat.not_lt.mpr (by rw [z]; exact Nat.le_add_right _ _))
        obtain ⟨H', k1, k2, k3, k4, k5, k6, J⟩ := pairs_laid (tk := tk) (zs := xs.zip ys) (S := h'.objs.size) I1 (by rw [hsz]; exact Nat.le_add_right _ _) (by rw [List.length_zip, hl, Nat.min_self, ← hl]; exact hz1) (fun b o e => hk2 b o (low b o e 4) (low b o e 3) (low b o e 0) (low b o e 1) (hk b o e)) hS (by rw [hlen, List.length_zip, hl, Nat.min_self, ← hl, vals_len rv1]) hG.rise hG.above (fun j t pr hj hp => by
          obtain ⟨x1, x2, p1, p2, p3⟩ := hG.pairs j t hj
          obtain ⟨v1, e1, f1⟩ := vals_get rv1 p1
          obtain ⟨v2, e2, f2⟩ := vals_get rv2 p2
          have : (xs.zip ys)[j]? = some (v1, v2) := by
            rw [List.getElem?_zip_eq_some]
            exact ⟨e1, e2⟩
          rw [this] at hp
          cases hp
          exact ⟨x1, x2, f1, f2, p3⟩) hacc
        exact ⟨.ref _, H', J, rfl, q H' _ as k1 k2 k3 k4 k5 (by rw [hlen, vals_len rv1]) fun j t x y e1 e2 e3 => k6 j t (x, y) e1 (by rw [List.getElem?_zip_eq_some]; exact ⟨e2, e3⟩)⟩
end
section
variable {K : PySem.W.Frag} {σ : L2.St} {H : Hp} {Q : VK} {ar : TA}
theorem r_listZip (h : ar σ H fun vs H1 => rListZip K vs H1 Q) : tListZip K ar σ H Q := h
end
end Hn

/-! sum of a tuple; len, * and the like of own classes. -/
namespace Hn
open PySem PySem.Spec PyProof.Rows L2 Evl
section
variable {X : Cx} {K : PySem.W.Frag} {k : Nat} {f C : Addr} {ps : List Str} {sp : Sp}
theorem sum_rawT {prog : Program} {w : World} {A : Around} {E : Value → Shared → Prop} {s : Shared} {l : Addr} {its : List Value} {ns : List Int} {Q : Value → Shared → Prop} (hh : A.handled = none) (hl : s.heap.IsTuple l its.toArray) (hi : IntsAre its ns)
    (h : ∀ h' tk t', (∀ b o, s.heap.get? b = some o → h'.get? b = some o) → Q (.int ns.sum t') { s with heap := h', toks := tk }) : wpAny (model prog w) A (call (.builtin "sum") [.ref l]) Q E s := by
  obtain ⟨xs, e⟩ := hi.allInts.items
  have hn : numsOf (intItems xs).toList = ns := by rw [← e]; exact hi.numsOf
  rw [nums_intItems] at hn
  rw [e] at hl
  refine PySem.W.ktm_sumG hh hl fun h' tk t' hk => ?_
  have := h h' tk t' hk
  rw [preSum_eq, List.take_of_length_le (by simp), hn]; exact this
def rSumS (K : PySem.W.Frag) : List V → Hp → VK → Prop := fun vs H Q => ∃ (a : Addr) (ns : List Int), vs = [V.ref a] ∧ Sq K H a (ns.map V.int) ∧ Q (.int ns.sum) H
theorem k_sumS (h : X.K = K) (hc : X.calm = true) : CallR X (.builtin "sum") (rSumS K) := by
  subst h
  intro pins s σ H vs us Q I r h
  obtain ⟨a, ns, rfl, hs, q⟩ := h
  rcases hs with hs | hs
  · exact cr_sum hc pins s σ H _ us Q I r ⟨a, ns, rfl, hs, q⟩
  · obtain ⟨its, rv, hl, _⟩ := I.tuple hs
    rw [Vals.ref1 r]
    exact sum_rawT (I.ok.hd hc) hl rv.ints fun h' tk t' hk => ⟨.int _, H, I.kept hk, ⟨_, rfl⟩, q⟩
theorem r_sumS {H : Hp} {Q : VK} {a : Addr} {ns : List Int} (h : Sq K H a (ns.map V.int)) (q : Q (.int ns.sum) H) : rSumS K [.ref a] H Q := ⟨a, ns, rfl, h, q⟩
/-- len(x) by the class's own __len__ -/
def rLenO (C : Addr) (sp : Sp) (E : XK) : List V → Hp → VK → Prop := fun vs H Q => ∃ a dx fs, vs = [.ref a] ∧ H a = some (.ins C dx fs) ∧ sp [.ref a] H (fun v H' => ∃ n : Int, v = .int n ∧ 0 ≤ n ∧ n < 2 ^ 63 ∧ Q (.int n) H') E
theorem k_lenO (G : Okf X.prog X.w X.K X.mg X.base k f ps sp) (hr : Room (k + 1) X.A) (hs : PySem.W.findIn X.K (.ref C) "__len__" = some (some (.ref f))) (hf : PySem.W.isFn X.K (.ref f) = true) : CallR X (.builtin "len") (rLenO C sp E0) := by
  obtain ⟨fd, F, hb⟩ := G
  intro pins s σ H vs us Q I r h
  obtain ⟨a, dx, fs, rfl, ha, q⟩ := h
  rw [Vals.ref1 r]
  obtain ⟨mA, J, _⟩ := ins_get I.hok ha
  obtain ⟨od, J, _⟩ := J.look
  obtain ⟨m, hF⟩ := I.fr
  refine PySem.W.len_K hF I.ok.mod.kin J hs hf ?_
  refine wpAny_mono (run_fn1 (us := [.ref a]) (vs := [.ref a]) F hr hb passL I (.cons rfl .nil) q) (fun v s' hv => ?_) fun _ _ e => e
  obtain ⟨z, H', I', rz, n, rfl, h0, h1, q'⟩ := hv
  obtain ⟨t, rfl⟩ := rz
  exact ⟨⟨h0, h1⟩, .int n, H', I'.tok _, ⟨_, rfl⟩, q'⟩
/-- an own operator with an int at its right -/
theorem k_ownI {op : Operator} (G : Okf X.prog X.w X.K X.mg X.base k f ps sp) (hr : Room k X.A)
    (hc : PySem.W.selfFirst X.K C = true) (hs : PySem.W.findIn X.K (.ref C) (PySem.dunder op.info.2) = some (some (.ref f))) (hf : PySem.W.isFn X.K (.ref f) = true)
    (hrc : ∃ rc, PySem.W.findIn X.K (.ref C) (dunderR op.info.2) = some rc ∧ (rc = none ∨ ∃ g : Addr, rc = some (.ref g)))
    (hi : (∃ fo, PySem.W.findIn X.K (.type "int") (PySem.dunder op.info.2) = some fo) ∧ ∃ ro, PySem.W.findIn X.K (.type "int") (dunderR op.info.2) = some ro) (hsub : PySem.W.subIn X.K (.type "int") (.ref C) = some false) :
    OpR X (binaryOp op) (rOwnI C sp E0) :=
  let ⟨_, a, b⟩ := G
  let ⟨_, h1, h2⟩ := hrc
  let ⟨⟨_, h3⟩, _, h4⟩ := hi
  op_ownI a hr b passL hc hs hf h1 h2 h3 h4 hsub
end
section
open PySem.W
variable {prog : Program} {w : World} {A : Around} {E : Value → Shared → Prop} {s : Shared} {K : Frag} {x C L f : Addr} {h₀ : Heap} {m : Str → Option Value} {ox : Obj} {od : Option Obj} {i : Int} {t : Tok}
/-- int.__mul__ knows nothing of own things -/
theorem mul_own_not {dx : Addr} {Q : Option Value → Shared → Prop} (hx : s.heap.get? x = some (PySem.W.instObj C dx)) (h : Q none s) : wpAny (model prog w) A (tryMethod (.int i t) "__mul__" (.ref x)) Q E s := by
  unfold tryMethod
  refine wpAny_bind (wpAny_callSpecial?_slot (name := Str.ofString "__mul__") (typeIs_int s i t) F.slot_int_mul (wpAny_call_entry F.slot_int_mul (typeIs_int s i t) F.entry_int_mul ?_ (F.args_int_mul_2 _ _)))
  unfold Builtin.«int.__mul__»
  unfold Builtin.Int.intBinary
  refine wpAny_bind (wpAny_of_eq (a := (Value.int i t, [Value.ref x])) (by first | rfl | kernel_rfl) ?_)
  refine wpAny_bind (wpAny_of_eq (a := i) (by first | rfl | kernel_rfl) ?_)
  show wpAny _ _ (asInt? (.ref x) >>= _) _ _ _
  refine wpAny_bind ?_
  unfold asInt?
  refine wpAny_bind (wpAny_load hx ?_)
  refine wpAny_pure ?_
  refine wpAny_bind (wpAny_rule ?_)
  exact wpAny_pure ⟨_, rfl, wpAny_pure h⟩
/-- an int times an own thing -/
theorem bin_rmul {dx fm : Addr} {Q : Value → Shared → Prop} (X : K.In s.heap) (I : InstAt s.heap x ox C od) (hx : s.heap.get? x = some (PySem.W.instObj C dx)) (hc : selfFirst K C = true) (hm : findIn K (.ref C) "__mul__" = some (some (.ref fm)))
    (hs : findIn K (.ref C) "__rmul__" = some (some (.ref f))) (hf : isFn K (.ref f) = true) (hsub : subIn K (.ref C) (.type "int") = some false)
    (h : wpAny (model prog w) A (call (.ref f) [.ref x, .int i t]) (PySem.W.CmpBack Q) E s) : wpAny (model prog w) A (binaryOp .Mult (.int i t) (.ref x)) Q E s := by
  obtain ⟨cd, rest, hcd, hmro⟩ := ksp_first hc
  have one := ksp_try (b := .int i t) X I hs hf h
  have no : ∀ {Q : Option Value → Shared → Prop}, Q none s → wpAny (model prog w) A (tryMethod (.int i t) (Str.ofString "__mul__") (.ref x)) Q E s := fun q => mul_own_not hx q
  obtain ⟨hh, g, d, tt, os⟩ := s
  have L1 : Looks (model prog w) hh (typeOf (.ref x)) (.ref C) := I.type
  have L2 : Looks (model prog w) hh (typeOf (.int i t)) (.type "int") := Looks.of_pure rfl
  have L3 : Looks (model prog w) hh (fillsNumberSlot (.ref C) "mul") true := fills_K X hcd hmro hm
  have L4 : Looks (model prog w) hh (fillsNumberSlot (.type "int") "mul") true := Looks.of_pure F.fills_int_mul
  have L5 : Looks (model prog w) hh (isSubtype (.ref C) (.type "int")) false := looks_subIn X hsub
  have L6 : Looks (model prog w) hh (numberSlotInPython (.type "int") "mul") false := Looks.of_pure rfl
  have hne : (Value.type "int" == Value.ref C) = false := Bool.eq_false_iff.mpr fun q => by cases beq_iff_eq.mp q
  have hi : Operator.info .Mult = ("*", "mul") := rfl
  simp only [binaryOp, hi]
  refine wpAny_holding (wpAny_bind ?_)
  unfold binaryOp1
  refine wpAny_bind (L2.at (wpAny_bind (L1.at (wpAny_bind (L4.at ?_)))))
  simp only [hne, Bool.false_eq_true, if_false]
  refine wpAny_bind (L3.at ?_)
  simp only [Bool.and_self, if_true]
  refine wpAny_bind (L5.at ?_)
  simp only [Bool.false_eq_true, if_false]
  repeat ((fail_if_success (with_reducible show wpAny _ _ (tryMethod _ _ _) _ _ _)); lk)
  refine no ?_
  repeat ((fail_if_success (with_reducible show wpAny _ _ (tryMethod _ _ _) _ _ _)); lk)
  refine wpAny_mono one (fun r s' hr' => ?_) fun _ _ e => e
  obtain ⟨v, rfl, hq⟩ := hr'
  repeat lk
  exact hq
end
section
variable {X : Cx} {k : Nat} {f C : Addr} {ps : List Str} {sp : Sp}
def rOwnR (C : Addr) (sp : Sp) (E : XK) : R2 := fun x y H Q => ∃ i a dx fs, x = .int i ∧ y = .ref a ∧ H a = some (.ins C dx fs) ∧ sp [.ref a, .int i] H Q E
theorem k_rmul (G : Okf X.prog X.w X.K X.mg X.base k f ps sp) (hr : Room k X.A) (hc : PySem.W.selfFirst X.K C = true) (hs : PySem.W.findIn X.K (.ref C) "__rmul__" = some (some (.ref f))) (hf : PySem.W.isFn X.K (.ref f) = true)
    (hm : ∃ fm : Addr, PySem.W.findIn X.K (.ref C) "__mul__" = some (some (.ref fm))) (hsub : PySem.W.subIn X.K (.ref C) (.type "int") = some false) : OpR X (binaryOp .Mult) (rOwnR C sp E0) := by
  obtain ⟨fd, F, hb⟩ := G
  obtain ⟨fm, hm⟩ := hm
  intro pins s σ H x y v u Q I rx ry h
  obtain ⟨i, a, dx, fs, rfl, rfl, ha, q⟩ := h
  cases ry
  obtain ⟨t, rfl⟩ := rx
  obtain ⟨mA, J0, _⟩ := ins_get I.hok ha
  obtain ⟨_, _, _, ho, _⟩ := (show ObjOk X.prog X.w H s.heap a (.ins C dx fs) from I.hok a _ ha)
  obtain ⟨od, J, _⟩ := J0.look
  refine bin_rmul I.kIn J ho hc hm hs hf hsub ?_
  exact wpAny_mono (run_fn (us := [.ref a, .int i t]) (vs := [.ref a, .int i]) F hr hb .nil passL I (.cons rfl (.cons ⟨t, rfl⟩ .nil)) q) (fun v s' hv => back_ne hv) fun _ _ e => e
end
end Hn

/-! Objects of one row of ints in one field (Needs, Plan); pairs; isinstance of own classes. -/
namespace Hn
open PySem PySem.Spec PyProof.Rows L2 Evl
/-- what isinstance(x, C) asks of a class C -/
structure IsC (K : PySem.W.Frag) (C : Addr) : Prop where
  cl : Cls K C
  ha : PySem.W.findIn K (.ref C) "__class__" = some (some (.builtin "object.__class__"))
  hn : PySem.W.specialIn K (.builtin "object.__class__") "__get__" = some (some (.builtin "getset_descriptor.__get__"))
  tk : PySem.W.takesIn K (.builtin "object.__class__") = some true
  mr : PySem.W.mroIn K C (.type "object") = some true
theorem r_isiOwn {K : PySem.W.Frag} {C a dx : Addr} {H : Hp} {fs : List (Str × V)} {Q : VK} (h : IsC K C) (ha : H a = some (.ins C dx fs)) (q : Q (.bl true) H) : rIsi K [.ref a, .ref C] H Q :=
  ⟨.ref a, .ref C, _, _, true, rfl, .own C, .base (.ins ha h.cl h.ha h.hn h.tk h.mr), by unfold PySem.W.kitOne; rw [if_pos (beq_self_eq_true _)], q⟩
/-- a row of needs or begins -/
structure GoodN (ns : List Int) : Prop where
  ne : 1 ≤ ns.length
  le : ns.length ≤ 48
  nn : ∀ i, 0 ≤ cyc ns i
theorem GoodN.mem {ns : List Int} (g : GoodN ns) : ∀ x ∈ ns, 0 ≤ x := fun x hx => by
  obtain ⟨j, hj, rfl⟩ := List.mem_iff_getElem.mp hx
  have := g.nn (j : Int)
  rw [cyc_at hj, List.getD_eq_getElem?_getD, List.getElem?_eq_getElem hj] at this
  exact this
theorem GoodN.of {ns : List Int} (h1 : 1 ≤ ns.length) (h2 : ns.length ≤ 48) (h : ∀ x ∈ ns, 0 ≤ x) : GoodN ns := ⟨h1, h2, fun i => h _ (cyc_mem h1 i)⟩
def okRow (ns : List Int) : Bool := decide (1 ≤ ns.length) && decide (ns.length ≤ 48) && ns.all fun x => decide (0 ≤ x)
theorem okRow_iff {s : List Int} : okRow s = true ↔ GoodN s := by
  unfold okRow
  simp only [Bool.and_eq_true, decide_eq_true_eq, List.all_eq_true]
  constructor
  · rintro ⟨⟨a, b⟩, c⟩
    exact GoodN.of a b c
  · intro g
    exact ⟨⟨g.ne, g.le⟩, g.mem⟩
def rwF (fld : Str) (a : Addr) : List (Str × V) := putF fld (.ref a) []
theorem rwF_at (fld : Str) (a : Addr) : (rwF fld a).lookup fld = some (.ref a) := by
  unfold rwF
  rw [lookup_putF, if_pos rfl]
theorem rwF_no {fld m : Str} (a : Addr) (h : ¬ m = fld) : (rwF fld a).lookup m = none := by
  unfold rwF
  rw [lookup_putF, if_neg h]
  rfl
/-- an object whose one field holds the row ns -/
def Rw (K : PySem.W.Frag) (C : Addr) (fld : Str) (H : Hp) (v : V) (ns : List Int) : Prop :=
  ∃ p dx a, v = .ref p ∧ H p = some (.ins C dx (rwF fld a)) ∧ SqT K H a (ns.map V.int) ∧ GoodN ns
section
variable {K : PySem.W.Frag} {C : Addr} {fld : Str} {H H' : Hp} {v : V} {ns : List Int}
theorem Rw.mono (e : Xl H H') (h : Rw K C fld H v ns) : Rw K C fld H' v ns :=
  let ⟨p, dx, a, h1, h2, h3, h4⟩ := h
  ⟨p, dx, a, h1, e _ _ h2 rfl, tup_mono e h3, h4⟩
theorem Rw.ex (e : Ex H H') (h : Rw K C fld H v ns) : Rw K C fld H' v ns := h.mono (.of e)
theorem Rw.good (h : Rw K C fld H v ns) : GoodN ns := let ⟨_, _, _, _, _, _, g⟩ := h; g
theorem r_rwM {m : Str} {p : Prop} (h : Rw K C fld H v ns) (hm : ¬ m = fld) (q : p) : ∃ a dx fs, v = .ref a ∧ H a = some (.ins C dx fs) ∧ fs.lookup m = none ∧ p :=
  let ⟨x, dx, a, e, hp, _⟩ := h
  ⟨x, dx, _, e, hp, rwF_no a hm, q⟩
theorem r_rwG {p : Prop} (h : Rw K C fld H v ns) (q : p) : ∃ a dx fs, v = .ref a ∧ H a = some (.ins C dx fs) ∧ p :=
  let ⟨x, dx, _, e, hp, _⟩ := h
  ⟨x, dx, _, e, hp, q⟩
theorem r_rwP {p : Addr → Prop} (h : Rw K C fld H v ns) (q : ∀ a, v = .ref a → p a) : ∃ a dx fs, v = .ref a ∧ H a = some (.ins C dx fs) ∧ p a :=
  let ⟨x, dx, _, e, hp, _⟩ := h
  ⟨x, dx, _, e, hp, q x e⟩
/-- its field -/
theorem r_rwF {p : V → Prop} (h : Rw K C fld H v ns) (cl : Cls K C) (na : NoAttr K C fld) (q : ∀ a, SqT K H a (ns.map V.int) → p (.ref a)) : ∃ a C dx fs u, v = .ref a ∧ H a = some (.ins C dx fs) ∧ Cls K C ∧ NoAttr K C fld ∧ fs.lookup fld = some u ∧ p u :=
  let ⟨x, dx, a, e, hp, ha, _⟩ := h
  ⟨x, C, dx, _, _, e, hp, cl, na, rwF_at fld a, q a ha⟩
/-- an own operator of two -/
theorem r_own2 {fld' : Str} {w : V} {ms : List Int} {sp : Sp} {E : XK} {Q : VK} (h : Rw K C fld H v ns) (h' : Rw K C fld' H w ms) (q : sp [v, w] H Q E) : rOwn C sp E v w H Q := by
  obtain ⟨x, dx, a, rfl, hp, _⟩ := h
  obtain ⟨y, dy, b, rfl, hq, _⟩ := h'
  exact ⟨x, y, dx, dy, _, _, rfl, rfl, hp, hq, q⟩
theorem r_own2N {fld' : Str} {w : V} {ms : List Int} {sp : Sp} {E : XK} {Q : VK} (h : Rw K C fld H v ns) (h' : Rw K C fld' H w ms) (q : sp [v, w] H (fun x H' => ∃ r, x = .bl r ∧ Q (.bl (!r)) H') E) : rOwnNe C sp E v w H Q := by
  obtain ⟨x, dx, a, rfl, hp, _⟩ := h
  obtain ⟨y, dy, b, rfl, hq, _⟩ := h'
  exact ⟨x, y, dx, dy, _, _, rfl, rfl, hp, hq, q⟩
theorem r_ownI {i : Int} {sp : Sp} {E : XK} {Q : VK} (h : Rw K C fld H v ns) (q : sp [v, .int i] H Q E) : rOwnI C sp E v (.int i) H Q := by
  obtain ⟨x, dx, a, rfl, hp, _⟩ := h
  exact ⟨x, i, dx, _, rfl, rfl, hp, q⟩
theorem r_ownR {i : Int} {sp : Sp} {E : XK} {Q : VK} (h : Rw K C fld H v ns) (q : sp [v, .int i] H Q E) : rOwnR C sp E (.int i) v H Q := by
  obtain ⟨x, dx, a, rfl, hp, _⟩ := h
  exact ⟨i, x, dx, _, rfl, rfl, hp, q⟩
theorem r_lenO {sp : Sp} {E : XK} {Q : VK} (h : Rw K C fld H v ns) (q : sp [v] H (fun x H' => ∃ n : Int, x = .int n ∧ 0 ≤ n ∧ n < 2 ^ 63 ∧ Q (.int n) H') E) : rLenO C sp E [v] H Q := by
  obtain ⟨x, dx, a, rfl, hp, _⟩ := h
  exact ⟨x, dx, _, rfl, hp, q⟩
end
def MkRw (K : PySem.W.Frag) (C : Addr) (fld : Str) (H : Hp) (v : V) (Q : Addr → Hp → Prop) : Prop := ∃ a s, v = .ref a ∧ Sq K H a (s.map V.int) ∧ GoodN s ∧ ∀ u H', Ex H H' → Rw K C fld H' (.ref u) s → Q u H'
def spRwInit (K : PySem.W.Frag) (C : Addr) (fld : Str) : Sp := fun vs H Q _ => ∃ (H0 : Hp) (x dx a : Addr) (s : List Int), vs = [.ref x, .ref a] ∧ H = upd (upd H0 dx (.own x)) x (.ins C dx []) ∧ H0 x = none ∧ H0 dx = none ∧ dx ≠ x ∧ Sq K H0 a (s.map V.int) ∧ GoodN s ∧
  ∀ H', Ex H0 H' → Rw K C fld H' (.ref x) s → Q .non H'
theorem mkRw {K : PySem.W.Frag} {C : Addr} {fld : Str} {H : Hp} {v : V} {Q : Addr → Hp → Prop} {E : XK} (h : MkRw K C fld H v Q) : ∀ x dx, H x = none → H dx = none → dx ≠ x → spRwInit K C fld (.ref x :: ([v] ++ [])) (upd (upd H dx (.own x)) x (.ins C dx [])) (fun v H2 => v = .non ∧ Q x H2) E := by
  intro x dx nx ndx ne
  obtain ⟨a, s, rfl, hS, g, k⟩ := h
  exact ⟨H, x, dx, a, s, rfl, rfl, nx, ndx, ne, hS, g, fun H' e c => ⟨rfl, k _ _ e c⟩⟩
/-! ### a list of pairs of ints -/
def Prs (H : Hp) (p : Addr) (ns ms : List Int) : Prop := ∃ ts : List Addr, H p = some (.lst (ts.map V.ref)) ∧ ts.length = ns.length ∧ ∀ (j : Nat) t, ts[j]? = some t → H t = some (.tup [.int (ns.getD j 0), .int (ms.getD j 0)])
theorem Prs.ex {H H' : Hp} {p : Addr} {ns ms : List Int} (e : Ex H H') (h : Prs H p ns ms) : Prs H' p ns ms :=
  let ⟨ts, h1, h2, h3⟩ := h
  ⟨ts, e _ _ h1, h2, fun j t ht => e _ _ (h3 j t ht)⟩
theorem r_pairT {K : PySem.W.Frag} {σ : L2.St} {H : Hp} {T : Addr} {x y : V} {n m : Nat} {q : L2.St → Hp → Prop} (hT : H T = some (.tup [x, y])) (h : q ((σ.set n (some x)).set m (some y)) H) : gTup K 2 (gCons (gName n) (gCons (gName m) gNil)) (.ref T) σ H q :=
  ⟨T, [x, y], rfl, .inl (.inl hT), rfl, x, [y], rfl, y, [], rfl, rfl, h⟩
/-- a comprehension over such pairs -/
theorem lc_prs {K : PySem.W.Frag} {g : TG} {te : TE} {vs : List Nat} {σ : L2.St} {H1 : Hp} {Q : VK} {p : Addr} {ns ms : List Int} (hP : Prs H1 p ns ms) (f : Nat → V) (hn : ns.length ≤ 100000)
    (turn : ∀ i T H, i < ns.length → Ex H1 H → H T = some (.tup [.int (ns.getD i 0), .int (ms.getD i 0)]) → ∀ k : VK, (∀ H4, Ex H H4 → k (f i) H4) → g (.ref T) (wipe σ vs) H fun σ2 H2 => wipe σ2 vs = wipe σ vs ∧ te σ2 H2 k)
    (fin : ∀ D H, H1 D = none → Ex H1 H → H D = some (.lst ((List.range ns.length).map f)) → Q (.ref D) H) : ∃ a, V.ref p = .ref a ∧ (∃ xs, SqL K H1 a xs) ∧ LcTail (Itl K a) H1 g tYes te vs σ Q := by
  obtain ⟨ts, h1, h2, h3⟩ := hP
  refine ⟨p, rfl, ⟨_, .inl (.inl h1)⟩, lc_fun (walk_list (xs := ts.map V.ref)) f (fun H e => .inl (.inl (e _ _ h1))) (by rw [List.length_map]; omega) ?_ ?_⟩
  · rintro i x H H' hi e ⟨rfl, hx⟩ k hk
    rw [List.length_map] at hi
    rw [List.getElem?_map] at hx
    cases ht : ts[i]? with
    | none => rw [ht] at hx; cases hx
    | some T =>
      rw [ht] at hx
      obtain rfl := Option.some.inj hx
      exact turn i T _ (by omega) e (e _ _ (h3 i T ht)) k hk
  · intro D H nD e hD
    rw [List.length_map, h2] at hD
    exact fin D H nD e hD
/-! ### rows reckoned -/
def zipR (f : Int → Int → Int) (s t : List Int) : List Int := rowOf s.length fun i => f (cyc s i) (cyc t i)
def mapR (f : Int → Int) (s : List Int) : List Int := rowOf s.length fun i => f (cyc s i)
theorem zipR_length (f : Int → Int → Int) (s t : List Int) : (zipR f s t).length = s.length := rowOf_length _ _
theorem mapR_length (f : Int → Int) (s : List Int) : (mapR f s).length = s.length := rowOf_length _ _
theorem cyc_zipR {f : Int → Int → Int} {s t : List Int} (h : 1 ≤ s.length) (hl : t.length = s.length) (i : Int) : cyc (zipR f s t) i = f (cyc s i) (cyc t i) := by
  unfold zipR
  rw [cyc_rowOf _ h, cyc_mod]
  rw [← hl, cyc_mod]
theorem cyc_mapR {f : Int → Int} {s : List Int} (h : 1 ≤ s.length) (i : Int) : cyc (mapR f s) i = f (cyc s i) := by
  unfold mapR
  rw [cyc_rowOf _ h, cyc_mod]
theorem GoodN.zip {f : Int → Int → Int} {s t : List Int} (g : GoodN s) (gt : GoodN t) (hl : t.length = s.length) (h : ∀ a b, 0 ≤ a → 0 ≤ b → 0 ≤ f a b) : GoodN (zipR f s t) := by
  refine ⟨by rw [zipR_length]; exact g.ne, by rw [zipR_length]; exact g.le, fun i => ?_⟩
  rw [cyc_zipR g.ne hl]
  exact h _ _ (g.nn i) (gt.nn i)
theorem GoodN.map {f : Int → Int} {s : List Int} (g : GoodN s) (h : ∀ a, 0 ≤ a → 0 ≤ f a) : GoodN (mapR f s) := by
  refine ⟨by rw [mapR_length]; exact g.ne, by rw [mapR_length]; exact g.le, fun i => ?_⟩
  rw [cyc_mapR g.ne]
  exact h _ (g.nn i)
theorem GoodN.turn {s : List Int} (g : GoodN s) (b : Int) : GoodN (turnS s b) := by
  refine ⟨by rw [turnS_length]; exact g.ne, by rw [turnS_length]; exact g.le, fun i => ?_⟩
  rw [cyc_turn g.ne]
  exact g.nn _
theorem GoodN.rev {s : List Int} (g : GoodN s) : GoodN s.reverse := by
  refine ⟨by rw [List.length_reverse]; exact g.ne, by rw [List.length_reverse]; exact g.le, fun i => ?_⟩
  rw [cyc_rev g.ne]
  exact g.nn _
theorem row_lit {n : Nat} (f : Int → Int) : (rowOf n f).map V.int = (List.range n).map fun (i : Nat) => V.int (f (i : Int)) := by
  unfold rowOf
  rw [List.map_map]
  rfl
theorem getD_cyc {s : List Int} {i : Nat} (h : i < s.length) : s.getD i 0 = cyc s (i : Int) := (cyc_at h).symm
/-! ### rows by their items -/
section
variable {n : Nat} {a b : Int → Int}
theorem rowOf_inj : rowOf n a = rowOf n b ↔ ∀ j : Nat, j < n → a (j : Int) = b (j : Int) := by
  refine ⟨fun h j hj => ?_, fun h => rowOf_congr fun i h0 h1 => ?_⟩
  · rw [← rowOf_getD a hj, ← rowOf_getD b hj, h]
  · have := h i.toNat (by omega)
    rw [show ((i.toNat : Nat) : Int) = i by omega] at this
    exact this
theorem row_ne (g : GoodN (rowOf n a)) : 1 ≤ n := by
  have := g.ne
  rw [rowOf_length] at this
  exact this
theorem cyc_row {i : Int} (h0 : 0 ≤ i) (h1 : i < (n : Int)) : cyc (rowOf n a) i = a i := by
  rw [cyc_rowOf a (by omega), Int.emod_eq_of_lt h0 h1]
theorem zipR_row (f : Int → Int → Int) : zipR f (rowOf n a) (rowOf n b) = rowOf n fun i => f (a i) (b i) := by
  unfold zipR
  rw [rowOf_length]
  exact rowOf_congr fun i h0 h1 => by rw [cyc_row h0 h1, cyc_row h0 h1]
theorem mapR_row (f : Int → Int) : mapR f (rowOf n a) = rowOf n fun i => f (a i) := by
  unfold mapR
  rw [rowOf_length]
  exact rowOf_congr fun i h0 h1 => by rw [cyc_row h0 h1]
theorem turnS_row (h : 1 ≤ n) (c : Int) : turnS (rowOf n a) c = rowOf n fun i => a ((i + c) % (n : Int)) := by
  unfold turnS
  rw [rowOf_length]
  exact rowOf_congr fun i _ _ => by rw [cyc_rowOf a h]
theorem rev_row : (rowOf n a).reverse = rowOf n fun i => a ((n : Int) - 1 - i) := by
  refine row_ext _ (by rw [List.length_reverse, rowOf_length]) fun j hj => ?_
  rw [List.getD_eq_getElem?_getD, List.getElem?_reverse (by rw [rowOf_length]; exact hj), ← List.getD_eq_getElem?_getD, rowOf_length, rowOf_getD a (by omega)]
  congr 1
  omega
def wthn (n : Nat) (a b : Int → Int) : Bool := (List.range n).all fun (j : Nat) => decide (a (j : Int) ≤ b (j : Int))
theorem wthn_iff : wthn n a b = true ↔ ∀ j : Nat, j < n → a (j : Int) ≤ b (j : Int) := by
  unfold wthn
  simp only [List.all_eq_true, List.mem_range, decide_eq_true_eq]
theorem all_row : ((List.range (rowOf n a).length).all fun i => decide ((rowOf n a).getD i 0 ≤ (rowOf n b).getD i 0)) = wthn n a b := by
  rw [rowOf_length]
  unfold wthn
  rw [Bool.eq_iff_iff, List.all_eq_true, List.all_eq_true]
  refine ⟨fun h j hj => ?_, fun h j hj => ?_⟩
  · have := h j hj
    rw [rowOf_getD a (List.mem_range.mp hj), rowOf_getD b (List.mem_range.mp hj)] at this
    exact this
  · rw [rowOf_getD a (List.mem_range.mp hj), rowOf_getD b (List.mem_range.mp hj)]
    exact h j hj
/-- by | and by & -/
theorem wthn_or : decide (rowOf n (fun i => if b i > a i then b i else a i) = rowOf n b) = wthn n a b := by
  rw [Bool.eq_iff_iff, decide_eq_true_eq, rowOf_inj, wthn_iff]
  refine ⟨fun h j hj => ?_, fun h j hj => ?_⟩
  · have := h j hj
    split at this <;> omega
  · have := h j hj
    split <;> omega
theorem wthn_and : decide (rowOf n (fun i => if b i < a i then b i else a i) = rowOf n b) = wthn n b a := by
  rw [Bool.eq_iff_iff, decide_eq_true_eq, rowOf_inj, wthn_iff]
  refine ⟨fun h j hj => ?_, fun h j hj => ?_⟩
  · have := h j hj
    split at this <;> omega
  · have := h j hj
    split <;> omega
end
theorem r_same {p : Prop} {A B : Prop} [Decidable p] (h : p) (q : B) : if (!decide p) = true then A else B := by
  rw [decide_eq_true h]
  exact iteF q
theorem r_sameB {x y : Bool} {A B : Prop} (h : x = y) (q : B) : if (!decide (x = y)) = true then A else B := r_same h q
theorem r_yesB {x : Bool} {A B : Prop} (h : x = true) (q : A) : if x = true then A else B := by
  rw [h]
  exact iteT q
theorem r_notB {x : Bool} {A B : Prop} (h : x = true) (q : B) : if (!x) = true then A else B := by
  rw [h]
  exact iteF q
theorem r_fin {Q : VK} {H : Hp} {b : Bool} (h : b = true) (q : Q (.bl true) H) : Q (.bl b) H := by
  rw [h]
  exact q
/-! ### rows cut and bumped; products -/
/-- the begins times the dues -/
def dot (n : Nat) (a b : Int → Int) : Int := Sg n fun i => a i * b i
theorem cut_take {xs : List V} {h : Int} (h0 : 0 ≤ h) (h1 : h ≤ (xs.length : Int)) : cutV xs none (some h) = xs.take h.toNat := by
  obtain ⟨k, rfl⟩ : ∃ k : Nat, h = (k : Int) := ⟨h.toNat, by omega⟩
  unfold cutV
  rw [HT.sIx_none, show HT.sIx xs.length xs.length (some (k : Int)) = min k xs.length from HT.sIx_nat xs.length xs.length k]
  rw [List.drop_zero, Nat.sub_zero, Int.toNat_natCast, Nat.min_eq_left (by omega)]
theorem cut_drop {xs : List V} {h : Int} (h0 : 0 ≤ h) (h1 : h ≤ (xs.length : Int)) : cutV xs (some h) none = xs.drop h.toNat := by
  obtain ⟨k, rfl⟩ : ∃ k : Nat, h = (k : Int) := ⟨h.toNat, by omega⟩
  unfold cutV
  rw [HT.sIx_none, show HT.sIx xs.length 0 (some (k : Int)) = min k xs.length from HT.sIx_nat xs.length 0 k]
  rw [Int.toNat_natCast, Nat.min_eq_left (by omega)]
  exact List.take_of_length_le (by rw [List.length_drop]; omega)
theorem set_row {n : Nat} {a : Int → Int} {h : Nat} (hh : h < n) (z : Int) : ((rowOf n a).take h ++ [z]) ++ (rowOf n a).drop (h + 1) = rowOf n fun i => if i = (h : Int) then z else a i := by
  have hl := rowOf_length n a
  refine row_ext _ (by simp only [List.length_append, List.length_take, List.length_drop, List.length_singleton, hl]; omega) fun j hj => ?_
  have hg : ∀ i, i < n → (rowOf n a)[i]? = some (a (i : Int)) := fun i hi => by
    have := rowOf_getD a hi
    rw [List.getD_eq_getElem?_getD, List.getElem?_eq_getElem (by omega)] at this
    rw [List.getElem?_eq_getElem (by omega)]
    exact congrArg some this
  rw [List.getD_eq_getElem?_getD]
  have tl : ((rowOf n a).take h).length = h := by rw [List.length_take]; omega
  rcases Nat.lt_trichotomy j h with q | q | q
  · rw [List.append_assoc, List.getElem?_append_left (by omega), List.getElem?_take_of_lt q, hg j hj]
    show a j = _
    rw [if_neg (by omega)]
  · subst q
    rw [List.append_assoc, List.getElem?_append_right (by omega), tl, Nat.sub_self, if_pos rfl]
    rfl
  · rw [List.getElem?_append_right (by rw [List.length_append, tl, List.length_singleton]; omega), List.length_append, tl, List.length_singleton, List.getElem?_drop, show h + 1 + (j - (h + 1)) = j by omega, hg j hj, if_neg (by omega)]
    rfl
theorem Sg_one {n : Nat} {h : Nat} (hh : h < n) (f : Int → Int) : Sg n (fun i => if i = (h : Int) then f i else 0) = f (h : Int) := by
  induction n with
  | zero => omega
  | succ n ih =>
    show Sg n _ + (if (n : Int) = (h : Int) then f n else 0) = _
    by_cases q : h = n
    · subst q
      rw [if_pos rfl]
      have e : Sg h (fun i => if i = (h : Int) then f i else 0) = Sg h (fun _ => 0) := Sg_congr fun i _ h1 => if_neg (by omega)
      rw [e, Sg_zero]
      omega
    · rw [if_neg (by omega), ih (by omega)]
      omega
end Hn

/-! Defs whose promise needs to know more of the place of the call; list(x) and tuple(x) of own classes that hand out a tuple's iterator. -/
namespace Hn
open PySem PySem.Spec PyProof.Rows L2 Evl
/-- the def at f keeps its promise wherever Pre stands -/
def OkP (Pre : Around → Shared → Prop) (P : Program) (w : World) (K : PySem.W.Frag) (mg : Str → Option Value) (base : Heap) (k : Nat) (f : Addr) (ps : List Str) (sp : Sp) : Prop :=
  ∃ fd, Binds K fd ps [] ∧ (∀ vs H Q E, sp vs H Q E → vs.length = ps.length) ∧ ∀ (A : Around) (out : List Env) (s : Shared) (H : Hp) (ag : Args) (us : List Value) (vs : List V) (Q : VK) (E : XK), Pre A s → Room k A → Env0 P w K mg base A out s H → BindsTo s fd ag (ps.zip us) → Vals vs us → sp vs H Q E →
    codeAny (model P w) A (.call (.ref f) ag) (CR CX0 out P w H s Q E) s
section
variable {P : Program} {w : World} {K : PySem.W.Frag} {mg : Str → Option Value} {base : Heap} {Pre : Around → Shared → Prop}
theorem okP_of {x qual : Str} {st : Stmt} {f : Addr} {N ps : List Str} {k : Nat} {sp : Sp} (D : Df K x qual st f ps) (S : FnScope N ps (defScope st)) (len : ∀ vs H Q E, sp vs H Q E → vs.length = ps.length)
    (hbody : ∀ (cdv : Value) (A : Around) (out : List Env) (s : Shared) (H : Hp) (vs : List V) (Q : VK) (E : XK), Pre A s → Room k (A.deeper (envOfC qual (defScope st) s.heap.objs.size f cdv)) → sp vs H Q E →
      ∃ t, PSs (cxOf CX0 P w K mg base N qual (defScope st) f cdv A out s H E).nox (defBody st) t ∧ t { nx := fun _ H' => Q .non H', rt := Q } (start N vs) H) : OkP Pre P w K mg base (k + 1) f ps sp := by
  obtain ⟨fd, F, bd⟩ := D
  refine ⟨fd, bd, len, ?_⟩
  obtain ⟨oc, od, kV, doc, pm, an, cdv, ct, osl, rfl, lk, hcd⟩ := F.ex
  intro A out s H ag us vs Q E pre room env bnd rel hsp
  have ll := len _ _ _ _ hsp
  have inK : K.In s.heap := env.mod.kin.keeps fun b o e => (env.bs b o e).1
  have nol : s.heap.NoLimit := env.mod.nolimit.keeps fun b o e => (env.bs b o e).1
  have kinds : ∀ y ∈ ps.zip us, (defScope st).names.lookup y.1 = some .local ∨ ((defScope st).names.lookup y.1 = some .cell ∧ ((cellsFrom (s.heap.objs.size + 1) (defScope st).names []).lookup y.1).isSome = true) := fun y hy => by
    rcases S.par y.1 (List.of_mem_zip (a := y.1) (b := y.2) hy).1 with z | z
    · exact Or.inl z
    · exact Or.inr ⟨z, PySem.W.cellsFrom_some _ _ _ (Or.inl z)⟩
  refine codeAny_call_function room.depth (inK _ _ lk) rfl S.co S.gen rfl (PySem.W.codeRec_of inK hcd) (bnd _ _ _ _ ?_)
  refine wpAny_newFunctionEnv_cells S.kind kinds fun env1 he s1 x1 => ?_
  subst he
  refine ⟨nol.keeps x1.toInCall.keep, codeAny_func ?_⟩
  obtain ⟨t, tt, qq⟩ := hbody cdv A out s H vs Q E pre (room.deeper _) hsp
  have J : Inv (cxOf CX0 P w K mg base N qual (defScope st) f cdv A out s H E) [] (start N vs) H s1 := inv_start S room.hd env ll rel x1
  refine wpAny_mono (tt.nox.run [] s1 (start N vs) H _ J qq) (fun fl s' hs => ?_) fun e s' hs => hs
  have done : ∀ {σ' : L2.St} {H' : Hp} {v : V} {u : Value}, Inv (cxOf CX0 P w K mg base N qual (defScope st) f cdv A out s H E) [] σ' H' s' → RelV v u → Q v H' → CE out P w H s Q u s' :=
    fun {σ' H' v u} J rv q => ⟨v, H', J.os, J.bare, J.base, J.hok, rv, q⟩
  cases fl with
  | ret u =>
    obtain ⟨v, σ', H', J', rv, q⟩ := hs
    exact done J' rv q
  | next =>
    obtain ⟨σ', H', J', q⟩ := hs
    exact done (v := V.non) (u := Value.none) J' rfl q
  | brk =>
    obtain ⟨_, _, _, z⟩ := hs
    exact z.elim
  | cont =>
    obtain ⟨_, _, _, z⟩ := hs
    exact z.elim
end
/-- a tuple's iterator that has given nothing yet -/
def ItT (l it : Addr) : HO := .ext fun h => h.get? it = some { cls := .type "tuple_iterator", data := .fields #[.ref l, .int 0 0] }
theorem itT_ok {P : Program} {w : World} {H : Hp} {h : Heap} {l it : Addr} (e : h.get? it = some { cls := .type "tuple_iterator", data := .fields #[.ref l, .int 0 0] }) : ObjOk P w H h it (ItT l it) := ⟨e, ⟨_, e⟩, fun _ _ q k => k _ q⟩
theorem call_iterT0 {prog : Program} {w : World} {A : Around} {E : Value → Shared → Prop} {s : Shared} {l : Addr} {items : Array Value} {Q : Value → Shared → Prop} (hl : s.heap.IsTuple l items)
    (h : Q (.ref s.heap.objs.size) { s with heap := s.heap.push { cls := .type "tuple_iterator", data := .fields #[.ref l, .int 0 0] } }) : wpAny (model prog w) A (call (.builtin "iter") [.ref l]) Q E s := by
  refine Calls.call_function_entry (by decide +kernel) (by decide +kernel) PySem.W.kdk_entry_iter (PySem.W.kdk_args_iter _) ?_
  unfold Builtin.«iter»
  refine wpAny_bind (m := someArgs "iter" 1 2 _) (wpAny_of_eq (a := [Value.ref l]) (by first | rfl | kernel_rfl!) ?_)
  exact wpAny_bind (wpAny_pyIter_tuple hl (wpAny_pure ⟨_, rfl, h⟩))
def rIterT (K : PySem.W.Frag) (n : Nat) : List V → Hp → VK → Prop := fun xs H Q => ∃ (l : Addr) (zs : List V), xs = [.ref l] ∧ SqT K H l zs ∧ ∀ it, H it = none → n ≤ it → Q (.ref it) (upd H it (ItT l it))
section
variable {X : Cx} {K : PySem.W.Frag} {n k : Nat}
theorem k_iterT (hK : X.K = K) (hn : n ≤ X.s_0.heap.objs.size) : CallR X (.builtin "iter") (rIterT K n) := by
  subst hK
  intro pins s σ H xs us Q I r h
  obtain ⟨l, zs, rfl, hq, q⟩ := h
  rw [Vals.ref1 r]
  obtain ⟨its, rv, pl, hz⟩ := I.tuple hq
  refine call_iterT0 (show s.heap.IsTuple l its.toArray from pl) ?_
  exact ⟨.ref s.heap.objs.size, _, I.laid (t' := s.toks) (fun b u e => Heap.get?_push_of_some _ e) (Nat.le_refl _) (itT_ok (Heap.get?_push_size _ rfl)), rfl, q _ (I.hok.fresh (Nat.le_refl _)) (Nat.le_trans hn I.sz)⟩
/-- the tuple's iterator fills the list at q -/
theorem tl_loop {pins : List (Addr × Obj)} {σ : L2.St} {H : Hp} {A : Around} {R : Result → Shared → Prop} {q it l : Addr} {xs : List V} (hc : A.handled = none) (hl : SqT X.K H l xs) (hq : H q = none) (hz : xs.length < sizeLine)
    (hR : ∀ s, Inv X pins σ (upd H q (.lst xs)) s → R (.ok (.ret .none)) s) :
    ∀ (k i : Nat) (s : Shared), xs.length - i = k → i ≤ xs.length → Inv X pins σ (upd H q (.lst (xs.take i))) s → FpOk X pins (upd H q (.lst (xs.take i))) it → s.heap.IsTupleIter it l i →
      codeAny (model X.prog X.w) A (.builtin "list.extend.loop" ⟨[.ref q, .ref it, .none], []⟩) R s := by
  have hl' : ∀ ys, SqT X.K (upd H q (.lst ys)) l xs := fun ys => ex_t (Ex.new hq) hl
  intro k
  induction k with
  | zero =>
    intro i s hk hi I fp st
    obtain rfl : i = xs.length := by omega
    rw [List.take_length] at I fp
    obtain ⟨its, rv, p, _⟩ := I.tuple (hl' xs)
    obtain ⟨f0, f1, f2, f3, f4, f5⟩ := id fp
    have ln := rv.length
    refine codeAny_builtin PySem.F.entry_extend_loop ?_
    rw [Around.under_plainId PySem.F.plain_extend_loop _]
    show wpAny _ A.in1 (pyNext (.ref it) >>= _) _ _ _
    refine wpAny_bind (wpAny_pyNext_tuple_end (A := A.in1) hc st (show s.heap.IsTuple l its.toArray from p) (by simp; omega) fun h' eb => ?_)
    exact wpAny_pure (hR _ (I.turned (t' := s.toks) (fun b o hb e => eb b o hb e) f0 f1 f3 f4 f5))
  | succ k ih =>
    intro i s hk hi I fp st
    have hlt : i < xs.length := by omega
    obtain ⟨its, rv, p, _⟩ := I.tuple (hl' (xs.take i))
    have hx : xs[i]? = some xs[i] := List.getElem?_eq_getElem hlt
    obtain ⟨u, hu, ru⟩ := rv.get hx
    obtain ⟨f0, f1, f2, f3, f4, f5⟩ := id fp
    refine codeAny_builtin PySem.F.entry_extend_loop ?_
    rw [Around.under_plainId PySem.F.plain_extend_loop _]
    show wpAny _ A.in1 (pyNext (.ref it) >>= _) _ _ _
    refine wpAny_bind (wpAny_pyNext_tuple_item st (show s.heap.IsTuple l its.toArray from p) (x := u) (by simpa using hu) fun h' st' sb => ?_)
    have I1 : Inv X pins σ (upd H q (.lst (xs.take i))) { s with heap := h' } := I.turned (t' := s.toks) (fun b o hb e => (sb.2 b hb).trans e) f0 f1 f3 f4 f5
    show wpAny _ A.in1 (updateSeq q (·.push u) >>= _) _ _ _
    obtain ⟨z, its2, n2, r2, l2, e2⟩ := I1.lstM upd_same
    have tl : (xs.take i).length = i := by rw [List.length_take]; omega
    have nq : it ≠ q := fun z => by rw [z, upd_same] at f0; cases f0
    have I2 := I1.lset (f := (·.push u)) (its' := its2 ++ [u]) (ys := xs.take i ++ [xs[i]]) (t' := s.toks) upd_same e2 (by simp) (r2.append (.cons ru .nil)) (by rw [List.length_append, List.length_singleton]; omega)
    rw [upd_upd] at I2
    have tk : xs.take i ++ [xs[i]] = xs.take (i + 1) := by rw [List.take_succ, hx]; rfl
    rw [tk] at I2
    refine wpAny_bind (wpAny_updateSeq e2 rfl (wpAny_pure ⟨plainId_quiet PySem.F.plain_extend_loop _, ih (i + 1) _ (by omega) hlt I2 ⟨by rw [upd_ne nq]; rw [upd_ne nq] at f0; exact f0, f1, f2, f3, f4, f5⟩ ?_⟩) (by rw [List.size_toArray]; omega) (by show (its2.toArray.push u).size ≤ sizeLine + 1; rw [Array.size_push, List.size_toArray]; omega))
    exact st'.at fun o e => (Heap.get?_update_other _ _ (Ne.symm nq)).trans e
end
/-! ### list(x) -/
/-- what list(x) asks: __iter__ hands out an iterator of a tuple of xs, __len__ some int, the heap stays -/
def rListO (K : PySem.W.Frag) (C : Addr) (spI : Nat → Sp) (spL : Sp) : List V → Hp → VK → Prop := fun vs H Q => ∃ a dx fs xs, vs = [.ref a] ∧ H a = some (.ins C dx fs) ∧ xs.length ≤ 1000 ∧
  (∀ n H' Q', Ex H H' → (∀ l it, SqT K H' l xs → H' it = none → n ≤ it → Q' (.ref it) (upd H' it (ItT l it))) → spI n [.ref a] H' Q' E0) ∧
  (∀ H' Q', Ex H H' → (∀ m : Int, 0 ≤ m → m ≤ 1000 → Q' (.int m) H') → spL [.ref a] H' Q' E0) ∧ ∀ q, H q = none → Q (.ref q) (upd H q (.lst xs))
/-- what a class needs for list(x) -/
structure ItK (K : PySem.W.Frag) (C fi fl : Addr) : Prop where
  it : PySem.W.findIn K (.ref C) "__iter__" = some (some (.ref fi))
  itF : PySem.W.isFn K (.ref fi) = true
  ln : PySem.W.findIn K (.ref C) "__len__" = some (some (.ref fl))
  lnF : PySem.W.isFn K (.ref fl) = true
section
variable {X : Cx} {k : Nat} {C fi fl : Addr} {psI psL : List Str} {spI : Nat → Sp} {spL : Sp}
/-- an own def run at a deeper place, Pre known -/
theorem run_pre {EE : Value → Shared → Prop} {Pre : Around → Shared → Prop} {pins : List (Addr × Obj)} {σ : L2.St} {H : Hp} {s : Shared} {Q : VK} {f : Addr} {ps : List Str} {sp : Sp} {A1 : Around} {us : List Value} {vs : List V} (G : OkP Pre X.prog X.w X.K X.mg X.base k f ps sp) (sb : Sub X k A1) (pre : Pre A1 s)
    (I : Inv X pins σ H s) (r : Vals vs us) (h : sp vs H Q E0) : wpAny (model X.prog X.w) A1 (call (.ref f) us) (EP X pins σ Q) EE s := by
  obtain ⟨fd, hb, hlen, run⟩ := G
  have e0 : Env0 X.prog X.w X.K X.mg X.base A1 X.stack s H := by
    have e := I.env0
    exact ⟨by rw [sb.fr]; exact e.frames, e.mod, e.bs, e.bsz, e.funs, e.frf, e.hok, e.bare⟩
  have hl : (us ++ []).length = ps.length := by
    rw [List.append_nil, ← r.length]
    exact hlen _ _ _ _ h
  have hb' := hb s us I.kIn hl
  rw [List.append_nil] at hb'
  refine wpAny_call (codeAny_mono (run A1 X.stack s H ⟨us, []⟩ us vs Q E0 pre sb.room e0 hb' r h) fun rr s' hq => ?_)
  cases rr with
  | error e => exact False.elim hq
  | ok fl =>
    cases fl with
    | ret u => exact I.after hq
    | next => exact False.elim hq
    | brk => exact False.elim hq
    | cont => exact False.elim hq
/-- the same for a def without a Pre; nothing is let out -/
theorem run_sub {EE : Value → Shared → Prop} {pins : List (Addr × Obj)} {σ : L2.St} {H : Hp} {s : Shared} {Q : VK} {f : Addr} {ps : List Str} {sp : Sp} {A1 : Around} {us : List Value} {vs : List V} (G : Okf X.prog X.w X.K X.mg X.base k f ps sp) (sb : Sub X k A1)
    (I : Inv X pins σ H s) (r : Vals vs us) (h : sp vs H Q E0) : wpAny (model X.prog X.w) A1 (call (.ref f) us) (EP X pins σ Q) EE s := by
  obtain ⟨fd, F, hb⟩ := G
  have e0 : Env0 X.prog X.w X.K X.mg X.base A1 X.stack s H := by
    have e := I.env0
    exact ⟨by rw [sb.fr]; exact e.frames, e.mod, e.bs, e.bsz, e.funs, e.frf, e.hok, e.bare⟩
  have hl : (us ++ []).length = ps.length := by
    rw [List.append_nil, ← r.length]
    exact F.len _ _ _ _ h
  have hb' := hb s us I.kIn hl
  rw [List.append_nil] at hb'
  refine wpAny_call (codeAny_mono (F.run A1 X.stack s H ⟨us, []⟩ us vs Q E0 sb.room e0 hb' r h) fun rr s' hq => ?_)
  cases rr with
  | error e =>
    obtain ⟨_, _, _, _, _, _, _, _, _, _, _, _, z⟩ := hq
    exact z.elim
  | ok fl =>
    cases fl with
    | ret u => exact I.after hq
    | next => exact False.elim hq
    | brk => exact False.elim hq
    | cont => exact False.elim hq
theorem own_lenHint {EE : Value → Shared → Prop} {pins : List (Addr × Obj)} {σ : L2.St} {H : Hp} {s : Shared} {A1 : Around} {a dx : Addr} {fs : List (Str × V)} {R : Bool → Shared → Prop} (c : ItK X.K C fi fl) (GL : Okf X.prog X.w X.K X.mg X.base k fl psL spL) (sb : Sub X k A1.in1) (I : Inv X pins σ H s) (ha : H a = some (.ins C dx fs))
    (hL : ∀ Q', (∀ m : Int, 0 ≤ m → m ≤ 1000 → Q' (.int m) H) → spL [.ref a] H Q' E0) (h : ∀ b s', Inv X pins σ H s' → R b s') : wpAny (model X.prog X.w) A1 (Builtin.List.listLengthHint (.ref a)) R EE s := by
  obtain ⟨mA, J, _⟩ := ins_get I.hok ha
  obtain ⟨od, J, _⟩ := J.look
  obtain ⟨m, hF⟩ := I.fr
  unfold Builtin.List.listLengthHint
  refine wpAny_bind (wpAny_bind (J.type.here ((PySem.W.looks_findIn I.kIn c.ln).here ?_)))
  refine PySem.W.KFB.if_not rfl ?_
  rw [if_pos (show (some (Value.ref fl)).isSome = true from rfl)]
  refine wpAny_bind (wpAny_rule ?_)
  refine wpAny_bind (wpAny_attempt (PySem.W.len_K hF I.ok.mod.kin J c.ln c.lnF (wpAny_mono (run_sub (us := [.ref a]) (vs := [.ref a]) (Q := fun v H' => (∃ m : Int, v = .int m ∧ 0 ≤ m ∧ m ≤ 1000) ∧ H' = H) GL sb I (.cons rfl .nil) (hL _ fun m h0 h1 => ⟨⟨m, rfl, h0, h1⟩, rfl⟩)) (fun v s' hv => ?_) fun e s' he => he)))
  obtain ⟨z, H', I', rz, ⟨n, rfl, h0, h1⟩, rfl⟩ := hv
  obtain ⟨t, rfl⟩ := rz
  refine ⟨⟨h0, by omega⟩, ?_⟩
  refine wpAny_bind (m := asInt? (.int n s'.toks)) (wpAny_pure ?_)
  refine PySem.W.KFB.if_not (notLongL (by have : (1000 : Nat) ≤ sizeLine := (by decide); omega)) ?_
  exact wpAny_pure (h _ _ (I'.tok _))
theorem k_listO {K : PySem.W.Frag} (hK : X.K = K) (hc : X.calm = true) (c : ItK X.K C fi fl) (GI : ∀ n, OkP (fun _ s => n ≤ s.heap.objs.size) X.prog X.w X.K X.mg X.base k fi psI (spI n)) (GL : Okf X.prog X.w X.K X.mg X.base k fl psL spL) (hr : Room (k + 3) X.A) :
    CallR X (.type "list") (rListO K C spI spL) := by
  subst hK
  intro pins s σ H xs us Q I rv h
  obtain ⟨a, dx, fs, zs, rfl, ha, hz, hI, hL, q⟩ := h
  obtain ⟨u, rfl, ru⟩ := rv.one
  cases ru
  have sb3 : Sub X (k + 1) X.A.in1.in1 := (Sub.in1 (Sub.in1 (⟨hr, rfl⟩ : Sub X (k + 3) X.A)))
  have sb2 : Sub X k X.A.in1.in1 := sb3.mono (Nat.le_succ _)
  have line : (1000 : Nat) < sizeLine := by decide
  refine callType_codes (Q₁ := fun obj s₁ => obj = .ref s.heap.objs.size ∧ s₁ = { s with heap := s.heap.push { cls := .type "list", data := .seq #[] } }) PySem.F.called_list (PySem.F.typeCall_list_1 _) PySem.F.entry_list_init
    (code_list_new _ ⟨rfl, rfl⟩) fun obj s₁ h₁ => ?_
  obtain ⟨rfl, rfl⟩ := h₁
  have hS : (s.heap.push { cls := .type "list", data := .seq #[] }).get? s.heap.objs.size = some { cls := .type "list", data := .seq #[] } := Heap.get?_push_size _ rfl
  refine ⟨⟨_, hS, rfl⟩, PySem.F.args_list_init_2 _ _, ?_⟩
  have fr : H s.heap.objs.size = none := I.hok.fresh (Nat.le_refl _)
  have I1 : Inv X pins σ (upd H s.heap.objs.size (.lst [])) { s with heap := s.heap.push { cls := .type "list", data := .seq #[] } } := I.lnew (its := []) (t' := s.toks) .nil (Nat.zero_le _)
  show wpAny _ _ (do let old ← Builtin.List.listItems (.ref s.heap.objs.size); Builtin.List.listUpdate (.ref s.heap.objs.size) (fun _ => #[]); letGo old.toList.reverse; Builtin.List.listExtendWith (.ref s.heap.objs.size) (.ref a) .none) _ _ _
  refine wpAny_bind ?_
  unfold Builtin.List.listItems
  refine wpAny_bind (wpAny_seqItems hS rfl (wpAny_pure ?_))
  show wpAny _ _ (updateSeq s.heap.objs.size (fun _ => #[]) >>= fun _ => letGo (#[] : Array Value).toList.reverse >>= fun _ => Builtin.List.listExtendWith (.ref s.heap.objs.size) (.ref a) .none) _ _ _
  refine wpAny_bind (wpAny_updateSeq hS rfl ?_)
  have I2 := I1.lset (f := fun _ => #[]) (its := []) (its' := []) (ys := []) (t' := s.toks) upd_same hS rfl .nil (Nat.zero_le _)
  rw [upd_upd] at I2
  refine wpAny_bind (wpAny_letGo ?_)
  have eq0 : Ex H (upd H s.heap.objs.size (.lst [])) := Ex.new fr
  have hs2 : s.heap.objs.size ≤ ((s.heap.push { cls := .type "list", data := .seq #[] }).update s.heap.objs.size (Obj.mapSeq (fun _ => (#[] : Array Value)))).objs.size := by
    have e := Heap.get?_update_self (Obj.mapSeq (fun _ => (#[] : Array Value))) hS rfl
    exact Nat.le_of_lt (Heap.lt_size e)
  have ha2 : upd H s.heap.objs.size (.lst []) a = some (.ins C dx fs) := eq0 _ _ ha
  generalize hQ0 : s.heap.objs.size = p at *
  have hne : p ≠ a := ne_of (upd_same (H := H) (a := p) (o := .lst [])) ha2 (fun z => nomatch z)
  obtain ⟨mA, J, _⟩ := ins_get I2.hok ha2
  obtain ⟨od, J, _⟩ := J.look
  obtain ⟨m0, hF⟩ := I2.fr
  unfold Builtin.List.listExtendWith
  refine wpAny_bind (J.type.here ?_)
  have h1 : Builtin.List.listSameRef (.ref p) (.ref a) = false := by simp [Builtin.List.listSameRef, hne]
  have h2 : (Value.ref C == Value.type "list") = false := rfl
  have h3 : (Value.ref C == Value.type "tuple") = false := rfl
  simp only [h1, h2, h3, Bool.or_false, Bool.false_eq_true, if_false]
  refine wpAny_bind (PySem.W.owit_iter hF I2.ok.mod.kin J c.it c.itF ?_)
  refine wpAny_mono (run_pre (us := [.ref a]) (vs := [.ref a]) (Q := fun v H' => ∃ l it, v = .ref it ∧ SqT X.K (upd H p (.lst [])) l zs ∧ upd H p (.lst []) it = none ∧ X.s_0.heap.objs.size ≤ it ∧ H' = upd (upd H p (.lst [])) it (ItT l it)) (GI X.s_0.heap.objs.size) sb2 (I2.sz) I2 (.cons rfl .nil) (hI _ _ _ eq0 fun l it a1 a2 a3 => ⟨l, it, rfl, a1, a2, a3, rfl⟩)) (fun v s3 hv => ?_) fun e s' he => he
  obtain ⟨v', H3, I3, rv3, l, it, rfl, hl, hit, hn, rfl⟩ := hv
  cases rv3
  obtain ⟨hobj, _⟩ := (show ObjOk X.prog X.w _ s3.heap it (ItT l it) from I3.hok it _ upd_same)
  have hobj' : s3.heap.get? it = some { cls := .type "tuple_iterator", data := .fields #[.ref l, .int 0 0] } := hobj
  show wpAny _ _ (specialOf (.ref it) "__next__") _ _ _
  refine wpAny_specialOf (T := "tuple_iterator") ⟨_, hobj', rfl⟩ PySem.F.slot_tuple_iterator_next.lookup ?_
  have e3 : Ex H (upd (upd H p (.lst [])) it (ItT l it)) := eq0.trans (Ex.new hit)
  refine wpAny_bind (wpAny_holding (own_lenHint c GL (Sub.in1 sb3) I3 (e3 _ _ ha) (fun Q' hq' => hL _ _ e3 hq') fun b s4 I4 => ?_))
  have fp4 := ItX.inv_fp I4 upd_same hn
  have I5 := ItX.inv_drop I4 (a := it) (φ := fun h => h.get? it = some { cls := .type "tuple_iterator", data := .fields #[.ref l, .int 0 0] }) upd_same
  rw [ItX.dropH_upd hit] at I5 fp4
  obtain ⟨hobj4, _⟩ := (show ObjOk X.prog X.w _ s4.heap it (ItT l it) from I4.hok it _ upd_same)
  have st4 : s4.heap.IsTupleIter it l 0 := ⟨_, hobj4, rfl, rfl⟩
  have lq : p ≠ it := fun z => by rw [← z, upd_same] at hit; cases hit
  have fin : ∀ s5, Inv X pins σ (upd H p (.lst [])) s5 → s5.heap.IsTupleIter it l 0 → codeAny (model X.prog X.w) X.A.in1 (.builtin "list.extend.loop" ⟨[.ref p, .ref it, .none], []⟩) (wants (fun r s₂ => r = .none ∧ EP X pins σ Q (.ref p) s₂) X.xe) s5 := fun s5 J5 t5 => by
    have hl0 : SqT X.K H l zs := by
      rcases hl with (z | ⟨o, z⟩) | z
      · exact .inl (.inl (by rw [upd_ne (ne_of z upd_same (fun z => nomatch z))] at z; exact z))
      · exact .inl (.inr ⟨o, by rw [upd_ne (ne_of z upd_same (fun z => nomatch z))] at z; exact z⟩)
      · exact .inr z
    exact tl_loop (A := X.A.in1) (I.ok.hd hc) hl0 fr (by omega) (fun s6 J6 => ⟨rfl, .ref p, _, J6, rfl, q p fr⟩) zs.length 0 s5 rfl (Nat.zero_le _) J5 fp4 t5
  obtain ⟨z6, its6, k6, r6, hl6, e6⟩ := I5.lstM upd_same
  cases r6
  refine wpAny_ite_split (fun _ => ?_) (fun _ => wpAny_pure ⟨plainId_quiet PySem.F.plain_extend_loop _, fin s4 I5 st4⟩)
  refine wpAny_bind (wpAny_rule ?_)
  refine wpAny_bind ?_
  show wpAny _ _ (updateSeq p (·.push .none) >>= fun _ => updateSeq p (·.pop)) _ _ _
  refine wpAny_bind (wpAny_updateSeq e6 rfl ?_)
  have I7 := I5.lset (f := (·.push Value.none)) (its' := [Value.none]) (ys := [.non]) (t' := s4.toks) upd_same e6 (by simp) (.cons rfl .nil) (by rw [List.length_singleton, sizeLine_eq]; decide)
  obtain ⟨z8, its8, k8, r8, hl8, e8⟩ := I7.lstM upd_same
  obtain ⟨u8, rfl, ru8⟩ := r8.one
  refine wpAny_updateSeq e8 rfl ?_ (by show 1 ≤ sizeLine; rw [sizeLine_eq]; decide) (by show 0 ≤ sizeLine + 1; exact Nat.zero_le _)
  have I9 := I7.lset (f := (·.pop)) (its := [u8]) (its' := []) (ys := []) (t' := s4.toks) upd_same e8 (by rfl) .nil (Nat.zero_le _)
  rw [upd_upd, upd_upd] at I9
  refine wpAny_pure ⟨plainId_quiet PySem.F.plain_extend_loop _, fin _ I9 ?_⟩
  exact st4.at fun o e => (Heap.get?_update_other _ _ lq).trans ((Heap.get?_update_other _ _ lq).trans e)
end
end Hn

/-! repr of data: where no guard stands around; the law's head for such defs. -/
namespace Hn
open PySem PySem.Spec PyProof.Rows L2 Evl
/-- no guard stands around -/
def NoG (A : Around) (_ : Shared) : Prop := A.guards = some []
/-- data that is shown in few signs: made of ints of at most 40 digits -/
structure Fine (d : PyData) (w : Nat) : Prop where
  sh : d.showable = true
  nd : d.hasDict = false
  ls : d.leavesShort 41 = true
  wt : d.weight ≤ w
theorem Fine.mono {d : PyData} {w v : Nat} (h : Fine d w) (e : w ≤ v) : Fine d v := ⟨h.sh, h.nd, h.ls, Nat.le_trans h.wt e⟩
theorem log_40 {i : Int} (h : i.natAbs < 10 ^ 40) : i.natAbs.log2 < 140 := by
  by_cases z : i.natAbs = 0
  · rw [z]
    decide
  · exact (Nat.log2_lt z).mpr (Nat.lt_trans h (by decide))
theorem fine_int {i : Int} (h : i.natAbs < 10 ^ 40) : Fine (.int i) 200 := by
  have hl := log_40 h
  refine ⟨?_, ?_, ?_, ?_⟩
  · simp only [PyData.showable]
    exact decide_eq_true (by omega)
  · simp only [PyData.hasDict]
  · simp only [PyData.leavesShort]
    have e := int_text_length_le10 (k := 40) (by decide) h
    refine decide_eq_true ?_
    show (Str.ofString (toString i)).length ≤ 41
    rw [PySem.ofString_length]
    exact e
  · simp only [PyData.weight]
    split <;> omega
theorem fine_small {i : Int} (h : i.natAbs < 1000) : Fine (.int i) 11 := by
  have f := fine_int (i := i) (Nat.lt_trans h (by decide))
  refine ⟨f.sh, f.nd, f.ls, ?_⟩
  simp only [PyData.weight]
  split
  · omega
  · by_cases z : i.natAbs = 0
    · rw [z]
      decide
    · have : i.natAbs.log2 < 10 := (Nat.log2_lt z).mpr (Nat.lt_trans h (by decide))
      omega
theorem fine_bool (b : Bool) : Fine (.bool b) 0 := ⟨rfl, rfl, rfl, Nat.le_refl _⟩
theorem fine_none : Fine .none 0 := ⟨rfl, rfl, rfl, Nat.le_refl _⟩
theorem fine_all {w : Nat} : ∀ {ds : List PyData}, (∀ d ∈ ds, Fine d w) → PyData.showableAll ds = true ∧ PyData.hasDictAll ds = false ∧ PyData.leavesShortAll 41 ds = true ∧ PyData.weightAll ds ≤ ds.length * (w + 1)
  | [], _ => ⟨rfl, rfl, rfl, Nat.zero_le _⟩
  | d :: ds, h => by
    have hd := h d List.mem_cons_self
    obtain ⟨a, b, c, e⟩ := fine_all (ds := ds) fun x hx => h x (List.mem_cons_of_mem _ hx)
    refine ⟨?_, ?_, ?_, ?_⟩
    · simp only [PyData.showableAll, hd.sh, a, Bool.and_self]
    · simp only [PyData.hasDictAll, hd.nd, b, Bool.or_self]
    · simp only [PyData.leavesShortAll, hd.ls, c, Bool.and_self]
    · simp only [PyData.weightAll, List.length_cons]
      have := hd.wt
      rw [Nat.add_mul, Nat.one_mul]
      omega
theorem fine_list {w n : Nat} {ds : List PyData} (h : ∀ d ∈ ds, Fine d w) (hn : ds.length ≤ n) : Fine (.list ds) (n * (w + 1)) := by
  obtain ⟨a, b, c, e⟩ := fine_all h
  refine ⟨by simp only [PyData.showable]; exact a, by simp only [PyData.hasDict]; exact b, by simp only [PyData.leavesShort]; exact c, ?_⟩
  simp only [PyData.weight]
  exact Nat.le_trans e (Nat.mul_le_mul_right _ hn)
theorem fine_tuple {w n : Nat} {ds : List PyData} (h : ∀ d ∈ ds, Fine d w) (hn : ds.length ≤ n) : Fine (.tuple ds) (n * (w + 1)) := by
  obtain ⟨a, b, c, e⟩ := fine_all h
  refine ⟨by simp only [PyData.showable]; exact a, by simp only [PyData.hasDict]; exact b, by simp only [PyData.leavesShort]; exact c, ?_⟩
  simp only [PyData.weight]
  exact Nat.le_trans e (Nat.mul_le_mul_right _ hn)
theorem fine_ints {ns : List Int} {n : Nat} (h : ∀ z ∈ ns, z.natAbs < 10 ^ 40) (hn : ns.length ≤ n) : Fine (PySem.W.Datum.toD ns) (n * 201) :=
  fine_list (fun d hd => by
    obtain ⟨z, hz, rfl⟩ := List.mem_map.mp hd
    exact fine_int (h z hz)) (by rw [List.length_map]; exact hn)
theorem fine_smalls {ns : List Int} {n : Nat} (h : ∀ z ∈ ns, z.natAbs < 1000) (hn : ns.length ≤ n) : Fine (PySem.W.Datum.toD ns) (n * 12) :=
  fine_list (fun d hd => by
    obtain ⟨z, hz, rfl⟩ := List.mem_map.mp hd
    exact fine_small (h z hz)) (by rw [List.length_map]; exact hn)
/-- rows of small ints, one behind another -/
theorem fine_rows {rs : List (List Int)} {n m : Nat} (h : ∀ r ∈ rs, (∀ z ∈ r, z.natAbs < 1000) ∧ r.length ≤ n) (hm : rs.length ≤ m) : Fine (PySem.W.Datum.toD rs) (m * (n * 12 + 1)) :=
  fine_list (fun d hd => by
    obtain ⟨r, hr, rfl⟩ := List.mem_map.mp hd
    exact fine_smalls (h r hr).1 (h r hr).2) (by rw [List.length_map]; exact hm)
theorem Fine.len {d : PyData} {w : Nat} (h : Fine d w) (hw : w ≤ 300000) : d.shown.length ≤ 12900041 := by
  have e := PyData.shown_le 41 (by decide) d h.ls
  have := h.wt
  omega
def rRepr (K : PySem.W.Frag) : List V → Hp → VK → Prop := fun vs H Q => ∃ x d, vs = [x] ∧ Dp K H x d ∧ d.showable = true ∧ d.hasDict = false ∧ d.depth ≤ 64 ∧ d.shown.length ≤ 12900041 ∧ Q (.str d.shown) H
section
variable {X : Cx} {K : PySem.W.Frag} {k : Nat}
theorem k_repr (hK : X.K = K) (hg : X.A.guards = some []) (hr : Room k X.A) : CallR X (.builtin "repr") (rRepr K) := by
  subst hK
  intro pins s σ H vs us Q I r h
  obtain ⟨x, d, rfl, hd, hs, hn, hdp, hz, q⟩ := h
  obtain ⟨u, rfl, ru⟩ := r.one
  obtain ⟨as, rd⟩ := Dp.reads I d x u hd ru
  have un := hr.un
  have line : (12900041 : Nat) ≤ sizeLine := by decide
  have go : ∀ h' t' tk, (∀ b o, s.heap.get? b = some o → h'.get? b = some o) → EP X pins σ Q (.str d.shown t') { s with heap := h', toks := tk } := fun h' t' tk hk => ⟨.str d.shown, H, I.kept hk, ⟨_, rfl⟩, q⟩
  cases hd with
  | non => cases ru; exact PySem.P.repr_of_none (go s.heap _ _ fun _ _ e => e)
  | bl b =>
    cases ru
    refine PySem.P.repr_of_bool ?_
    have := go s.heap s.toks (s.toks + 1) fun _ _ e => e
    simp only [PyData.shown] at this
    cases b <;> exact this
  | int i =>
    obtain ⟨t, rfl⟩ := ru
    simp only [PyData.showable, decide_eq_true_eq] at hs
    refine PySem.P.repr_of_int hs ?_
    have := go s.heap s.toks (s.toks + 1) fun _ _ e => e
    simp only [PyData.shown] at this
    exact this
  | str y =>
    obtain ⟨t, rfl⟩ := ru
    simp only [PyData.shown] at go hz
    exact PySem.P.repr_of_str (go s.heap _ _ fun _ _ e => e) (by omega)
  | lst a b =>
    cases ru
    exact repr_of_reads' rd hs (PyData.noDict_hsm hn) hg (by omega) (fun _ _ e => e) go (by omega)
  | tup a b =>
    cases ru
    exact repr_of_reads' rd hs (PyData.noDict_hsm hn) hg (by omega) (fun _ _ e => e) go (by omega)
theorem r_repr {H : Hp} {Q : VK} {x : V} {d : PyData} {w : Nat} (h : Dp K H x d) (f : Fine d w) (hw : w ≤ 300000) (hd : d.depth ≤ 64) (q : Q (.str d.shown) H) : rRepr K [x] H Q := ⟨x, d, rfl, h, f.sh, f.nd, hd, f.len hw, q⟩
theorem r_reprH {α : Type} [DecidableEq α] [PySem.W.Datum α] {H : Hp} {Q : VK} {x : V} {u : α} {w : Nat} (h : Hd K H x u) (f : Fine (PySem.W.Datum.toD u) w) (hw : w ≤ 300000) (q : Q (.str (PySem.W.Datum.toD u).shown) H) (hd : PySem.W.Datum.depth α ≤ 64 := by decide) : rRepr K [x] H Q :=
  r_repr h f hw (Nat.le_trans (PySem.W.Datum.depth_le u) hd) q
theorem r_eqS {H : Hp} {Q : VK} {a b : Str} (q : Q (.bl (decide (a = b))) H) : rEq (.str a) (.str b) H Q := by
  refine ⟨rfl, ?_⟩
  have e : decide (V.str a = V.str b) = decide (a = b) := by rw [Bool.eq_iff_iff]; simp
  rw [e]
  exact q
theorem r_neS {H : Hp} {Q : VK} {a b : Str} (q : Q (.bl (!decide (a = b))) H) : rNe (.str a) (.str b) H Q := by
  refine ⟨rfl, ?_⟩
  have e : decide (V.str a = V.str b) = decide (a = b) := by rw [Bool.eq_iff_iff]; simp
  rw [e]
  exact q
end
section
variable {X : Cx} {k : Nat} {f C : Addr} {ps : List Str} {sp : Sp} {x m : Str} {p pos apos : Pos} {e o : Expr} {es : List Expr} {ta : TE} {t : TA} {Pre : Around → Shared → Prop}
/-- a call of a def that asks for Pre -/
theorem pg_call (G : OkP Pre X.prog X.w X.K X.mg X.base k f ps sp) (hp : ∀ s, Pre X.A s) (hr : Room k X.A) (hg : Gl X x) (hm : X.mg x = some (.ref f)) (hk : PySem.W.keepIn X.K (.ref f) = true)
    (ha : PA X (e :: es) t) (hdb : (x == ("__debug__" : Str)) = false := by decide) (he : starEach (e :: es) X.env = (false, eval e X.env) :: starEach es X.env := by rfl) (hpl : (backTo pos (starEach es X.env)).any (·.1) = false := by rfl) :
    PE X (.Call (.Name x p) (e :: es) [] pos) (tCall sp [] E0 t) := by
  refine ⟨fun pins s σ H Q I h => ?_⟩
  refine wpAny_Call_Name_kw (ld_glob I hg hm ?_ hdb)
  refine PySem.W.callWith_K (h₀ := X.base) I.ok.mod.kin hk (thn (ha.run pos pins s σ H _ I h) fun us s1 ⟨vs, H1, I1, r, q⟩ => ⟨I1.kIn, ?_⟩) he hpl
  replace q : sp (vs ++ []) H1 Q E0 := q
  rw [List.append_nil] at q
  exact run_pre G ⟨hr, rfl⟩ (hp s1) I1 r q
end
/-! ### the head of such a law -/
section
variable {P : Program} {w : World} {K : PySem.W.Frag} {mg mb : Str → Option Value} {k : Nat} {fa a : Addr} {x : Str} {sp : Sp} {st : Shared} {vs : List Value} {ns : List Int}
/-- behind the top, with nothing tracked but the script (or nothing at all) -/
theorem head_at (kin : K.In st.heap) (gl : st.heap.Ns mainGlobals mg) (bl : st.heap.Ns builtinsNs mb) (bb : ∀ y : Str, y ≠ "__name__" → mb y = bootBuiltins y) (lim : st.heap.NoLimit) (gens : st.gens = #[])
    (obj : st.heap.get? a = some { cls := .type "list", data := .seq vs.toArray }) (room : Room k callerA) (F : ∀ base : Heap, K.In base → base.Ns mainGlobals mg → OkP NoG P w K mg base k fa [x] sp)
    (H : Hp) (only : Only H) (hsp : sp [.ref a] H (fun v _ => v = .bl true) E0) (ok : HOk P w H st.heap) (one : ∀ b, H b ≠ none → b = a) (own : H a ≠ none → K.lookup a = none) :
    codeAny (model P w) callerA (.call (.ref fa) ⟨[.ref a], []⟩) (fun r s' => r = .ok (.ret (.bool true)) ∧ OldK st.heap s'.heap ∧ s'.os = st.os ∧ AllBare s'.gens) st := by
  have below : ∀ {b : Addr} {ob : Obj}, st.heap.get? b = some ob → H b = none → (hidT st.heap H).get? b = some ob := fun g n => hidT_get g n
  have plain : ∀ {b : Addr} {ob : Obj} {es : Array DictEntry} {ep : Nat}, st.heap.get? b = some ob → ob.data = .dict es ep → H b = none := by
    intro b ob es ep g hd
    by_cases hb : H b = none
    · exact hb
    · obtain rfl := one b hb
      rw [obj] at g
      cases g
      exact absurd (show Data.seq vs.toArray _ = Data.dict es ep from hd) (fun z => by cases z)
  have names : ∀ {b : Addr} {m : Str → Option Value}, st.heap.Ns b m → (hidT st.heap H).Ns b m := fun {b m} ⟨ob, es, ep, g, hd, r⟩ => ⟨ob, es, ep, below g (plain g hd), hd, r⟩
  have kinB : K.In (hidT st.heap H) := fun b ob g => below (kin b ob g) (by
    by_cases hb : H b = none
    · exact hb
    · obtain rfl := one b hb
      rw [own hb] at g
      cases g)
  have md : Mod K mg (hidT st.heap H) := ⟨kinB, names gl, ⟨mb, names bl, bb⟩, let ⟨mc, h1, h2⟩ := lim; ⟨mc, names h1, h2⟩⟩
  have env : Env0 P w K mg (hidT st.heap H) callerA [] st H := ⟨rfl, md, fun b ob g => of_hidT g, Nat.le_of_eq (hidT_size _ _), trivial, fun b hb => absurd (show b ∈ ([] : List Addr) from hb) (by simp), ok, .of_eq gens⟩
  obtain ⟨fd, bd, _, run⟩ := F _ kinB (names gl)
  have bnd := bd st [.ref a] kin rfl
  refine codeAny_mono (run callerA [] st H ⟨[.ref a], []⟩ [.ref a] [.ref a] _ _ rfl room env bnd (.cons rfl .nil) hsp) fun r s' h => ?_
  cases r with
  | error e => exact False.elim h
  | ok fl =>
    cases fl with
    | next => exact False.elim h
    | brk => exact False.elim h
    | cont => exact False.elim h
    | ret u =>
      obtain ⟨v, H', os, bare, un, ok', rel, rfl⟩ := h
      obtain rfl : u = Value.bool true := rel
      refine ⟨rfl, OldK.of_keep fun b ob g => ?_, os, bare⟩
      rcases only b with z | ⟨o2, zs, z⟩
      · exact un.keep b ob g z (by intro y; exact absurd (show b ∈ ([] : List Addr) from y) (by simp)) (by simp)
      · obtain ⟨g1, _⟩ := ok b _ z
        obtain ⟨g2, _⟩ := ok' b _ (un.frzs b o2 _ z)
        rw [g] at g1
        cases g1
        exact g2
theorem head_law (kin : K.In st.heap) (gl : st.heap.Ns mainGlobals mg) (bl : st.heap.Ns builtinsNs mb) (bb : ∀ y : Str, y ≠ "__name__" → mb y = bootBuiltins y) (lim : st.heap.NoLimit) (gens : st.gens = #[])
    (obj : st.heap.get? a = some { cls := .type "list", data := .seq vs.toArray }) (inn : IntsAre vs ns) (ln : ns.length ≤ sizeLine) (room : Room k callerA) (F : ∀ base : Heap, K.In base → base.Ns mainGlobals mg → OkP NoG P w K mg base k fa [x] sp)
    (hsp : ∀ H : Hp, SqL K H a (ns.map V.int) → sp [.ref a] H (fun v _ => v = .bl true) E0) :
    codeAny (model P w) callerA (.call (.ref fa) ⟨[.ref a], []⟩) (fun r s' => r = .ok (.ret (.bool true)) ∧ OldK st.heap s'.heap ∧ s'.os = st.os ∧ AllBare s'.gens) st := by
  have rel := vals_ints inn
  have sz := inn.length
  cases hk : K.lookup a with
  | some ob =>
    have g := kin a ob hk
    rw [obj] at g
    cases g
    refine head_at kin gl bl bb lim gens obj room F (fun _ => none) (fun _ => .inl rfl) (hsp _ (.inr ⟨_, vs.toArray, _, hk, rfl, rfl, rfl, by rw [List.size_toArray, sz]; exact ln, by simpa using rel⟩)) (fun b u z => ?_) (fun b z => absurd rfl z) fun z => absurd rfl z
    exact absurd (show (none : Option HO) = some u from z) (by simp)
  | none =>
    have e : ∀ b, (upd (fun _ => none) a (.frz { cls := .type "list", data := .seq vs.toArray } (.lst (ns.map V.int)))) b = if b = a then some (.frz { cls := .type "list", data := .seq vs.toArray } (.lst (ns.map V.int))) else none := fun b => by
      by_cases hb : b = a
      · rw [if_pos hb, hb, upd_same]
      · rw [if_neg hb, upd_ne hb]
    refine head_at kin gl bl bb lim gens obj room F (upd (fun _ => none) a (.frz { cls := .type "list", data := .seq vs.toArray } (.lst (ns.map V.int)))) (fun b => ?_) (hsp _ (.inl (.inr ⟨_, upd_same⟩))) (fun b u z => ?_) (fun b z => ?_) fun _ => hk
    · by_cases hb : b = a
      · exact .inr ⟨_, _, by rw [hb, upd_same]⟩
      · exact .inl (by rw [upd_ne hb])
    · by_cases hb : b = a
      · subst hb
        rw [upd_same] at z
        cases z
        exact ⟨obj, by rw [List.length_map]; exact ln, vs, _, rel, obj⟩
      · rw [upd_ne hb] at z
        cases z
    · by_cases hb : b = a
      · exact hb
      · exact absurd (by rw [upd_ne hb]) z
end
theorem walkG {l : PySem.W.OpenLaw} {n k : Nat} {q : Program} {loose : List Str} {XP : (Str → Option Value) → Heap → Prop} {YP : World → Heap → Prop} {d : DefRec} {K : Params → PySem.W.Frag} {x : Str} {sp : World → Sp}
    (most : l.most = some n) (line : n ≤ sizeLine) (nodf : d.params.defaults = []) (room : Room k callerA) (kin : ∀ (w : World) (h : Heap), YP w h → (K w.params).In h)
    (F : ∀ (w : World) (mg : Str → Option Value) (fa : Addr) (h : Heap), (K w.params).In h → h.Ns mainGlobals mg → mg d.name = some (.ref fa) → ∀ base : Heap, (K w.params).In base → base.Ns mainGlobals mg → OkP NoG l.prog w (K w.params) mg base k fa [x] (sp w))
    (hsp : ∀ (w : World) (H : Hp) (a : Addr) (ns : List Int), ns.length ≤ n → SqL (K w.params) H a (ns.map V.int) → sp w [.ref a] H (fun v _ => v = .bl true) E0) : PySem.W.WalkO q loose XP YP l.row.toRowW d [] (fun f vs => PySem.call f vs) := by
  refine Att.attach_call most nodf fun w s₀ s₁ mg mb fa o pm cd doc a vs ns G Y _ _ _ hmg obj inn len gens => ?_
  have kX := kin w _ Y
  exact head_law kX G.T.g G.T.b G.T.builtins G.T.nolimit gens obj inn (Nat.le_trans len line) room (F w mg fa _ kX G.T.g hmg) fun H hS => hsp w H a ns len hS
end Hn

/-! Static methods by the class; list(range(n)); clocks compared. -/
namespace Hn
open PySem PySem.Spec PyProof.Rows L2 Evl
/-- C.m is a staticmethod: its record at p, its def at g -/
structure SMet (K : PySem.W.Frag) (C : Addr) (mc : Value) (m : Str) (p g : Addr) : Prop where
  rd : PySem.W.readsIn K C mc = true
  ga : PySem.W.specialIn K (.ref C) "__getattribute__" = some (some (.builtin "type.__getattribute__"))
  at_ : PySem.W.findCls K (.ref C) mc m = some (.get (.builtin "staticmethod.__get__") (.ref p) .none (.ref C))
  rc : ∃ rest, PySem.W.recIn K p "staticmethod" = some (.ref g :: rest)
def tSMeth (C : Addr) (sp : Sp) (ta : TE) (t : TA) : TE := fun σ H Q => ta σ H fun x H1 => x = .ref C ∧ t σ H1 fun vs H2 => sp vs H2 Q E0
section
variable {X : Cx} {k : Nat} {C p g : Addr} {mc : Value} {ps : List Str} {sp : Sp} {o e : Expr} {es : List Expr} {m : Str} {pos apos : Pos} {ta : TE} {t : TA} {pl : Sem Bool}
theorem pe_static (he : PE X o ta) (c : SMet X.K C mc m p g) (hk : PySem.W.keepIn X.K (.ref g) = true) (G : Okf X.prog X.w X.K X.mg X.base k g ps sp) (hr : Room k X.A) (ha : PA X (e :: es) t)
    (hst : starEach (e :: es) X.env = (false, eval e X.env) :: starEach es X.env := by rfl) (hpl : (backTo pos (starEach es X.env)).any (·.1) = false := by rfl)
    (ht : eval (.Call (.Attribute o m apos) (e :: es) [] pos) X.env = (do
      let ov ← eval o X.env
      standAt apos.atName
      let (f, first) ← holding [ov] (getMethod ov m pl)
      callWith pos f first (backTo pos (starEach (e :: es) X.env)) (backToKw pos (keywordEach [] X.env))) := by rfl) :
    PE X (.Call (.Attribute o m apos) (e :: es) [] pos) (tSMeth C sp ta t) := by
  refine ⟨fun pins s σ H Q I h => ?_⟩
  refine PySem.W.methodCall_KW (pl := pl) (thn (he.run pins s σ H _ I h) fun u s1 ⟨x, H1, I1, rx, ex, q⟩ => ?_) ht
  subst ex
  obtain rfl : u = Value.ref C := rx
  obtain ⟨rest, hp⟩ := c.rc
  refine PySem.W.method_cls I1.kIn c.ga (PySem.W.cls_bind I1.kIn c.rd c.at_ (wpAny_call (PySem.W.sm_get (s := { s1 with toks := s1.toks + 1 }) I1.kIn hp (PySem.W.handed_on rfl ?_))))
  have I2 : Inv X pins σ H1 { s1 with toks := s1.toks + 1 } := I1.tok _
  refine PySem.W.callWith_K (h₀ := X.base) I2.ok.mod.kin hk (thn (ha.run pos pins _ σ H1 _ I2 q) fun us s3 ⟨vs, H2, I3, rv, q2⟩ => ⟨I3.kIn, ?_⟩) hst hpl
  exact run_sub G ⟨hr, rfl⟩ I3 rv q2
end
section
variable {σ : L2.St} {H : Hp} {Q : VK} {C : Addr} {sp : Sp} {ta : TE} {ar : TA} {x : V}
theorem r_smeth (h : ta σ H fun x H1 => x = .ref C ∧ ar σ H1 fun vs H2 => sp vs H2 Q E0) : tSMeth C sp ta ar σ H Q := h
theorem r_isC {p : Prop} (h : p) : V.ref C = .ref C ∧ p := ⟨rfl, h⟩
theorem r_lstRg {te : L2.St → Hp → (Int → Int → Hp → Prop) → Prop} (h : te σ H fun a b H1 => RgOk a b ∧ ∀ q, H1 q = none → Q (.ref q) (upd H1 q (.lst (rgV a b)))) : tLstRg te σ H Q := h
theorem r_rg1 {q : Int → Int → Hp → Prop} (h : ta σ H fun x H1 => ∃ n, x = .int n ∧ q 0 n H1) : tRg1 ta σ H q := h
theorem rgV0 (n : Nat) : rgV 0 (n : Int) = ((List.range n).map fun (i : Nat) => ((i : Nat) : Int)).map V.int := by
  unfold rgV
  rw [Int.sub_zero, Int.toNat_natCast, List.map_map]
  refine List.map_congr_left fun i _ => ?_
  show V.int (0 + (i : Int)) = V.int (i : Int)
  rw [Int.zero_add]
end
section
variable {K : PySem.W.Frag} {C : Addr} {H : Hp} {v w : V} {s t : List Int} {sp : Sp} {E : XK} {Q : VK}
theorem r_clk2 (h : Clk K C H v s) (h' : Clk K C H w t) (q : sp [v, w] H Q E) : rOwn C sp E v w H Q := by
  obtain ⟨x, dx, a, b, rfl, hp, _⟩ := h
  obtain ⟨y, dy, a', b', rfl, hq, _⟩ := h'
  exact ⟨x, y, dx, dy, _, _, rfl, rfl, hp, hq, q⟩
theorem r_clk2N (h : Clk K C H v s) (h' : Clk K C H w t) (q : sp [v, w] H (fun x H' => ∃ r, x = .bl r ∧ Q (.bl (!r)) H') E) : rOwnNe C sp E v w H Q := by
  obtain ⟨x, dx, a, b, rfl, hp, _⟩ := h
  obtain ⟨y, dy, a', b', rfl, hq, _⟩ := h'
  exact ⟨x, y, dx, dy, _, _, rfl, rfl, hp, hq, q⟩
theorem r_clkL (h : Clk K C H v s) (q : sp [v] H (fun x H' => ∃ n : Int, x = .int n ∧ 0 ≤ n ∧ n < 2 ^ 63 ∧ Q (.int n) H') E) : rLenO C sp E [v] H Q := by
  obtain ⟨x, dx, a, b, rfl, hp, _⟩ := h
  exact ⟨x, dx, _, rfl, hp, q⟩
end
end Hn

/-! for x in own; own == anything. -/
namespace Hn
open PySem PySem.Spec PyProof.Rows L2 Evl
/-- an own thing walked: __iter__ hands out an iterator of a tuple of xs -/
def iOwn (K : PySem.W.Frag) (C : Addr) (spI : Nat → Sp) (tl : TE) : TI := fun σ H R => tl σ H fun x H1 => ∃ a dx fs xs, x = .ref a ∧ H1 a = some (.ins C dx fs) ∧
  (∀ n Q', (∀ l it, SqT K H1 l xs → H1 it = none → n ≤ it → Q' (.ref it) (upd H1 it (ItT l it))) → spI n [.ref a] H1 Q' E0) ∧ ∀ l, SqT K H1 l xs → R (Itt K l) H1
section
variable {X : Cx} {K : PySem.W.Frag} {k : Nat} {C fi : Addr} {psI : List Str} {spI : Nat → Sp} {tg l : Expr} {tl : TE}
theorem k_piO (hK : X.K = K) (GI : ∀ n, OkP (fun _ s => n ≤ s.heap.objs.size) X.prog X.w X.K X.mg X.base k fi psI (spI n)) (hr : Room k X.A) (hit : PySem.W.findIn X.K (.ref C) "__iter__" = some (some (.ref fi))) (hF : PySem.W.isFn X.K (.ref fi) = true) (hl : PE X l tl) :
    PI X tg l (iOwn K C spI tl) := by
  subst hK
  refine ⟨fun pins s σ H R I h => ?_⟩
  refine thn (hl.run pins s σ H _ I h) fun v s1 ⟨x, H1, I1, r1, a, dx, fs, xs, ex, ha, hI, q⟩ => ?_
  subst ex
  cases r1
  obtain ⟨mA, J, _⟩ := ins_get I1.hok ha
  obtain ⟨od, J, _⟩ := J.look
  obtain ⟨m0, fr⟩ := I1.fr
  refine PySem.W.owit_iter fr I1.ok.mod.kin J hit hF ?_
  refine wpAny_mono (run_pre (us := [.ref a]) (vs := [.ref a]) (Q := fun v H' => ∃ l it, v = .ref it ∧ SqT X.K H1 l xs ∧ H1 it = none ∧ X.s_0.heap.objs.size ≤ it ∧ H' = upd H1 it (ItT l it)) (GI X.s_0.heap.objs.size) ⟨hr, rfl⟩ I1.sz I1 (.cons rfl .nil) (hI _ _ fun l it a1 a2 a3 => ⟨l, it, rfl, a1, a2, a3, rfl⟩)) (fun v s3 hv => ?_) fun e s' he => he
  obtain ⟨v', H3, I3, rv3, tp, it, rfl, hl', hn', hge, rfl⟩ := hv
  cases rv3
  obtain ⟨hobj, _⟩ := (show ObjOk X.prog X.w _ s3.heap it (ItT tp it) from I3.hok it _ upd_same)
  have hobj' : s3.heap.get? it = some { cls := .type "tuple_iterator", data := .fields #[.ref tp, .int 0 0] } := hobj
  show wpAny _ _ (specialOf (.ref it) "__next__") _ _ _
  refine wpAny_specialOf (T := "tuple_iterator") ⟨_, hobj', rfl⟩ PySem.F.slot_tuple_iterator_next.lookup ?_
  have fp4 := ItX.inv_fp I3 upd_same hge
  have I5 := ItX.inv_drop I3 (a := it) (φ := fun h => h.get? it = some { cls := .type "tuple_iterator", data := .fields #[.ref tp, .int 0 0] }) upd_same
  rw [ItX.dropH_upd hn'] at I5 fp4
  exact ⟨it, [it], _, _, H1, rfl, I5, turn_tuple tp it, ⟨_, hobj', rfl, rfl⟩, fun b hb => by rw [List.mem_singleton.mp hb]; exact fp4, q tp hl'⟩
end
section
variable {K : PySem.W.Frag} {C : Addr} {spI : Nat → Sp} {σ : L2.St} {H : Hp} {te : TE} {R : It → Hp → Prop}
theorem r_iOwn (h : te σ H fun x H1 => ∃ a dx fs xs, x = .ref a ∧ H1 a = some (.ins C dx fs) ∧ (∀ n Q', (∀ l it, SqT K H1 l xs → H1 it = none → n ≤ it → Q' (.ref it) (upd H1 it (ItT l it))) → spI n [.ref a] H1 Q' E0) ∧ ∀ l, SqT K H1 l xs → R (Itt K l) H1) : iOwn K C spI te σ H R := h
end
/-! ### own == anything whose kind is known -/
def rOwnA (K : PySem.W.Frag) (C : Addr) (sp : Sp) : R2 := fun x y H Q => ∃ a dx fs t, x = .ref a ∧ H a = some (.ins C dx fs) ∧ TyX K H y t ∧ PySem.W.notFirst K C t = true ∧ sp [x, y] H Q E0
section
variable {X : Cx} {K : PySem.W.Frag} {k : Nat} {C f : Addr} {ps : List Str} {sp : Sp}
theorem k_eqA (hK : X.K = K) (G : Okf X.prog X.w X.K X.mg X.base k f ps sp) (hr : Room k X.A) (hs : PySem.W.findIn X.K (.ref C) "__eq__" = some (some (.ref f))) (hf : PySem.W.isFn X.K (.ref f) = true) : OpR X (compareOp .Eq) (rOwnA K C sp) := by
  subst hK
  intro pins s σ H x y v u Q I rx ry h
  obtain ⟨a, dx, fs, t, rfl, ha, ty, nf, q⟩ := h
  cases rx
  obtain ⟨P, kt, hp, _⟩ := kit_of I ry ty
  obtain ⟨mA, J, _⟩ := ins_get I.hok ha
  obtain ⟨od, J, _⟩ := J.look
  obtain ⟨m, hF⟩ := I.fr
  refine PySem.W.cmp_K (op := .Eq) (tb := t) hr.units0 hF I.ok.mod.kin J (kt.ty _ _ I.kIn hp) nf hs hf ?_
  exact wpAny_mono (run_sub (us := [.ref a, u]) (vs := [.ref a, y]) G ⟨hr, rfl⟩ I (.cons rfl (.cons ry .nil)) q) (fun v s' hv => back_ne hv) fun _ _ e => e
end
theorem nf_of {K : PySem.W.Frag} {C : Addr} {t : Value} (h : PySem.W.subIn K t (.ref C) = some false) : PySem.W.notFirst K C t = true := by
  unfold PySem.W.notFirst
  rw [h, Bool.or_eq_true]
  exact .inr rfl
theorem nf_same {K : PySem.W.Frag} {C : Addr} : PySem.W.notFirst K C (.ref C) = true := by
  unfold PySem.W.notFirst
  rw [Bool.or_eq_true]
  exact .inl (beq_self_eq_true _)
theorem r_break {D : Ends} {σ : L2.St} {H : Hp} (h : D.bk σ H) : tBreak D σ H := h
theorem r_cont {D : Ends} {σ : L2.St} {H : Hp} (h : D.ct σ H) : tCont D σ H := h
theorem fine_30 {i : Int} (h : i.natAbs < 10 ^ 31) : Fine (.int i) 105 := by
  have f := fine_int (i := i) (Nat.lt_trans h (by decide))
  refine ⟨f.sh, f.nd, f.ls, ?_⟩
  simp only [PyData.weight]
  split
  · omega
  · by_cases z : i.natAbs = 0
    · rw [z]
      decide
    · have : i.natAbs.log2 < 104 := (Nat.log2_lt z).mpr (Nat.lt_trans h (by decide))
      omega
theorem fine_30s {ns : List Int} {n : Nat} (h : ∀ z ∈ ns, z.natAbs < 10 ^ 31) (hn : ns.length ≤ n) : Fine (PySem.W.Datum.toD ns) (n * 106) :=
  fine_list (fun d hd => by
    obtain ⟨z, hz, rfl⟩ := List.mem_map.mp hd
    exact fine_30 (h z hz)) (by rw [List.length_map]; exact hn)
theorem fine_30r {rs : List (List Int)} {n m : Nat} (h : ∀ r ∈ rs, (∀ z ∈ r, z.natAbs < 10 ^ 31) ∧ r.length ≤ n) (hm : rs.length ≤ m) : Fine (PySem.W.Datum.toD rs) (m * (n * 106 + 1)) :=
  fine_list (fun d hd => by
    obtain ⟨r, hr, rfl⟩ := List.mem_map.mp hd
    exact fine_30s (h r hr).1 (h r hr).2) (by rw [List.length_map]; exact hm)
theorem fine_bools (bs : List Bool) : Fine (PySem.W.Datum.toD bs) (bs.length * 1) :=
  fine_list (w := 0) (fun d hd => by
    obtain ⟨z, hz, rfl⟩ := List.mem_map.mp hd
    exact fine_bool z) (by rw [List.length_map]; exact Nat.le_refl _)
theorem sq_new {K : PySem.W.Frag} {H : Hp} {p : Addr} (np : H p = none) (xs : List V) : SqL K (upd H p (.lst xs)) p xs := .inl (.inl upd_same)
end Hn

/-! What is known, moved on to a later heap; piles of new lists. -/
namespace Hn
open PySem PySem.Spec PyProof.Rows L2 Evl
section
variable {K : PySem.W.Frag} {C : Addr} {fld : Str} {H H' : Hp} {v : V} {s : List Int} {a b : Addr} {xs : List V} {o : HO}
theorem mv_bag (h : Bag H b) (e : Xl H H') : Bag H' b := h.mono e
theorem mv_clk (h : Clk K C H v s) (e : Xl H H') : Clk K C H' v s := h.mono e
theorem mv_rw (h : Rw K C fld H v s) (e : Xl H H') : Rw K C fld H' v s := h.mono e
theorem mv_at (h : H a = some o) (e : Ex H H') : H' a = some o := e _ _ h
theorem mv_sqL (h : SqL K H a xs) (e : Ex H H') : SqL K H' a xs := ex_l e h
theorem mv_sqT (h : SqT K H a xs) (e : Ex H H') : SqT K H' a xs := ex_t e h
theorem at_sqL (h : H a = some (.lst xs)) : SqL K H a xs := .inl (.inl h)
theorem at_sqT (h : H a = some (.tup xs)) : SqT K H a xs := .inl (.inl h)
theorem sqL_sq (h : SqL K H a xs) : Sq K H a xs := .inl h
theorem sqT_sq (h : SqT K H a xs) : Sq K H a xs := .inr h
end
/-- a list of new lists, none of them the list itself -/
def Pile (H : Hp) (D : Addr) (rs : List (List V)) : Prop := ∃ ys : List V, H D = some (.lst ys) ∧ ys.length = rs.length ∧ ∀ (i : Nat) y, ys[i]? = some y → ∃ p, y = .ref p ∧ p ≠ D ∧ H p = some (.lst (rs.getD i []))
theorem Pile.nil {H : Hp} {D : Addr} (h : H D = some (.lst [])) : Pile H D [] := ⟨[], h, rfl, fun i y z => by simp at z⟩
theorem Pile.ex {H H' : Hp} {D : Addr} {rs : List (List V)} (e : Ex H H') (h : Pile H D rs) : Pile H' D rs :=
  let ⟨ys, h1, h2, h3⟩ := h
  ⟨ys, e _ _ h1, h2, fun i y hy => let ⟨p, hp, n, q⟩ := h3 i y hy; ⟨p, hp, n, e _ _ q⟩⟩
theorem Pile.push {H : Hp} {D q : Addr} {rs : List (List V)} {ys xs : List V} (h : Pile H D rs) (hD : H D = some (.lst ys)) (hq : H q = some (.lst xs)) (hn : q ≠ D) : Pile (upd H D (.lst (ys ++ [.ref q]))) D (rs ++ [xs]) := by
  obtain ⟨zs, h1, h2, h3⟩ := h
  rw [hD] at h1
  cases h1
  refine ⟨_, upd_same, by rw [List.length_append, List.length_append, h2]; rfl, fun i y hy => ?_⟩
  by_cases hi : i < ys.length
  · rw [List.getElem?_append_left hi] at hy
    obtain ⟨p, hp, n, e⟩ := h3 i y hy
    refine ⟨p, hp, n, ?_⟩
    rw [upd_ne n, e, List.getD_eq_getElem?_getD, List.getD_eq_getElem?_getD, List.getElem?_append_left (by omega)]
  · have hi2 : i = ys.length := by
      have := (List.getElem?_eq_some_iff.mp hy).1
      rw [List.length_append, List.length_singleton] at this
      omega
    subst hi2
    rw [List.getElem?_append_right (Nat.le_refl _), Nat.sub_self] at hy
    cases hy
    refine ⟨q, rfl, hn, ?_⟩
    rw [upd_ne hn, hq, List.getD_eq_getElem?_getD, List.getElem?_append_right (by omega), h2, Nat.sub_self]
    rfl
theorem Pile.hd {K : PySem.W.Frag} {H : Hp} {D : Addr} {us : List (List Int)} (h : Pile H D (us.map fun r => r.map V.int)) : Hd K H (.ref D) us := by
  obtain ⟨ys, h1, h2, h3⟩ := h
  rw [List.length_map] at h2
  refine hd_list (.inl (.inl h1)) (hda_ix h2 fun i v u hv hu => ?_)
  obtain ⟨p, rfl, _, hp⟩ := h3 i v hv
  rw [List.getD_eq_getElem?_getD, List.getElem?_map, hu] at hp
  exact hd_ints (.inl (.inl hp))
/-! ### a conditional expression whose two ways meet again -/
def tIfJ : TT → TE → TE → TE := tIf
theorem pe_ifJ {X : Cx} {tA : TT} {ta tb : TE} {pos : Pos} {a b c : Expr} (hc : PT X c tA) (ha : PE X a ta) (hb : PE X b tb) : PE X (.IfExp c a b pos) (tIfJ tA ta tb) := pe_ifExp hc ha hb
theorem r_ifJ {tt : TT} {ta tb : TE} {σ : L2.St} {H : Hp} {Q : VK} (P : V → Hp → Prop) (h : ∀ Q' : VK, (∀ v H', P v H' → Q' v H') → tIf tt ta tb σ H Q') (q : ∀ v H', P v H' → Q v H') : tIfJ tt ta tb σ H Q := h Q q
section
variable {K : PySem.W.Frag} {C : Addr} {fld : Str} {H H' : Hp} {v w : V} {s : List Int} {a b : Addr} {xs : List V} {Q : VK} {sp : Sp}
theorem r_ownA {t : Value} (h : Rw K C fld H v s) (ty : TyX K H w t) (nf : PySem.W.subIn K t (.ref C) = some false) (q : sp [v, w] H Q E0) : rOwnA K C sp v w H Q := by
  obtain ⟨x, dx, a, rfl, hp, _⟩ := h
  exact ⟨x, dx, _, _, rfl, hp, ty, nf_of nf, q⟩
theorem r_clkA {t : Value} (h : Clk K C H v s) (ty : TyX K H w t) (nf : PySem.W.subIn K t (.ref C) = some false) (q : sp [v, w] H Q E0) : rOwnA K C sp v w H Q := by
  obtain ⟨x, dx, fs, rfl, hp, _⟩ := r_clkG (p := True) h trivial
  exact ⟨x, dx, _, _, rfl, hp, ty, nf_of nf, q⟩
theorem ty_sqL (h : SqL K H a xs) : TyX K H (.ref a) (.type "list") := by
  rcases h with (h | ⟨o, h⟩) | ⟨o, its, n, h1, h2, _⟩
  · exact .base (.lst h)
  · exact .base (.frz h)
  · exact .kList h1 h2
theorem ty_sqT (h : SqT K H a xs) : TyX K H (.ref a) (.type "tuple") := by
  rcases h with (h | ⟨o, h⟩) | ⟨o, its, n, h1, h2, _⟩
  · exact .base (.tup h)
  · exact .fTuple h
  · exact .kTuple h1 h2
theorem ty_rw (i : IsC K C) (h : Rw K C fld H v s) : TyX K H v (.ref C) := by
  obtain ⟨x, dx, a, rfl, hp, _⟩ := h
  exact .base (.ins hp i.cl i.ha i.hn i.tk i.mr)
theorem ty_clk (i : IsC K C) (h : Clk K C H v s) : TyX K H v (.ref C) := by
  obtain ⟨x, dx, fs, rfl, hp, _⟩ := r_clkG (p := True) h trivial
  exact .base (.ins hp i.cl i.ha i.hn i.tk i.mr)
end
theorem at_row {n : Nat} {f : Int → Int} {h : Nat} (hh : h < n) : atI ((rowOf n f).map V.int) (h : Int) = some (.int (f (h : Int))) := by
  have e := at_int (ns := rowOf n f) (i := (h : Int)) (by omega) (by rw [rowOf_length]; omega)
  rw [Int.toNat_natCast, rowOf_getD _ hh] at e
  exact e
theorem row_all {n : Nat} {f : Int → Int} {P : Int → Prop} (h : ∀ j : Nat, j < n → P (f j)) : ∀ z ∈ rowOf n f, P z := fun z hz => by
  unfold rowOf at hz
  obtain ⟨j, hj, rfl⟩ := List.mem_map.mp hz
  exact h j (List.mem_range.mp hj)
theorem row_same {n h : Nat} {f : Int → Int} {z : Int} (hh : h < n) : (rowOf n f = rowOf n fun i => if i = (h : Int) then z else f i) ↔ f (h : Int) = z := by
  rw [rowOf_inj]
  constructor
  · intro e
    have := e h hh
    simp only [if_true] at this
    exact this
  · intro e j hj
    show f j = if (j : Int) = (h : Int) then z else f j
    split
    · rename_i q
      rw [q, e]
    · rfl
theorem dec_set {n h : Nat} {f : Int → Int} {z : Int} (hh : h < n) : decide (rowOf n f = rowOf n fun i => if i = (h : Int) then z else f i) = decide (f (h : Int) = z) := decide_eq_decide.mpr (row_same hh)
theorem dec_set' {n h : Nat} {f : Int → Int} {z : Int} (hh : h < n) : decide ((rowOf n fun i => if i = (h : Int) then z else f i) = rowOf n f) = decide (f (h : Int) = z) := by
  rw [← dec_set hh]
  exact decide_eq_decide.mpr ⟨Eq.symm, Eq.symm⟩
/-- row[:h] + [z] + row[h + 1:] -/
theorem set_lst {n h : Nat} {f : Int → Int} {z : Int} (hh : h < n) : ((rowOf n f).map V.int).take h ++ [.int z] ++ ((rowOf n f).map V.int).drop (h + 1) = (rowOf n fun i => if i = (h : Int) then z else f i).map V.int := by
  rw [← set_row hh, List.map_append, List.map_append, List.map_take, List.map_drop]
  rfl
theorem len_ne {α : Type} {s t : List α} (h : s.length ≠ t.length) : ¬ s = t := fun e => h (by rw [e])
theorem line_le {n : Nat} (h : n ≤ 1000) : n ≤ sizeLine := by
  have : (1000 : Nat) ≤ sizeLine := by decide
  omega
theorem sqT_back {K : PySem.W.Frag} {H : Hp} {p l : Addr} {xs ys : List V} (np : H p = none) (h : SqT K (upd H p (.lst ys)) l xs) : SqT K H l xs := by
  rcases h with (z | ⟨o, z⟩) | z
  · exact .inl (.inl (by rw [upd_ne (ne_of z upd_same (fun z => nomatch z))] at z; exact z))
  · exact .inl (.inr ⟨o, by rw [upd_ne (ne_of z upd_same (fun z => nomatch z))] at z; exact z⟩)
  · exact .inr z
theorem getD_mem' {s : List Int} {j : Nat} (h : j < s.length) : s.getD j 0 ∈ s := by
  rw [List.getD_eq_getElem?_getD, List.getElem?_eq_getElem h]
  exact List.getElem_mem h
theorem hda_rep {α : Type} [DecidableEq α] [PySem.W.Datum α] {K : PySem.W.Frag} {H : Hp} {x : V} {u : α} (h : Hd K H x u) : ∀ n : Nat, HdAll K H (List.replicate n x) (List.replicate n u)
  | 0 => .nil
  | n + 1 => .cons h (hda_rep h n)
theorem r_yesD {p A B : Prop} [Decidable p] (h : p) (q : A) : if decide p = true then A else B := by
  rw [decide_eq_true h]
  exact iteT q
theorem r_noD {p A B : Prop} [Decidable p] (h : ¬ p) (q : B) : if decide p = true then A else B := by
  rw [decide_eq_false h]
  exact iteF q
theorem r_reprB {K : PySem.W.Frag} {H : Hp} {Q : VK} {a : Addr} (bs : List Bool) (h : SqL K H a (bs.map V.bl)) (q : Q (.str (PySem.W.Datum.toD bs).shown) H) (hn : Nat.ble bs.length 1000 = true := by rfl) : rRepr K [.ref a] H Q :=
  r_reprH (hd_bools h) (fine_bools bs) (by have := Nat.le_of_ble_eq_true hn; omega) q
theorem r_repr30 {K : PySem.W.Frag} {H : Hp} {Q : VK} {a : Addr} {s : List Int} (h : SqL K H a (s.map V.int)) (hz : ∀ z ∈ s, z.natAbs < 10 ^ 31) (hl : s.length ≤ 48) (q : Q (.str (PySem.W.Datum.toD s).shown) H) : rRepr K [.ref a] H Q :=
  r_reprH (hd_ints h) (fine_30s (n := 48) hz hl) (by decide) q
theorem mv_sq {K : PySem.W.Frag} {H H' : Hp} {a : Addr} {xs : List V} (h : Sq K H a xs) (e : Ex H H') : Sq K H' a xs := h.mono e
theorem at_last_row {n : Nat} {f : Int → Int} : atI ((rowOf (n + 1) f).map V.int) (-1) = some (.int (f (n : Int))) := by
  unfold rowOf
  rw [List.range_succ, List.map_append, List.map_append]
  exact atI_last _ _
/-- a statement that changes no name, then the rest, shown once -/
theorem r_cutE {t u : TS} {D : Ends} {σ : L2.St} {H : Hp} (h1 : t { D with nx := fun σ' H' => σ' = σ ∧ Ex H H' } σ H) (h2 : ∀ H', Ex H H' → u D σ H') : tCut t u D σ H := ⟨_, h1, fun _ H' z => z.1.symm ▸ h2 H' z.2⟩
theorem r_cat {H : Hp} {Q : VK} {l b : Addr} {xs zs : List V} (h1 : H l = some (.lst xs)) (h2 : H b = some (.lst zs)) (hn : xs.length + zs.length ≤ 1000) (q : ∀ p, H p = none → Q (.ref p) (upd H p (.lst (xs ++ zs)))) : rCat (.ref l) (.ref b) H Q := ⟨l, b, xs, zs, rfl, rfl, h1, h2, line_le hn, q⟩
end Hn

/-! Slices and zips of lists or tuples; sums of begins. -/
namespace Hn
open PySem PySem.Spec PyProof.Rows L2 Evl RZ
def rSlQ (K : PySem.W.Frag) : V → Option Int → Option Int → Hp → VK → Prop := fun x lo hi H Q => ∃ a xs, x = .ref a ∧ ((SqL K H a xs ∧ ∀ p, H p = none → Q (.ref p) (upd H p (.lst (cutV xs lo hi)))) ∨
  (SqT K H a xs ∧ ¬ (HT.sIx xs.length 0 lo = 0 ∧ HT.sIx xs.length xs.length hi = xs.length) ∧ ∀ p, H p = none → Q (.ref p) (upd H p (.tup (cutV xs lo hi)))))
section
variable {X : Cx} {K : PySem.W.Frag}
theorem k_slQ (h : X.K = K) : SlR X (rSlQ K) := by
  subst h
  intro pins s σ H x v vl vu lo hi sl Q I rx hs pl pu h
  obtain ⟨a, xs, rfl, ⟨h1, q⟩ | ⟨h1, h2, q⟩⟩ := h
  · exact sl_list pins s σ H _ v vl vu lo hi sl Q I rx hs pl pu ⟨a, xs, rfl, h1, q⟩
  · exact sl_tup pins s σ H _ v vl vu lo hi sl Q I rx hs pl pu ⟨a, xs, rfl, h1, h2, q⟩
theorem k_slT (h : X.K = K) : SlR X (rSlT K) := h ▸ sl_tup
theorem k_piZA {e e2 : Expr} {ar : TA} {p pos tpos : Pos} {elts : List Expr} {kk : Nat} (h : X.K = K) (hg : Gl X "zip") (hm : X.mg "zip" = none) (ha : PA X [e, e2] ar)
    (hs : starEach [e, e2] X.env = (false, eval e X.env) :: starEach [e2] X.env := by rfl) (hpl : (backTo pos (starEach [e2] X.env)).any (·.1) = false := by rfl) :
    PI X (.Tuple elts kk tpos) (.Call (.Name "zip" p) [e, e2] [] pos) (iZipA K ar) := h ▸ pi_zipA hg hm ha hs hpl
end
theorem r_iZipA {K : PySem.W.Frag} {ar : TA} {σ : L2.St} {H : Hp} {R : It → Hp → Prop} (h : ar σ H fun vs H1 => ∃ a b xs ys, vs = [.ref a, .ref b] ∧ ((SqL K H1 a xs ∧ SqL K H1 b ys ∧ R (Itz K a b) H1) ∨ (SqT K H1 a xs ∧ SqT K H1 b ys ∧ R (ItzT K a b) H1))) : iZipA K ar σ H R := h
theorem walk_zipT {K : PySem.W.Frag} {a b : Addr} {xs ys : List V} {n : Nat} (hn : n = min xs.length ys.length) : Walk (ItzT K a b) n (fun H => SqT K H a xs ∧ SqT K H b ys) (YPair (fun i => xs[i]?) (fun i => ys[i]?)) := by
  subst hn
  refine ⟨fun i _ hi q => ?_, fun _ q => ⟨xs, ys, q.1, q.2, by omega⟩, fun i H v H' _ q y => ?_⟩
  · have h1 : i < xs.length := by omega
    have h2 : i < ys.length := by omega
    exact ⟨xs, ys, xs[i], ys[i], q.1, q.2, by simp [h1], by simp [h2]⟩
  · obtain ⟨T, x, z, h1, h2, h3, h4, h5⟩ := y
    exact ⟨T, x, z, h1, h2, h3, h4 xs q.1, h5 ys q.2⟩
/-! ### sums -/
theorem rowOf_succ (n : Nat) (f : Int → Int) : rowOf (n + 1) f = rowOf n f ++ [f (n : Int)] := by
  unfold rowOf
  rw [List.range_succ, List.map_append]
  rfl
/-- 0, the first, the first two .. -/
def sumsR (s : List Int) : List Int := rowOf (s.length + 1) fun k => (s.take k.toNat).sum
theorem sumsR_length (s : List Int) : (sumsR s).length = s.length + 1 := rowOf_length _ _
theorem take_sum {s : List Int} {j : Nat} (h : j < s.length) : (s.take (j + 1)).sum = (s.take j).sum + s.getD j 0 := by
  rw [List.take_succ, List.sum_append, List.getElem?_eq_getElem h, List.getD_eq_getElem?_getD, List.getElem?_eq_getElem h]
  simp
theorem sumsR_getD {s : List Int} {j : Nat} (h : j ≤ s.length) : (sumsR s).getD j 0 = (s.take j).sum := by
  unfold sumsR
  rw [rowOf_getD _ (by omega)]
  rfl
theorem take_row {n : Nat} {f : Int → Int} : ∀ {k : Nat}, k ≤ n → (rowOf n f).take k = rowOf k f := fun {k} h => by
  unfold rowOf
  rw [← List.map_take, List.take_range, Nat.min_eq_left h]
theorem sumsR_row (n : Nat) (f : Int → Int) : sumsR (rowOf n f) = rowOf (n + 1) fun k => Sg k.toNat f := by
  unfold sumsR
  rw [rowOf_length]
  refine rowOf_congr fun i h0 h1 => ?_
  show ((rowOf n f).take i.toNat).sum = Sg i.toNat f
  rw [take_row (by omega), sum_row]
/-- what lies between -/
def diffR (t : List Int) : List Int := rowOf (t.length - 1) fun i => t.getD (i.toNat + 1) 0 - t.getD i.toNat 0
theorem diffR_length (t : List Int) : (diffR t).length = t.length - 1 := rowOf_length _ _
theorem diff_sums (s : List Int) : diffR (sumsR s) = s := by
  unfold diffR
  rw [sumsR_length, Nat.add_sub_cancel]
  refine (row_ext _ rfl fun j hj => ?_).symm
  show s.getD j 0 = (sumsR s).getD (j + 1) 0 - (sumsR s).getD j 0
  rw [sumsR_getD (by omega), sumsR_getD (by omega), take_sum hj]
  omega
theorem diffR_row (n : Nat) (f : Int → Int) : diffR (rowOf (n + 1) f) = rowOf n fun i => f (i + 1) - f i := by
  unfold diffR
  rw [rowOf_length, Nat.add_sub_cancel]
  refine rowOf_congr fun i h0 h1 => ?_
  show (rowOf (n + 1) f).getD (i.toNat + 1) 0 - (rowOf (n + 1) f).getD i.toNat 0 = f (i + 1) - f i
  rw [rowOf_getD _ (by omega), rowOf_getD _ (by omega), show ((i.toNat + 1 : Nat) : Int) = i + 1 by omega, show ((i.toNat : Nat) : Int) = i by omega]
theorem Sg_succ (n : Nat) (f : Int → Int) : Sg (n + 1) f = Sg n f + f (n : Int) := rfl
theorem Sg_diff (n : Nat) (f : Int → Int) : Sg n (fun i => f (i + 1) - f i) = f (n : Int) - f 0 := by
  induction n with
  | zero => show (0 : Int) = f 0 - f 0; omega
  | succ n ih =>
    rw [Sg_succ, ih]
    show f n - f 0 + (f ((n : Int) + 1) - f n) = f ((n + 1 : Nat) : Int) - f 0
    rw [show ((n + 1 : Nat) : Int) = (n : Int) + 1 by omega]
    omega
/-- the sums of a row of ints that begins with 0 and never falls -/
theorem sums_diff {n : Nat} {f : Int → Int} (h0 : f 0 = 0) : sumsR (diffR (rowOf (n + 1) f)) = rowOf (n + 1) f := by
  rw [diffR_row, sumsR_row]
  refine rowOf_congr fun i i0 i1 => ?_
  show Sg i.toNat (fun i => f (i + 1) - f i) = f i
  rw [Sg_diff, h0, show ((i.toNat : Nat) : Int) = i by omega]
  omega
def okSums (t : List Int) : Bool := decide (2 ≤ t.length) && decide (t.length ≤ 49) && (t.all fun x => decide (0 ≤ x)) && decide (t.getD 0 0 = 0) && ((List.range (t.length - 1)).all fun i => decide (t.getD i 0 ≤ t.getD (i + 1) 0))
theorem Sg_nn {n : Nat} {f : Int → Int} (h : ∀ j : Nat, j < n → 0 ≤ f j) : 0 ≤ Sg n f := by
  induction n with
  | zero => exact Int.le_refl _
  | succ n ih =>
    rw [Sg_succ]
    have := ih fun j hj => h j (by omega)
    have := h n (by omega)
    omega
theorem ok_sumsR {s : List Int} (g : GoodN s) : okSums (sumsR s) = true := by
  have h1 := g.ne
  have h2 := g.le
  obtain ⟨n, hn⟩ : ∃ n, n = s.length := ⟨_, rfl⟩
  obtain ⟨f, hf⟩ : ∃ f, s = rowOf n f := ⟨cyc s, by rw [hn]; exact row_cyc s⟩
  have nn : ∀ j : Nat, j < n → 0 ≤ f j := fun j hj => by
    have := g.mem _ (getD_mem' (s := s) (j := j) (by omega))
    rw [hf, rowOf_getD f hj] at this
    exact this
  unfold okSums
  simp only [Bool.and_eq_true, List.all_eq_true, decide_eq_true_eq, sumsR_length, List.mem_range]
  refine ⟨⟨⟨⟨by omega, by omega⟩, ?_⟩, ?_⟩, ?_⟩
  · intro x hx
    rw [hf, sumsR_row] at hx
    exact row_all (P := fun z => 0 ≤ z) (fun j hj => by
      show 0 ≤ Sg (j : Int).toNat f
      exact Sg_nn fun i hi => nn i (by omega)) x hx
  · rw [sumsR_getD (by omega)]
    rfl
  · intro i hi
    rw [sumsR_getD (by omega), sumsR_getD (by omega), take_sum (by omega)]
    have := g.mem _ (getD_mem' (s := s) (j := i) (by omega))
    omega
theorem good_diff {t : List Int} (h : okSums t = true) : GoodN (diffR t) := by
  unfold okSums at h
  simp only [Bool.and_eq_true, List.all_eq_true, decide_eq_true_eq, List.mem_range] at h
  obtain ⟨⟨⟨⟨h1, h2⟩, h3⟩, h4⟩, h5⟩ := h
  refine GoodN.of (by rw [diffR_length]; omega) (by rw [diffR_length]; omega) ?_
  unfold diffR
  refine row_all (P := fun z => 0 ≤ z) fun j hj => ?_
  show 0 ≤ t.getD ((j : Int).toNat + 1) 0 - t.getD (j : Int).toNat 0
  have := h5 j hj
  rw [Int.toNat_natCast]
  omega
/-! ### one moved -/
def moveF (f : Int → Int) (h g : Int) : Int → Int := fun i => f i - (if i = h then 1 else 0) + (if i = g then 1 else 0)
theorem row_put {n h : Nat} {f : Int → Int} {z : Int} (hh : h < n) : ((rowOf n f).map V.int).set h (.int z) = (rowOf n fun i => if i = (h : Int) then z else f i).map V.int := by
  rw [← List.map_set]
  congr 1
  refine row_ext _ (by rw [List.length_set, rowOf_length]) fun j hj => ?_
  rw [List.getD_eq_getElem?_getD, List.getElem?_set]
  by_cases q : h = j
  · subst q
    rw [if_pos rfl, if_pos (by rw [rowOf_length]; exact hh)]
    show z = if (h : Int) = (h : Int) then z else f h
    rw [if_pos rfl]
  · rw [if_neg q, ← List.getD_eq_getElem?_getD, rowOf_getD f hj]
    show f j = if (j : Int) = (h : Int) then z else f j
    rw [if_neg (by omega)]
theorem ixN_nat {n j : Nat} (h : j < n) : ixN n (j : Int) = some j := by
  unfold ixN
  rw [if_pos (by omega)]
  simp [h]
theorem moved_row {n h g : Nat} {f : Int → Int} : (rowOf n fun i => if i = (g : Int) then (if (g : Int) = (h : Int) then f h - 1 else f g) + 1 else if i = (h : Int) then f h - 1 else f i) = rowOf n (moveF f h g) := by
  refine rowOf_congr fun i _ _ => ?_
  show (if i = (g : Int) then (if (g : Int) = (h : Int) then f h - 1 else f g) + 1 else if i = (h : Int) then f h - 1 else f i) = f i - (if i = (h : Int) then 1 else 0) + (if i = (g : Int) then 1 else 0)
  by_cases q1 : i = (g : Int)
  · by_cases q2 : i = (h : Int)
    · rw [if_pos q1, if_pos (by omega), if_pos q2, if_pos q1, q2]
    · rw [if_pos q1, if_neg (by omega), if_neg q2, if_pos q1, q1]
      omega
  · by_cases q2 : i = (h : Int)
    · rw [if_neg q1, if_pos q2, if_pos q2, if_neg q1, q2]
      omega
    · rw [if_neg q1, if_neg q2, if_neg q2, if_neg q1]
      omega
theorem cut_part {n : Nat} (h : 1 ≤ n) : ¬ (HT.sIx n 0 (some 1) = 0 ∧ HT.sIx n n none = n) := fun z => by
  have e : HT.sIx n 0 (some ((1 : Nat) : Int)) = min 1 n := HT.sIx_nat n 0 1
  have := z.1
  rw [show (some (1 : Int)) = some ((1 : Nat) : Int) from rfl, e] at this
  omega
theorem at_rowI {n : Nat} {f : Int → Int} {i : Int} (h0 : 0 ≤ i) (h1 : i < (n : Int)) : atI ((rowOf n f).map V.int) i = some (.int (f i)) := by
  obtain ⟨j, rfl⟩ : ∃ j : Nat, i = (j : Int) := ⟨i.toNat, by omega⟩
  exact at_row (by omega)
theorem cut_init {xs : List V} (h : 1 ≤ xs.length) : cutV xs none (some (-1)) = xs.take (xs.length - 1) := by
  unfold cutV
  have e : HT.sIx xs.length xs.length (some (-1)) = xs.length - 1 := by
    unfold HT.sIx
    simp only [Option.elim]
    first
      | omega
      | (simp; omega)
  rw [HT.sIx_none, e, List.drop_zero, Nat.sub_zero]
theorem put_last {m : Nat} {f : Int → Int} {z : Int} : ((rowOf (m + 1) f).map V.int).take m ++ [.int z] = (rowOf (m + 1) fun i => if i = (m : Int) then z else f i).map V.int := by
  have e := set_lst (n := m + 1) (h := m) (f := f) (z := z) (by omega)
  rw [← e, List.drop_of_length_le (by rw [List.length_map, rowOf_length]; omega), List.append_nil]
end Hn

/-! Plans by their sums: the lesser, the greater, both. -/
namespace Hn
open PySem PySem.Spec PyProof.Rows L2 Evl
/-- a row by its sums -/
def byS (n : Nat) (A : Int → Int) : List Int := rowOf n fun i => A (i + 1) - A i
theorem byS_length (n : Nat) (A : Int → Int) : (byS n A).length = n := rowOf_length _ _
theorem byS_diff (n : Nat) (A : Int → Int) : diffR (rowOf (n + 1) A) = byS n A := diffR_row n A
theorem sums_byS {n : Nat} {A : Int → Int} (h0 : A 0 = 0) : sumsR (byS n A) = rowOf (n + 1) A := by
  rw [← byS_diff]
  exact sums_diff h0
theorem byS_sum (n : Nat) (A : Int → Int) : (byS n A).sum = A (n : Int) - A 0 := by
  unfold byS
  rw [sum_row, Sg_diff]
theorem row_byS (n : Nat) (f : Int → Int) : rowOf n f = byS n fun k => Sg k.toNat f := by
  refine rowOf_congr fun i h0 _ => ?_
  show f i = Sg (i + 1).toNat f - Sg i.toNat f
  rw [show (i + 1).toNat = i.toNat + 1 by omega, Sg_succ, Int.toNat_of_nonneg h0]
  omega
theorem byS_inj {n : Nat} {A B : Int → Int} (ha : A 0 = 0) (hb : B 0 = 0) : byS n A = byS n B ↔ ∀ k : Nat, k ≤ n → A k = B k := by
  constructor
  · intro e k hk
    have e2 := congrArg sumsR e
    rw [sums_byS ha, sums_byS hb, rowOf_inj] at e2
    exact e2 k (by omega)
  · intro e
    refine rowOf_congr fun i h0 h1 => ?_
    have e1 := e i.toNat (by omega)
    have e2 := e (i.toNat + 1) (by omega)
    rw [show ((i.toNat + 1 : Nat) : Int) = i + 1 by omega] at e2
    rw [show ((i.toNat : Nat) : Int) = i by omega] at e1
    show A (i + 1) - A i = B (i + 1) - B i
    rw [e1, e2]
def mono (n : Nat) (A : Int → Int) : Prop := ∀ j : Nat, j < n → A j ≤ A ((j : Int) + 1)
theorem good_byS {n : Nat} {A : Int → Int} (h1 : 1 ≤ n) (h2 : n ≤ 48) (m : mono n A) : GoodN (byS n A) :=
  GoodN.of (by rw [byS_length]; exact h1) (by rw [byS_length]; exact h2) (row_all (P := fun z => 0 ≤ z) fun j hj => by
    have := m j hj
    show 0 ≤ A ((j : Int) + 1) - A j
    omega)
theorem mono_of {n : Nat} {A : Int → Int} (g : GoodN (byS n A)) : mono n A := fun j hj => by
  have := g.mem _ (getD_mem' (s := byS n A) (j := j) (by rw [byS_length]; exact hj))
  unfold byS at this
  rw [rowOf_getD _ hj] at this
  show A j ≤ A ((j : Int) + 1)
  have h : 0 ≤ A ((j : Int) + 1) - A j := this
  omega
theorem mono_le {n : Nat} {A : Int → Int} (m : mono n A) : ∀ {i j : Nat}, i ≤ j → j ≤ n → A i ≤ A j := fun {i j} h => by
  induction h with
  | refl => intro _; exact Int.le_refl _
  | step h ih =>
    intro hj
    rename_i k
    have h1 := ih (by omega)
    have h2 := m k (by omega)
    rw [show ((k + 1 : Nat) : Int) = (k : Int) + 1 by omega]
    omega
def mnF (A B : Int → Int) : Int → Int := fun k => if B k < A k then B k else A k
def mxF (A B : Int → Int) : Int → Int := fun k => if B k > A k then B k else A k
theorem mn_at {A B : Int → Int} (k : Int) : mnF A B k ≤ A k ∧ mnF A B k ≤ B k ∧ (mnF A B k = A k ∨ mnF A B k = B k) := by
  show (if B k < A k then B k else A k) ≤ A k ∧ (if B k < A k then B k else A k) ≤ B k ∧ ((if B k < A k then B k else A k) = A k ∨ (if B k < A k then B k else A k) = B k)
  split <;> omega
theorem mx_at {A B : Int → Int} (k : Int) : A k ≤ mxF A B k ∧ B k ≤ mxF A B k ∧ (mxF A B k = A k ∨ mxF A B k = B k) := by
  show A k ≤ (if B k > A k then B k else A k) ∧ B k ≤ (if B k > A k then B k else A k) ∧ ((if B k > A k then B k else A k) = A k ∨ (if B k > A k then B k else A k) = B k)
  split <;> omega
theorem mono_mn {n : Nat} {A B : Int → Int} (a : mono n A) (b : mono n B) : mono n (mnF A B) := fun j hj => by
  have := a j hj
  have := b j hj
  have := mn_at (A := A) (B := B) j
  have := mn_at (A := A) (B := B) ((j : Int) + 1)
  omega
theorem mono_mx {n : Nat} {A B : Int → Int} (a : mono n A) (b : mono n B) : mono n (mxF A B) := fun j hj => by
  have := a j hj
  have := b j hj
  have := mx_at (A := A) (B := B) j
  have := mx_at (A := A) (B := B) ((j : Int) + 1)
  omega
/-- a plan of P people, by its sums -/
def Ps (K : PySem.W.Frag) (C : Addr) (H : Hp) (v : V) (n : Nat) (P : Int) (A : Int → Int) : Prop := Rw K C "kept_begins" H v (byS n A) ∧ A 0 = 0 ∧ A (n : Int) = P
section
variable {K : PySem.W.Frag} {C : Addr} {H H' : Hp} {v w : V} {n : Nat} {P : Int} {A B : Int → Int}
theorem mv_ps (h : Ps K C H v n P A) (e : Xl H H') : Ps K C H' v n P A := ⟨h.1.mono e, h.2⟩
theorem Ps.good (h : Ps K C H v n P A) : GoodN (byS n A) := h.1.good
theorem Ps.mono (h : Ps K C H v n P A) : mono n A := mono_of h.1.good
theorem Ps.ne (h : Ps K C H v n P A) : 1 ≤ n := by
  have := h.1.good.ne
  rw [byS_length] at this
  exact this
theorem Ps.le (h : Ps K C H v n P A) : n ≤ 48 := by
  have := h.1.good.le
  rw [byS_length] at this
  exact this
theorem Ps.mn0 (h : Ps K C H v n P A) (h' : Ps K C H w n P B) : mnF A B 0 = 0 ∧ mnF A B (n : Int) = P := by
  have := mn_at (A := A) (B := B) 0
  have := mn_at (A := A) (B := B) n
  have := h.2
  have := h'.2
  omega
theorem Ps.mx0 (h : Ps K C H v n P A) (h' : Ps K C H w n P B) : mxF A B 0 = 0 ∧ mxF A B (n : Int) = P := by
  have := mx_at (A := A) (B := B) 0
  have := mx_at (A := A) (B := B) n
  have := h.2
  have := h'.2
  omega
theorem Ps.people (h : Ps K C H v n P A) : (byS n A).sum = P := by
  rw [byS_sum]
  have := h.2
  omega
end
def leS (n : Nat) (A B : Int → Int) : Bool := (List.range (n + 1)).all fun k => decide (A (k : Int) ≤ B (k : Int))
theorem leS_iff {n : Nat} {A B : Int → Int} : leS n A B = true ↔ ∀ k : Nat, k ≤ n → A k ≤ B k := by
  unfold leS
  rw [List.all_eq_true]
  constructor
  · intro h k hk
    exact of_decide_eq_true (h k (List.mem_range.mpr (by omega)))
  · intro h k hk
    exact decide_eq_true (h k (by have := List.mem_range.mp hk; omega))
theorem at_lastL {α : Type} {xs : List α} {n : Nat} {v : α} (h : xs[n]? = some v) (hl : xs.length = n + 1) : atI xs (-1) = some v := by
  have e : xs = xs.take n ++ [v] := by
    have := List.take_append_drop n xs
    conv => lhs; rw [← this]
    congr 1
    rw [List.drop_eq_getElem_cons (by omega), List.drop_of_length_le (by omega)]
    rw [List.getElem?_eq_getElem (by omega)] at h
    rw [Option.some.inj h]
  rw [e]
  exact atI_last _ _
/-- sums that are drawn and put in order -/
theorem sums_drawn {c : List Int} {P : Int} (hs : c.Pairwise (· ≤ ·)) (hc : ∀ z ∈ c, 0 ≤ z ∧ z ≤ P) (hP : 0 ≤ P) : ∃ A : Int → Int, (0 :: (c ++ [P])) = rowOf (c.length + 2) A ∧ A 0 = 0 ∧ A ((c.length + 1 : Nat) : Int) = P ∧ mono (c.length + 1) A := by
  obtain ⟨L, hL⟩ : ∃ L, L = 0 :: (c ++ [P]) := ⟨_, rfl⟩
  have hl : L.length = c.length + 2 := by rw [hL, List.length_cons, List.length_append]; rfl
  have pw : L.Pairwise (· ≤ ·) := by
    rw [hL, List.pairwise_cons]
    refine ⟨fun z hz => ?_, ?_⟩
    · rcases List.mem_append.mp hz with h | h
      · exact (hc z h).1
      · rw [List.mem_singleton.mp h]; exact hP
    · rw [List.pairwise_append]
      refine ⟨hs, List.pairwise_singleton _ _, fun a ha b hb => ?_⟩
      rw [List.mem_singleton.mp hb]
      exact (hc a ha).2
  refine ⟨fun k => L.getD k.toNat 0, ?_, ?_, ?_, ?_⟩
  · rw [← hL, ← hl]
    exact row_ext _ rfl fun j hj => rfl
  · show L.getD 0 0 = 0
    rw [hL]
    rfl
  · show L.getD (((c.length + 1 : Nat) : Int)).toNat 0 = P
    rw [Int.toNat_natCast, hL, List.getD_cons_succ, List.getD_eq_getElem?_getD, List.getElem?_append_right (Nat.le_refl _), Nat.sub_self]
    rfl
  · intro j hj
    show L.getD (j : Int).toNat 0 ≤ L.getD ((j : Int) + 1).toNat 0
    rw [Int.toNat_natCast, show ((j : Int) + 1).toNat = j + 1 by omega, List.getD_eq_getElem?_getD, List.getD_eq_getElem?_getD, List.getElem?_eq_getElem (by omega), List.getElem?_eq_getElem (by omega)]
    exact List.pairwise_iff_getElem.mp pw j (j + 1) (by omega) (by omega) (by omega)
theorem part_bd {P t p : Int} (hP : 0 ≤ P) (h0 : 0 ≤ t) (h1 : t ≤ p) (hp : 0 < p) : 0 ≤ P * t / p ∧ P * t / p ≤ P := by
  refine ⟨Int.ediv_nonneg (Int.mul_nonneg hP h0) (by omega), ?_⟩
  refine Int.ediv_le_of_le_mul hp ?_
  exact Int.mul_le_mul_of_nonneg_left h1 hP
theorem ps_rw {K : PySem.W.Frag} {C : Addr} {H : Hp} {v : V} {n : Nat} {P : Int} {A : Int → Int} (h : Ps K C H v n P A) : Rw K C "kept_begins" H v (byS n A) := h.1
theorem k_sorted {X : Cx} {K : PySem.W.Frag} (h : X.K = K) : CallR X (.builtin "sorted") (rSorted K) := h ▸ cr_sorted
/-! ### pairs made, pairs gone through with a test -/
section
variable {J : It} {n : Nat} {G : Hp → Prop} {Y : Nat → Hp → V → Hp → Prop}
theorem lc_prsN (w : Walk J n G Y) {g : TG} {te : TE} {vs : List Nat} {σ : L2.St} {H1 : Hp} {Q : VK} (ns ms : List Int) (hl : ns.length = n) (hG : ∀ H, Ex H1 H → G H) (hn : n ≤ 100000)
    (turn : ∀ i x H H', i < n → Ex H1 H → Y i H x H' → ∀ k : VK, (∀ T H4, Ex H H4 → H4 T = some (.tup [.int (ns.getD i 0), .int (ms.getD i 0)]) → k (.ref T) H4) → g x (wipe σ vs) H' fun σ2 H2 => wipe σ2 vs = wipe σ vs ∧ te σ2 H2 k)
    (fin : ∀ D H, H1 D = none → Ex H1 H → Prs H D ns ms → Q (.ref D) H) : LcTail J H1 g tYes te vs σ Q :=
  lc_map w (fun D i v H => ∃ T, v = .ref T ∧ H T = some (.tup [.int (ns.getD i 0), .int (ms.getD i 0)])) (fun _ _ H' e _ _ _ => hG H' e) (fun D i v H H' e ⟨T, h1, h2⟩ => ⟨T, h1, e _ _ h2⟩)
    (fun D i v H xs ys hD ⟨T, h1, h2⟩ => ⟨T, h1, by rw [upd_ne (ne_of h2 hD (fun z => nomatch z))]; exact h2⟩) hn
    (fun D i x H H' hi e hD _ y k h => turn i x H H' hi e y k fun T H4 e4 hT => h _ _ e4 ⟨T, rfl, hT⟩)
    fun D H ys hD e hy hyl hr => by
      have ex : ∃ ts : List Addr, ys = ts.map V.ref := by
        have : ∀ zs : List V, (∀ z ∈ zs, ∃ T, z = V.ref T) → ∃ ts : List Addr, zs = ts.map V.ref := fun zs => by
          induction zs with
          | nil => exact fun _ => ⟨[], rfl⟩
          | cons z zs ih =>
            intro h
            obtain ⟨T, rfl⟩ := h z List.mem_cons_self
            obtain ⟨ts, rfl⟩ := ih fun y hy => h y (List.mem_cons_of_mem _ hy)
            exact ⟨T :: ts, rfl⟩
        refine this ys fun z hz => ?_
        obtain ⟨i, hi, rfl⟩ := List.mem_iff_getElem.mp hz
        obtain ⟨T, hT, _⟩ := hr i _ (List.getElem?_eq_getElem hi)
        exact ⟨T, hT⟩
      obtain ⟨ts, rfl⟩ := ex
      rw [List.length_map] at hyl
      refine fin D H hD e ⟨ts, hy, by omega, fun j t ht => ?_⟩
      obtain ⟨T, hT, h2⟩ := hr j (.ref t) (by rw [List.getElem?_map, ht]; rfl)
      cases hT
      exact h2
end
theorem lc_prsF {K : PySem.W.Frag} {g : TG} {tt : TT} {te : TE} {vs : List Nat} {σ : L2.St} {H1 : Hp} {Q : VK} {p : Addr} {ns ms : List Int} (hP : Prs H1 p ns ms) (t : Nat → Bool) (f : Nat → V) (hn : ns.length ≤ 100000)
    (turn : ∀ i T H, i < ns.length → Ex H1 H → H T = some (.tup [.int (ns.getD i 0), .int (ms.getD i 0)]) → ∀ k : Bool → Hp → Prop, ∀ kk : VK, (∀ H4, t i = true → Ex H H4 → kk (f i) H4) → (∀ H3, t i = false → Ex H H3 → k false H3) →
      g (.ref T) (wipe σ vs) H fun σ2 H2 => wipe σ2 vs = wipe σ vs ∧ tt σ2 H2 fun b H3 => if b = true then te σ2 H3 kk else k false H3)
    (fin : ∀ D H, H1 D = none → Ex H1 H → H D = some (.lst (((List.range ns.length).filter t).map f)) → Q (.ref D) H) : ∃ a, V.ref p = .ref a ∧ (∃ xs, SqL K H1 a xs) ∧ LcTail (Itl K a) H1 g tt te vs σ Q := by
  obtain ⟨ts, h1, h2, h3⟩ := hP
  refine ⟨p, rfl, ⟨_, .inl (.inl h1)⟩, lc_filf (walk_list (xs := ts.map V.ref)) t f (fun H e => .inl (.inl (e _ _ h1))) (by rw [List.length_map]; omega) ?_ ?_⟩
  · rintro i x H H' hi e ⟨rfl, hx⟩ k kk hk hk2
    rw [List.length_map] at hi
    rw [List.getElem?_map] at hx
    cases ht : ts[i]? with
    | none => rw [ht] at hx; cases hx
    | some T =>
      rw [ht] at hx
      obtain rfl := Option.some.inj hx
      exact turn i T _ (by omega) e (e _ _ (h3 i T ht)) k kk hk hk2
  · intro D H hD e hd
    rw [List.length_map, h2] at hd
    exact fin D H hD e hd
/-! ### one moved, its sums -/
theorem Sg_sub {n : Nat} {f g : Int → Int} : Sg n (fun i => f i - g i) = Sg n f - Sg n g := by
  induction n with
  | zero => rfl
  | succ n ih => rw [Sg_succ, Sg_succ, Sg_succ, ih]; omega
theorem Sg_move {n h g : Nat} {f : Int → Int} (hh : h < n) (hg : g < n) : Sg n (moveF f h g) = Sg n f := by
  have e : Sg n (moveF f h g) = Sg n (fun i => f i - (if i = (h : Int) then 1 else 0)) + Sg n (fun i => if i = (g : Int) then 1 else 0) := Sg_add
  rw [e, Sg_sub, Sg_one hh (fun _ => 1), Sg_one hg (fun _ => 1)]
  omega
theorem nn_move {n h g : Nat} {f : Int → Int} (nn : ∀ j : Nat, j < n → 0 ≤ f j) (h0 : 1 ≤ f h) : ∀ j : Nat, j < n → 0 ≤ moveF f h g j := fun j hj => by
  have := nn j hj
  show 0 ≤ f j - (if (j : Int) = (h : Int) then 1 else 0) + (if (j : Int) = (g : Int) then 1 else 0)
  by_cases q1 : (j : Int) = (h : Int)
  · rw [if_pos q1, q1]
    split <;> omega
  · rw [if_neg q1]
    split <;> omega
theorem mono_Sg {n : Nat} {f : Int → Int} (nn : ∀ j : Nat, j < n → 0 ≤ f j) : mono n fun k => Sg k.toNat f := fun j hj => by
  show Sg (j : Int).toNat f ≤ Sg ((j : Int) + 1).toNat f
  rw [Int.toNat_natCast, show ((j : Int) + 1).toNat = j + 1 by omega, Sg_succ]
  have := nn j hj
  omega
theorem step_of {n : Nat} {A : Int → Int} (m : mono n A) (h : A 0 < A (n : Int)) : ∃ j : Nat, j < n ∧ 0 < A ((j : Int) + 1) - A j := by
  induction n with
  | zero => exact absurd h (by show ¬ A 0 < A 0; omega)
  | succ n ih =>
    by_cases q : A 0 < A (n : Int)
    · obtain ⟨j, hj, e⟩ := ih (fun j hj => m j (by omega)) q
      exact ⟨j, by omega, e⟩
    · refine ⟨n, by omega, ?_⟩
      rw [show ((n + 1 : Nat) : Int) = (n : Int) + 1 by omega] at h
      have := mono_le m (i := 0) (j := n) (by omega) (by omega)
      have h0 : ((0 : Nat) : Int) = 0 := rfl
      rw [h0] at this
      omega
theorem fil_nil {n : Nat} {t : Nat → Bool} : ((List.range n).filter t = []) ↔ ∀ i, i < n → t i = false := by
  rw [List.filter_eq_nil_iff]
  constructor
  · intro h i hi
    exact Bool.eq_false_iff.mpr (h i (List.mem_range.mpr hi))
  · intro h i hi
    exact Bool.eq_false_iff.mp (h i (List.mem_range.mp hi))
theorem mn_comm {A B : Int → Int} : mnF B A = mnF A B := funext fun k => by
  show (if A k < B k then A k else B k) = if B k < A k then B k else A k
  split <;> split <;> omega
theorem mx_comm {A B : Int → Int} : mxF B A = mxF A B := funext fun k => by
  show (if A k > B k then A k else B k) = if B k > A k then B k else A k
  split <;> split <;> omega
theorem dep2 (s : List Int) (P : Int) : (PyData.list [PySem.W.Datum.toD s, .int P]).depth ≤ 64 := by
  have h : (PySem.W.Datum.toD s).depth ≤ PySem.W.Datum.depth (List Int) := PySem.W.Datum.depth_le s
  have h2 : PySem.W.Datum.depth (List Int) ≤ 10 := by decide
  simp only [PyData.depth, PyData.depthAll]
  omega
end Hn

/-! Who is there. -/
namespace Hn
open PySem PySem.Spec PyProof.Rows L2 Evl
/-- how many of F are there at h -/
def thF (n : Nat) (s : List Int) (F : Int → Int) (h : Int) : Int := Sg n (fun b => if b < cyc s (h - b) then F (h - b) else 0)
theorem fil_sum (p : Nat → Bool) (f : Int → Int) (n : Nat) : (((List.range n).filter p).map fun (i : Nat) => f (i : Int)).sum = Sg n (fun i => if p i.toNat = true then f i else 0) := by
  induction n with
  | zero => rfl
  | succ n ih =>
    rw [List.range_succ, List.filter_append, List.map_append, List.sum_append, ih, Sg_succ, Int.toNat_natCast]
    congr 1
    by_cases q : p n = true
    · rw [List.filter_cons, if_pos q, if_pos q]
      simp
    · rw [List.filter_cons, if_neg q, if_neg q]
      rfl
theorem sum_rev (l : List Int) : l.reverse.sum = l.sum := by
  induction l with
  | nil => rfl
  | cons x l ih => rw [List.reverse_cons, List.sum_append, ih, List.sum_cons]; simp; omega
theorem serving_sum {s : List Int} (g : Good s) {F : Int → Int} (hF : ∀ i, F (i % (s.length : Int)) = F i) (h : Int) : ((servingOf s h).map F).sum = thF s.length s F h := by
  rw [← serving_filter g h, List.map_reverse, sum_rev, List.map_map]
  have e := fil_sum (fun (b : Nat) => decide ((b : Int) < cyc s (h - (b : Int)))) (fun b => F (h - b)) s.length
  have e2 : (F ∘ fun (b : Nat) => (h - (b : Int)) % (s.length : Int)) = fun (b : Nat) => F (h - (b : Int)) := funext fun b => hF _
  rw [e2, e]
  refine Sg_congr fun i h0 _ => ?_
  rw [show ((i.toNat : Nat) : Int) = i by omega]
  by_cases q : i < cyc s (h - i)
  · rw [if_pos (decide_eq_true q), if_pos q]
  · rw [if_neg (by rw [decide_eq_false q]; decide), if_neg q]
theorem th_congr {n : Nat} {s : List Int} {F G : Int → Int} (h : ∀ i, F i = G i) (t : Int) : thF n s F t = thF n s G t := by
  rw [show F = G from funext h]
theorem th_add {n : Nat} {s : List Int} {F G : Int → Int} (t : Int) : thF n s (fun i => F i + G i) t = thF n s F t + thF n s G t := by
  unfold thF
  rw [← Sg_add]
  refine Sg_congr fun i _ _ => ?_
  show (if i < cyc s (t - i) then F (t - i) + G (t - i) else 0) = (if i < cyc s (t - i) then F (t - i) else 0) + (if i < cyc s (t - i) then G (t - i) else 0)
  split <;> omega
theorem th_sub {n : Nat} {s : List Int} {F G : Int → Int} (t : Int) : thF n s (fun i => F i - G i) t = thF n s F t - thF n s G t := by
  unfold thF
  rw [← Sg_sub]
  refine Sg_congr fun i _ _ => ?_
  show (if i < cyc s (t - i) then F (t - i) - G (t - i) else 0) = (if i < cyc s (t - i) then F (t - i) else 0) - (if i < cyc s (t - i) then G (t - i) else 0)
  split <;> omega
theorem th_nn {n : Nat} {s : List Int} {F : Int → Int} (h : ∀ i, 0 ≤ F i) (t : Int) : 0 ≤ thF n s F t := Sg_nn fun j _ => by
  show 0 ≤ if (j : Int) < cyc s (t - j) then F (t - j) else 0
  split
  · exact h _
  · omega
theorem th_per {s : List Int} {F : Int → Int} (p : ∀ i, F (i + (s.length : Int)) = F i) (t : Int) : thF s.length s F (t + (s.length : Int)) = thF s.length s F t := by
  unfold thF
  refine Sg_congr fun i _ _ => ?_
  rw [show t + (s.length : Int) - i = t - i + (s.length : Int) by omega, cyc_per, p]
theorem th_turn {s : List Int} (hn : 1 ≤ s.length) {F : Int → Int} (c t : Int) : thF s.length (turnS s c) (fun i => F (i + c)) t = thF s.length s F (t + c) := by
  unfold thF
  refine Sg_congr fun i _ _ => ?_
  show (if i < cyc (turnS s c) (t - i) then F (t - i + c) else 0) = _
  rw [cyc_turn hn, show t - i + c = t + c - i by omega]
theorem th_sum {s : List Int} (g : Good s) {F : Int → Int} (p : ∀ i, F (i + (s.length : Int)) = F i) : Sg s.length (thF s.length s F) = Sg s.length (fun i => F i * cyc s i) := by
  unfold thF
  rw [Sg_swap]
  have e : ∀ b : Int, Sg s.length (fun h => if b < cyc s (h - b) then F (h - b) else 0) = Sg s.length (fun i => if b < cyc s i then F i else 0) := fun b => by
    have := Sg_turn (n := s.length) (f := fun i => if b < cyc s i then F i else 0) (fun i => by rw [cyc_per, p]) (-b)
    rw [← this]
    refine Sg_congr fun i _ _ => ?_
    rw [show i + -b = i - b by omega]
  rw [show (fun b => Sg s.length (fun h => if b < cyc s (h - b) then F (h - b) else 0)) = fun b => Sg s.length (fun i => if b < cyc s i then F i else 0) from funext e, Sg_swap]
  refine Sg_congr fun i _ _ => ?_
  have c := cnt_below (n := s.length) (c := cyc s i) (by have := g.lo i; omega) (g.hi i)
  have m := Sg_mul (n := s.length) (F i) (fun b => if b < cyc s i then 1 else 0)
  rw [c] at m
  rw [← m]
  refine Sg_congr fun b _ _ => ?_
  split <;> omega
theorem th_all {n : Nat} {F : Int → Int} (hn : 1 ≤ n) (p : ∀ i, F (i + (n : Int)) = F i) (t : Int) : thF n (List.replicate n (n : Int)) F t = Sg n F := by
  unfold thF
  have e : Sg n (fun b => if b < cyc (List.replicate n (n : Int)) (t - b) then F (t - b) else 0) = Sg n (fun b => F (t - b)) := Sg_congr fun b _ h1 => by
    rw [cyc_rep hn, if_pos h1]
  rw [e]
  have r := Sg_rev (n := n) (fun b => F (t - b))
  rw [← r]
  have q := Sg_turn (n := n) (f := F) p (t - n + 1)
  rw [← q]
  refine Sg_congr fun i _ _ => ?_
  rw [show t - ((n : Int) - 1 - i) = i + (t - n + 1) by omega]
theorem th_one {n : Nat} {F : Int → Int} (hn : 1 ≤ n) (t : Int) : thF n (List.replicate n 1) F t = F t := by
  unfold thF
  obtain ⟨m, rfl⟩ : ∃ m, n = m + 1 := ⟨n - 1, by omega⟩
  rw [Sg_first]
  have e : Sg m (fun i => if i + 1 < cyc (List.replicate (m + 1) 1) (t - (i + 1)) then F (t - (i + 1)) else 0) = Sg m (fun _ => 0) := Sg_congr fun i h0 _ => by
    rw [cyc_rep hn, if_neg (by omega)]
  rw [e, Sg_zero, cyc_rep hn, if_pos (by omega), show t - 0 = t by omega]
  omega
/-- one who begins at h -/
theorem th_delta {s : List Int} (g : Good s) {h : Nat} (hh : h < s.length) (t : Int) : thF s.length s (fun i => if i % (s.length : Int) = (h : Int) then 1 else 0) t = if (t - (h : Int)) % (s.length : Int) < cyc s (h : Int) then 1 else 0 := by
  unfold thF
  have hm := mod_bd g.ne (t - (h : Int))
  obtain ⟨c, hc⟩ : ∃ c : Nat, (t - (h : Int)) % (s.length : Int) = (c : Int) := ⟨((t - (h : Int)) % (s.length : Int)).toNat, (Int.toNat_of_nonneg hm.1).symm⟩
  have e : Sg s.length (fun b => if b < cyc s (t - b) then (if (t - b) % (s.length : Int) = (h : Int) then 1 else 0) else 0) = Sg s.length (fun b => if b = (c : Int) then (if b < cyc s (t - b) then 1 else 0) else 0) := Sg_congr fun b b0 b1 => by
    have iff : (t - b) % (s.length : Int) = (h : Int) ↔ b = (c : Int) := by
      constructor
      · intro q
        rw [← hc, ← q, Int.sub_emod_emod, show t - (t - b) = b by omega, Int.emod_eq_of_lt b0 b1]
      · intro q
        rw [q, ← hc, Int.sub_emod_emod, show t - (t - (h : Int)) = h by omega, Int.emod_eq_of_lt (by omega) (by omega)]
    by_cases q1 : b = (c : Int)
    · rw [if_pos q1, if_pos (iff.mpr q1)]
    · rw [if_neg q1, if_neg (fun z => q1 (iff.mp z))]
      split <;> rfl
  rw [e, Sg_one (by omega) (fun b => if b < cyc s (t - b) then 1 else 0), hc]
  have ec : cyc s (t - (c : Int)) = cyc s (h : Int) := cyc_congr (by rw [← hc, Int.sub_emod_emod, show t - (t - (h : Int)) = h by omega])
  rw [ec]
theorem per_mod {n : Nat} (hn : 1 ≤ n) {F : Int → Int} (p : ∀ i, F (i + (n : Int)) = F i) (i : Int) : F (i % (n : Int)) = F i := by
  have up : ∀ (k : Nat) (x : Int), F (x + (k : Int) * (n : Int)) = F x := fun k => by
    induction k with
    | zero => intro x; simp
    | succ k ih =>
      intro x
      rw [show x + ((k + 1 : Nat) : Int) * (n : Int) = x + (k : Int) * (n : Int) + (n : Int) by rw [show ((k + 1 : Nat) : Int) = (k : Int) + 1 by omega, Int.add_mul]; omega, p, ih]
  have e := Int.emod_add_mul_ediv i (n : Int)
  rcases Int.le_total 0 (i / (n : Int)) with q | q
  · have := up (i / (n : Int)).toNat (i % (n : Int))
    rw [Int.toNat_of_nonneg q, Int.mul_comm, e] at this
    exact this.symm
  · have := up (-(i / (n : Int))).toNat i
    rw [Int.toNat_of_nonneg (by omega)] at this
    rw [← this]
    congr 1
    rw [Int.neg_mul, Int.mul_comm]
    omega
def thR (s t : List Int) : List Int := rowOf s.length (thF s.length s (cyc t))
theorem thR_length (s t : List Int) : (thR s t).length = s.length := rowOf_length _ _
/-- the hours at which there are too few -/
def lackL (n : Nat) (a b : Int → Int) : List Int := ((List.range n).filter fun (h : Nat) => decide (a (h : Int) < b (h : Int))).map fun (h : Nat) => (h : Int)
def enough (n : Nat) (a b : Int → Int) : Bool := (List.range n).all fun (h : Nat) => decide (b (h : Int) ≤ a (h : Int))
theorem enough_iff {n : Nat} {a b : Int → Int} : enough n a b = true ↔ ∀ h : Nat, h < n → b h ≤ a h := by
  unfold enough
  rw [List.all_eq_true]
  exact ⟨fun q h hh => of_decide_eq_true (q h (List.mem_range.mpr hh)), fun q h hh => decide_eq_true (q h (List.mem_range.mp hh))⟩
theorem lack_nil {n : Nat} {a b : Int → Int} : decide (lackL n a b = []) = enough n a b := by
  rw [Bool.eq_iff_iff, decide_eq_true_iff, enough_iff]
  unfold lackL
  rw [List.map_eq_nil_iff, fil_nil]
  constructor
  · intro q h hh
    have := of_decide_eq_false (q h hh)
    omega
  · intro q h hh
    have := q h hh
    exact decide_eq_false (by omega)
theorem mem_lack {n : Nat} {a b : Int → Int} {h : Int} : h ∈ lackL n a b ↔ 0 ≤ h ∧ h < (n : Int) ∧ a h < b h := by
  unfold lackL
  rw [List.mem_map]
  constructor
  · rintro ⟨j, hj, rfl⟩
    obtain ⟨h1, h2⟩ := List.mem_filter.mp hj
    exact ⟨by omega, by have := List.mem_range.mp h1; omega, of_decide_eq_true h2⟩
  · rintro ⟨h0, h1, h2⟩
    refine ⟨h.toNat, List.mem_filter.mpr ⟨List.mem_range.mpr (by omega), ?_⟩, by omega⟩
    rw [Int.toNat_of_nonneg h0]
    exact decide_eq_true h2
/-! ### hour, (x, y) -/
theorem r_pairP {K : PySem.W.Frag} {σ : L2.St} {H : Hp} {T t : Addr} {x y z : V} {n m l : Nat} {q : L2.St → Hp → Prop} (ht : (upd H T (.tup [x, .ref t])) t = some (.tup [y, z])) (h : q (((σ.set n (some x)).set m (some y)).set l (some z)) (upd H T (.tup [x, .ref t]))) :
    gTup K 2 (gCons (gName n) (gCons (gTup K 2 (gCons (gName m) (gCons (gName l) gNil))) gNil)) (.ref T) σ (upd H T (.tup [x, .ref t])) q :=
  ⟨T, [x, .ref t], rfl, .inl (.inl upd_same), rfl, x, [.ref t], rfl, .ref t, [], rfl, t, [y, z], rfl, .inl (.inl ht), rfl, y, [z], rfl, z, [], rfl, rfl, rfl, h⟩
/-- list(zip(a, b)) of ints -/
theorem r_zipI {K : PySem.W.Frag} {H : Hp} {Q : VK} {a b : Addr} {ns ms : List Int} (hA : Sq K H a (ns.map V.int)) (hB : Sq K H b (ms.map V.int)) (hl : ms.length = ns.length) (h1 : 1 ≤ ns.length) (k : ∀ p H', H p = none → Ex H H' → Prs H' p ns ms → Q (.ref p) H') : rListZip K [.ref a, .ref b] H Q := by
  refine ⟨a, b, _, _, rfl, hA, hB, by rw [List.length_map, List.length_map, hl], by rw [List.length_map]; exact h1, fun H' p ts e np nt npt hp tl ht => ?_⟩
  refine k p H' np e ⟨ts, hp, by rw [tl, List.length_map], fun j t hj => ?_⟩
  have hj' : j < ns.length := by
    have := (List.getElem?_eq_some_iff.mp hj).1
    rw [tl, List.length_map] at this
    exact this
  refine ht j t _ _ hj ?_ ?_
  · rw [List.getElem?_map, List.getElem?_eq_getElem hj', List.getD_eq_getElem?_getD, List.getElem?_eq_getElem hj']
    rfl
  · rw [List.getElem?_map, List.getElem?_eq_getElem (by omega), List.getD_eq_getElem?_getD, List.getElem?_eq_getElem (by omega)]
    rfl
theorem fil_ix (l : List Int) (p : Int → Bool) : ((List.range l.length).filter (fun j => p (l.getD j 0))).map (fun j => l.getD j 0) = l.filter p := by
  have e : (List.range l.length).map (fun j => l.getD j 0) = l := by
    have := map_range_int l V.int
    refine List.ext_getElem? fun i => ?_
    rcases Nat.lt_or_ge i l.length with h | h
    · rw [List.getElem?_map, List.getElem?_range h, List.getElem?_eq_getElem h]
      show some (l.getD i 0) = _
      rw [List.getD_eq_getElem?_getD, List.getElem?_eq_getElem h]
      rfl
    · rw [List.getElem?_eq_none (by rw [List.length_map, List.length_range]; exact h), List.getElem?_eq_none h]
  conv => rhs; rw [← e]
  rw [List.filter_map]
  rfl
theorem thR_add {s t1 t2 : List Int} (h1 : t1.length = s.length) (h2 : t2.length = s.length) (hn : 1 ≤ s.length) : thR s (zipR (fun a b => a + b) t1 t2) = rowOf s.length fun h => thF s.length s (cyc t1) h + thF s.length s (cyc t2) h := by
  unfold thR
  refine rowOf_congr fun i _ _ => ?_
  rw [← th_add]
  exact th_congr (fun i => cyc_zipR (by omega) (by omega) i) _
theorem lack_or {n : Nat} {a b c m : Int → Int} (hm : ∀ h : Nat, h < n → (a h < m h ↔ (a h < b h ∨ a h < c h))) : ((List.range n).filter fun (h : Nat) => decide ((h : Int) ∈ lackL n a b ++ lackL n a c)).map (fun (h : Nat) => (h : Int)) = lackL n a m := by
  unfold lackL
  congr 1
  refine List.filter_congr fun h hh => ?_
  have h1 := List.mem_range.mp hh
  refine decide_eq_decide.mpr ?_
  rw [List.mem_append, hm h h1]
  have e1 := mem_lack (n := n) (a := a) (b := b) (h := (h : Int))
  have e2 := mem_lack (n := n) (a := a) (b := c) (h := (h : Int))
  unfold lackL at e1 e2
  rw [e1, e2]
  omega
theorem lack_and {n : Nat} {a b c m : Int → Int} (hm : ∀ h : Nat, h < n → (a h < m h ↔ (a h < b h ∧ a h < c h))) : (lackL n a b).filter (fun h => decide (h ∈ lackL n a c)) = lackL n a m := by
  have e2 : ∀ h : Int, h ∈ lackL n a c ↔ 0 ≤ h ∧ h < (n : Int) ∧ a h < c h := fun h => mem_lack
  rw [show (fun h => decide (h ∈ lackL n a c)) = fun h => decide (0 ≤ h ∧ h < (n : Int) ∧ a h < c h) from funext fun h => decide_eq_decide.mpr (e2 h)]
  unfold lackL
  rw [List.filter_map]
  congr 1
  rw [List.filter_filter]
  refine List.filter_congr fun h hh => ?_
  have h1 := List.mem_range.mp hh
  rw [Bool.eq_iff_iff, Bool.and_eq_true, decide_eq_true_iff, decide_eq_true_iff, hm h h1]
  show decide (0 ≤ (h : Int) ∧ (h : Int) < (n : Int) ∧ a (h : Int) < c (h : Int)) = true ∧ a (h : Int) < b (h : Int) ↔ _
  rw [decide_eq_true_iff]
  omega
theorem cat_nil {n : Nat} {a b c m : Int → Int} (hm : ∀ h : Nat, h < n → (a h < m h ↔ (a h < b h ∨ a h < c h))) : decide (lackL n a b ++ lackL n a c = []) = enough n a m := by
  rw [← lack_nil, ← lack_or hm]
  refine decide_eq_decide.mpr ?_
  rw [List.map_eq_nil_iff, fil_nil]
  constructor
  · intro e i hi
    rw [e]
    exact decide_eq_false (by simp)
  · intro e
    refine List.eq_nil_iff_forall_not_mem.mpr fun x hx => ?_
    have hb : 0 ≤ x ∧ x < (n : Int) := by
      rcases List.mem_append.mp hx with q | q
      · have := mem_lack.mp q; omega
      · have := mem_lack.mp q; omega
    have := of_decide_eq_false (e x.toNat (by omega))
    rw [Int.toNat_of_nonneg hb.1] at this
    exact this hx
theorem good_thR {s t : List Int} (g : Good s) (gt : GoodN t) (hl : t.length = s.length) : GoodN (thR s t) :=
  GoodN.of (by rw [thR_length]; exact g.ne) (by rw [thR_length, ← hl]; exact gt.le) (row_all (P := fun z => 0 ≤ z) fun j _ => th_nn (fun i => gt.nn i) _)
theorem cyc_thR {s t : List Int} {h : Nat} (hh : h < s.length) : cyc (thR s t) (h : Int) = thF s.length s (cyc t) (h : Int) := by
  rw [cyc_at (by rw [thR_length]; exact hh)]
  unfold thR
  rw [rowOf_getD _ hh]
theorem per_cyc {s t : List Int} (hl : t.length = s.length) (i : Int) : cyc t (i + (s.length : Int)) = cyc t i := by rw [← hl]; exact cyc_per t i
theorem thR_turn {s t : List Int} (g : Good s) (hl : t.length = s.length) (c : Int) : thR (turnS s c) (turnS t c) = turnS (thR s t) c := by
  have hn := g.ne
  unfold thR
  rw [turnS_length]
  conv => rhs; unfold turnS
  rw [rowOf_length]
  refine rowOf_congr fun i _ _ => ?_
  rw [cyc_rowOf _ hn]
  have e : thF s.length (turnS s c) (cyc (turnS t c)) i = thF s.length (turnS s c) (fun j => cyc t (j + c)) i := th_congr (fun j => cyc_turn (by omega) c j) _
  rw [e, th_turn hn]
  have per := fun x => th_per (s := s) (F := cyc t) (per_cyc hl) x
  exact (per_mod hn per _).symm
theorem lack_dom {n : Nat} {a : Int → Int} {r1 r2 : List Int} (h1 : 1 ≤ r1.length) (hl : r2.length = r1.length) :
    (∀ h : Nat, h < n → (a h < cyc (zipR (fun a b => if b > a then b else a) r1 r2) h ↔ (a h < cyc r1 h ∨ a h < cyc r2 h))) ∧ (∀ h : Nat, h < n → (a h < cyc (zipR (fun a b => if b < a then b else a) r1 r2) h ↔ (a h < cyc r1 h ∧ a h < cyc r2 h))) := by
  refine ⟨fun h _ => ?_, fun h _ => ?_⟩
  · rw [cyc_zipR h1 hl]
    show a h < (if cyc r2 h > cyc r1 h then cyc r2 h else cyc r1 h) ↔ _
    split <;> omega
  · rw [cyc_zipR h1 hl]
    show a h < (if cyc r2 h < cyc r1 h then cyc r2 h else cyc r1 h) ↔ _
    split <;> omega
theorem sum_turn {t : List Int} (h1 : 1 ≤ t.length) (c : Int) : (turnS t c).sum = t.sum := by
  unfold turnS
  rw [sum_row, Sg_turn (fun i => cyc_per t i), ← sum_cyc]
theorem enough_turn {s t r : List Int} (g : Good s) (hl : t.length = s.length) (hr : r.length = s.length) (c : Int) :
    enough s.length (thF s.length (turnS s c) (cyc (turnS t c))) (cyc (turnS r c)) = enough s.length (thF s.length s (cyc t)) (cyc r) := by
  have hn := g.ne
  have e : ∀ i, thF s.length (turnS s c) (cyc (turnS t c)) i = thF s.length s (cyc t) (i + c) := fun i => by
    rw [← th_turn hn]
    exact th_congr (fun j => cyc_turn (by omega) c j) _
  have per : ∀ i, thF s.length s (cyc t) (i + (s.length : Int)) = thF s.length s (cyc t) i := fun i => th_per (per_cyc hl) i
  have perr : ∀ i, cyc r (i + (s.length : Int)) = cyc r i := per_cyc hr
  rw [Bool.eq_iff_iff, enough_iff, enough_iff]
  constructor
  · intro q h hh
    have hm := mod_bd hn ((h : Int) - c)
    have := q ((((h : Int) - c) % (s.length : Int)).toNat) (by omega)
    rw [Int.toNat_of_nonneg hm.1, e, cyc_turn (by omega)] at this
    have e1 := per_mod hn per (((h : Int) - c) % (s.length : Int) + c)
    have e2 := per_mod hn perr (((h : Int) - c) % (s.length : Int) + c)
    rw [Int.emod_add_emod, show (h : Int) - c + c = h by omega, Int.emod_eq_of_lt (by omega) (by omega)] at e1 e2
    rw [← e1, ← e2] at this
    exact this
  · intro q h hh
    have hm := mod_bd hn ((h : Int) + c)
    have := q ((((h : Int) + c) % (s.length : Int)).toNat) (by omega)
    rw [Int.toNat_of_nonneg hm.1, per_mod hn per, per_mod hn perr] at this
    rw [e, cyc_turn (by omega)]
    exact this
/-- one moved, who is there -/
theorem th_move {s : List Int} (g : Good s) {n h k : Nat} {f : Int → Int} (hn : n = s.length) (hh : h < n) (hk : k < n) (t : Int) : thF s.length s (cyc (rowOf n (moveF f h k))) t = thF s.length s (cyc (rowOf n f)) t - (if (t - (h : Int)) % (s.length : Int) < cyc s (h : Int) then 1 else 0) + (if (t - (k : Int)) % (s.length : Int) < cyc s (k : Int) then 1 else 0) := by
  rw [← th_delta g (by omega : h < s.length), ← th_delta g (by omega : k < s.length), ← th_sub, ← th_add]
  refine th_congr (fun i => ?_) t
  rw [cyc_rowOf _ (by omega), cyc_rowOf _ (by omega), hn]
  rfl
theorem move_back {n h k : Nat} {f : Int → Int} : moveF (moveF f h k) k h = f := funext fun i => by
  show f i - (if i = (h : Int) then 1 else 0) + (if i = (k : Int) then 1 else 0) - (if i = (k : Int) then 1 else 0) + (if i = (h : Int) then 1 else 0) = f i
  omega
theorem thR_all {n : Nat} {t : List Int} (hn : 1 ≤ n) (hl : t.length = n) : thR (List.replicate n (n : Int)) t = List.replicate n t.sum := by
  unfold thR
  rw [List.length_replicate]
  have e : rowOf n (thF n (List.replicate n (n : Int)) (cyc t)) = rowOf n fun _ => t.sum := rowOf_congr fun i _ _ => by
    rw [th_all hn (fun i => by rw [← hl]; exact cyc_per t i), sum_cyc, hl]
  rw [e]
  unfold rowOf
  rw [List.map_const', List.length_range]
theorem thR_one {n : Nat} {t : List Int} (hn : 1 ≤ n) (hl : t.length = n) : thR (List.replicate n 1) t = t := by
  unfold thR
  rw [List.length_replicate]
  have e : rowOf n (thF n (List.replicate n 1) (cyc t)) = rowOf n (cyc t) := rowOf_congr fun i _ _ => th_one hn i
  rw [e, ← hl]
  exact (row_cyc t).symm
theorem two_of {α : Type} {l : List α} (h : l.length = 2) : ∃ a b, l = [a, b] := by
  match l, h with
  | [a, b], _ => exact ⟨a, b, rfl⟩
theorem RowsP.two {H : Hp} {D : Addr} {P : Nat → List V → Prop} (h : RowsP H D 2 P) : ∃ p q xs ys, H D = some (.lst [.ref p, .ref q]) ∧ H p = some (.lst xs) ∧ H q = some (.lst ys) ∧ P 0 xs ∧ P 1 ys := by
  obtain ⟨zs, h1, h2, h3⟩ := h
  obtain ⟨a, b, rfl⟩ := two_of h2
  obtain ⟨p, xs, rfl, hp, px⟩ := h3 0 a rfl
  obtain ⟨q, ys, rfl, hq, py⟩ := h3 1 b rfl
  exact ⟨p, q, xs, ys, h1, hp, hq, px, py⟩
end Hn

/-! Windows by sums: plans that are enough, closed. -/
namespace Hn
open PySem PySem.Spec PyProof.Rows L2 Evl
/-- sums that go on over the days -/
def ext (n : Nat) (P : Int) (A : Int → Int) (k : Int) : Int := A (k % (n : Int)) + k / (n : Int) * P
theorem ext_step {n : Nat} {P : Int} {A : Int → Int} (hn : 1 ≤ n) (h0 : A 0 = 0) (hP : A (n : Int) = P) (i : Int) : cyc (byS n A) i = ext n P A (i + 1) - ext n P A i := by
  unfold byS ext
  rw [cyc_rowOf _ hn]
  show A (i % (n : Int) + 1) - A (i % (n : Int)) = _
  have hm := mod_bd hn i
  have e := Int.emod_add_mul_ediv i (n : Int)
  generalize hq : i / (n : Int) = q at e
  generalize hr : i % (n : Int) = r at e hm
  by_cases c : r + 1 = (n : Int)
  · have e1 : i + 1 = (n : Int) * (q + 1) := by rw [Int.mul_add, Int.mul_one]; omega
    have e2 : (i + 1) % (n : Int) = 0 := by rw [e1]; exact Int.mul_emod_right _ _
    have e3 : (i + 1) / (n : Int) = q + 1 := by rw [e1]; exact Int.mul_ediv_cancel_left _ (by omega)
    rw [e2, e3, h0, c, hP, Int.add_mul, Int.one_mul]
    omega
  · have e1 : i + 1 = r + 1 + (n : Int) * q := by omega
    have e2 : (i + 1) % (n : Int) = r + 1 := by rw [e1, Int.add_mul_emod_self_left, Int.emod_eq_of_lt (by omega) (by omega)]
    have e3 : (i + 1) / (n : Int) = q := by rw [e1, Int.add_mul_ediv_left _ _ (by omega), Int.ediv_eq_zero_of_lt (by omega) (by omega)]; omega
    rw [e2, e3]
    omega
theorem Sg_cut {n : Nat} {f : Int → Int} : ∀ {w : Nat}, w ≤ n → Sg n (fun b => if b < (w : Int) then f b else 0) = Sg w f := by
  induction n with
  | zero => intro w h; obtain rfl : w = 0 := by omega
            rfl
  | succ n ih =>
    intro w h
    rw [Sg_succ]
    by_cases q : w = n + 1
    · subst q
      rw [if_pos (by omega), Sg_succ]
      congr 1
      exact Sg_congr fun i _ h1 => if_pos (by omega)
    · rw [ih (by omega), if_neg (by omega)]
      omega
theorem th_win {s : List Int} (g : Good s) {P : Int} {A : Int → Int} (h0 : A 0 = 0) (hP : A (s.length : Int) = P) (h : Int) : thF s.length s (cyc (byS s.length A)) h = ext s.length P A (h + 1) - ext s.length P A (h + 1 - wd s h) := by
  have hw0 := wd_nn (s := s) h
  have hw1 := wd_le (s := s) h
  obtain ⟨w, hw⟩ : ∃ w : Nat, wd s h = (w : Int) := ⟨(wd s h).toNat, (Int.toNat_of_nonneg hw0).symm⟩
  unfold thF
  have e : Sg s.length (fun b => if b < cyc s (h - b) then cyc (byS s.length A) (h - b) else 0) = Sg s.length (fun b => if b < (w : Int) then cyc (byS s.length A) (h - b) else 0) := Sg_congr fun b b0 b1 => by
    have := wd_iff g h (b := b.toNat) (by omega)
    rw [show ((b.toNat : Nat) : Int) = b by omega, hw] at this
    by_cases q : b < cyc s (h - b)
    · rw [if_pos q, if_pos (this.mpr q)]
    · rw [if_neg q, if_neg (fun z => q (this.mp z))]
  rw [e, Sg_cut (by omega)]
  have d := Sg_diff w (fun b => -ext s.length P A (h - b + 1))
  have e2 : Sg w (fun b => cyc (byS s.length A) (h - b)) = Sg w (fun i => -ext s.length P A (h - (i + 1) + 1) - -ext s.length P A (h - i + 1)) := Sg_congr fun i _ _ => by
    rw [ext_step g.ne h0 hP, show h - (i + 1) + 1 = h - i by omega]
    omega
  rw [e2, d, hw, show h - 0 + 1 = h + 1 by omega, show h - (w : Int) + 1 = h + 1 - w by omega]
  omega
theorem ext_mn {n : Nat} {P : Int} {A B : Int → Int} (k : Int) : ext n P (mnF A B) k ≤ ext n P A k ∧ ext n P (mnF A B) k ≤ ext n P B k ∧ (ext n P (mnF A B) k = ext n P A k ∨ ext n P (mnF A B) k = ext n P B k) := by
  have := mn_at (A := A) (B := B) (k % (n : Int))
  unfold ext
  omega
theorem ext_mx {n : Nat} {P : Int} {A B : Int → Int} (k : Int) : ext n P A k ≤ ext n P (mxF A B) k ∧ ext n P B k ≤ ext n P (mxF A B) k ∧ (ext n P (mxF A B) k = ext n P A k ∨ ext n P (mxF A B) k = ext n P B k) := by
  have := mx_at (A := A) (B := B) (k % (n : Int))
  unfold ext
  omega
section
variable {s : List Int} {P : Int} {A B : Int → Int} {r : Int → Int}
theorem enough_mn (g : Good s) (a0 : A 0 = 0) (aP : A (s.length : Int) = P) (b0 : B 0 = 0) (bP : B (s.length : Int) = P) (h1 : enough s.length (thF s.length s (cyc (byS s.length A))) r = true) (h2 : enough s.length (thF s.length s (cyc (byS s.length B))) r = true) :
    enough s.length (thF s.length s (cyc (byS s.length (mnF A B)))) r = true := by
  rw [enough_iff] at h1 h2 ⊢
  intro h hh
  have q1 := h1 h hh
  have q2 := h2 h hh
  have m0 := mn_at (A := A) (B := B) 0
  have mn := mn_at (A := A) (B := B) (s.length : Int)
  rw [th_win g a0 aP] at q1
  rw [th_win g b0 bP] at q2
  rw [th_win (P := P) g (by omega) (by omega)]
  have x1 := ext_mn (n := s.length) (P := P) (A := A) (B := B) ((h : Int) + 1)
  have x2 := ext_mn (n := s.length) (P := P) (A := A) (B := B) ((h : Int) + 1 - wd s h)
  omega
theorem enough_mx (g : Good s) (a0 : A 0 = 0) (aP : A (s.length : Int) = P) (b0 : B 0 = 0) (bP : B (s.length : Int) = P) (h1 : enough s.length (thF s.length s (cyc (byS s.length A))) r = true) (h2 : enough s.length (thF s.length s (cyc (byS s.length B))) r = true) :
    enough s.length (thF s.length s (cyc (byS s.length (mxF A B)))) r = true := by
  rw [enough_iff] at h1 h2 ⊢
  intro h hh
  have q1 := h1 h hh
  have q2 := h2 h hh
  have m0 := mx_at (A := A) (B := B) 0
  have mn := mx_at (A := A) (B := B) (s.length : Int)
  rw [th_win g a0 aP] at q1
  rw [th_win g b0 bP] at q2
  rw [th_win (P := P) g (by omega) (by omega)]
  have x1 := ext_mx (n := s.length) (P := P) (A := A) (B := B) ((h : Int) + 1)
  have x2 := ext_mx (n := s.length) (P := P) (A := A) (B := B) ((h : Int) + 1 - wd s h)
  omega
end
theorem byS_congr {n : Nat} {A B : Int → Int} (h : ∀ k : Int, A k = B k) : byS n A = byS n B := by rw [show A = B from funext h]
theorem byS_eq {n : Nat} {A B : Int → Int} (h : ∀ k : Nat, k ≤ n → A k = B k) (a : A 0 = 0) (b : B 0 = 0) : byS n A = byS n B := (byS_inj a b).mpr h
theorem zip_byS {n : Nat} {A B : Int → Int} : zipR (fun a b => a + b) (byS n A) (byS n B) = byS n (fun k => A k + B k) := by
  unfold byS
  rw [zipR_row]
  refine rowOf_congr fun i _ _ => ?_
  show A (i + 1) - A i + (B (i + 1) - B i) = A (i + 1) + B (i + 1) - (A i + B i)
  omega
theorem leS_all {n : Nat} {A B : Int → Int} (h : ∀ k : Int, A k ≤ B k) : leS n A B = true := leS_iff.mpr fun k _ => h k
theorem leS_dec {n : Nat} {A B X Y : Int → Int} (hx : X 0 = 0) (hy : Y 0 = 0) (h : ∀ k : Int, A k ≤ B k ↔ X k = Y k) : leS n A B = decide (byS n X = byS n Y) := by
  rw [Bool.eq_iff_iff, leS_iff, decide_eq_true_iff, byS_inj hx hy]
  exact ⟨fun q k hk => (h k).mp (q k hk), fun q k hk => (h k).mpr (q k hk)⟩
/-! ### a list taken apart -/
theorem k_glst {X : Cx} {K : PySem.W.Frag} {es : List Expr} {k : Nat} {t : TGs} {n : Nat} {pos : Pos} (h : X.K = K) (hc : X.calm = true) (hh : PGs X es t)
    (hn : (assignEach es X.env).length = n := by rfl) (hst : (assignEach es X.env).findIdx? (·.1) = none := by rfl) : PG X (.Tuple es k pos) (gLst K n t) := h ▸ pg_lst hc hh hn hst
theorem r_lst3 {K : PySem.W.Frag} {σ : L2.St} {H : Hp} {D : Addr} {x y z : V} {n m l : Nat} {q : L2.St → Hp → Prop} (hD : SqL K H D [x, y, z]) (h : q (((σ.set n (some x)).set m (some y)).set l (some z)) H) : gLst K 3 (gCons (gName n) (gCons (gName m) (gCons (gName l) gNil))) (.ref D) σ H q :=
  ⟨D, [x, y, z], rfl, hD, rfl, x, [y, z], rfl, y, [z], rfl, z, [], rfl, rfl, h⟩
theorem three_of {α : Type} {l : List α} (h : l.length = 3) : ∃ a b c, l = [a, b, c] := by
  match l, h with
  | [a, b, c], _ => exact ⟨a, b, c, rfl⟩
end Hn

/-! Texts: rows shown, joined. -/
namespace Hn
open PySem PySem.Spec PyProof.Rows L2 Evl
/-- the text of an int -/
def txI (i : Int) : Str := Str.ofString (toString i)
/-- a text of at most n signs, each of them small -/
def Sml (x : Str) (n : Nat) : Prop := x.length ≤ n ∧ ∀ c ∈ x.cps.toList, c < 1114112
theorem Sml.mono {x : Str} {n m : Nat} (h : Sml x n) (e : n ≤ m) : Sml x m := ⟨Nat.le_trans h.1 e, h.2⟩
theorem sml_of (s : String) : ∀ c ∈ (Str.ofString s).cps.toList, c < 1114112 := fun c hc => by
  rw [Str.ofString_eq_toList] at hc
  obtain ⟨z, _, rfl⟩ := List.mem_map.mp hc
  have h : z.val.toNat < 0xd800 ∨ (0xdfff < z.val.toNat ∧ z.val.toNat < 0x110000) := z.valid
  show z.val.toNat < 1114112
  omega
theorem sml_str (s : String) {n : Nat} (h : (Str.ofString s).length ≤ n) : Sml (Str.ofString s) n := ⟨h, sml_of s⟩
theorem sml_int {i : Int} (h : i.natAbs < 10 ^ 40) : Sml (txI i) 41 := by
  refine ⟨?_, sml_of _⟩
  unfold txI
  rw [PySem.ofString_length]
  exact int_text_length_le10 (k := 40) (by decide) h
theorem sml_app {x y : Str} {n m : Nat} (a : Sml x n) (b : Sml y m) : Sml (x ++ y) (n + m) := by
  refine ⟨by rw [strLen_append]; exact Nat.add_le_add a.1 b.1, fun c hc => ?_⟩
  have e : (x ++ y).cps.toList = x.cps.toList ++ y.cps.toList := by
    show (x.cps ++ y.cps).toList = _
    exact Array.toList_append
  rw [e] at hc
  rcases List.mem_append.mp hc with h | h
  · exact a.2 c h
  · exact b.2 c h
theorem join_cons (y a : Str) (r : List Str) (h : r ≠ []) : Str.join y (a :: r) = a ++ y ++ Str.join y r := by
  cases r with
  | nil => exact absurd rfl h
  | cons b r => rfl
theorem sml_join {y : Str} {n L : Nat} (hy : Sml y L) : ∀ (ys : List Str), (∀ x ∈ ys, Sml x n) → Sml (Txt.join y ys) (ys.length * (n + L)) := fun ys => by
  rw [TL.join_eq]
  induction ys with
  | nil => exact fun _ => ⟨Nat.zero_le _, fun c hc => by exact absurd hc (List.not_mem_nil)⟩
  | cons a r ih =>
    intro h
    by_cases q : r = []
    · subst q
      refine (h a List.mem_cons_self).mono ?_
      show n ≤ 1 * (n + L)
      omega
    · rw [join_cons _ _ _ q]
      refine (sml_app (sml_app (h a List.mem_cons_self) hy) (ih fun x hx => h x (List.mem_cons_of_mem _ hx))).mono ?_
      rw [List.length_cons, Nat.add_mul, Nat.one_mul]
      omega
theorem sum_len {n : Nat} : ∀ (ys : List Str), (∀ x ∈ ys, Sml x n) → (ys.map (·.length)).sum ≤ ys.length * n
  | [], _ => Nat.zero_le _
  | a :: r, h => by
    have := sum_len r fun x hx => h x (List.mem_cons_of_mem _ hx)
    have := (h a List.mem_cons_self).1
    rw [List.map_cons, List.sum_cons, List.length_cons, Nat.add_mul, Nat.one_mul]
    omega
theorem app_assoc (x y z : Str) : x ++ y ++ z = x ++ (y ++ z) := by
  show (⟨x.cps ++ y.cps ++ z.cps⟩ : Str) = ⟨x.cps ++ (y.cps ++ z.cps)⟩
  rw [Array.append_assoc]
theorem app_nil (x : Str) : x ++ Str.empty = x := Str.append_right_empty rfl
/-- joined by a sign: each behind that sign -/
theorem join_each (y w : Str) : ∀ ys : List Str, Txt.join y (w :: ys) = w ++ Txt.join Str.empty (ys.map fun x => y ++ x) := fun ys => by
  rw [TL.join_eq, TL.join_eq]
  induction ys generalizing w with
  | nil => show w = w ++ Str.empty; rw [app_nil]
  | cons a r ih =>
    rw [join_cons _ _ _ (by simp), ih a]
    cases r with
    | nil =>
      show w ++ y ++ (a ++ Str.empty) = w ++ (y ++ a)
      rw [app_nil, app_assoc]
    | cons b r =>
      show w ++ y ++ (a ++ Str.join Str.empty ((b :: r).map fun x => y ++ x)) = w ++ Str.join Str.empty ((y ++ a) :: ((b :: r).map fun x => y ++ x))
      rw [join_cons (Str.empty) (y ++ a) _ (by simp), app_nil, app_assoc, app_assoc]
/-! ### repr of texts -/
theorem fine_txt {x : Str} {n : Nat} (h : Sml x n) : Fine (.str x) n :=
  ⟨rfl, rfl, by simp only [PyData.leavesShort]; exact List.all_eq_true.mpr fun c hc => decide_eq_true (Nat.lt_of_lt_of_le (h.2 c hc) (by decide)), by simp only [PyData.weight]; exact h.1⟩
theorem dpa_strs {K : PySem.W.Frag} {H : Hp} : ∀ ys : List Str, DpAll K H (ys.map V.str) (ys.map PyData.str)
  | [] => .nil
  | y :: ys => .cons (.str y) (dpa_strs ys)
theorem strs_of {P : Str → Prop} : ∀ {vs : List V}, (∀ v ∈ vs, ∃ z : Str, P z ∧ v = .str z) → ∃ ns : List Str, (∀ z ∈ ns, P z) ∧ vs = ns.map V.str
  | [], _ => ⟨[], fun _ h => (nomatch h), rfl⟩
  | v :: vs, h => by
    obtain ⟨z, hz, rfl⟩ := h v (List.mem_cons_self ..)
    obtain ⟨ns, hns, rfl⟩ := strs_of (vs := vs) fun w hw => h w (List.mem_cons_of_mem _ hw)
    refine ⟨z :: ns, fun y hy => ?_, rfl⟩
    rcases List.mem_cons.mp hy with rfl | hy
    · exact hz
    · exact hns y hy
def rJoin (K : PySem.W.Frag) : V → List V → Hp → VK → Prop := fun x xs H Q => ∃ a p, ∃ ys : List Str, x = .str a ∧ xs = [.ref p] ∧ (SqL K H p (ys.map V.str) ∨ SqT K H p (ys.map V.str)) ∧ (ys.map (·.length)).sum + ys.length * a.length ≤ 16777216 ∧ Q (.str (Txt.join a ys)) H
theorem k_join {X : Cx} {K : PySem.W.Frag} {o e : Expr} {to te : TE} {apos pos : Pos} (h : X.K = K) (ho : PE X o to) (he : PE X e te) (hs : starEach [e] X.env = [(false, eval e X.env)] := by rfl) (hbase : attributeBase o "join" X.env (eval o X.env) = eval o X.env := by rfl) (hline : (apos.endLine == pos.line) = true := by rfl) :
    PE X (.Call (.Attribute o "join" apos) [e] [] pos) (tM1 (rJoin K) to te) := h ▸ pe_join ho he hs hbase hline
theorem r_m1 {r : V → List V → Hp → VK → Prop} {to te : TE} {σ : L2.St} {H : Hp} {Q : VK} (h : to σ H fun x H1 => (∃ a, x = .str a) ∧ te σ H1 fun y H2 => r x [y] H2 Q) : tM1 r to te σ H Q := h
theorem r_isS {a : Str} {p : Prop} (h : p) : (∃ b, V.str a = .str b) ∧ p := ⟨⟨a, rfl⟩, h⟩
theorem r_join {K : PySem.W.Frag} {H : Hp} {Q : VK} {a : Str} {p : Addr} {n : Nat} (ys : List Str) (hp : SqL K H p (ys.map V.str)) (hs : ∀ y ∈ ys, Sml y n) (ha : a.length ≤ 10) (hn : n ≤ 1000) (hl : ys.length ≤ 1000) (q : Q (.str (Txt.join a ys)) H) : rJoin K (.str a) [.ref p] H Q := by
  refine ⟨a, p, ys, rfl, rfl, .inl hp, ?_, q⟩
  have h1 := sum_len ys hs
  have h2 : ys.length * n ≤ 1000 * 1000 := Nat.mul_le_mul hl hn
  have h3 : ys.length * a.length ≤ 1000 * 10 := Nat.mul_le_mul hl ha
  omega
def rStrI : List V → Hp → VK → Prop := fun xs H Q => ∃ i, xs = [.int i] ∧ i.natAbs.log2 < 1920 ∧ Q (.str (txI i)) H
theorem k_strI {X : Cx} : CallR X (.type "str") rStrI := call_str_int
theorem r_strI {H : Hp} {Q : VK} {i : Int} (h : i.natAbs < 10 ^ 40) (q : Q (.str (txI i)) H) : rStrI [.int i] H Q := ⟨i, rfl, by have := log_40 h; omega, q⟩
theorem r_addS {H : Hp} {Q : VK} {a b : Str} (h : a.length + b.length ≤ 100000) (q : Q (.str (a ++ b)) H) : rAddS (.str a) (.str b) H Q := ⟨a, b, rfl, rfl, by have : (100000 : Nat) ≤ sizeLine := (by decide); omega, q⟩
theorem pe_gstr {X : Cx} {x : Str} {i : Str} {pos : Pos} (hg : Gl X x) (hm : ∃ t : Tok, X.mg x = some (.str i t)) (hd : (x == ("__debug__" : Str)) = false := by decide) : PE X (.Name x pos) (tC (.str i)) :=
  let ⟨t, h⟩ := hm
  pe_glob hg h ⟨t, rfl⟩ hd
/-- a row, shown -/
def shw (w : Str) (ns : List Int) : Str := Txt.join (Str.ofString " ") (w :: ns.map txI)
theorem shw_each (w : Str) (ns : List Int) : w ++ Txt.join Str.empty (ns.map fun i => Str.ofString " " ++ txI i) = shw w ns := by
  unfold shw
  rw [join_each, List.map_map]
  rfl
theorem sml_shw {w : Str} {ns : List Int} (hw : Sml w 10) (hn : ns.length ≤ 48) (h : ∀ z ∈ ns, z.natAbs < 10 ^ 40) : Sml (shw w ns) (49 * 42) := by
  refine (sml_join (n := 41) (L := 1) (sml_str " " (by decide)) (w :: ns.map txI) fun x hx => ?_).mono ?_
  · rcases List.mem_cons.mp hx with rfl | hx
    · exact hw.mono (by decide)
    · obtain ⟨z, hz, rfl⟩ := List.mem_map.mp hx
      exact sml_int (h z hz)
  · rw [List.length_cons, List.length_map]
    exact Nat.mul_le_mul (by omega) (Nat.le_refl 42)
/-- steps: words and hours -/
def Wy (H : Hp) (l : Addr) (ws : List (Str × Int)) : Prop := ∃ ts : List Addr, H l = some (.lst (ts.map V.ref)) ∧ ts.length = ws.length ∧ ∀ (j : Nat) t, ts[j]? = some t → ∃ w, ws[j]? = some w ∧ H t = some (.tup [.str w.1, .int w.2])
theorem Wy.ex {H H' : Hp} {l : Addr} {ws : List (Str × Int)} (e : Ex H H') (h : Wy H l ws) : Wy H' l ws :=
  let ⟨ts, h1, h2, h3⟩ := h
  ⟨ts, e _ _ h1, h2, fun j t ht => let ⟨w, a, b⟩ := h3 j t ht; ⟨w, a, e _ _ b⟩⟩
def stpT (w : Str × Int) : Str := w.1 ++ Str.ofString " " ++ txI w.2
def wayT (ws : List (Str × Int)) : Str := Txt.join (Str.ofString ", ") (ws.map stpT)
def Okw (ws : List (Str × Int)) : Prop := ws.length ≤ 60 ∧ ∀ p ∈ ws, Sml p.1 4 ∧ 0 ≤ p.2 ∧ p.2 < 48
theorem sml_stp {w : Str × Int} (h : Sml w.1 4 ∧ 0 ≤ w.2 ∧ w.2 < 48) : Sml (stpT w) 46 := sml_app (sml_app h.1 (sml_str " " (n := 1) (by decide))) (sml_int (by omega))
theorem sml_way {ws : List (Str × Int)} (h : Okw ws) : Sml (wayT ws) (60 * 48) := by
  refine (sml_join (n := 46) (L := 2) (sml_str ", " (by decide)) (ws.map stpT) fun x hx => ?_).mono ?_
  · obtain ⟨z, hz, rfl⟩ := List.mem_map.mp hx
    exact sml_stp (h.2 z hz)
  · rw [List.length_map]
    exact Nat.mul_le_mul h.1 (Nat.le_refl 48)
/-- a comprehension over steps -/
theorem lc_way {K : PySem.W.Frag} {g : TG} {te : TE} {vs : List Nat} {σ : L2.St} {H1 : Hp} {Q : VK} {p : Addr} {ws : List (Str × Int)} (hP : Wy H1 p ws) (f : Str × Int → Str) (hn : ws.length ≤ 1000)
    (turn : ∀ T w H, w ∈ ws → Ex H1 H → H T = some (.tup [.str w.1, .int w.2]) → ∀ k : VK, (∀ H4, Ex H H4 → k (.str (f w)) H4) → g (.ref T) (wipe σ vs) H fun σ2 H2 => wipe σ2 vs = wipe σ vs ∧ te σ2 H2 k)
    (fin : ∀ D H, H1 D = none → Ex H1 H → H D = some (.lst ((ws.map f).map V.str)) → Q (.ref D) H) : ∃ a, V.ref p = .ref a ∧ (∃ xs, SqL K H1 a xs) ∧ LcTail (Itl K a) H1 g tYes te vs σ Q := by
  obtain ⟨ts, h1, h2, h3⟩ := hP
  refine ⟨p, rfl, ⟨_, .inl (.inl h1)⟩, lc_fun (walk_list (xs := ts.map V.ref)) (fun i => .str (f (ws.getD i (Str.empty, 0)))) (fun H e => .inl (.inl (e _ _ h1))) (by rw [List.length_map]; omega) ?_ ?_⟩
  · rintro i x H H' hi e ⟨rfl, hx⟩ k hk
    rw [List.length_map] at hi
    rw [List.getElem?_map, List.getElem?_eq_getElem hi] at hx
    cases hx
    obtain ⟨w, hw, ht⟩ := h3 i _ (List.getElem?_eq_getElem hi)
    rw [List.getD_eq_getElem?_getD, hw] at hk
    exact turn _ w _ (List.mem_of_getElem? hw) e (e _ _ ht) k hk
  · intro D H hD e hd
    refine fin D H hD e ?_
    rw [hd, List.length_map, h2, List.map_map]
    congr 2
    refine List.ext_getElem? fun i => ?_
    rcases Nat.lt_or_ge i ws.length with h | h
    · rw [List.getElem?_map, List.getElem?_map, List.getElem?_range h, List.getElem?_eq_getElem h]
      show some (V.str (f (ws.getD i (Str.empty, 0)))) = some (V.str (f ws[i]))
      rw [List.getD_eq_getElem?_getD, List.getElem?_eq_getElem h]
      rfl
    · rw [List.getElem?_eq_none (by rw [List.length_map, List.length_range]; exact h), List.getElem?_eq_none (by rw [List.length_map]; exact h)]
def wayD (ws : List (Str × Int)) : PyData := .list (ws.map fun w => .tuple [.str w.1, .int w.2])
theorem dp_way {K : PySem.W.Frag} {H : Hp} {l : Addr} {ws : List (Str × Int)} (h : Wy H l ws) : Dp K H (.ref l) (wayD ws) := by
  obtain ⟨ts, h1, h2, h3⟩ := h
  refine .lst (.inl (.inl h1)) ?_
  clear h1
  induction ts generalizing ws with
  | nil =>
    obtain rfl : ws = [] := List.eq_nil_of_length_eq_zero h2.symm
    exact .nil
  | cons t ts ih =>
    match ws, h2 with
    | w :: ws, h2 =>
      obtain ⟨w', e, ht⟩ := h3 0 t rfl
      cases e
      exact .cons (.tup (.inl (.inl ht)) (.cons (.str _) (.cons (.int _) .nil))) (ih (by simpa using h2) fun j t' hj => h3 (j + 1) t' hj)
theorem fine_way {ws : List (Str × Int)} (h : Okw ws) : Fine (wayD ws) (60 * (2 * 201 + 1)) :=
  fine_list (fun d hd => by
    obtain ⟨w, hw, rfl⟩ := List.mem_map.mp hd
    have := h.2 w hw
    exact fine_tuple (n := 2) (w := 200) (fun x hx => by
      simp only [List.mem_cons, List.not_mem_nil, or_false] at hx
      rcases hx with rfl | rfl
      · exact (fine_txt this.1).mono (by decide)
      · exact fine_int (by omega)) (Nat.le_refl 2)) (by rw [List.length_map]; exact h.1)
theorem stay_mem {s : List Int} (g : Good s) {z : Int} (h : z ∈ s) : 1 ≤ z ∧ z ≤ (s.length : Int) := by
  obtain ⟨j, hj, rfl⟩ := List.mem_iff_getElem.mp h
  have e : cyc s (j : Int) = s[j] := by rw [cyc_at hj, List.getD_eq_getElem?_getD, List.getElem?_eq_getElem hj]; rfl
  rw [← e]
  exact ⟨g.lo _, g.hi _⟩
theorem str_nil : Str.ofString "" = Str.empty := by decide +kernel
theorem dep_all {n : Nat} : ∀ {ds : List PyData}, (∀ d ∈ ds, d.depth ≤ n) → PyData.depthAll ds ≤ n
  | [], _ => Nat.zero_le _
  | d :: ds, h => by
    have h1 := h d List.mem_cons_self
    have h2 := dep_all (ds := ds) fun x hx => h x (List.mem_cons_of_mem _ hx)
    simp only [PyData.depthAll]
    omega
theorem dep_way (x y : Int) (ws : List (Str × Int)) : (PyData.list [.tuple [.int x, .int y], wayD ws]).depth ≤ 64 := by
  have h : (wayD ws).depth ≤ 10 := by
    unfold wayD
    simp only [PyData.depth]
    have := dep_all (n := 5) (ds := ws.map fun w => PyData.tuple [.str w.1, .int w.2]) fun d hd => by
      obtain ⟨w, _, rfl⟩ := List.mem_map.mp hd
      simp only [PyData.depth, PyData.depthAll]
      omega
    omega
  simp only [PyData.depth, PyData.depthAll] at h ⊢
  omega
theorem shaped_strs {n : Nat} {ys : List Str} (h : ∀ y ∈ ys, Sml y n) : SeqAt.shaped (.list (ys.map PyData.str)) = true := by
  have h1 : ∀ ys : List Str, (∀ y ∈ ys, Sml y n) → PyData.canLayAll0 (ys.map PyData.str) = true := fun ys => by
    induction ys with
    | nil => exact fun _ => rfl
    | cons y ys ih =>
      intro h
      simp only [List.map_cons, PyData.canLayAll0, Bool.and_eq_true]
      refine ⟨?_, ih fun z hz => h z (List.mem_cons_of_mem _ hz)⟩
      simp only [PyData.canLay0, PyData.strOk]
      rw [Array.all_eq_true]
      intro i hi
      exact decide_eq_true ((h y List.mem_cons_self).2 _ (by rw [Array.mem_toList_iff]; exact Array.getElem_mem hi))
  unfold SeqAt.shaped
  rw [Bool.and_eq_true]
  refine ⟨by simp only [PyData.canLay0]; exact h1 ys h, decide_eq_true ?_⟩
  simp only [PyData.depth]
  have := dep_all (n := 5) (ds := ys.map PyData.str) fun d hd => by
    obtain ⟨w, _, rfl⟩ := List.mem_map.mp hd
    simp only [PyData.depth]
    omega
  omega
end Hn

/-! Own errors whose __init__ says super().__init__(f), then self.f = f: made and raised. -/
namespace Hn
open PySem PySem.W PySem.Calls PyProof.Rows PySem.HandSPX
/-- the text of such an __init__ -/
def eA (fld : Str) (p1 p2 : Pos) : Arguments := { posonlyargs := [], args := [{ arg := "self", annotation := none, pos := p1 }, { arg := fld, annotation := none, pos := p2 }], vararg := none, kwonlyargs := [], kw_defaults := [], kwarg := none, defaults := [] }
def eB (fld : Str) (p0 p1 p2 p3 p4 p5 q1 q2 q3 q4 : Pos) : List Stmt := [.Expr (.Call (.Attribute (.Call (.Name "super" p0) [] [] p1) "__init__" p2) [.Name fld p3] [] p4) p5, .Assign [.Attribute (.Name "self" q1) fld q2] (.Name fld q3) q4]
abbrev eS (names : List (Str × NameKind)) : Scope := { kind := .function, names := names, isGenerator := false, isCoroutine := false, more := [] }
/-- super().__init__(fld), step by step -/
def CallEq (fld : Str) (a0 a1 a2 a3 a4 : Pos) (env : Env) : Prop := ∃ pl : Sem Bool, eval (.Call (.Attribute (.Call (.Name "super" a0) [] [] a1) "__init__" a2) [.Name fld a3] [] a4) env = (do
  let ov ← attributeBase (.Call (.Name "super" a0) [] [] a1) "__init__" env (eval (.Call (.Name "super" a0) [] [] a1) env)
  standAt a2.atName
  let (f, first) ← holding [ov] (getMethod ov "__init__" pl)
  callWith a4 f first (backTo a4 (starEach [.Name fld a3] env)) [])
/-- what the written part says of an error's class at C, of its __init__ at fI -/
structure ErrC (P : Program) (K : Frag) (mg : Str → Option Value) (x fld : Str) (C fI : Addr) : Prop where
  gC : mg x = some (.ref C)
  cls : ∃ nm q N bs bm sn sub ab col dd k0 k1 k2 k3 k5, K.lookup C = some (excClassObj nm q C N bs bm true sn sub ab col dd k0 k1 k2 k3 k5 "ValueError.__new__") ∧ refsVE bm = true
  sa : findIn K (.ref C) "__setattr__" = some (some (.builtin "object.__setattr__"))
  ga : findIn K (.ref C) "__getattribute__" = some (some (.builtin "BaseException.__getattribute__"))
  gg : findIn K (.ref C) "__getattr__" = some none
  noN : findIn K (.ref C) fld = some none
  iC : findIn K (.ref C) "__init__" = some (some (.ref fI))
  tC : typeIn K (.ref fI) = some (.type "function")
  kC : keepIn K (.ref C) = true
  exC : subIn K (.ref C) (.type "BaseException") = some true
  vB : subIn K (.ref C) (.type "ValueError") = some true
  tyC : typeIn K (.ref C) = some (.type "type")
  hdC : hasDictIn K C = true
  mr : mroIn K C (.ref C) = some true
  sup : ks_superIn K C C "__init__" = some (some (.builtin "ValueError.__init__"))
  noT : nsIn K cStatics "thirdparty.any" = some none
  noS : mg "super" = none
  sf : (fld == ("self" : Str)) = false
  db : (fld == ("__debug__" : Str)) = false
  fn : ∃ (qual : Str) (names : List (Str × NameKind)) (oc : Value) (od : Option Addr) (doc pm : Value) (an : Option Addr) (cda cc : Addr) (ct : Value) (osl : Array (Option Value)) (p1 p2 a0 a1 a2 a3 a4 a5 q1 q2 q3 q4 : Pos) (ccl cl : Value) (cdd cld : Option Addr) (vs : Array Value) (ccs csl : Array (Option Value)) (file : Str) (tf : Tok),
    K.lookup fI = some ⟨oc, od, .func (ksFn "__init__" qual (eA fld p1 p2) (eB fld a0 a1 a2 a3 a4 a5 q1 q2 q3 q4) (eS names) .none .none doc pm an (.ref cda) ct cc), osl⟩ ∧ codeIn K (.ref cda) qual = true ∧ K.lookup cda = some ⟨ccl, cdd, .fields vs, ccs⟩ ∧ vs[2]? = some (.str file tf) ∧ ((P.main.file : Str) == file) = true ∧
    K.lookup cc = some ⟨cl, cld, .cell (some (.ref C)), csl⟩ ∧ names.lookup ("super" : Str) = some .globalImplicit ∧ names.lookup ("__class__" : Str) = some .free ∧ names.lookup ("self" : Str) = some .local ∧ names.lookup fld = some .local ∧ (∀ x ∈ names, x.2 ≠ .cell) ∧
    (P.main.scope.names.lookup ("super" : Str)).isSome = false ∧ (∀ L, CallEq fld a0 a1 a2 a3 a4 (ksEnv qual (eS names) L fI (.ref cda) cc)) ∧
    (∀ (s : Shared) (e v : Value), BindsTo s (ksFn "__init__" qual (eA fld p1 p2) (eB fld a0 a1 a2 a3 a4 a5 q1 q2 q3 q4) (eS names) .none .none doc pm an (.ref cda) ct cc) ⟨[e, v], []⟩ [("self", e), (fld, v)])
/-- a fresh error behind its __init__ -/
structure InitE (h h' : Heap) (x C dx t1 : Addr) (fld : Str) (v : Value) : Prop where
  keep : ∀ b o, b ≠ x → h.get? b = some o → h'.get? b = some o
  obj : h'.get? x = some { cls := .ref C, dict := some dx, data := .fields #[.ref t1, .none, .none, .none, .bool false, .none] }
  dbig : h.objs.size ≤ dx
  dne : dx ≠ x
  ns : h'.Ns1 dx (fun y => if y = fld then some v else none)
section
variable {P : Program} {w : World} {A : Around} {E : Value → Shared → Prop} {R : Result → Shared → Prop} {s : Shared} {K : Frag} {mg mb : Str → Option Value} {x fld : Str} {C fI : Addr}
theorem err_init (T : ErrC P K mg x fld C fI) {e t0 : Addr} {v : Value} (X : K.In s.heap) (G : s.heap.Ns mainGlobals mg) (Bt : s.heap.Ns builtinsNs mb) (hb : mb "super" = some (.type "super")) (hlim : s.heap.NoLimit) (hx : s.heap.get? e = some (excO C t0)) (hKe : K.lookup e = none) (hroom : A.depth < recursionLimit)
    (hq : ∀ h' tk dx t1, InitE s.heap h' e C dx t1 fld v → R (.ok (.ret .none)) { s with heap := h', toks := tk }) :
    codeAny (model P w) A (.call (.ref fI) ⟨[.ref e, v], []⟩) R s := by
  obtain ⟨qual, names, oc, od, doc, pm, an, cda, cc, ct, osl, p1, p2, a0, a1, a2, a3, a4, a5, q1, q2, q3, q4, ccl, cl, cdd, cld, vs, ccs, csl, file, tf, ho, hcd, hcda, hvs, hfile, hcell, hks, hkc, hksf, hkf, hnc, htop, hceq, hbd⟩ := T.fn
  obtain ⟨nm, q, N, bs, bm, sn, sub, ab, col, dd, k0, k1, k2, k3, k5, hC, hbm⟩ := T.cls
  have hcl : clsIn K C = some { name := nm, bases := bs, mro := .ref C :: bm, ns := N, qualname := q, hasDict := true, slotNames := sn, subclasses := sub, abstract := ab, collection := col, hasDel := false } := by unfold clsIn; rw [hC] <;> rfl
  refine ks_codeAny_call_defAt (fd := ksFn "__init__" qual (eA fld p1 p2) (eB fld a0 a1 a2 a3 a4 a5 q1 q2 q3 q4) (eS names) .none .none doc pm an (.ref cda) ct cc) (body := eB fld a0 a1 a2 a3 a4 a5 q1 q2 q3 q4) (binds := [("self", .ref e), (fld, v)]) hroom (X _ _ ho) rfl hlim (codeRec_of X hcd) rfl ?_ hnc ?_ (fun h₁ hn k => ?_) rfl rfl rfl
  · exact hbd _ _ _
  · intro y hy
    simp only [List.mem_cons, List.not_mem_nil, or_false] at hy
    rcases hy with rfl | rfl
    · exact hksf
    · exact hkf
  have X₁ : K.In h₁ := X.keeps k
  have hx₁ := k _ _ hx
  have hCe : e ≠ C := ks_ne (ox := excO C t0) (odx := none) X ⟨hx, rfl, rfl, trivial⟩ hcl
  have hself : (fun y => ([("self", Value.ref e), (fld, v)] : List (Str × Value)).reverse.lookup y) "self" = some (.ref e) := by
    show List.lookup ("self" : Str) [(fld, v), ("self", Value.ref e)] = _
    have z : (("self" : Str) == fld) = false := by
      have := T.sf
      rw [beq_eq_false_iff_ne] at this ⊢
      exact fun z => this z.symm
    simp only [List.lookup, z]
    rfl
  have hfld : (fun y => ([("self", Value.ref e), (fld, v)] : List (Str × Value)).reverse.lookup y) fld = some v := by
    show List.lookup fld [(fld, v), ("self", Value.ref e)] = _
    simp only [List.lookup, beq_self_eq_true]
  have hI : ∀ h', (∀ b o, h₁.get? b = some o → h'.get? b = some o) → Looks (model P w) h' (isInstance (.ref e) (.type "ValueError")) true := fun h' k' =>
    (InstAt.type (od := none) (ox := excO C t0) ⟨k' _ _ hx₁, rfl, rfl, trivial⟩).andThen (looks_subIn (X₁.keeps k') T.vB)
  obtain ⟨oD, hD1, hD2⟩ : ∃ oD, h₁.get? C = some oD ∧ oD.data = .cls _ := ⟨_, X₁ _ _ hC, rfl⟩
  have hsup := T.sup
  unfold ks_superIn at hsup
  rw [hcl] at hsup
  obtain ⟨sh, sg, sd, st, sos⟩ := s
  obtain ⟨pl, hpl⟩ := hceq sh.objs.size
  refine ks_wpAt_execs_cons (ks_wpAt_Expr_any (ks_wpAt_MethodCall (pl := pl) ?_ hpl))
  refine ks_wpAt_super_base (env := ksEnv qual (eS names) _ fI (.ref cda) cc) hks hkc rfl rfl (X₁ _ _ ho) rfl rfl rfl (X₁ _ _ hcda) rfl hvs hfile htop ?_
  refine ks_loadName_global rfl hks (loadGlobal_builtin (env := ksEnv qual (eS names) _ fI (.ref cda) cc) (G.keeps k) T.noS (Bt.keeps k) hb ⟨rfl, ?_⟩)
  refine wpAny_loadName_free rfl hkc rfl ⟨_, X₁ _ _ hcell, rfl⟩ ?_
  refine wpAny_loadName_local rfl hksf hn hself ?_
  refine ks_wpAny_isType_cls hD1 hD2 ⟨rfl, ?_⟩
  refine ks_wpAny_call_super hD1 hD2 hx₁ rfl (fun c z => nomatch z) (looks_mroIn X₁ T.mr) (fun h₂ hso k₂ => ?_)
  have X₂ : K.In h₂ := X₁.keeps k₂
  refine kxs_getMethod kxs_ValueError hso (looks_opaque X₂ T.noT) (l₀ := .ref C :: bm) (fun A Q E s kk q => wpAny_bind ((looks_clsIn X₂ hcl) A _ E s kk (wpAny_pure q))) rfl X₂ hsup (hI h₂ k₂) hCe rfl ?_
  have k₃ : ∀ b o, h₁.get? b = some o → (h₂.push (kxs_mw "ValueError.__init__" e)).get? b = some o := fun b o z => Heap.get?_push_of_some _ (k₂ b o z)
  have hu : (h₂.push (kxs_mw "ValueError.__init__" e)).get? h₂.objs.size = some (kxs_mw "ValueError.__init__" e) := Heap.get?_push_at rfl rfl
  show wpAny _ _ (callWith a4 (.ref h₂.objs.size) [] (backTo a4 (starEach [.Name fld a3] (ksEnv qual (eS names) sh.objs.size fI (.ref cda) cc))) []) _ _ _
  refine kxs_callWith (i := "ValueError.__init__") (x := e) rfl (evalArgs_plain ?_)
  refine args_cons (wpAny_Name (wpAny_loadName_local (env := ksEnv qual (eS names) sh.objs.size fI (.ref cda) cc) rfl hkf (hn.keeps k₃) hfld ?_) T.db) rfl
  refine args_nil ⟨hu, ?_⟩
  refine wpAny_call (codeAny_of_tree ?_)
  show wpAny _ _ (callAny (.ref h₂.objs.size) ⟨[v], []⟩) _ _ _
  simp only [callAny]
  refine wpAny_bind (wpAny_load hu ?_)
  simp only [kxs_mw, show (Value.type "method-wrapper" == Value.type "method" || Value.type "method-wrapper" == Value.type "builtin_function_or_method" || Value.type "method-wrapper" == Value.type "method-wrapper") = true by decide, if_true]
  refine KFB.if_so (by decide) ?_
  refine wpAny_bind (check_bound_init F.excBase_ValueError.toExcCallFacts (k₃ _ _ (X₁ _ _ hC)) (k₃ _ _ hx₁) rfl ?_)
  refine wpAny_bind (wpAny_pure (wpAny_pure ?_))
  refine ⟨plainId_quiet F.excBase_ValueError.init.plain _, codeAny_builtin F.excBase_ValueError.initEntry ?_⟩
  refine exc_init_tree (cls := .ref C) (t0 := t0) (dv := none) (c2 := .none) (c3 := .none) (b4 := .bool false) (k₃ _ _ hx₁) (by rw [sizeLine_eq]; exact (by decide : 1 ≤ 16777216)) fun h₄ k₄ e₄ t₄ => ?_
  have k₅ : ∀ b o, b ≠ e → h₁.get? b = some o → h₄.get? b = some o := fun b o hb z => k₄ b o hb (k₃ b o z)
  have X₄ : K.In h₄ := fun a o z => k₅ a o (fun y => by rw [y, hKe] at z; cases z) (X₁ a o z)
  have hn₄ : h₄.Ns sh.objs.size (fun y => ([("self", Value.ref e), (fld, v)] : List (Str × Value)).reverse.lookup y) := hn.at fun o z => k₅ _ _ (Nat.ne_of_gt (Heap.lt_size hx)) z
  show PySem.wpAt _ _ _ (execs _ _) _ _ _
  refine ks_wpAt_execs_cons (ks_wpAt_Assign_Attr (wpAt_of_wpAny (wpAny_Name (wpAny_loadName_local (env := ksEnv qual (eS names) sh.objs.size fI (.ref cda) cc) rfl hkf hn₄ hfld (wpAny_Name (wpAny_loadName_local (env := ksEnv qual (eS names) sh.objs.size fI (.ref cda) cc) rfl hksf hn₄ hself ?_)))  T.db)))
  refine set_plain X₄ (ox := excO C (h₂.push (kxs_mw "ValueError.__init__" e)).objs.size) (od := none) ⟨e₄, rfl, rfl, trivial⟩ T.sa ?_
  refine exc_osa X₄ e₄ hcl (show refsVE (.ref C :: bm) = true from hbm) rfl T.noN (fun h₅ tk₅ dx k₆ dn dne hx₅ hn₅ => ?_)
  show PySem.wpAt _ _ _ (execs _ _) _ _ _
  refine wpAt_of_wpAny (wpAny_execs_nil (hq h₅ tk₅ dx _ ⟨fun b o hb z => k₆ b o hb (k₅ b o hb (k b o z)), hx₅, Nat.le_trans (Nat.le_of_lt hn₄.lt) dn, dne, hn₅⟩))
/-- a made error -/
structure ErrMade (h h' : Heap) (e C d : Addr) (fld : Str) (v : Value) : Prop where
  keep : ∀ b o, h.get? b = some o → h'.get? b = some o
  new : h.objs.size ≤ e
  obj : ∃ oe vs, h'.get? e = some oe ∧ oe.cls = .ref C ∧ oe.dict = some d ∧ oe.data = .fields vs ∧ vs[1]? = some .none
  dbig : h.objs.size ≤ d
  dne : d ≠ e
  ns : h'.Ns1 d (fun y => if y = fld then some v else none)
theorem one_sz (v : Value) : [v].length ≤ sizeLine := by
  rw [sizeLine_eq]
  exact (by decide : 1 ≤ 16777216)
theorem err_made (T : ErrC P K mg x fld C fI) {v : Value} (X : K.In s.heap) (G : s.heap.Ns mainGlobals mg) (Bt : s.heap.Ns builtinsNs mb) (hb : mb "super" = some (.type "super")) (hlim : s.heap.NoLimit) (hroom : A.depth + 1 < recursionLimit)
    (hq : ∀ h' tk e d, ErrMade s.heap h' e C d fld v → R (.ok (.ret (.ref e))) { s with heap := h', toks := tk }) :
    codeAny (model P w) A (.call (.ref C) ⟨[v], []⟩) R s := by
  obtain ⟨nm, q, N, bs, bm, sn, sub, ab, col, dd, k0, k1, k2, k3, k5, hC, hbm⟩ := T.cls
  obtain ⟨hp, g, dr, tk, os⟩ := s
  have k : ∀ b o, hp.get? b = some o → ((hp.push (kdv_tup [v])).push (excO C hp.objs.size)).get? b = some o := fun b o e => Heap.get?_push_of_some _ (Heap.get?_push_of_some _ e)
  have hget : ((hp.push (kdv_tup [v])).push (excO C hp.objs.size)).get? (hp.objs.size + 1) = some (excO C hp.objs.size) := by heap_get
  have hnx : K.lookup (hp.objs.size + 1) = none := by
    cases e : K.lookup (hp.objs.size + 1) with
    | none => rfl
    | some o =>
      have z : hp.get? (hp.objs.size + 1) = some o := X _ _ e
      exact absurd (Nat.lt_of_succ_lt (Heap.lt_size z)) (Nat.lt_irrefl _)
  refine call_own F.excBase_ValueError (fun X => refsVE_contains X bm hbm) (X _ _ hC) (looks_findIn X T.iC) (fun self => bind_fn X self T.tC) (one_sz v) ?_
  refine err_init (s := ⟨(hp.push (kdv_tup [v])).push (excO C hp.objs.size), g, dr, tk, os⟩) T (X.keeps k) (G.keeps k) (Bt.keeps k) hb (hlim.keeps k) hget hnx ?_ fun h' tk' dx t1 ⟨k', hx, dn, dne, hns⟩ => ?_
  · show A.depth + 1 < recursionLimit
    exact hroom
  · have old : ∀ b o, hp.get? b = some o → h'.get? b = some o := fun b o e => k' b o (Nat.ne_of_lt (Nat.lt_succ_of_lt (Heap.lt_size e))) (k b o e)
    have z : hp.objs.size + 1 + 1 ≤ dx := by
      first
        | (simpa only [Heap.size_push] using dn)
        | exact dn
        | (have q := dn; rw [Heap.size_push, Heap.size_push] at q; exact q)
    exact ⟨rfl, hq h' tk' (hp.objs.size + 1) dx ⟨old, Nat.le_succ _, ⟨_, _, hx, rfl, rfl, rfl, rfl⟩, Nat.le_trans (Nat.le_trans (Nat.le_succ _) (Nat.le_succ _)) z, dne, hns⟩⟩
end
end Hn
namespace Hn
open PySem PySem.Spec PyProof.Rows L2
theorem relO_err {v : V} {v' : Value} (r : RelV v v') (fld f : Str) : RelO (List.lookup f [(fld, v)]) (if f = fld then some v' else none) := by
  by_cases hw : f = fld
  · subst hw
    rw [if_pos rfl]
    have q : List.lookup f [(f, v)] = some v := by simp [List.lookup]
    rw [q]
    exact r
  · rw [if_neg hw]
    have qw : (f == fld) = false := by simpa using hw
    have q2 : List.lookup f [(fld, v)] = none := by simp [List.lookup, qw]
    rw [q2]
    trivial
section
variable {X : Cx} {C fI : Addr} {x fld : Str}
/-- X(e), an error -/
def tMkE (C : Addr) (fld : Str) (ta : TA) : L2.St → Hp → XK → Prop := fun σ H Q => ta σ H fun vs H1 => ∃ v, vs = [v] ∧ ∀ d, H1 d = none → Q (.ref C) (some d) (upd H1 d (.xd [(fld, v)]))
theorem pmk_err {a : Expr} {ta : TA} {p pos : Pos} {k : Nat} (T : ErrC X.prog X.K X.mg x fld C fI) (hr : Room k X.A) (ha : PA X [a] ta) (hg : Gl X x)
    (hxd : (x == ("__debug__" : Str)) = false := by decide) (he : starEach (a :: []) X.env = (false, eval a X.env) :: starEach [] X.env := by rfl) (hpl : (backTo pos (starEach [] X.env)).any (·.1) = false := by rfl) :
    PMk X (.Call (.Name x p) [a] [] pos) (tMkE C fld ta) := by
  intro pins s σ H Q I h
  refine wpAny_Call_Name_kw (ld_glob I hg T.gC ?_ hxd)
  refine PySem.W.callWith_K (h₀ := X.base) I.ok.mod.kin T.kC (thn (ha.run pos pins s σ H _ I h) fun us s1 hh => ?_) he hpl
  obtain ⟨vs, H1, I1, r1, v, ev, q1⟩ := hh
  subst ev
  refine ⟨I1.kIn, ?_⟩
  cases r1 with
  | cons rv rn =>
    rename_i v' us'
    cases rn
    show wpAny _ _ (call (.ref C) [v']) _ _ _
    have hlim := I1.nolimit
    obtain ⟨mb, b1, b2⟩ := I1.mod.blt
    have G1 := I1.mod.glob.keeps I1.bk
    have B1 := b1.keeps I1.bk
    have hb : mb "super" = some (.type "super") := (b2 "super" (by decide)).trans rfl
    obtain ⟨hp, g, dr, tk, os⟩ := s1
    refine wpAny_call (err_made T I1.kIn G1 B1 hb hlim (by have := hr.dp; omega) fun h' tk' e d M => ?_)
    show MkP X pins σ Q (.ref e) ⟨h', g, dr, tk', os⟩
    obtain ⟨oe, fv, hoe, hc, hd, hdat, h1⟩ := M.obj
    have hns := M.ns
    obtain ⟨G', g1, g2⟩ := restrict h' fun b => decide (b ≠ e)
    have gk : ∀ b, b ≠ e → G'.get? b = h'.get? b := fun b hb => g1 b (decide_eq_true hb)
    have ge : G'.get? e = none := g2 e (by simp)
    have old : ∀ b o, hp.get? b = some o → G'.get? b = some o := fun b o q => (gk b (Nat.ne_of_lt (Nat.lt_of_lt_of_le (Heap.lt_size q) M.new))).trans (M.keep b o q)
    have ob : ObjOk X.prog X.w (upd H1 d (.xd [(fld, v)])) G' d (.xd [(fld, v)]) :=
      ⟨_, hns.at (fun o q => (gk d M.dne).trans q), fun f => relO_err rv fld f⟩
    have J : Inv X pins σ (upd H1 d (.xd [(fld, v)])) ⟨G', g, dr, tk', os⟩ := I1.laid (t' := tk') old M.dbig ob
    refine ⟨e, oe, fv, ⟨G', g, dr, tk', os⟩, _, .ref C, some d, rfl, J, fun b o q => ?_, ge, hoe, ⟨hc, hd⟩, hdat, h1, ?_, rfl, I1.bare, raises_own T.exC T.tyC, q1 d (I1.hok.fresh M.dbig)⟩
    · by_cases hb : b = e
      · have q' : G'.get? b = some o := q
        rw [hb, ge] at q'; cases q'
      · exact (gk b hb).symm.trans q
    · rw [upd_ne (Ne.symm M.dne)]
      exact I1.hok.fresh M.new

/-- isinstance(e, c), e the exception that the suite holds, of whatever own class -/
def rIsX (K : PySem.W.Frag) (a : Addr) (cls : Value) (d : Option Addr) : List V → Hp → VK → Prop := fun xs H Q => ∃ (D : Addr) (c : V) (cv : Value) (b : Bool), xs = [.ref a, c] ∧ cls = .ref D ∧ ExcC K D ∧ (d = none ∨ ∃ dd fs, d = some dd ∧ H dd = some (.xd fs)) ∧ (∀ u, RelV c u → u = cv) ∧ PySem.W.kitOne K (.ref D) cv = some b ∧ Q (.bl b) H
theorem call_isX {a : Addr} {oe : Obj} {cls : Value} {d : Option Addr} {pn : List (Addr × Obj)} (hz : Zc cls d oe) (hf : ∃ vs, oe.data = .fields vs) : CallR (X.suite a ((a, oe) :: pn)) (.builtin "isinstance") (rIsX X.K a cls d) := by
  intro pins s σ H xs us Q I r h
  obtain ⟨D, c, cv, b, rfl, rfl, C, hd, hcv, e, q⟩ := h
  cases r with
  | cons rx rr =>
    cases rr with
    | cons rt rr =>
      cases rr
      cases rx
      have ec := hcv _ rt
      subst ec
      obtain ⟨hget, _⟩ := I.pin (a, oe) (List.mem_append.mpr (.inl List.mem_cons_self))
      obtain ⟨vs, hv⟩ := hf
      obtain ⟨od, J⟩ : ∃ od, PySem.W.InstAt s.heap a oe D od := by
        rcases hd with rfl | ⟨dd, fs, rfl, ea⟩
        · exact ⟨none, hget, hz.1, by unfold PySem.W.notCls; rw [hv] <;> rfl, by rw [hz.2]; trivial⟩
        · have hx : ObjOk X.prog X.w H s.heap dd (.xd fs) := I.hok dd _ ea
          obtain ⟨mA, hns, hr⟩ := hx
          obtain ⟨od, ho, hl⟩ := lookIn_ns hns
          exact ⟨some od, hget, hz.1, by unfold PySem.W.notCls; rw [hv] <;> rfl, by rw [hz.2]; exact ho⟩
      obtain ⟨cd, hc, _⟩ := PySem.W.any_some C.hd
      exact PySem.W.kia_one (PySem.W.kitx_exc (by rw [hc]; rfl) C.hg C.hk C.hs C.ha C.hn C.ht C.hm) I.kIn J e (fun z => nomatch z) fun tk => ⟨.bl b, H, I.kept (t' := tk) fun _ _ z => z, rfl, q⟩
/-- what a class must say, so that its errors hand out their field -/
structure ExF (K : PySem.W.Frag) (D : Addr) (fld : Str) : Prop where
  ga : PySem.W.findIn K (.ref D) "__getattribute__" = some (some (.builtin "BaseException.__getattribute__"))
  gg : PySem.W.findIn K (.ref D) "__getattr__" = some none
  ex : PySem.W.subIn K (.ref D) (.type "BaseException") = some true
  hd : PySem.W.hasDictIn K D = true
  no : PySem.W.findIn K (.ref D) fld = some none
theorem ErrC.exF {P : Program} {K : PySem.W.Frag} {mg : Str → Option Value} (T : ErrC P K mg x fld C fI) : ExF K C fld := ⟨T.ga, T.gg, T.exC, T.hdC, T.noN⟩
/-- e.fld, e the exception that the suite holds -/
def tExF (K : PySem.W.Frag) (a : Addr) (cls : Value) (d : Option Addr) (fld : Str) (te : TE) : TE := fun σ H Q => te σ H fun x H1 => ∃ (D dd : Addr) (v : V), x = .ref a ∧ cls = .ref D ∧ ExF K D fld ∧ d = some dd ∧ H1 dd = some (.xd [(fld, v)]) ∧ Q v H1
theorem pe_exF {a : Addr} {oe : Obj} {cls : Value} {d : Option Addr} {pn : List (Addr × Obj)} {e : Expr} {te : TE} {pos : Pos} (hz : Zc cls d oe) (hf : ∃ vs, oe.data = .fields vs) (he : PE (X.suite a ((a, oe) :: pn)) e te)
    (hb : attributeBase e fld X.env (eval e X.env) = eval e X.env := by rfl) :
    PE (X.suite a ((a, oe) :: pn)) (.Attribute e fld pos) (tExF X.K a cls d fld te) := by
  refine ⟨fun pins s σ H Q I h => ?_⟩
  refine attr_of hb (thn (he.run pins s σ H _ I h) fun u s1 hh => ?_)
  obtain ⟨x, H1, I1, rx, D, dd, v, ex, ec, T, ed, ea, q⟩ := hh
  subst ex
  obtain rfl : u = Value.ref a := rx
  subst ec
  subst ed
  obtain ⟨ha, _⟩ := I1.pin (a, oe) (List.mem_append_left _ List.mem_cons_self)
  obtain ⟨vs, hd⟩ := hf
  have hx : ObjOk X.prog X.w H1 s1.heap dd (.xd [(fld, v)]) := I1.hok dd _ ea
  obtain ⟨mA, hns, hr⟩ := hx
  obtain ⟨od, ho, hl⟩ := lookIn_ns hns
  have l : List.lookup fld [(fld, v)] = some v := by simp [List.lookup]
  obtain ⟨u, hu, ru⟩ := RelO.some_of (v := v) (o := mA fld) (by rw [← l]; exact hr fld)
  have J : PySem.W.InstAt s1.heap a oe D (some od) := ⟨ha, hz.1, by unfold PySem.W.notCls; rw [hd] <;> rfl, by rw [hz.2]; exact ho⟩
  exact HandSPX.exc_get I1.kIn J T.ga T.gg T.ex (PySem.W.findObj_own T.hd T.no rfl (by rw [hl, hu])) (handed_of ru) ⟨v, H1, I1.tok _, ru, q⟩
end
/-! ### defs that may let an error out, called -/
section
variable {P : Program} {w : World} {K : PySem.W.Frag} {mg : Str → Option Value} {base : Heap}
theorem okx_of {x qual : Str} {st : Stmt} {f : Addr} {N ps : List Str} {k : Nat} {sp : Sp} (F : Df K x qual st f ps) (S : FnScope N ps (defScope st)) (len : ∀ vs H Q E, sp vs H Q E → vs.length = ps.length)
    (hbody : ∀ (cdv : Value) (A : Around) (outer : List Env) (s : Shared) (H : Hp) (vs : List V) (Q : VK) (E : XK), Room k (A.deeper (envOfC qual (defScope st) s.heap.objs.size f cdv)) → sp vs H Q E →
      ∃ t, PSs (cxOf (L2.CX P w) P w K mg base N qual (defScope st) f cdv A outer s H E) (defBody st) t ∧ t { nx := fun _ H' => Q .non H', rt := Q } (start N vs) H) : Okf P w K mg base (k + 1) f ps sp :=
  let ⟨fd, a, b⟩ := F
  ⟨fd, a.okX S len hbody, b⟩
end
section
variable {X : Cx} {k : Nat} {f C : Addr} {ps : List Str} {sp : Sp} {x m : Str} {p pos apos : Pos} {e o : Expr} {es : List Expr} {ta : TE} {t : TA} {E : XK}
theorem pf_callE (G : Okf X.prog X.w X.K X.mg X.base k f ps sp) (hr : Room k X.A) (hg : Gl X x) (hm : X.mg x = some (.ref f)) (hk : PySem.W.keepIn X.K (.ref f) = true) (hx : Passes (L2.CX X.prog X.w) X E)
    (ha : PA X (e :: es) t) (hdb : (x == ("__debug__" : Str)) = false := by decide) (he : starEach (e :: es) X.env = (false, eval e X.env) :: starEach es X.env := by rfl) (hpl : (backTo pos (starEach es X.env)).any (·.1) = false := by rfl) :
    PE X (.Call (.Name x p) (e :: es) [] pos) (tCall sp [] E t) :=
  let ⟨_, a, b⟩ := G
  pe_call a hr hg hm hk b .nil hx ha hdb he hpl
theorem pf_makeE (G : Okf X.prog X.w X.K X.mg X.base k f ps sp) (hr : Room (k + 1) X.A) (M : Mk X.K C f) (hg : Gl X x) (hm : X.mg x = some (.ref C)) (hx : Passes (L2.CX X.prog X.w) X E)
    (ha : PA X (e :: es) t) (hdb : (x == ("__debug__" : Str)) = false := by decide) (he : starEach (e :: es) X.env = (false, eval e X.env) :: starEach es X.env := by rfl) (hpl : (backTo pos (starEach es X.env)).any (·.1) = false := by rfl) :
    PE X (.Call (.Name x p) (e :: es) [] pos) (tMake C sp [] E t) :=
  let ⟨_, a, b⟩ := G
  pe_make M a hr hg hm b .nil hx ha hdb he hpl
theorem pf_methE {pl : Sem Bool} (G : Okf X.prog X.w X.K X.mg X.base k f ps sp) (hr : Room k X.A) (c : Cls X.K C) (hm : Meth X.K C m f) (hx : Passes (L2.CX X.prog X.w) X E) (he : PE X o ta) (ha : PA X (e :: es) t)
    (hst : starEach (e :: es) X.env = (false, eval e X.env) :: starEach es X.env := by rfl) (hpl : (backTo pos (starEach es X.env)).any (·.1) = false := by rfl)
    (ht : eval (.Call (.Attribute o m apos) (e :: es) [] pos) X.env = (do
      let ov ← eval o X.env
      standAt apos.atName
      let (f, first) ← holding [ov] (getMethod ov m pl)
      callWith pos f first (backTo pos (starEach (e :: es) X.env)) (backToKw pos (keywordEach [] X.env))) := by rfl) :
    PE X (.Call (.Attribute o m apos) (e :: es) [] pos) (tMeth C m sp [] E ta t) :=
  let ⟨_, a, b⟩ := G
  pe_meth he c hm a hr b .nil hx ha hst hpl ht
end
/-! ### within a try: what is let out goes by the names as they stand -/
section
variable {X : Cx} {k : Nat} {f C : Addr} {ps : List Str} {sp : Sp} {x m : Str} {p pos apos : Pos} {e o : Expr} {es : List Expr} {ta : TE} {t : TA} {E : L2.St → XK}
def tCallY (sp : Sp) (E : L2.St → XK) (t : TA) : TE := fun σ H Q => t σ H fun vs H1 => sp vs H1 Q (E σ)
def tMakeY (C : Addr) (sp : Sp) (E : L2.St → XK) (t : TA) : TE := fun σ H Q => t σ H fun vs H1 => ∀ x dx, H1 x = none → H1 dx = none → dx ≠ x → sp (.ref x :: (vs ++ [])) (upd (upd H1 dx (.own x)) x (.ins C dx [])) (fun v H2 => v = .non ∧ Q (.ref x) H2) (E σ)
def tMethY (C : Addr) (m : Str) (sp : Sp) (E : L2.St → XK) (ta : TE) (t : TA) : TE := fun σ H Q => ta σ H fun x H1 => ∃ a dx fs, x = .ref a ∧ H1 a = some (.ins C dx fs) ∧ fs.lookup m = none ∧ t σ H1 fun vs H2 => sp (.ref a :: vs) H2 Q (E σ)
theorem pf_callS (G : Okf X.prog X.w X.K X.mg X.base k f ps sp) (hr : Room k X.A) (hg : Gl X x) (hm : X.mg x = some (.ref f)) (hk : PySem.W.keepIn X.K (.ref f) = true) (hx : ∀ σ, PassesAt (L2.CX X.prog X.w) X σ (E σ))
    (ha : PA X (e :: es) t) (hdb : (x == ("__debug__" : Str)) = false := by decide) (he : starEach (e :: es) X.env = (false, eval e X.env) :: starEach es X.env := by rfl) (hpl : (backTo pos (starEach es X.env)).any (·.1) = false := by rfl) :
    PE X (.Call (.Name x p) (e :: es) [] pos) (tCallY sp E t) := by
  obtain ⟨_, F, hb⟩ := G
  refine ⟨fun pins s σ H Q I h => ?_⟩
  refine wpAny_Call_Name_kw (ld_glob I hg hm ?_ hdb)
  refine PySem.W.callWith_K (h₀ := X.base) I.ok.mod.kin hk (thn (ha.run pos pins s σ H _ I h) fun us s1 ⟨vs, H1, I1, r, q⟩ => ⟨I1.kIn, ?_⟩) he hpl
  exact run_fnS F hr hb (hx σ) I1 r q
theorem pf_makeS (G : Okf X.prog X.w X.K X.mg X.base k f ps sp) (hr : Room (k + 1) X.A) (M : Mk X.K C f) (hg : Gl X x) (hm : X.mg x = some (.ref C)) (hx : ∀ σ, PassesAt (L2.CX X.prog X.w) X σ (E σ))
    (ha : PA X (e :: es) t) (hdb : (x == ("__debug__" : Str)) = false := by decide) (he : starEach (e :: es) X.env = (false, eval e X.env) :: starEach es X.env := by rfl) (hpl : (backTo pos (starEach es X.env)).any (·.1) = false := by rfl) :
    PE X (.Call (.Name x p) (e :: es) [] pos) (tMakeY C sp E t) := by
  obtain ⟨fd, F, hb⟩ := G
  refine ⟨fun pins s σ H Q I h => ?_⟩
  refine wpAny_Call_Name_kw (ld_glob I hg hm ?_ hdb)
  refine PySem.W.callWith_K (h₀ := X.base) I.ok.mod.kin M.kp (thn (ha.run pos pins s σ H _ I h) fun us s1 ⟨vs, H1, I1, r, q⟩ => ⟨I1.kIn, ?_⟩) he hpl
  have hq := q (s1.heap.objs.size + 1) s1.heap.objs.size (I1.hok.fresh (Nat.le_succ _)) (I1.hok.fresh (Nat.le_refl _)) (Nat.ne_of_lt (Nat.lt_succ_self _))
  have I2 := Inv.made (C := C) I1
  have r2 : Vals (V.ref (s1.heap.objs.size + 1) :: (vs ++ [])) ((Value.ref (s1.heap.objs.size + 1) :: us) ++ []) := .cons rfl (r.append .nil)
  have hl : (Value.ref (s1.heap.objs.size + 1) :: us ++ []).length = ps.length := by
    have e := r2.length
    rw [F.len _ _ _ _ hq] at e
    exact e.symm
  refine wpAny_call (make_map (f := f) I1.kIn M.makes M.init (beq_iff_eq.mp M.fn) (codeAny_mono (F.run _ X.stack _ _ ⟨Value.ref (s1.heap.objs.size + 1) :: us, []⟩ ((Value.ref (s1.heap.objs.size + 1) :: us) ++ []) _ _ (E σ) (hr.make C us [])
    (I2.env0.make C us []) (hb _ (Value.ref (s1.heap.objs.size + 1) :: us) I2.kIn hl) r2 hq) fun r s' hq' => ?_))
  cases r with
  | error e => exact hx σ pins _ _ e s' I2 hq'
  | ok fl =>
    cases fl with
    | ret u =>
      obtain ⟨v, H', I3, rv, ev, q3⟩ := I2.after hq'
      subst ev
      exact ⟨rv, ⟨V.ref (s1.heap.objs.size + 1), H', I3, rfl, q3⟩⟩
    | next => exact False.elim hq'
    | brk => exact False.elim hq'
    | cont => exact False.elim hq'
theorem pf_methS {pl : Sem Bool} (G : Okf X.prog X.w X.K X.mg X.base k f ps sp) (hr : Room k X.A) (c : Cls X.K C) (hm : Meth X.K C m f) (hx : ∀ σ, PassesAt (L2.CX X.prog X.w) X σ (E σ)) (he : PE X o ta) (ha : PA X (e :: es) t)
    (hst : starEach (e :: es) X.env = (false, eval e X.env) :: starEach es X.env := by rfl) (hpl : (backTo pos (starEach es X.env)).any (·.1) = false := by rfl)
    (ht : eval (.Call (.Attribute o m apos) (e :: es) [] pos) X.env = (do
      let ov ← eval o X.env
      standAt apos.atName
      let (f, first) ← holding [ov] (getMethod ov m pl)
      callWith pos f first (backTo pos (starEach (e :: es) X.env)) (backToKw pos (keywordEach [] X.env))) := by rfl) :
    PE X (.Call (.Attribute o m apos) (e :: es) [] pos) (tMethY C m sp E ta t) := by
  obtain ⟨fd, F, hb⟩ := G
  refine ⟨fun pins s σ H Q I h => ?_⟩
  refine PySem.W.methodCall_KW (pl := pl) (thn (he.run pins s σ H _ I h) fun u s1 ⟨x, H1, I1, rx, a, dx, fs, ex, ea, l, q⟩ => ?_) ht
  subst ex
  obtain rfl : u = Value.ref a := rx
  refine getmeth_ok I1 ea c hm l ?_
  refine PySem.W.callWith_K (first := [.ref a]) (h₀ := X.base) I.ok.mod.kin hm.kp (thn (ha.run pos pins s1 σ H1 _ I1 q) fun us s2 ⟨vs, H2, I2, r, q2⟩ => ⟨I2.kIn, ?_⟩) hst hpl
  exact run_fnS (us := .ref a :: us) (vs := .ref a :: vs) F hr hb (hx σ) I2 (.cons rfl r) q2
end
/-! ### readings -/
section
variable {X : Cx} {C fI : Addr} {x fld : Str}
/-- raise X(e) -/
def tRaiseE (C : Addr) (fld : Str) (W : WX) (ta : TA) : TS := fun _ σ H => tMkE C fld ta σ H fun cls d H' => W cls d σ H'
theorem ps_raiseE {a : Expr} {ta : TA} {W : WX} {p pos pos2 : Pos} {k : Nat} (hc : X.calm = true) (T : ErrC X.prog X.K X.mg x fld C fI) (hr : Room k X.A) (tk : Takes X W) (ha : PA X [a] ta) (hg : Gl X x)
    (hxd : (x == ("__debug__" : Str)) = false := by decide) (he : starEach (a :: []) X.env = (false, eval a X.env) :: starEach [] X.env := by rfl) (hpl : (backTo pos (starEach [] X.env)).any (·.1) = false := by rfl) :
    PS X (.Raise (some (.Call (.Name x p) [a] [] pos)) none pos2) (tRaiseE C fld W ta) := ps_raise hc tk (pmk_err T hr ha hg hxd he hpl)
theorem r_raiseE {W : WX} {ta : TA} {D : Ends} {σ : L2.St} {H : Hp} (h : ta σ H fun vs H1 => ∃ v, vs = [v] ∧ ∀ d, H1 d = none → W (.ref C) (some d) σ (upd H1 d (.xd [(fld, v)]))) : tRaiseE C fld W ta D σ H := h
theorem r_callY {sp : Sp} {E : L2.St → XK} {t : TA} {σ : L2.St} {H : Hp} {Q : VK} (h : t σ H fun vs H1 => sp vs H1 Q (E σ)) : tCallY sp E t σ H Q := h
theorem r_makeY {sp : Sp} {E : L2.St → XK} {t : TA} {σ : L2.St} {H : Hp} {Q : VK} (h : t σ H fun vs H1 => ∀ x dx, H1 x = none → H1 dx = none → dx ≠ x → sp (.ref x :: (vs ++ [])) (upd (upd H1 dx (.own x)) x (.ins C dx [])) (fun v H2 => v = .non ∧ Q (.ref x) H2) (E σ)) : tMakeY C sp E t σ H Q := h
theorem r_methY {m : Str} {sp : Sp} {E : L2.St → XK} {ta : TE} {t : TA} {σ : L2.St} {H : Hp} {Q : VK} (h : ta σ H fun x H1 => ∃ a dx fs, x = .ref a ∧ H1 a = some (.ins C dx fs) ∧ fs.lookup m = none ∧ t σ H1 fun vs H2 => sp (.ref a :: vs) H2 Q (E σ)) : tMethY C m sp E ta t σ H Q := h
theorem r_exF {K : PySem.W.Frag} {a : Addr} {cls : Value} {d : Option Addr} {te : TE} {σ : L2.St} {H : Hp} {Q : VK} (h : te σ H fun x H1 => ∃ (D dd : Addr) (v : V), x = .ref a ∧ cls = .ref D ∧ ExF K D fld ∧ d = some dd ∧ H1 dd = some (.xd [(fld, v)]) ∧ Q v H1) : tExF K a cls d fld te σ H Q := h
/-- an expression that is never reached -/
theorem pe_no {e : Expr} : PE X e (fun _ _ _ => False) := ⟨fun _ _ _ _ _ _ h => h.elim⟩
end
theorem r_clkMP {K : PySem.W.Frag} {C : Addr} {H : Hp} {v : V} {s : List Int} {m : Str} {p : Addr → Prop} (h : Clk K C H v s) (q : ∀ a, v = .ref a → p a) (h1 : ¬ m = "kept_widths" := by decide +kernel) (h2 : ¬ m = "kept_stays" := by decide +kernel) : ∃ a dx fs, v = .ref a ∧ H a = some (.ins C dx fs) ∧ fs.lookup m = none ∧ p a := by
  obtain ⟨a, dx, fs, e, ha, l, _⟩ := r_clkM (m := m) (p := True) h trivial h1 h2
  exact ⟨a, dx, fs, e, ha, l, q a e⟩
theorem r_rwMP {K : PySem.W.Frag} {C : Addr} {fld : Str} {H : Hp} {v : V} {ns : List Int} {m : Str} {p : Addr → Prop} (h : Rw K C fld H v ns) (hm : ¬ m = fld) (q : ∀ a, v = .ref a → p a) : ∃ a dx fs, v = .ref a ∧ H a = some (.ins C dx fs) ∧ fs.lookup m = none ∧ p a := by
  obtain ⟨a, dx, fs, e, ha, l, _⟩ := r_rwM (m := m) (p := True) h hm trivial
  exact ⟨a, dx, fs, e, ha, l, q a e⟩
end Hn

/-! Stays changed one by one (plain mathematics). -/
namespace Hn
open PySem L2
/-- the stay at j overtakes the next one -/
def over (s : List Int) (j : Nat) : Prop := s.getD j 0 > 1 + cyc s ((j : Int) + 1)
theorem good_of {s : List Int} (h : okStays s = true) (o : ∀ j, j < s.length → ¬ over s j) : Good s := Good.of h fun j hj => by
  have := o j hj
  unfold over at this
  omega
theorem good_not {s : List Int} (g : Good s) : ∀ j, j < s.length → ¬ over s j := fun j hj q => by
  have := g.od (j : Int)
  rw [cyc_at hj] at this
  unfold over at q
  omega
/-- another stay at h -/
def setS (s : List Int) (h : Nat) (c : Int) : List Int := rowOf s.length fun i => if i = (h : Int) then c else cyc s i
theorem setS_length (s : List Int) (h : Nat) (c : Int) : (setS s h c).length = s.length := rowOf_length _ _
theorem cyc_setS {s : List Int} (hn : 1 ≤ s.length) (h : Nat) (c i : Int) : cyc (setS s h c) i = if i % (s.length : Int) = (h : Int) then c else cyc s i := by
  unfold setS
  rw [cyc_rowOf _ hn]
  show (if i % (s.length : Int) = (h : Int) then c else cyc s (i % (s.length : Int))) = _
  rw [cyc_mod]
theorem ok_setS {s : List Int} (g : Good s) {h : Nat} {c : Int} (c1 : 1 ≤ c) (c2 : c ≤ (s.length : Int)) : okStays (setS s h c) = true := by
  rw [okStays_iff, setS_length]
  refine ⟨g.ne, g.le, ?_⟩
  unfold setS
  refine row_all (P := fun x => 1 ≤ x ∧ x ≤ (s.length : Int)) fun j hj => ?_
  show 1 ≤ (if (j : Int) = (h : Int) then c else cyc s j) ∧ (if (j : Int) = (h : Int) then c else cyc s j) ≤ _
  have := g.lo (j : Int)
  have := g.hi (j : Int)
  split <;> omega
/-- such a clock, just by the order at h and ahead of it -/
theorem good_setS {s : List Int} (g : Good s) {h : Nat} (hh : h < s.length) {c : Int} (c1 : 1 ≤ c) (c2 : c ≤ (s.length : Int)) (o1 : c ≤ 1 + cyc (setS s h c) ((h : Int) + 1)) (o2 : cyc (setS s h c) ((h : Int) - 1) ≤ 1 + c) : Good (setS s h c) := by
  have hn := g.ne
  refine good_of (ok_setS g c1 c2) fun j hj q => ?_
  rw [setS_length] at hj
  unfold over at q
  rw [← cyc_at (by rw [setS_length]; exact hj)] at q
  by_cases e1 : j = h
  · subst e1
    rw [cyc_setS hn, if_pos (Int.emod_eq_of_lt (by omega) (by omega))] at q
    omega
  · have ej : cyc (setS s h c) (j : Int) = cyc s (j : Int) := by
      rw [cyc_setS hn, if_neg]
      rw [Int.emod_eq_of_lt (by omega) (by omega)]
      omega
    rw [ej, cyc_setS hn] at q
    by_cases e2 : ((j : Int) + 1) % (s.length : Int) = (h : Int)
    · rw [if_pos e2] at q
      have z : cyc (setS s h c) ((h : Int) - 1) = cyc (setS s h c) (j : Int) := cyc_congr (by
        rw [setS_length, ← e2, Int.emod_sub_emod, show (j : Int) + 1 - 1 = j by omega])
      rw [z, ej] at o2
      omega
    · rw [if_neg e2] at q
      have := g.od (j : Int)
      omega
/-- raised where nobody is overtaken, as long as something lacks -/
theorem up_done {s t : List Int} (g : Good s) (gt : Good t) (hl : t.length = s.length) (le : ∀ i, cyc s i ≤ cyc t i) (b : ∀ j : Nat, j < s.length → cyc s j = cyc t j ∨ ¬ Good (setS s j (cyc s j + 1))) : s = t := by
  have hn := g.ne
  refine eq_of_cyc hl.symm fun i i0 i1 => ?_
  refine Classical.byContradiction fun ne => ?_
  have step : ∀ x : Int, cyc s x < cyc t x → cyc s x = cyc s (x + 1) + 1 ∧ cyc s (x + 1) < cyc t (x + 1) := fun x hx => by
    have hm := mod_bd hn x
    obtain ⟨j, hj⟩ : ∃ j : Nat, x % (s.length : Int) = (j : Int) := ⟨(x % (s.length : Int)).toNat, (Int.toNat_of_nonneg hm.1).symm⟩
    have ex : cyc s x = cyc s (j : Int) := by rw [← hj, cyc_mod]
    have ext' : cyc t x = cyc t (j : Int) := by rw [← hj, ← hl, cyc_mod]
    have ex1 : cyc s (x + 1) = cyc s ((j : Int) + 1) := cyc_congr (by rw [← hj, Int.emod_add_emod])
    have ext1 : cyc t (x + 1) = cyc t ((j : Int) + 1) := cyc_congr (by rw [hl, ← hj, Int.emod_add_emod])
    have hjn : j < s.length := by omega
    have nb : ¬ Good (setS s j (cyc s j + 1)) := by
      rcases b j hjn with q | q
      · omega
      · exact q
    have lo := g.lo (j : Int)
    have hi := gt.hi (j : Int)
    have od := g.od (j : Int)
    have odt := gt.od (j : Int)
    have odp := g.od ((j : Int) - 1)
    rw [show (j : Int) - 1 + 1 = j by omega] at odp
    have key : ¬ cyc s j + 1 ≤ 1 + cyc (setS s j (cyc s j + 1)) ((j : Int) + 1) := fun o1 => nb (good_setS g hjn (by omega) (by omega) o1 (by
      rw [cyc_setS hn]
      split <;> omega))
    rw [cyc_setS hn] at key
    split at key
    · omega
    · omega
  have all : ∀ k : Nat, cyc s (i + k) < cyc t (i + k) ∧ cyc s i = cyc s (i + k) + k := fun k => by
    induction k with
    | zero =>
      have := le i
      rw [show i + ((0 : Nat) : Int) = i by omega]
      omega
    | succ k ih =>
      have := step (i + k) ih.1
      rw [show i + ((k + 1 : Nat) : Int) = i + k + 1 by omega]
      omega
  have := (all s.length).2
  rw [cyc_per] at this
  omega
/-- lowered likewise -/
theorem down_done {s t : List Int} (g : Good s) (gt : Good t) (hl : t.length = s.length) (le : ∀ i, cyc t i ≤ cyc s i) (b : ∀ j : Nat, j < s.length → cyc s j = cyc t j ∨ ¬ Good (setS s j (cyc s j - 1))) : s = t := by
  have hn := g.ne
  refine eq_of_cyc hl.symm fun i i0 i1 => ?_
  refine Classical.byContradiction fun ne => ?_
  have step : ∀ x : Int, cyc t x < cyc s x → cyc s (x - 1) = cyc s x + 1 ∧ cyc t (x - 1) < cyc s (x - 1) := fun x hx => by
    have hm := mod_bd hn x
    obtain ⟨j, hj⟩ : ∃ j : Nat, x % (s.length : Int) = (j : Int) := ⟨(x % (s.length : Int)).toNat, (Int.toNat_of_nonneg hm.1).symm⟩
    have ex : cyc s x = cyc s (j : Int) := by rw [← hj, cyc_mod]
    have ext' : cyc t x = cyc t (j : Int) := by rw [← hj, ← hl, cyc_mod]
    have ex1 : cyc s (x - 1) = cyc s ((j : Int) - 1) := cyc_congr (by rw [← hj, Int.emod_sub_emod])
    have ext1 : cyc t (x - 1) = cyc t ((j : Int) - 1) := cyc_congr (by rw [hl, ← hj, Int.emod_sub_emod])
    have hjn : j < s.length := by omega
    have nb : ¬ Good (setS s j (cyc s j - 1)) := by
      rcases b j hjn with q | q
      · omega
      · exact q
    have hi := g.hi (j : Int)
    have lo := gt.lo (j : Int)
    have od := g.od (j : Int)
    have odp := g.od ((j : Int) - 1)
    have odt := gt.od ((j : Int) - 1)
    rw [show (j : Int) - 1 + 1 = j by omega] at odp odt
    have key : ¬ cyc (setS s j (cyc s j - 1)) ((j : Int) - 1) ≤ 1 + (cyc s j - 1) := fun o2 => nb (good_setS g hjn (by omega) (by omega) (by
      rw [cyc_setS hn]
      split <;> omega) o2)
    rw [cyc_setS hn] at key
    split at key
    · omega
    · omega
  have all : ∀ k : Nat, cyc t (i - k) < cyc s (i - k) ∧ cyc s (i - k) = cyc s i + k := fun k => by
    induction k with
    | zero =>
      have := le i
      rw [show i - ((0 : Nat) : Int) = i by omega]
      omega
    | succ k ih =>
      have := step (i - k) ih.1
      rw [show i - ((k + 1 : Nat) : Int) = i - k - 1 by omega]
      omega
  have h1 := (all s.length).2
  have h2 := cyc_per s (i - (s.length : Int))
  rw [show i - (s.length : Int) + (s.length : Int) = i by omega] at h2
  omega
/-! ### what lacks -/
def gap (s t : List Int) : Int := Sg s.length fun i => if cyc s i < cyc t i then cyc t i - cyc s i else cyc s i - cyc t i
theorem gap_nn (s t : List Int) : 0 ≤ gap s t := Sg_nn fun j _ => by
  show 0 ≤ if cyc s j < cyc t j then cyc t j - cyc s j else cyc s j - cyc t j
  split <;> omega
theorem Sg_le {n : Nat} {f : Int → Int} {c : Int} (h : ∀ j : Nat, j < n → f j ≤ c) : Sg n f ≤ n * c := by
  induction n with
  | zero => show (0 : Int) ≤ 0 * c; omega
  | succ n ih =>
    rw [Sg_succ, show ((n + 1 : Nat) : Int) = (n : Int) + 1 by omega, Int.add_mul, Int.one_mul]
    have := ih fun j hj => h j (by omega)
    have := h n (by omega)
    omega
theorem gap_le {s t : List Int} (g : Good s) (gt : Good t) (hl : t.length = s.length) : gap s t ≤ (s.length : Int) * (s.length : Int) := Sg_le fun j _ => by
  have := g.lo (j : Int)
  have := g.hi (j : Int)
  have := gt.lo (j : Int)
  have := gt.hi (j : Int)
  show (if cyc s j < cyc t j then cyc t j - cyc s j else cyc s j - cyc t j) ≤ _
  split <;> omega
/-- one step nearer -/
theorem gap_step {s t : List Int} (hn : 1 ≤ s.length) {j : Nat} (hj : j < s.length) (ne : cyc s j ≠ cyc t j) {c : Int} (hc : c = if cyc s j < cyc t j then cyc s j + 1 else cyc s j - 1) : gap (setS s j c) t = gap s t - 1 := by
  unfold gap
  rw [setS_length]
  have e : Sg s.length (fun i => if cyc (setS s j c) i < cyc t i then cyc t i - cyc (setS s j c) i else cyc (setS s j c) i - cyc t i) = Sg s.length (fun i => (if cyc s i < cyc t i then cyc t i - cyc s i else cyc s i - cyc t i) - (if i = (j : Int) then 1 else 0)) := Sg_congr fun i i0 i1 => by
    rw [cyc_setS hn, Int.emod_eq_of_lt i0 i1]
    by_cases q : i = (j : Int)
    · subst q
      rw [if_pos rfl, if_pos rfl, hc]
      split <;> split <;> omega
    · rw [if_neg q, if_neg q]
      omega
  rw [e, Sg_sub, Sg_one hj (fun _ => 1)]
theorem gap_zero {s : List Int} : gap s s = 0 := by
  unfold gap
  have e : Sg s.length (fun i => if cyc s i < cyc s i then cyc s i - cyc s i else cyc s i - cyc s i) = Sg s.length (fun _ => 0) := Sg_congr fun i _ _ => by
    split <;> omega
  rw [e, Sg_zero]
/-- all of s below t, or all above -/
def Dir (s t : List Int) : Prop := (∀ i, cyc s i ≤ cyc t i) ∨ (∀ i, cyc t i ≤ cyc s i)
/-- the stay at j, one nearer to t -/
def near (s t : List Int) (j : Int) : Int := if cyc s j < cyc t j then cyc s j + 1 else cyc s j - 1
theorem dir_set {s t : List Int} (hn : 1 ≤ s.length) (hl : t.length = s.length) (d : Dir s t) {j : Nat} (hj : j < s.length) (ne : cyc s j ≠ cyc t j) : Dir (setS s j (near s t j)) t := by
  have key : ∀ i : Int, i % (s.length : Int) = (j : Int) → cyc t i = cyc t (j : Int) := fun i q => by rw [← q, ← hl, cyc_mod]
  rcases d with d | d
  · refine .inl fun i => ?_
    rw [cyc_setS hn]
    split
    · rename_i q
      rw [key i q]
      have := d j
      unfold near
      split <;> omega
    · exact d i
  · refine .inr fun i => ?_
    rw [cyc_setS hn]
    split
    · rename_i q
      rw [key i q]
      have := d j
      unfold near
      split <;> omega
    · exact d i
theorem all_done {s t : List Int} (g : Good s) (gt : Good t) (hl : t.length = s.length) (d : Dir s t) (b : ∀ j : Nat, j < s.length → cyc s j = cyc t j ∨ ¬ Good (setS s j (near s t j))) : s = t := by
  rcases d with d | d
  · refine up_done g gt hl d fun j hj => ?_
    rcases b j hj with q | q
    · exact .inl q
    · by_cases z : cyc s (j : Int) = cyc t (j : Int)
      · exact .inl z
      · unfold near at q
        rw [if_pos (by have := d j; omega)] at q
        exact .inr q
  · refine down_done g gt hl d fun j hj => ?_
    rcases b j hj with q | q
    · exact .inl q
    · by_cases z : cyc s (j : Int) = cyc t (j : Int)
      · exact .inl z
      · unfold near at q
        rw [if_neg (by have := d j; omega)] at q
        exact .inr q
theorem set_lstS {s : List Int} {h : Nat} {z : Int} (hh : h < s.length) : (s.map V.int).take h ++ [.int z] ++ (s.map V.int).drop (h + 1) = (setS s h z).map V.int := by
  have := set_lst (n := s.length) (h := h) (f := cyc s) (z := z) hh
  rw [← row_cyc s] at this
  exact this
/-- the greater stays of both -/
def mxS (s t : List Int) : List Int := rowOf s.length fun i => max (cyc s i) (cyc t i)
theorem mxS_length (s t : List Int) : (mxS s t).length = s.length := rowOf_length _ _
theorem cyc_mxS {s t : List Int} (hn : 1 ≤ s.length) (hl : t.length = s.length) (i : Int) : cyc (mxS s t) i = max (cyc s i) (cyc t i) := by
  unfold mxS
  rw [cyc_rowOf _ hn]
  show max (cyc s (i % (s.length : Int))) (cyc t (i % (s.length : Int))) = _
  rw [cyc_mod, ← hl, cyc_mod]
theorem Good.mxS {s t : List Int} (g : Good s) (gt : Good t) (hl : t.length = s.length) : Good (mxS s t) := by
  have hn := g.ne
  refine ⟨by rw [mxS_length]; exact g.ne, by rw [mxS_length]; exact g.le, fun i => ?_, fun i => ?_, fun i => ?_⟩
  · rw [cyc_mxS hn hl]
    have := g.lo i
    omega
  · rw [cyc_mxS hn hl, mxS_length]
    have := g.hi i
    have := gt.hi i
    omega
  · rw [cyc_mxS hn hl, cyc_mxS hn hl]
    have := g.od i
    have := gt.od i
    omega
theorem dir_up {s t : List Int} (hn : 1 ≤ s.length) (hl : t.length = s.length) : Dir s (mxS s t) := .inl fun i => by
  rw [cyc_mxS hn hl]
  omega
theorem dir_down {s t : List Int} (hn : 1 ≤ s.length) (hl : t.length = s.length) : Dir (mxS s t) t := .inr fun i => by
  rw [cyc_mxS hn hl]
  omega
theorem served_up {s t : List Int} (hn : 1 ≤ s.length) (hl : t.length = s.length) (h : Int) : ∀ z ∈ servedOf s h, z ∈ servedOf (mxS s t) h := fun z hz => by
  unfold servedOf at hz ⊢
  obtain ⟨k, hk, rfl⟩ := List.mem_map.mp hz
  have hk := List.mem_range.mp hk
  rw [mxS_length]
  refine List.mem_map.mpr ⟨k, List.mem_range.mpr ?_, rfl⟩
  rw [cyc_mxS hn hl]
  omega
theorem no_over {s : List Int} (ok : okStays s = true) : Good s ↔ ∀ j, j < s.length → ¬ over s j := ⟨good_not, good_of ok⟩
end Hn

namespace Pf
open PySem PySem.Spec PyProof.Rows L2 Evl Hn
local macro_rules | `(tactic| walk_at "rd") => `(tactic| repeat (first
  | with_reducible refine r_raiseE ?_
  | with_reducible refine r_callY ?_
  | with_reducible refine r_makeY ?_
  | with_reducible refine r_methY ?_
  | with_reducible refine r_exF ?_
  | with_reducible refine r_m1 ?_
  | with_reducible refine r_isS ?_
  | with_reducible refine r_break ?_
  | with_reducible refine r_cont ?_
  | with_reducible refine r_listZip ?_
  | with_reducible refine r_smeth ?_
  | with_reducible refine r_isC ?_
  | with_reducible refine r_lstRg ?_
  | with_reducible refine r_rg1 ?_
  | with_reducible refine r_seq ?_
  | with_reducible refine r_next ?_
  | with_reducible refine r_asg ?_
  | with_reducible refine r_name ?_
  | with_reducible refine r_ret ?_
  | with_reducible refine r_retN ?_
  | with_reducible refine r_drop ?_
  | with_reducible refine r_ifS ?_
  | with_reducible refine r_test ?_
  | with_reducible refine r_B ?_
  | with_reducible refine r_and ?_
  | with_reducible refine r_or ?_
  | with_reducible refine r_not ?_
  | with_reducible refine r_andV ?_
  | with_reducible refine r_orV ?_
  | with_reducible refine r_notV ?_
  | with_reducible refine r_if ?_
  | with_reducible refine r_c ?_
  | with_reducible refine r_op ?_
  | with_reducible refine r_un ?_
  | with_reducible refine r_chain ?_
  | with_reducible refine r_lst ?_
  | with_reducible refine r_tup ?_
  | with_reducible refine r_nil ?_
  | with_reducible refine r_cons ?_
  | with_reducible refine r_call ?_
  | with_reducible refine r_meth ?_
  | with_reducible refine r_make ?_
  | with_reducible refine r_prop ?_
  | with_reducible refine r_cb ?_
  | with_reducible refine r_bm ?_
  | with_reducible refine r_bm0 ?_
  | with_reducible refine r_sl ?_
  | with_reducible refine r_noPart ?_
  | with_reducible refine r_part ?_
  | with_reducible refine r_int1 ?_
  | with_reducible refine r_bl1 ?_
  | with_reducible refine r_revL ?_
  | with_reducible refine r_lc ?_
  | with_reducible refine r_par ?_
  | with_reducible refine r_par3 ?_
  | with_reducible refine r_two ?_
  | with_reducible refine r_three ?_
  | with_reducible refine r_augS ?_
  | with_reducible refine r_sub ?_
  | with_reducible refine r_fld ?_
  | with_reducible refine r_sfld ?_
  | with_reducible refine r_iList ?_
  | with_reducible refine r_iTup ?_
  | with_reducible refine r_iRng1 ?_
  | with_reducible refine r_iRng2 ?_
  | with_reducible refine r_iEnum ?_
  | with_reducible refine r_iZip ?_
  | with_reducible refine r_iZipA ?_
  | with_reducible refine r_iSeq ?_
  | with_reducible refine r_iOwn ?_
  | with_reducible refine r_iEnumS ?_
  | with_reducible refine r_revT ?_
  | with_reducible refine r_ixO ?_
  | with_reducible refine r_yes ?_
  | with_reducible refine r_for ?_
  | with_reducible refine r_I0 ?_
  | with_reducible refine r_U ?_
  | with_reducible refine r_eqI ?_
  | with_reducible refine r_neI ?_
  | with_reducible refine r_eqB ?_
  | with_reducible refine r_neB ?_
  | with_reducible refine r_eqS ?_
  | with_reducible refine r_neS ?_
  | with_reducible refine r_ipI ?_
  | with_reducible refine r_abs ?_
  | with_reducible refine r_intP ?_
  | with_reducible refine r_intB ?_
  | with_reducible refine r_min2 ?_
  | with_reducible refine r_max2 ?_
  | with_reducible refine r_isNi ?_
  | with_reducible refine r_isNr ?_
  | with_reducible refine r_isNn ?_
  | with_reducible refine r_notNi ?_
  | with_reducible refine r_notNr ?_
  | with_reducible refine r_notNn ?_
  | with_reducible refine r_call1 ?_
  | (with_reducible refine' r_var ?hv ?_); (case hv => exact rfl)
  | (with_reducible refine' r_aug ?hv ?_); (case hv => exact rfl)
  | (with_reducible refine r_wipe ?hv ?_); (case hv => exact rfl)
  | (with_reducible refine r_I ?hv ?_); (case hv => (first | (show (0 : Int) < _; omega) | exact Or.inl ⟨by omega, by omega⟩ | exact Or.inr ⟨by omega, by omega⟩ | exact ⟨by omega, by omega⟩ | exact ⟨by omega, by omega, by decide⟩))
  | (with_reducible refine r_range1 ?hv ?hw ?_); (case hv => omega); (case hw => omega)))
local macro_rules | `(tactic| walk_at "ex") => `(tactic| first
  | assumption
  | exact Ex.refl _
  | exact Ex.new (by assumption)
  | (refine Ex.trans ?_ (Ex.new (by assumption)); walk_at "ex")
  | (refine Ex.mut ?_ (by walk_at "fr"); walk_at "ex")
  | (refine Ex.trans ?_ (by assumption); walk_at "ex"))
local macro_rules | `(tactic| walk_at "xl") => `(tactic| first
  | exact Xl.refl _
  | (refine Xl.trans ?_ (Xl.of (by assumption)); walk_at "xl")
  | (refine Xl.trans ?_ (Xl.of (Ex.new (by assumption))); walk_at "xl")
  | (refine Xl.trans ?_ (Xl.set (by assumption)); walk_at "xl")
  | (refine Xl.trans ?_ (Xl.set (by walk_at "kn")); walk_at "xl"))
local macro_rules | `(tactic| walk_at "fr") => `(tactic| first
  | assumption
  | (refine fresh_back ?_ (by assumption); walk_at "ex"))
local macro_rules | `(tactic| walk_at "kn") => `(tactic| first
  | assumption
  | exact upd_same
  | (refine mv_bag (by assumption) ?_; walk_at "xl")
  | (refine mv_rw (by assumption) ?_; walk_at "xl")
  | (refine mv_ps (by assumption) ?_; walk_at "xl")
  | (refine mv_clk (by assumption) ?_; walk_at "xl")
  | (refine mv_sqL (by assumption) ?_; walk_at "ex")
  | (refine mv_sqT (by assumption) ?_; walk_at "ex")
  | (refine mv_at (by assumption) ?_; walk_at "ex")
  | (refine' mv_at upd_same ?hk; (case hk => walk_at "ex"))
  | (refine' at_sqL ?hk; (case hk => walk_at "kn"))
  | (refine' at_sqT ?hk; (case hk => walk_at "kn"))
  | (refine mv_sq (by assumption) ?_; walk_at "ex")
  | (refine' sqL_sq ?hk; (case hk => walk_at "kn"))
  | (refine' sqT_sq ?hk; (case hk => walk_at "kn"))
  | (refine' ps_rw ?hk; (case hk => walk_at "kn")))

def top (i : Nat) : Stmt := PySem.Challenge.pw_hourneeds_k17_whole_stays_changed_one_by.main.body.getD i (.Pass ⟨0, 0, 0, 0⟩)
abbrev s__law_bag : Stmt := top 16
abbrev s__law_take : Stmt := top 17
abbrev s__law_stays : Stmt := top 18
abbrev s_is_integer : Stmt := top 7
abbrev s_are_stays : Stmt := top 11
abbrev s_need_order : Stmt := top 12
abbrev s_width_of : Stmt := top 13
abbrev s_Clock___init__ : Stmt := inClass (top 14) 0
abbrev s__law_clock : Stmt := top 22
abbrev s_is_hour : Stmt := top 8
abbrev s_Clock___getitem__ : Stmt := inClass (top 14) 13
abbrev s_Clock_hours : Stmt := inClass (top 14) 1
abbrev s_Clock_with_stay : Stmt := inClass (top 14) 8
abbrev s__law_stepped : Stmt := top 28
abbrev s__law_led_to : Stmt := top 29
abbrev s_Clock___len__ : Stmt := inClass (top 14) 11
abbrev s_Clock___iter__ : Stmt := inClass (top 14) 12
abbrev s_Clock_widths : Stmt := inClass (top 14) 4
abbrev s_Clock_stays : Stmt := inClass (top 14) 3
abbrev s__law_alike : Stmt := top 20
abbrev s__law_serving : Stmt := top 19
abbrev s__law_widths : Stmt := top 23
abbrev s__law_served : Stmt := top 21
abbrev s_Clock_served : Stmt := inClass (top 14) 6
abbrev s_Clock_serving : Stmt := inClass (top 14) 7
abbrev s__law_whole : Stmt := top 27
abbrev s_Clock___eq__ : Stmt := inClass (top 14) 14
abbrev s__law_far : Stmt := top 26
abbrev s_Clock_mirrored : Stmt := inClass (top 14) 10
abbrev s__law_led : Stmt := top 25
abbrev s_Clock_turned : Stmt := inClass (top 14) 9
abbrev s__law_first_over : Stmt := top 24
abbrev s__law_elsewhere_right : Stmt := top 30
abbrev s_law : Stmt := top 31
/-- where the defs and classes stand -/
structure Ads where
  c_Clock : Addr
  f__law_bag : Addr
  f__law_take : Addr
  f__law_stays : Addr
  f_is_integer : Addr
  f_are_stays : Addr
  f_need_order : Addr
  f_width_of : Addr
  f_Clock___init__ : Addr
  f__law_clock : Addr
  f_is_hour : Addr
  f_Clock___getitem__ : Addr
  f_Clock_hours : Addr
  q_Clock_hours : Addr
  f_Clock_with_stay : Addr
  f__law_stepped : Addr
  f__law_led_to : Addr
  f_Clock___len__ : Addr
  f_Clock___iter__ : Addr
  f_Clock_widths : Addr
  f_Clock_stays : Addr
  f__law_alike : Addr
  f__law_serving : Addr
  f__law_widths : Addr
  f__law_served : Addr
  f_Clock_served : Addr
  f_Clock_serving : Addr
  f__law_whole : Addr
  f_Clock___eq__ : Addr
  f__law_far : Addr
  f_Clock_mirrored : Addr
  f__law_led : Addr
  f_Clock_turned : Addr
  f__law_first_over : Addr
  f__law_elsewhere_right : Addr
  f_law : Addr
  c_NeedError : Addr
  c_NoHour : Addr
  fi_NoHour : Addr
  c_Overtaken : Addr
  fi_Overtaken : Addr
  c_Wrong : Addr
  fi_Wrong : Addr
/-- what the top has left -/
structure Tx (P : Program) (K : PySem.W.Frag) (mg : Str → Option Value) (d : Ads) : Prop where
  g_Clock : mg "Clock" = some (.ref d.c_Clock)
  cl_Clock : Cls K d.c_Clock
  sf_Clock : PySem.W.selfFirst K d.c_Clock = true
  n_Clock_kept_stays : NoAttr K d.c_Clock "kept_stays"
  n_Clock_kept_widths : NoAttr K d.c_Clock "kept_widths"
  g__law_bag : mg "_law_bag" = some (.ref d.f__law_bag)
  d__law_bag : Df K "_law_bag" "_law_bag" s__law_bag d.f__law_bag ["_law_script"]
  g__law_take : mg "_law_take" = some (.ref d.f__law_take)
  d__law_take : Df K "_law_take" "_law_take" s__law_take d.f__law_take ["_law_bag_here", "_law_upto"]
  g__law_stays : mg "_law_stays" = some (.ref d.f__law_stays)
  d__law_stays : Df K "_law_stays" "_law_stays" s__law_stays d.f__law_stays ["_law_bag_here", "_law_many"]
  g_is_integer : mg "is_integer" = some (.ref d.f_is_integer)
  d_is_integer : Df K "is_integer" "is_integer" s_is_integer d.f_is_integer ["thing"]
  g_are_stays : mg "are_stays" = some (.ref d.f_are_stays)
  d_are_stays : Df K "are_stays" "are_stays" s_are_stays d.f_are_stays ["thing"]
  g_need_order : mg "need_order" = some (.ref d.f_need_order)
  d_need_order : Df K "need_order" "need_order" s_need_order d.f_need_order ["stays"]
  g_width_of : mg "width_of" = some (.ref d.f_width_of)
  d_width_of : Df K "width_of" "width_of" s_width_of d.f_width_of ["stays", "hour"]
  mk_Clock : Mk K d.c_Clock d.f_Clock___init__
  d_Clock___init__ : Df K "__init__" "Clock.__init__" s_Clock___init__ d.f_Clock___init__ ["self", "stays"]
  g__law_clock : mg "_law_clock" = some (.ref d.f__law_clock)
  d__law_clock : Df K "_law_clock" "_law_clock" s__law_clock d.f__law_clock ["_law_bag_here", "_law_stays_here"]
  g_is_hour : mg "is_hour" = some (.ref d.f_is_hour)
  d_is_hour : Df K "is_hour" "is_hour" s_is_hour d.f_is_hour ["hours", "thing"]
  m_Clock___getitem__ : Meth K d.c_Clock "__getitem__" d.f_Clock___getitem__
  fi_Clock___getitem__ : PySem.W.fnIn K d.f_Clock___getitem__ = true
  d_Clock___getitem__ : Df K "__getitem__" "Clock.__getitem__" s_Clock___getitem__ d.f_Clock___getitem__ ["self", "hour"]
  p_Clock_hours : PropOf K d.c_Clock "hours" d.q_Clock_hours d.f_Clock_hours
  d_Clock_hours : Df K "hours" "Clock.hours" s_Clock_hours d.f_Clock_hours ["self"]
  m_Clock_with_stay : Meth K d.c_Clock "with_stay" d.f_Clock_with_stay
  d_Clock_with_stay : Df K "with_stay" "Clock.with_stay" s_Clock_with_stay d.f_Clock_with_stay ["self", "hour", "stay"]
  g__law_stepped : mg "_law_stepped" = some (.ref d.f__law_stepped)
  d__law_stepped : Df K "_law_stepped" "_law_stepped" s__law_stepped d.f__law_stepped ["_law_clock_here", "_law_hour", "_law_stay"]
  g__law_led_to : mg "_law_led_to" = some (.ref d.f__law_led_to)
  d__law_led_to : Df K "_law_led_to" "_law_led_to" s__law_led_to d.f__law_led_to ["_law_clock_here", "_law_aims"]
  m_Clock___len__ : Meth K d.c_Clock "__len__" d.f_Clock___len__
  d_Clock___len__ : Df K "__len__" "Clock.__len__" s_Clock___len__ d.f_Clock___len__ ["self"]
  m_Clock___iter__ : Meth K d.c_Clock "__iter__" d.f_Clock___iter__
  d_Clock___iter__ : Df K "__iter__" "Clock.__iter__" s_Clock___iter__ d.f_Clock___iter__ ["self"]
  m_Clock_widths : Meth K d.c_Clock "widths" d.f_Clock_widths
  d_Clock_widths : Df K "widths" "Clock.widths" s_Clock_widths d.f_Clock_widths ["self"]
  m_Clock_stays : Meth K d.c_Clock "stays" d.f_Clock_stays
  d_Clock_stays : Df K "stays" "Clock.stays" s_Clock_stays d.f_Clock_stays ["self"]
  g__law_alike : mg "_law_alike" = some (.ref d.f__law_alike)
  d__law_alike : Df K "_law_alike" "_law_alike" s__law_alike d.f__law_alike ["_law_found", "_law_due"]
  g__law_serving : mg "_law_serving" = some (.ref d.f__law_serving)
  d__law_serving : Df K "_law_serving" "_law_serving" s__law_serving d.f__law_serving ["_law_stays_here", "_law_hour"]
  g__law_widths : mg "_law_widths" = some (.ref d.f__law_widths)
  d__law_widths : Df K "_law_widths" "_law_widths" s__law_widths d.f__law_widths ["_law_stays_here"]
  g__law_served : mg "_law_served" = some (.ref d.f__law_served)
  d__law_served : Df K "_law_served" "_law_served" s__law_served d.f__law_served ["_law_stays_here", "_law_hour"]
  m_Clock_served : Meth K d.c_Clock "served" d.f_Clock_served
  d_Clock_served : Df K "served" "Clock.served" s_Clock_served d.f_Clock_served ["self", "hour"]
  m_Clock_serving : Meth K d.c_Clock "serving" d.f_Clock_serving
  d_Clock_serving : Df K "serving" "Clock.serving" s_Clock_serving d.f_Clock_serving ["self", "hour"]
  g__law_whole : mg "_law_whole" = some (.ref d.f__law_whole)
  d__law_whole : Df K "_law_whole" "_law_whole" s__law_whole d.f__law_whole ["_law_clock_here", "_law_stays_here"]
  m_Clock___eq__ : Meth K d.c_Clock "__eq__" d.f_Clock___eq__
  d_Clock___eq__ : Df K "__eq__" "Clock.__eq__" s_Clock___eq__ d.f_Clock___eq__ ["self", "other"]
  g__law_far : mg "_law_far" = some (.ref d.f__law_far)
  d__law_far : Df K "_law_far" "_law_far" s__law_far d.f__law_far ["_law_bag_here"]
  m_Clock_mirrored : Meth K d.c_Clock "mirrored" d.f_Clock_mirrored
  d_Clock_mirrored : Df K "mirrored" "Clock.mirrored" s_Clock_mirrored d.f_Clock_mirrored ["self"]
  g__law_led : mg "_law_led" = some (.ref d.f__law_led)
  d__law_led : Df K "_law_led" "_law_led" s__law_led d.f__law_led ["_law_some", "_law_by"]
  m_Clock_turned : Meth K d.c_Clock "turned" d.f_Clock_turned
  d_Clock_turned : Df K "turned" "Clock.turned" s_Clock_turned d.f_Clock_turned ["self", "by"]
  g__law_first_over : mg "_law_first_over" = some (.ref d.f__law_first_over)
  d__law_first_over : Df K "_law_first_over" "_law_first_over" s__law_first_over d.f__law_first_over ["_law_stays_here"]
  g__law_elsewhere_right : mg "_law_elsewhere_right" = some (.ref d.f__law_elsewhere_right)
  d__law_elsewhere_right : Df K "_law_elsewhere_right" "_law_elsewhere_right" s__law_elsewhere_right d.f__law_elsewhere_right ["_law_bag_here", "_law_clock_here", "_law_stays_here"]
  d_law : Df K "law" "law" s_law d.f_law ["_law_script"]
  z_abs : mg "abs" = none
  z_all : mg "all" = none
  z_bool : mg "bool" = none
  z_enumerate : mg "enumerate" = none
  z_int : mg "int" = none
  z_isinstance : mg "isinstance" = none
  z_iter : mg "iter" = none
  z_len : mg "len" = none
  z_list : mg "list" = none
  z_max : mg "max" = none
  z_min : mg "min" = none
  z_range : mg "range" = none
  z_repr : mg "repr" = none
  z_tuple : mg "tuple" = none
  k_MOST_HOURS : ∃ t : Tok, mg "MOST_HOURS" = some (.int 48 t)
  ic_Clock : IsC K d.c_Clock
  ne_Clock : PySem.W.findIn K (.ref d.c_Clock) "__ne__" = some (some (.builtin "object.__ne__")) ∧ PySem.W.mroIn K d.c_Clock (.type "object") = some true
  g_NeedError : mg "NeedError" = some (.ref d.c_NeedError)
  g_NoHour : mg "NoHour" = some (.ref d.c_NoHour)
  er_NoHour : ErrC P K mg "NoHour" "hour" d.c_NoHour d.fi_NoHour
  xc_NoHour : ExcC K d.c_NoHour
  xm_NoHour : PySem.W.exmOne K (.ref d.c_NoHour) (.ref d.c_NeedError) = some true
  ix_NoHour_NoHour : PySem.W.kitOne K (.ref d.c_NoHour) (.ref d.c_NoHour) = some true
  ix_NoHour_Overtaken : PySem.W.kitOne K (.ref d.c_NoHour) (.ref d.c_Overtaken) = some false
  ix_NoHour_Wrong : PySem.W.kitOne K (.ref d.c_NoHour) (.ref d.c_Wrong) = some false
  g_Overtaken : mg "Overtaken" = some (.ref d.c_Overtaken)
  er_Overtaken : ErrC P K mg "Overtaken" "hour" d.c_Overtaken d.fi_Overtaken
  xc_Overtaken : ExcC K d.c_Overtaken
  xm_Overtaken : PySem.W.exmOne K (.ref d.c_Overtaken) (.ref d.c_NeedError) = some true
  ix_Overtaken_NoHour : PySem.W.kitOne K (.ref d.c_Overtaken) (.ref d.c_NoHour) = some false
  ix_Overtaken_Overtaken : PySem.W.kitOne K (.ref d.c_Overtaken) (.ref d.c_Overtaken) = some true
  ix_Overtaken_Wrong : PySem.W.kitOne K (.ref d.c_Overtaken) (.ref d.c_Wrong) = some false
  g_Wrong : mg "Wrong" = some (.ref d.c_Wrong)
  er_Wrong : ErrC P K mg "Wrong" "place" d.c_Wrong d.fi_Wrong
  xc_Wrong : ExcC K d.c_Wrong
  xm_Wrong : PySem.W.exmOne K (.ref d.c_Wrong) (.ref d.c_NeedError) = some true
  ix_Wrong_NoHour : PySem.W.kitOne K (.ref d.c_Wrong) (.ref d.c_NoHour) = some false
  ix_Wrong_Overtaken : PySem.W.kitOne K (.ref d.c_Wrong) (.ref d.c_Overtaken) = some false
  ix_Wrong_Wrong : PySem.W.kitOne K (.ref d.c_Wrong) (.ref d.c_Wrong) = some true
section
variable {P : Program} {w : World} {K : PySem.W.Frag} {mg : Str → Option Value} {base : Heap} {d : Ads}

/-! ### _law_bag -/
theorem sc__law_bag : FnScope ["_law_script", "_law_cell"] ["_law_script"] (defScope s__law_bag) := ⟨rfl, rfl, rfl, by decide +kernel, rfl, by decide +kernel, by decide +kernel⟩

theorem absI (i : Int) : 0 ≤ (if i < 0 then -i else i) := by split <;> omega
theorem cut_some (xs : List V) (h : xs.length ≤ 63) : cutV xs none (some 63) = xs := by
  unfold cutV
  rw [HT.sIx_none, show HT.sIx xs.length xs.length (some 63) = min 63 xs.length from HT.sIx_nat xs.length xs.length 63]
  rw [List.drop_zero, Nat.sub_zero, Nat.min_eq_right h, List.take_length]
def sp__law_bag (K : PySem.W.Frag) (d : Ads) : Sp := spBag K
def spBagL0 (K : PySem.W.Frag) (d : Ads) : Sp := spBagL K
set_option maxHeartbeats 4000000 in
theorem ok0__law_bag (T : Tx P K mg d) : Okf P w K mg base 1 d.f__law_bag ["_law_script"] (spBagL0 K d) := by
  refine okf_of T.d__law_bag sc__law_bag (fun vs H Q E h => ?_) (fun cdv A outer s H vs Q E hr h => ?_)
  · obtain ⟨a, ns, rfl, hS, hl, k⟩ := h
    rfl
  · obtain ⟨a, ns, rfl, hS, hl, k⟩ := h
    refine ⟨_, (pss_one (ps_ret (pe_lst (pa_cons pe_int (pa_cons pe_int (pa_cons pe_int (pa_cons (pe_lc (own := [("_law_cell", 1)]) rfl sc__law_bag.nd (k_piL (K := K) rfl (pe_slice (k_slL (K := K) rfl) (pv 0) po_none (po_some pe_int))) (blkOk_by (by kernel_rfl)) (fun _ _ _ _ _ => (pg_name (i := 1) sc__law_bag.nd rfl (by first | exact Or.inl rfl | exact Or.inr rfl))) (fun _ _ _ _ _ => pts_nil) (fun _ _ _ _ _ => (pe_callB k_abs (by rfl) T.z_abs (by decide +kernel) (pa_cons (pv 1) pa_nil)))) pa_nil))))))), ?_⟩
    walk_at "rd"
    refine ⟨a, _, rfl, hS, fun c nc => ?_⟩
    rw [cut_some _ (by rw [List.length_map]; exact hl)]
    refine ⟨c, rfl, ⟨_, .inl (.inl upd_same)⟩, lc_fun (walk_list (xs := ns.map V.int)) (fun i => .int (if ns.getD i 0 < 0 then - ns.getD i 0 else ns.getD i 0)) (fun H' e => .inl (.inl (e _ _ upd_same))) (by rw [List.length_map]; omega) ?_ ?_⟩
    · rintro i x H1 H2 hi e ⟨rfl, hx⟩ kk hk
      obtain rfl := int_at hx
      walk_at "rd"
      exact hk _ (Ex.refl _)
    · intro D H' nD e hD
      rw [List.length_map] at hD
      walk_at "rd"
      refine ⟨by show 4 ≤ sizeLine; decide, fun b nb => ?_⟩
      have e1 : Ex H H' := (Ex.new nc).trans e
      have nH : H D = none := fresh_back (Ex.new nc) nD
      refine k b D ((List.range ns.length).map fun i => if ns.getD i 0 < 0 then - ns.getD i 0 else ns.getD i 0) _ (e1.trans (Ex.new nb)) (fresh_back e1 nb) nH upd_same ?_ ?_ ?_
      · rw [upd_ne (ne_of_none hD nb), hD, List.map_map]
        rfl
      · intro c hc
        obtain ⟨i, _, rfl⟩ := List.mem_map.mp hc
        exact absI _
      · rw [List.length_map, List.length_range]
        exact hl

theorem ok__law_bag (T : Tx P K mg d) : Okf P w K mg base 1 d.f__law_bag ["_law_script"] (sp__law_bag K d) := bag_ok (ok0__law_bag T)

/-! ### _law_take -/
theorem sc__law_take : FnScope ["_law_bag_here", "_law_upto", "_law_cell", "_law_mixed", "_law_drawn", "_law_early", "_law_second"] ["_law_bag_here", "_law_upto"] (defScope s__law_take) := ⟨rfl, rfl, rfl, by decide +kernel, rfl, by decide +kernel, by decide +kernel⟩

def sp__law_take (K : PySem.W.Frag) (d : Ads) : Sp := spTake
def spTakeL0 (K : PySem.W.Frag) (d : Ads) : Sp := spTakeL
set_option maxHeartbeats 4000000 in
theorem ok0__law_take (T : Tx P K mg d) : Okf P w K mg base 1 d.f__law_take ["_law_bag_here", "_law_upto"] (spTakeL0 K d) := by
  refine okf_of T.d__law_take sc__law_take (fun vs H Q E h => ?_) (fun cdv A outer s H vs Q E hr h => ?_)
  · obtain ⟨b, l, u, o, cs, xs, rfl, hb, ⟨c0, c1, c2, rfl, h0, h1, h1u, h2⟩, hL, hc, hcl, hu0, hu1, k⟩ := h
    rfl
  · obtain ⟨b, l, u, o, cs, xs, rfl, hb, ⟨c0, c1, c2, rfl, h0, h1, h1u, h2⟩, hL, hc, hcl, hu0, hu1, k⟩ := h
    refine ⟨_, (Evl.pss_cut (ps_if (pt_cmpR op_eq (pe_ix (k_ixL (K := K) rfl) (pv 0) pe_int (fun _ _ => rfl)) pe_int (nomark _)) (pss_cons (ps_set (i := 2) sc__law_take.nd rfl (by first | exact Or.inl rfl | exact Or.inr rfl) pe_int)
      (Evl.pss_cut (ps_if (pt_cmpR op_lt (pe_ix (k_ixL (K := K) rfl) (pv 0) pe_int (fun _ _ => rfl)) (pe_callB (k_len (K := K) rfl) (by rfl) T.z_len (by decide +kernel) (pa_cons (pe_ix (k_ixL (K := K) rfl) (pv 0) pe_int (fun _ _ => rfl)) pa_nil)) (nomark _)) (pss_one (ps_set (i := 2) sc__law_take.nd rfl (by first | exact Or.inl rfl | exact Or.inr rfl) (pe_ix (k_ixL (K := K) rfl) (pe_ix (k_ixL (K := K) rfl) (pv 0) pe_int (fun _ _ => rfl)) (pe_ix (k_ixL (K := K) rfl) (pv 0) pe_int (fun _ _ => rfl)) (fun _ _ => rfl)))) pss_nil)
      (pss_cons (ps_augS (pv 0) pe_int (k_getL (K := K) rfl) pe_int ip_add set_list)
      (Evl.pss_cut (ps_if (pt_cmpR op_ge (pv 2) pe_int (nomark _)) (pss_one (ps_asg (pv 2) (pg_sub (pv 0) pe_int set_list))) pss_nil)
      (pss_cons (ps_set (i := 3) sc__law_take.nd rfl (by first | exact Or.inl rfl | exact Or.inr rfl) (pe_op op_add (pe_op op_add (pe_op op_mul (pe_ix (k_ixL (K := K) rfl) (pv 0) pe_int (fun _ _ => rfl)) pe_int) (pe_op op_mod (pe_callTy k_int1 (by rfl) T.z_int (by decide +kernel) (pa_cons (pv 2) pa_nil)) pe_int)) (pe_op op_mul pe_int (pe_ix (k_ixL (K := K) rfl) (pv 0) pe_int (fun _ _ => rfl)))))
      (pss_one (ps_asg (pe_op op_mod (pe_callTy k_int1 (by rfl) T.z_int (by decide +kernel) (pa_cons (pv 3) pa_nil)) pe_int) (pg_sub (pv 0) pe_int set_list)))))))) pss_nil)
      (pss_cons (ps_if (pt_cmpR op_gt (pe_ix (k_ixL (K := K) rfl) (pv 0) pe_int (fun _ _ => rfl)) pe_int (nomark _)) (pss_cons (ps_set (i := 4) sc__law_take.nd rfl (by first | exact Or.inl rfl | exact Or.inr rfl) (pe_op op_mod (pe_callTy k_int1 (by rfl) T.z_int (by decide +kernel) (pa_cons (pe_ix (k_ixL (K := K) rfl) (pv 0) pe_int (fun _ _ => rfl)) pa_nil)) (pv 1)))
      (pss_cons (ps_asg (pe_op op_fdiv (pe_callTy k_int1 (by rfl) T.z_int (by decide +kernel) (pa_cons (pe_ix (k_ixL (K := K) rfl) (pv 0) pe_int (fun _ _ => rfl)) pa_nil)) (pv 1)) (pg_sub (pv 0) pe_int set_list))
      (pss_one (ps_ret (pv 4))))) pss_nil)
      (pss_cons (ps_set (i := 5) sc__law_take.nd rfl (by first | exact Or.inl rfl | exact Or.inr rfl) (pe_op op_mod (pe_callTy k_int1 (by rfl) T.z_int (by decide +kernel) (pa_cons (pe_op op_mul (pe_op op_add (pe_ix (k_ixL (K := K) rfl) (pv 0) pe_int (fun _ _ => rfl)) pe_int) pe_int) pa_nil)) pe_int))
      (pss_cons (ps_set (i := 6) sc__law_take.nd rfl (by first | exact Or.inl rfl | exact Or.inr rfl) (pe_op op_mod (pe_callTy k_int1 (by rfl) T.z_int (by decide +kernel) (pa_cons (pe_op op_mul (pe_op op_mod (pe_callTy k_int1 (by rfl) T.z_int (by decide +kernel) (pa_cons (pe_op op_mul (pv 5) (pv 5)) pa_nil)) pe_int) pe_int) pa_nil)) pe_int))
      (pss_one (ps_ret (pe_op op_mod (pe_callTy k_int1 (by rfl) T.z_int (by decide +kernel) (pa_cons (pe_op op_fdiv (pv 6) pe_int) pa_nil)) (pv 1)))))))), ?_⟩
    have lb : l ≠ b := ne_of hL hb (by intro z; cases z)
    refine ⟨fun σ H' => ∃ (d0 d1 d2 : Int) (y2 y3 : Option V), σ = [some (.ref b), some (.int u), y2, y3, none, none, none] ∧ H' = upd H b (.lst [.int d0, .int d1, .int d2, .ref l]) ∧ 0 ≤ d0 ∧ 0 ≤ d1 ∧ d1 < 2147483647 ∧ 0 ≤ d2, ?_, ?_⟩
    · refine ⟨_, rfl, b, _, 0, _, rfl, rfl, SqL.of hb, rfl, rfl, _, rfl, ite2 (fun _ => ?_) (fun _ => ?_)⟩
      · -- _law_cell = 0; then the cell
        refine ⟨fun σ H' => ∃ cell : Int, 0 ≤ cell ∧ σ = [some (.ref b), some (.int u), some (.int cell), none, none, none, none] ∧ H' = H, ?_, ?_⟩
        · refine ⟨_, rfl, b, _, 2, _, rfl, rfl, SqL.of hb, rfl, _, rfl, b, _, 3, _, rfl, rfl, SqL.of hb, rfl, l, _, rfl, .inl (.inl (.inr ⟨o, hL⟩)), _, _, rfl, rfl, _, rfl, ite2 (fun hlt => ?_) (fun _ => ?_)⟩
          · have hlt' : c2 < ((cs.map V.int).length : Int) := of_decide_eq_true hlt
            rw [List.length_map] at hlt'
            have hx := at_int (ns := cs) h2 hlt'
            refine ⟨_, rfl, b, _, 3, _, rfl, rfl, SqL.of hb, rfl, _, rfl, b, _, 2, _, rfl, rfl, SqL.of hb, rfl, l, _, c2, _, rfl, rfl, .inl (.inr ⟨o, hL⟩), hx, _, hc _ (gD_mem (by omega)), rfl, rfl⟩
          · exact ⟨0, Int.le_refl 0, rfl, rfl⟩
        · rintro σ' H' ⟨cell, hcell, rfl, hH⟩
          rw [hH]
          -- bag[2] += 1
          refine ⟨_, rfl, b, _, 2, _, rfl, rfl, SqL.of hb, rfl, _, _, rfl, rfl, b, _, 2, 2, rfl, rfl, hb, rfl, ?_⟩
          -- if cell >= 10 ** 18: bag[0] = cell
          refine ⟨fun σ H' => ∃ d0 : Int, 0 ≤ d0 ∧ σ = [some (.ref b), some (.int u), some (.int cell), none, none, none, none] ∧ H' = upd H b (.lst [.int d0, .int c1, .int (c2 + 1), .ref l]), ?_, ?_⟩
          · refine ⟨_, rfl, _, _, rfl, rfl, _, rfl, ite2 (fun _ => ?_) (fun _ => ?_)⟩
            · refine ⟨_, rfl, _, rfl, b, _, 0, 0, rfl, rfl, upd_same, rfl, cell, hcell, rfl, ?_⟩
              rw [upd_upd]
              rfl
            · exact ⟨c0, h0, rfl, rfl⟩
          · rintro σ' H' ⟨d0, hd0, rfl, rfl⟩
            -- _law_mixed; bag[1] = int(_law_mixed) % 2147483647
            refine ⟨_, rfl, b, _, 1, _, rfl, rfl, SqL.of upd_same, rfl, c1, _, rfl, rfl, .inl ⟨by omega, by omega⟩, _, rfl, .inl ⟨_, rfl, _, _, rfl, rfl, (by show (0 : Int) < 2147483647; decide), _, _, rfl, rfl, _, rfl, b, _, 2, _, rfl, rfl, SqL.of upd_same, rfl, _, _, rfl, rfl, .inl ⟨by decide, by decide⟩, _, _, rfl, rfl, ?_⟩⟩
            refine ⟨_, rfl, .inl ⟨_, rfl, _, _, rfl, rfl, (by show (0 : Int) < 2147483647; decide), _, rfl, b, _, 1, 1, rfl, rfl, upd_same, rfl, ?_⟩⟩
            refine ⟨d0, _, c2 + 1, _, _, rfl, by rw [upd_upd]; rfl, hd0, Int.emod_nonneg _ (by decide), Int.emod_lt_of_pos _ (by decide), by omega⟩
      · refine ⟨c0, c1, c2, none, none, rfl, ?_, h0, h1, h1u, h2⟩
        funext a
        by_cases ha : a = b
        · subst ha
          rw [upd_same, hb]
        · rw [upd_ne ha]
    · rintro σ' H' ⟨d0, d1, d2, y2, y3, rfl, rfl, g0, g1, g1u, g2⟩
      have kk : ∀ (n : Int) (ys : List V), 0 ≤ n → n < u → BagV l ys → Q (.int n) (upd (upd H b (.lst [.int d0, .int d1, .int d2, .ref l])) b (.lst ys)) := fun n ys a1 a2 a3 => by
        rw [upd_upd]
        exact k n ys a1 a2 a3
      refine ⟨_, rfl, b, _, 0, _, rfl, rfl, SqL.of upd_same, rfl, _, _, rfl, rfl, _, rfl, ite2 (fun hp => ?_) (fun _ => ?_)⟩
      · have hp' : 0 < d0 := of_decide_eq_true hp
        refine ⟨_, rfl, b, _, 0, _, rfl, rfl, SqL.of upd_same, rfl, .inl ⟨_, rfl, _, rfl, _, _, rfl, rfl, hu0, ?_⟩⟩
        refine ⟨_, rfl, b, _, 0, _, rfl, rfl, SqL.of upd_same, rfl, .inl ⟨_, rfl, _, rfl, _, _, rfl, rfl, ⟨hu0, hu1⟩, _, rfl, b, _, 0, 0, rfl, rfl, upd_same, rfl, _, rfl, ?_⟩⟩
        exact kk _ _ (Int.emod_nonneg _ (by omega)) (Int.emod_lt_of_pos _ hu0) ⟨_, d1, d2, rfl, Int.ediv_nonneg (by omega) (by omega), g1, g1u, g2⟩
      · refine ⟨_, rfl, b, _, 1, _, rfl, rfl, SqL.of upd_same, rfl, _, _, rfl, rfl, _, _, rfl, rfl, .inr ⟨by decide, by decide⟩, .inl ⟨_, rfl, _, _, rfl, rfl, (by show (0 : Int) < 1000000007; decide), ?_⟩⟩
        have e0 : 0 ≤ (d1 + 1) * 39373 % 1000000007 := Int.emod_nonneg _ (by decide)
        have e1 : (d1 + 1) * 39373 % 1000000007 < 1000000007 := Int.emod_lt_of_pos _ (by decide)
        refine ⟨_, rfl, _, rfl, _, _, rfl, rfl, .inl ⟨by omega, by omega⟩, .inl ⟨_, rfl, _, _, rfl, rfl, (by show (0 : Int) < 998244353; decide), _, _, rfl, rfl, .inr ⟨by decide, by decide⟩, .inl ⟨_, rfl, _, _, rfl, rfl, (by show (0 : Int) < 998244353; decide), ?_⟩⟩⟩
        refine ⟨_, rfl, _, _, rfl, rfl, ⟨by decide, by decide⟩, .inl ⟨_, rfl, _, rfl, _, _, rfl, rfl, hu0, ?_⟩⟩
        exact k _ _ (Int.emod_nonneg _ (by omega)) (Int.emod_lt_of_pos _ hu0) ⟨d0, d1, d2, rfl, g0, g1, g1u, g2⟩

theorem ok__law_take (T : Tx P K mg d) : Okf P w K mg base 1 d.f__law_take ["_law_bag_here", "_law_upto"] (sp__law_take K d) := take_ok (ok0__law_take T) rfl

/-! ### _law_stays -/
theorem sc__law_stays : FnScope ["_law_bag_here", "_law_many", "_law_most", "_law_drawn", "_law_hour", "_law_ahead"] ["_law_bag_here", "_law_many"] (defScope s__law_stays) := ⟨rfl, rfl, rfl, by decide +kernel, rfl, by decide +kernel, by decide +kernel⟩

def sp__law_stays (K : PySem.W.Frag) (d : Ads) : Sp := fun vs H Q _ => ∃ (b : Addr) (n : Nat), vs = [.ref b, .int (n : Int)] ∧ Bag H b ∧ 1 ≤ n ∧ n ≤ 48 ∧ ∀ s : List Int, s.length = n → Good s → RetN (s.map V.int) H Q
set_option maxHeartbeats 4000000 in
theorem ok__law_stays (T : Tx P K mg d) : Okf P w K mg base 2 d.f__law_stays ["_law_bag_here", "_law_many"] (sp__law_stays K d) := by
  refine okf_of T.d__law_stays sc__law_stays (fun vs H Q E h => ?_) (fun cdv A outer s H vs Q E hr h => ?_)
  · obtain ⟨b, n, rfl, hB, hn, hn2, k⟩ := h
    rfl
  · obtain ⟨b, n, rfl, hB, hn, hn2, k⟩ := h
    refine ⟨_, (pss_cons (ps_if (pt_cmpR op_eq (pf_call (ok__law_take T) (hr.mono (by decide)) (by rfl) T.g__law_take T.d__law_take.kp (pa_cons (pv 0) (pa_cons pe_int pa_nil))) pe_int (nomark _)) (pss_one (ps_ret (pe_op op_rep (pe_lst (pa_cons (pe_op op_add pe_int (pf_call (ok__law_take T) (hr.mono (by decide)) (by rfl) T.g__law_take T.d__law_take.kp (pa_cons (pv 0) (pa_cons (pv 1) pa_nil)))) pa_nil)) (pv 1)))) pss_nil)
      (pss_cons (ps_set (i := 2) sc__law_stays.nd rfl (by first | exact Or.inl rfl | exact Or.inr rfl) (pe_op op_add pe_int (pf_call (ok__law_take T) (hr.mono (by decide)) (by rfl) T.g__law_take T.d__law_take.kp (pa_cons (pv 0) (pa_cons (pv 1) pa_nil)))))
      (pss_cons (ps_set (i := 3) sc__law_stays.nd rfl (by first | exact Or.inl rfl | exact Or.inr rfl) (pe_lc (own := [("_law_hour", 4)]) rfl sc__law_stays.nd (pi_range1 (by rfl) T.z_range (pa_cons (pv 1) pa_nil)) (blkOk_by (by kernel_rfl)) (fun _ _ _ _ _ => (pg_name (i := 4) sc__law_stays.nd rfl (by first | exact Or.inl rfl | exact Or.inr rfl))) (fun _ _ _ _ _ => pts_nil) (fun _ _ _ _ _ => (pe_op op_add pe_int (pf_call (ok__law_take T) (hr.mono (by decide)) (by rfl) T.g__law_take T.d__law_take.kp (pa_cons (pv 0) (pa_cons (pv 2) pa_nil)))))))
      (pss_one (ps_ret (pe_lc (own := [("_law_hour", 4)]) rfl sc__law_stays.nd (pi_range1 (by rfl) T.z_range (pa_cons (pv 1) pa_nil)) (blkOk_by (by kernel_rfl)) (fun _ _ _ _ _ => (pg_name (i := 4) sc__law_stays.nd rfl (by first | exact Or.inl rfl | exact Or.inr rfl))) (fun _ _ _ _ _ => pts_nil) (fun _ _ _ _ _ => (pe_callB (k_min (K := K) rfl rfl) (by rfl) T.z_min (by decide +kernel) (pa_cons (pe_lc (own := [("_law_ahead", 5)]) rfl sc__law_stays.nd (pi_range1 (by rfl) T.z_range (pa_cons (pv 1) pa_nil)) (blkOk_by (by kernel_rfl)) (fun _ _ _ _ _ => (pg_name (i := 5) sc__law_stays.nd rfl (by first | exact Or.inl rfl | exact Or.inr rfl))) (fun _ _ _ _ _ => pts_nil) (fun _ _ _ _ _ => (pe_op op_add (pe_ix (k_ixL (K := K) rfl) (pv 3) (pe_op op_mod (pe_callTy k_int1 (by rfl) T.z_int (by decide +kernel) (pa_cons (pe_op op_add (pv 4) (pv 5)) pa_nil)) (pv 1)) (fun _ _ => rfl)) (pv 5)))) pa_nil))))))))), ?_⟩
    walk_at "rd"
    refine ⟨b, _, rfl, hB, by omega, by omega, fun c0 _ _ => ?_⟩
    walk_at "rd"
    refine r_ite (fun _ => ?_) (fun _ => ?_)
    · walk_at "rd"
      refine ⟨b, _, rfl, hB, by omega, by omega, fun c c1 c2 => ?_⟩
      walk_at "rd"
      refine ⟨szc rfl, fun p np => ?_⟩
      walk_at "rd"
      refine ⟨p, _, _, rfl, rfl, upd_same, by omega, by omega, ?_, fun q nq => ?_⟩
      · rw [Int.toNat_natCast]
        show 1 * n ≤ sizeLine
        have : (48 : Nat) ≤ sizeLine := by decide
        omega
      · refine k (List.replicate n (1 + c)) List.length_replicate (Good.const hn hn2 (by omega) (by omega)) q _ ?_ ((Ex.new np).trans (Ex.new nq)) ?_
        · exact fresh_back (Ex.new np) nq
        · rw [upd_same, Int.toNat_natCast, flat_rep, List.map_replicate]
    · walk_at "rd"
      refine ⟨b, _, rfl, hB, by omega, by omega, fun c c1 c2 => ?_⟩
      walk_at "rd"
      refine lc_val walk_r0 (fun _ v => ∃ z : Int, 0 ≤ z ∧ z < 1 + c ∧ v = .int (1 + z)) (fun _ _ => trivial) (by omega) ?_ ?_
      · rintro i x H1 H2 hi e ⟨rfl, rfl⟩ kk hk
        walk_at "rd"
        refine ⟨b, _, rfl, hB.mono (.of e), by omega, by omega, fun z z1 z2 => ?_⟩
        walk_at "rd"
        exact hk _ _ (Ex.refl _) ⟨z, z1, z2, rfl⟩
      · intro D H1 ys nD e1 hD yl yv
        rw [Int.toNat_natCast] at yl
        obtain ⟨dr, hdr, rfl⟩ : ∃ dr : List Int, (∀ z ∈ dr, 1 ≤ z ∧ z ≤ 1 + c) ∧ ys = dr.map V.int := ints_of fun v hv => by
          obtain ⟨i, hi, rfl⟩ := List.mem_iff_getElem.mp hv
          obtain ⟨z, z0, z1, ez⟩ := yv i _ (List.getElem?_eq_getElem hi)
          exact ⟨1 + z, by omega, ez⟩
        rw [List.length_map] at yl
        have hcy : ∀ i, 1 ≤ cyc dr i ∧ cyc dr i ≤ 1 + c := fun i => hdr _ (cyc_mem (by omega) i)
        walk_at "rd"
        refine lc_val walk_r0 (fun i v => ∃ m : Int, v = .int m ∧ (∃ a : Nat, a < n ∧ m = cyc dr ((i : Int) + a) + a) ∧ ∀ a : Nat, a < n → m ≤ cyc dr ((i : Int) + a) + a) (fun _ _ => trivial) (by omega) ?_ ?_
        · rintro i x H2 H3 hi e ⟨rfl, rfl⟩ kk hk
          walk_at "rd"
          refine lc_fun walk_r0 (fun a => .int (cyc dr ((i : Int) + a) + a)) (fun _ _ => trivial) (by omega) ?_ ?_
          · rintro a x H4 H5 ha e' ⟨rfl, rfl⟩ kk' hk'
            walk_at "rd"
            have ea := at_cyc (ns := dr) (by omega) ((i : Int) + a)
            rw [yl] at ea
            refine r_ixL (.inl (.inl (e' _ _ (e _ _ hD)))) ea ?_
            walk_at "rd"
            exact hk' _ (Ex.refl _)
          · intro D2 H4 nD2 e4 hD2
            walk_at "rd"
            refine ⟨D2, (List.range n).map (fun a : Nat => cyc dr ((i : Int) + a) + a), rfl, .inl (.inl ?_), ?_, fun m hm hle => ?_⟩
            · rw [hD2, List.map_map, Int.toNat_natCast]
              rfl
            · rw [List.length_map, List.length_range]
              omega
            · refine hk _ _ e4 ⟨m, rfl, ?_, fun a ha => hle _ (List.mem_map.mpr ⟨a, List.mem_range.mpr ha, rfl⟩)⟩
              obtain ⟨a, ha, ea⟩ := List.mem_map.mp hm
              exact ⟨a, List.mem_range.mp ha, ea.symm⟩
        · intro D2 H2 zs nD2 e2 hD2 zl zv
          rw [Int.toNat_natCast] at zl
          obtain ⟨m, _, rfl⟩ : ∃ m : List Int, (∀ z ∈ m, True) ∧ zs = m.map V.int := ints_of fun v hv => by
            obtain ⟨i, hi, rfl⟩ := List.mem_iff_getElem.mp hv
            obtain ⟨z, ez, _⟩ := zv i _ (List.getElem?_eq_getElem hi)
            exact ⟨z, trivial, ez⟩
          rw [List.length_map] at zl
          refine k m zl (Good.least (dr := dr) (top := 1 + c) hn hn2 zl yl (by omega) hcy fun j hj => ?_) D2 H2 (fresh_back e1 nD2) (e1.trans e2) hD2
          obtain ⟨z, ez, h1, h2⟩ := zv j _ (by rw [List.getElem?_map, List.getElem?_eq_getElem (by omega)]; rfl)
          have ez' : m.getD j 0 = z := by
            rw [List.getD_eq_getElem?_getD, List.getElem?_eq_getElem (by omega)]
            exact V.int.inj ez
          rw [ez']
          exact ⟨h1, h2⟩

/-! ### is_integer -/
theorem sc_is_integer : FnScope ["thing"] ["thing"] (defScope s_is_integer) := ⟨rfl, rfl, rfl, by decide +kernel, rfl, by decide +kernel, by decide +kernel⟩

def sp_is_integer (K : PySem.W.Frag) (d : Ads) : Sp := fun vs H Q _ => ∃ i : Int, vs = [.int i] ∧ Q (.bl true) H
set_option maxHeartbeats 4000000 in
theorem ok_is_integer (T : Tx P K mg d) : Okf P w K mg base 1 d.f_is_integer ["thing"] (sp_is_integer K d) := by
  refine okf_of T.d_is_integer sc_is_integer (fun vs H Q E h => ?_) (fun cdv A outer s H vs Q E hr h => ?_)
  · obtain ⟨i, rfl, k⟩ := h
    rfl
  · obtain ⟨i, rfl, k⟩ := h
    refine ⟨_, (pss_one (ps_ret (pe_and (pe_callB (k_isi (K := K) rfl) (by rfl) T.z_isinstance (by decide +kernel) (pa_cons (pv 0) (pa_cons (pe_bty (n := "int") (by rfl) T.z_int (by decide +kernel)) pa_nil))) (pe_one (pe_not (pe_callB (k_isi (K := K) rfl) (by rfl) T.z_isinstance (by decide +kernel) (pa_cons (pv 0) (pa_cons (pe_bty (n := "bool") (by rfl) T.z_bool (by decide +kernel)) pa_nil)))))))), ?_⟩
    walk_at "rd"
    refine r_isiInt ?_
    walk_at "rd"
    refine iteT ?_
    walk_at "rd"
    refine r_isiIntB ?_
    walk_at "rd"
    exact k

/-! ### are_stays -/
theorem sc_are_stays : FnScope ["thing", "stay"] ["thing"] (defScope s_are_stays) := ⟨rfl, rfl, rfl, by decide +kernel, rfl, by decide +kernel, by decide +kernel⟩

def sp_are_stays (K : PySem.W.Frag) (d : Ads) : Sp := fun vs H Q _ => ∃ (a : Addr) (ns : List Int), vs = [.ref a] ∧ Sq K H a (ns.map V.int) ∧ ns.length ≤ 1000 ∧ ∀ H', Ex H H' → Q (.bl (okStays ns)) H'
set_option maxHeartbeats 4000000 in
theorem ok_are_stays (T : Tx P K mg d) : Okf P w K mg base 2 d.f_are_stays ["thing"] (sp_are_stays K d) := by
  refine okf_of T.d_are_stays sc_are_stays (fun vs H Q E h => ?_) (fun cdv A outer s H vs Q E hr h => ?_)
  · obtain ⟨a, ns, rfl, hS, hl, k⟩ := h
    rfl
  · obtain ⟨a, ns, rfl, hS, hl, k⟩ := h
    refine ⟨_, (pss_cons (ps_if (PW.pt (pw_or (pt_not (pt_val (pe_callB (k_isiT (K := K) rfl) (by rfl) T.z_isinstance (by decide +kernel) (pa_cons (pv 0) (pa_cons (pe_tup (pa_cons (pe_bty (n := "list") (by rfl) T.z_list (by decide +kernel)) (pa_cons (pe_bty (n := "tuple") (by rfl) T.z_tuple (by decide +kernel)) pa_nil))) pa_nil))))) (pw_or1 (pt_not (pt_chain op_le op_le pe_int (pe_callB (k_len (K := K) rfl) (by rfl) T.z_len (by decide +kernel) (pa_cons (pv 0) pa_nil)) (pe_gint (by rfl) T.k_MOST_HOURS)))))) (pss_one (ps_ret pe_bl)) pss_nil)
      (pss_one (ps_ret (pe_callB (k_all (K := K) rfl rfl) (by rfl) T.z_all (by decide +kernel) (pa_cons (pe_lc (own := [("stay", 1)]) rfl sc_are_stays.nd (k_piS (K := K) rfl (pv 0)) (blkOk_by (by kernel_rfl)) (fun _ _ _ _ _ => (pg_name (i := 1) sc_are_stays.nd rfl (by first | exact Or.inl rfl | exact Or.inr rfl))) (fun _ _ _ _ _ => pts_nil) (fun _ _ _ _ _ => (pe_and (pf_call (ok_is_integer T) (hr.mono (by decide)) (by rfl) T.g_is_integer T.d_is_integer.kp (pa_cons (pv 1) pa_nil)) (pe_one (pe_chain op_le op_le pe_int (pv 1) (pe_callB (k_len (K := K) rfl) (by rfl) T.z_len (by decide +kernel) (pa_cons (pv 0) pa_nil))))))) pa_nil))))), ?_⟩
    walk_at "rd"
    refine ⟨szc rfl, fun tp np => ?_⟩
    have e1 : Ex H (upd H tp (.tup [.ty "list", .ty "tuple"])) := Ex.new np
    walk_at "rd"
    refine r_isiSeq (hS.mono e1) upd_same ?_
    walk_at "rd"
    refine iteF ?_
    walk_at "rd"
    refine r_len (hS.mono e1) ?_
    walk_at "rd"
    rw [List.length_map]
    have fls : ¬ (1 ≤ ns.length ∧ ns.length ≤ 48) → Q (.bl false) (upd H tp (.tup [.ty "list", .ty "tuple"])) := fun h => by
      have z : okStays ns = false := by
        rw [Bool.eq_false_iff]
        intro z
        have := okStays_iff.mp z
        exact h ⟨this.1, this.2.1⟩
      have := k _ e1
      rw [z] at this
      exact this
    refine r_ite (fun h1 => ?_) (fun h1 => ?_)
    · walk_at "rd"
      refine r_itn (fun h2 => ?_) (fun h2 => ?_)
      · walk_at "rd"
        exact fls (by omega)
      · walk_at "rd"
        refine ⟨a, _, _, rfl, hS.mono e1, Ex.refl _, fun J ⟨G, wk, hG⟩ => lc_fun wk (fun i => .bl (decide (1 ≤ ns.getD i 0) && decide (ns.getD i 0 ≤ (ns.length : Int)))) hG (by rw [List.length_map]; omega) ?_ ?_⟩
        · rintro i x H1 H2 hi e ⟨rfl, hx⟩ kk hk
          obtain rfl := int_at hx
          walk_at "rd"
          refine ⟨_, rfl, ?_⟩
          walk_at "rd"
          refine iteT ?_
          walk_at "rd"
          cases h0 : decide (1 ≤ ns.getD i 0) with
          | true =>
            refine iteT ?_
            walk_at "rd"
            refine r_len (hS.mono (e1.trans e)) ?_
            walk_at "rd"
            rw [List.length_map]
            have := hk _ (Ex.refl _)
            rw [h0] at this
            exact this
          | false =>
            refine iteF ?_
            have := hk _ (Ex.refl _)
            rw [h0] at this
            exact this
        · intro D H' nD e hD
          walk_at "rd"
          rw [List.length_map, map_range_int ns (fun x => V.bl (decide (1 ≤ x) && decide (x ≤ (ns.length : Int))))] at hD
          refine r_all (bs := ns.map fun x => decide (1 ≤ x) && decide (x ≤ (ns.length : Int))) (.inl (.inl (by rw [List.map_map]; exact hD))) ?_
          have := k _ (e1.trans e)
          unfold okStays at this
          rw [decide_eq_true (by omega : 1 ≤ ns.length), decide_eq_true (by omega : ns.length ≤ 48)] at this
          rw [List.all_map]
          exact this
    · walk_at "rd"
      refine iteT ?_
      walk_at "rd"
      exact fls (by omega)

/-! ### need_order -/
theorem sc_need_order : FnScope ["stays", "hour", "stay"] ["stays"] (defScope s_need_order) := ⟨rfl, rfl, rfl, by decide +kernel, rfl, by decide +kernel, by decide +kernel⟩

def sp_need_order (K : PySem.W.Frag) (d : Ads) : Sp := fun vs H Q E => ∃ (a : Addr) (ns : List Int), vs = [.ref a] ∧ Sq K H a (ns.map V.int) ∧ 1 ≤ ns.length ∧ ns.length ≤ 48 ∧ ((∀ j, j < ns.length → ¬ over ns j) → ∀ H', Ex H H' → Q .non H') ∧
  (∀ h : Nat, h < ns.length → over ns h → (∀ j, j < h → ¬ over ns j) → ∀ H' dx, Ex H H' → H' dx = none → E (.ref d.c_Overtaken) (some dx) (upd H' dx (.xd [("hour", .int (h : Int))])))
set_option maxHeartbeats 4000000 in
theorem ok_need_order (T : Tx P K mg d) : Okf P w K mg base 2 d.f_need_order ["stays"] (sp_need_order K d) := by
  refine okx_of T.d_need_order sc_need_order (fun vs H Q E h => ?_) (fun cdv A outer s H vs Q E hr h => ?_)
  · obtain ⟨a, ns, rfl, hS, n1, n8, k, kE⟩ := h
    rfl
  · obtain ⟨a, ns, rfl, hS, n1, n8, k, kE⟩ := h
    refine ⟨_, (pss_one (ps_for (passes_of rfl) rfl (k_piE (K := K) rfl (by rfl) T.z_enumerate (pa_cons (pv 0) pa_nil)) (k_gtup (K := K) (n := 2) rfl rfl (pgs_cons (pg_name (i := 1) sc_need_order.nd rfl (by first | exact Or.inl rfl | exact Or.inr rfl)) (pgs_cons (pg_name (i := 2) sc_need_order.nd rfl (by first | exact Or.inl rfl | exact Or.inr rfl)) pgs_nil))) (pss_one (ps_if (pt_cmpR op_gt (pv 2) (pe_op op_add pe_int (pe_ix (k_ixS (K := K) rfl) (pv 0) (pe_op op_mod (pe_op op_add (pv 1) pe_int) (pe_callB (k_len (K := K) rfl) (by rfl) T.z_len (by decide +kernel) (pa_cons (pv 0) pa_nil))) (fun _ _ => rfl))) (nomark _)) (pss_one (ps_raiseE (k := 1) rfl T.er_Overtaken (hr.mono (by decide)) (takes_of rfl rfl rfl rfl) (pa_cons (pv 1) pa_nil) (by rfl))) pss_nil)))), ?_⟩
    walk_at "rd"
    refine ⟨a, ns.map V.int, _, rfl, hS, Ex.refl _, fun J ⟨G, wk, hG⟩ => for_w wk (fun i σ H' => ∃ y1 y2, σ = [some (.ref a), y1, y2] ∧ Ex H H' ∧ ∀ j, j < i → ¬ over ns j) ⟨none, none, rfl, Ex.refl H, fun j hj => absurd hj (Nat.not_lt_zero _)⟩ (fun i σ H' _ ⟨_, _, _, e, _⟩ => hG _ e) ?_ ?_⟩
    · rintro i x σ H1 H2 hi ⟨y1, y2, rfl, e, hno⟩ ⟨T', x1, x2, rfl, nT, rfl, hx1, hx2⟩
      cases hx1
      obtain rfl := int_at hx2
      rw [List.length_map] at hi
      refine r_pair ?_
      have e2 := e.trans (Ex.new nT (o := .tup [.int (i : Nat), .int (ns.getD i 0)]))
      walk_at "rd"
      refine r_len (hS.mono e2) ?_
      rw [List.length_map]
      walk_at "rd"
      refine r_ixS (hS.mono e2) (at_cyc n1 _) ?_
      walk_at "rd"
      refine r_ite (fun hc => ?_) (fun hc => ?_)
      · walk_at "rd"
        exact ⟨_, rfl, fun dx ndx => kE i hi hc hno _ dx e2 ndx⟩
      · walk_at "rd"
        refine ⟨_, _, rfl, e2, fun j hj => ?_⟩
        rcases Nat.lt_succ_iff_lt_or_eq.mp hj with q | rfl
        · exact hno j q
        · exact hc
    · rintro σ H' ⟨y1, y2, rfl, e, hno⟩
      rw [List.length_map] at hno
      exact k hno _ e

/-! ### width_of -/
theorem sc_width_of : FnScope ["stays", "hour", "back"] ["stays", "hour"] (defScope s_width_of) := ⟨rfl, rfl, rfl, by decide +kernel, rfl, by decide +kernel, by decide +kernel⟩

def sp_width_of (K : PySem.W.Frag) (d : Ads) : Sp := fun vs H Q _ => ∃ (a : Addr) (ns : List Int) (h : Int), vs = [.ref a, .int h] ∧ Sq K H a (ns.map V.int) ∧ 1 ≤ ns.length ∧ ns.length ≤ 48 ∧ ∀ H', Ex H H' → Q (.int (wd ns h)) H'
set_option maxHeartbeats 4000000 in
theorem ok_width_of (T : Tx P K mg d) : Okf P w K mg base 1 d.f_width_of ["stays", "hour"] (sp_width_of K d) := by
  refine okf_of T.d_width_of sc_width_of (fun vs H Q E h => ?_) (fun cdv A outer s H vs Q E hr h => ?_)
  · obtain ⟨a, ns, h, rfl, hS, h1, h2, k⟩ := h
    rfl
  · obtain ⟨a, ns, h, rfl, hS, h1, h2, k⟩ := h
    refine ⟨_, (pss_one (ps_ret (pe_callB (k_len (K := K) rfl) (by rfl) T.z_len (by decide +kernel) (pa_cons (pe_lc (own := [("back", 2)]) rfl sc_width_of.nd (pi_range1 (by rfl) T.z_range (pa_cons (pe_callB (k_len (K := K) rfl) (by rfl) T.z_len (by decide +kernel) (pa_cons (pv 0) pa_nil)) pa_nil)) (blkOk_by (by kernel_rfl)) (fun _ _ _ _ _ => (pg_name (i := 2) sc_width_of.nd rfl (by first | exact Or.inl rfl | exact Or.inr rfl))) (fun _ _ _ _ _ => (pts_one (pt_cmpR op_gt (pe_ix (k_ixS (K := K) rfl) (pv 0) (pe_op op_mod (pe_op op_sub (pv 1) (pv 2)) (pe_callB (k_len (K := K) rfl) (by rfl) T.z_len (by decide +kernel) (pa_cons (pv 0) pa_nil))) (fun _ _ => rfl)) (pv 2) (nomark _)))) (fun _ _ _ _ _ => (pv 2))) pa_nil)))), ?_⟩
    walk_at "rd"
    refine r_len hS ?_
    rw [List.length_map]
    walk_at "rd"
    refine lc_filf walk_r0 (fun b => decide ((b : Int) < cyc ns (h - (b : Int)))) (fun b => .int (b : Int)) (fun _ _ => trivial) (by omega) ?_ ?_
    · rintro i x H1 H2 hi e ⟨rfl, rfl⟩ kb kk hk1 hk2
      walk_at "rd"
      refine r_len (hS.mono e) ?_
      rw [List.length_map]
      walk_at "rd"
      refine r_ixS (hS.mono e) (at_cyc h1 _) ?_
      walk_at "rd"
      refine r_ite (fun hc => ?_) (fun hc => ?_)
      · walk_at "rd"
        exact hk1 _ (decide_eq_true hc) (Ex.refl _)
      · exact hk2 _ (decide_eq_false hc) (Ex.refl _)
    · intro D H' nD e hD
      walk_at "rd"
      refine r_len (.inl (.inl (.inl hD))) ?_
      rw [List.length_map, Int.toNat_natCast]
      exact k _ e

/-! ### Clock.__init__ -/
theorem sc_Clock___init__ : FnScope ["self", "stays", "hour"] ["self", "stays"] (defScope s_Clock___init__) := ⟨rfl, rfl, rfl, by decide +kernel, rfl, by decide +kernel, by decide +kernel⟩

def spClkX (K : PySem.W.Frag) (C O : Addr) : Sp := fun vs H Q E => ∃ (H0 : Hp) (x dx a : Addr) (s : List Int), vs = [.ref x, .ref a] ∧ H = upd (upd H0 dx (.own x)) x (.ins C dx []) ∧ H0 x = none ∧ H0 dx = none ∧ dx ≠ x ∧ Sq K H0 a (s.map V.int) ∧ okStays s = true ∧
  (Good s → ∀ H', Ex H0 H' → Clk K C H' (.ref x) s → Q .non H') ∧ (∀ h : Nat, h < s.length → over s h → (∀ j, j < h → ¬ over s j) → ∀ H' dd, Ex H0 H' → H' dd = none → E (.ref O) (some dd) (upd H' dd (.xd [("hour", .int (h : Int))])))
theorem mkClkX {K : PySem.W.Frag} {C O : Addr} {H : Hp} {a : Addr} {s : List Int} {Q : Addr → Hp → Prop} {E : XK} (hS : Sq K H a (s.map V.int)) (ok : okStays s = true) (k : Good s → ∀ u H', Ex H H' → Clk K C H' (.ref u) s → Q u H')
    (kE : ∀ h : Nat, h < s.length → over s h → (∀ j, j < h → ¬ over s j) → ∀ H' dd, Ex H H' → H' dd = none → E (.ref O) (some dd) (upd H' dd (.xd [("hour", .int (h : Int))]))) :
    ∀ x dx, H x = none → H dx = none → dx ≠ x → spClkX K C O (.ref x :: ([.ref a] ++ [])) (upd (upd H dx (.own x)) x (.ins C dx [])) (fun v H2 => v = .non ∧ Q x H2) E :=
  fun x dx nx ndx ne => ⟨H, x, dx, a, s, rfl, rfl, nx, ndx, ne, hS, ok, fun g H' e c => ⟨rfl, k g x H' e c⟩, kE⟩
theorem mkClk {K : PySem.W.Frag} {C O : Addr} {H : Hp} {v : V} {Q : Addr → Hp → Prop} {E : XK} (h : MkClk K C H v Q) : ∀ x dx, H x = none → H dx = none → dx ≠ x → spClkX K C O (.ref x :: ([v] ++ [])) (upd (upd H dx (.own x)) x (.ins C dx [])) (fun v H2 => v = .non ∧ Q x H2) E := by
  obtain ⟨a, s, rfl, hS, g, k⟩ := h
  exact mkClkX hS g.ok (fun _ => k) fun h hh ho => absurd ho (good_not g h hh)
def sp_Clock___init__ (K : PySem.W.Frag) (d : Ads) : Sp := spClkX K d.c_Clock d.c_Overtaken
set_option maxHeartbeats 4000000 in
theorem ok_Clock___init__ (T : Tx P K mg d) : Okf P w K mg base 3 d.f_Clock___init__ ["self", "stays"] (sp_Clock___init__ K d) := by
  refine okx_of T.d_Clock___init__ sc_Clock___init__ (fun vs H Q E h => ?_) (fun cdv A outer s H vs Q E hr h => ?_)
  · obtain ⟨H0, x, dx, a, s, rfl, rfl, nx, ndx, ne, hS, ok, k, kE⟩ := h
    rfl
  · obtain ⟨H0, x, dx, a, s, rfl, rfl, nx, ndx, ne, hS, ok, k, kE⟩ := h
    refine ⟨_, (pss_cons (ps_if (pt_not (pt_val (pf_call (ok_are_stays T) (hr.mono (by decide)) (by rfl) T.g_are_stays T.d_are_stays.kp (pa_cons (pv 1) pa_nil)))) (pss_one (ps_raiseE (k := 1) rfl T.er_Wrong (hr.mono (by decide)) (takes_of rfl rfl rfl rfl) (pa_cons pe_int pa_nil) (by rfl))) pss_nil)
      (pss_cons (ps_expr (pf_callE (ok_need_order T) (hr.mono (by decide)) (by rfl) T.g_need_order T.d_need_order.kp (passes_call (takes_of rfl rfl rfl rfl) (fun _ _ _ _ h => h)) (pa_cons (pv 1) pa_nil)))
      (pss_cons (k_sfld (K := K) rfl (pv 0) (pe_callTy (k_tupOf (K := K) rfl) (by rfl) T.z_tuple (by decide +kernel) (pa_cons (pv 1) pa_nil)))
      (pss_one (k_sfld (K := K) rfl (pv 0) (pe_callTy (k_tupOf (K := K) rfl) (by rfl) T.z_tuple (by decide +kernel) (pa_cons (pe_lc (own := [("hour", 2)]) rfl sc_Clock___init__.nd (pi_range1 (by rfl) T.z_range (pa_cons (pe_callB (k_len (K := K) rfl) (by rfl) T.z_len (by decide +kernel) (pa_cons (pv 1) pa_nil)) pa_nil)) (blkOk_by (by kernel_rfl)) (fun _ _ _ _ _ => (pg_name (i := 2) sc_Clock___init__.nd rfl (by first | exact Or.inl rfl | exact Or.inr rfl))) (fun _ _ _ _ _ => pts_nil) (fun _ _ _ _ _ => (pf_call (ok_width_of T) (hr.mono (by decide)) (by rfl) T.g_width_of T.d_width_of.kp (pa_cons (pv 1) (pa_cons (pv 2) pa_nil))))) pa_nil))))))), ?_⟩
    have e0 : Ex H0 (upd (upd H0 dx (.own x)) x (.ins d.c_Clock dx [])) := Ex.mut (Ex.new ndx) nx
    have hok := okStays_iff.mp ok
    have hn := hok.1
    have hl := hok.2.1
    walk_at "rd"
    refine ⟨a, s, rfl, hS.mono e0, by omega, fun H1 e1 => ?_⟩
    rw [ok]
    walk_at "rd"
    refine iteF ?_
    walk_at "rd"
    refine ⟨a, s, rfl, hS.mono (e0.trans e1), hn, hl, fun hno H2 e2 => ?_, fun h hh ho hf H' dd e nd => kE h hh ho hf H' dd ((e0.trans e1).trans e) nd⟩
    have g := good_of ok hno
    replace k := k g
    have x2 : H2 x = some (.ins d.c_Clock dx []) := e2 _ _ (e1 _ _ upd_same)
    have e02 : Ex H0 H2 := (e0.trans e1).trans e2
    walk_at "rd"
    refine r_tupOf (hS.mono e02) fun p H3 e3 hp => ?_
    walk_at "rd"
    refine ⟨x, _, dx, _, rfl, e3 _ _ x2, T.cl_Clock, T.n_Clock_kept_stays, by show 0 < 1000; decide, ?_⟩
    have e04 : Ex H0 (upd H3 x (.ins d.c_Clock dx (putF "kept_stays" (.ref p) []))) := Ex.mut (e02.trans e3) nx
    have hp4 : SqT K (upd H3 x (.ins d.c_Clock dx (putF "kept_stays" (.ref p) []))) p (s.map V.int) := tup_ins (e3 _ _ x2) hp
    walk_at "rd"
    refine r_len (hS.mono e04) ?_
    rw [List.length_map]
    walk_at "rd"
    refine lc_fun walk_r0 (fun i => .int (wd s (i : Int))) (fun _ _ => trivial) (by omega) ?_ ?_
    · rintro i y H5 H6 hi e ⟨rfl, rfl⟩ kk hk
      walk_at "rd"
      refine ⟨a, s, _, rfl, hS.mono (e04.trans e), hn, hl, fun H7 e7 => ?_⟩
      exact hk _ e7
    · intro D H5 nD e5 hD
      have x5 : H5 x = some (.ins d.c_Clock dx (putF "kept_stays" (.ref p) [])) := e5 _ _ upd_same
      walk_at "rd"
      refine r_tupOf (.inl (.inl (.inl hD))) fun q H6 e6 hq => ?_
      walk_at "rd"
      refine ⟨x, _, dx, _, rfl, e6 _ _ x5, T.cl_Clock, T.n_Clock_kept_widths, by show 1 < 1000; decide, ?_⟩
      refine k _ (Ex.mut ((e04.trans e5).trans e6) nx) ⟨x, dx, p, q, rfl, upd_same, tup_ins (e6 _ _ x5) (ex_t (e5.trans e6) hp4), tup_ins (e6 _ _ x5) ?_, g⟩
      unfold wds
      rw [List.map_map]
      rw [Int.toNat_natCast] at hq
      exact hq

/-! ### _law_clock -/
theorem sc__law_clock : FnScope ["_law_bag_here", "_law_stays_here", "_law_row", "_law_clock_here"] ["_law_bag_here", "_law_stays_here"] (defScope s__law_clock) := ⟨rfl, rfl, rfl, by decide +kernel, rfl, by decide +kernel, by decide +kernel⟩

def sp__law_clock (K : PySem.W.Frag) (d : Ads) : Sp := fun vs H Q _ => ∃ (b a : Addr) (s : List Int), vs = [.ref b, .ref a] ∧ Bag H b ∧ Sq K H a (s.map V.int) ∧ Good s ∧ ∀ u H', Ex H H' → Clk K d.c_Clock H' u s → Q u H'
set_option maxHeartbeats 4000000 in
theorem ok__law_clock (T : Tx P K mg d) : Okf P w K mg base 5 d.f__law_clock ["_law_bag_here", "_law_stays_here"] (sp__law_clock K d) := by
  refine okf_of T.d__law_clock sc__law_clock (fun vs H Q E h => ?_) (fun cdv A outer s H vs Q E hr h => ?_)
  · obtain ⟨b, a, s, rfl, hB, hS, g, k⟩ := h
    rfl
  · obtain ⟨b, a, s, rfl, hB, hS, g, k⟩ := h
    refine ⟨_, (pss_cons (ps_if (pt_cmpR op_eq (pf_call (ok__law_take T) (hr.mono (by decide)) (by rfl) T.g__law_take T.d__law_take.kp (pa_cons (pv 0) (pa_cons pe_int pa_nil))) pe_int (nomark _)) (pss_one (ps_ret (pf_make (ok_Clock___init__ T) (hr.mono (by decide)) T.mk_Clock (by rfl) T.g_Clock (pa_cons (pe_callTy (k_tupOf (K := K) rfl) (by rfl) T.z_tuple (by decide +kernel) (pa_cons (pv 1) pa_nil)) pa_nil)))) pss_nil)
      (pss_cons (ps_set (i := 2) sc__law_clock.nd rfl (by first | exact Or.inl rfl | exact Or.inr rfl) (pe_callTy (k_listOf (K := K) rfl) (by rfl) T.z_list (by decide +kernel) (pa_cons (pv 1) pa_nil)))
      (pss_cons (ps_set (i := 3) sc__law_clock.nd rfl (by first | exact Or.inl rfl | exact Or.inr rfl) (pf_make (ok_Clock___init__ T) (hr.mono (by decide)) T.mk_Clock (by rfl) T.g_Clock (pa_cons (pv 2) pa_nil)))
      (pss_cons (ps_asg pe_int (pg_sub (pv 2) pe_int set_list))
      (pss_cons (ps_expr (pe_bm PySem.F.plainAttrs_list PySem.F.slot_list_append PySem.F.type_list_append mt_append (pv 2) (pa_cons pe_int pa_nil)))
      (pss_one (ps_ret (pv 3)))))))), ?_⟩
    have hne := g.ne
    have hle := g.le
    walk_at "rd"
    refine ⟨b, _, rfl, hB, by omega, by omega, fun c0 _ _ => ?_⟩
    walk_at "rd"
    refine r_ite (fun _ => ?_) (fun _ => ?_)
    · walk_at "rd"
      refine r_tupOf hS fun p H1 e1 hp => ?_
      walk_at "rd"
      exact mkClk ⟨p, s, rfl, .inr hp, g, fun u H2 e2 c => k _ H2 (e1.trans e2) c⟩
    · walk_at "rd"
      refine r_listOf hS fun l nl => ?_
      walk_at "rd"
      refine mkClk ⟨l, s, rfl, .inl (.inl (.inl upd_same)), g, fun u H2 e2 c => ?_⟩
      have hl := e2 _ _ (upd_same (H := H) (a := l) (o := .lst (s.map V.int)))
      have e02 := (Ex.new nl).trans e2
      walk_at "rd"
      have hix : ixN (s.map V.int).length (0 : Int) = some 0 := by
        rw [List.length_map]
        exact Hn.ixN_nat hne
      refine r_setL hl hix ?_
      walk_at "rd"
      refine ⟨ty_lst upd_same, ?_⟩
      walk_at "rd"
      refine ⟨l, _, _, rfl, rfl, upd_same, sz_lt (by rw [List.length_set, List.length_map]; omega), ?_⟩
      walk_at "rd"
      refine k _ _ (Ex.mut (Ex.mut e02 nl) nl) ((c.mono (Xl.set hl)).mono (Xl.set upd_same))

/-! ### is_hour -/
theorem sc_is_hour : FnScope ["hours", "thing"] ["hours", "thing"] (defScope s_is_hour) := ⟨rfl, rfl, rfl, by decide +kernel, rfl, by decide +kernel, by decide +kernel⟩

def sp_is_hour (K : PySem.W.Frag) (d : Ads) : Sp := fun vs H Q _ => ∃ n i : Int, vs = [.int n, .int i] ∧ Q (.bl (decide (0 ≤ i) && decide (i < n))) H
set_option maxHeartbeats 4000000 in
theorem ok_is_hour (T : Tx P K mg d) : Okf P w K mg base 2 d.f_is_hour ["hours", "thing"] (sp_is_hour K d) := by
  refine okf_of T.d_is_hour sc_is_hour (fun vs H Q E h => ?_) (fun cdv A outer s H vs Q E hr h => ?_)
  · obtain ⟨n, i, rfl, k⟩ := h
    rfl
  · obtain ⟨n, i, rfl, k⟩ := h
    refine ⟨_, (pss_one (ps_ret (pe_and (pf_call (ok_is_integer T) (hr.mono (by decide)) (by rfl) T.g_is_integer T.d_is_integer.kp (pa_cons (pv 1) pa_nil)) (pe_one (pe_chain op_le op_lt pe_int (pv 1) (pv 0)))))), ?_⟩
    walk_at "rd"
    refine ⟨i, rfl, ?_⟩
    walk_at "rd"
    refine iteT ?_
    walk_at "rd"
    cases h0 : decide (0 ≤ i) with
    | true =>
      refine iteT ?_
      walk_at "rd"
      rw [h0] at k
      exact k
    | false =>
      refine iteF ?_
      rw [h0] at k
      exact k

/-! ### Clock.__getitem__ -/
theorem sc_Clock___getitem__ : FnScope ["self", "hour"] ["self", "hour"] (defScope s_Clock___getitem__) := ⟨rfl, rfl, rfl, by decide +kernel, rfl, by decide +kernel, by decide +kernel⟩

def sp_Clock___getitem__ (K : PySem.W.Frag) (d : Ads) : Sp := fun vs H Q _ => ∃ (v : V) (s : List Int) (h : Int), vs = [v, .int h] ∧ Clk K d.c_Clock H v s ∧ 0 ≤ h ∧ h < (s.length : Int) ∧ Q (.int (cyc s h)) H
set_option maxHeartbeats 4000000 in
theorem ok_Clock___getitem__ (T : Tx P K mg d) : Okf P w K mg base 3 d.f_Clock___getitem__ ["self", "hour"] (sp_Clock___getitem__ K d) := by
  refine okf_of T.d_Clock___getitem__ sc_Clock___getitem__ (fun vs H Q E h => ?_) (fun cdv A outer s H vs Q E hr h => ?_)
  · obtain ⟨v, s, h, rfl, ⟨p, dx, a, b, rfl, hp, ha, hb, g⟩, h0, h1, k⟩ := h
    rfl
  · obtain ⟨v, s, h, rfl, ⟨p, dx, a, b, rfl, hp, ha, hb, g⟩, h0, h1, k⟩ := h
    refine ⟨_, (pss_cons (ps_if (pt_not (pt_val (pf_call (ok_is_hour T) (hr.mono (by decide)) (by rfl) T.g_is_hour T.d_is_hour.kp (pa_cons (pe_callB (k_len (K := K) rfl) (by rfl) T.z_len (by decide +kernel) (pa_cons (k_fld (K := K) rfl (pv 0)) pa_nil)) (pa_cons (pv 1) pa_nil))))) (pss_one ps_never) pss_nil)
      (pss_one (ps_ret (pe_ix (k_ixT (K := K) rfl) (k_fld (K := K) rfl (pv 0)) (pv 1) (fun _ _ => rfl))))), ?_⟩
    walk_at "rd"
    refine ⟨p, _, dx, _, _, rfl, hp, T.cl_Clock, T.n_Clock_kept_stays, clkF_stays _ _, ?_⟩
    walk_at "rd"
    refine r_len (.inr ha) ?_
    rw [List.length_map]
    walk_at "rd"
    refine ⟨_, _, rfl, ?_⟩
    rw [decide_eq_true h0, decide_eq_true h1]
    walk_at "rd"
    refine iteF ?_
    walk_at "rd"
    refine ⟨p, _, dx, _, _, rfl, hp, T.cl_Clock, T.n_Clock_kept_stays, clkF_stays _ _, ?_⟩
    walk_at "rd"
    refine r_ixT ha ?_ k
    have := at_cyc g.ne h
    rw [Int.emod_eq_of_lt h0 h1] at this
    exact this

/-! ### Clock.hours -/
theorem sc_Clock_hours : FnScope ["self"] ["self"] (defScope s_Clock_hours) := ⟨rfl, rfl, rfl, by decide +kernel, rfl, by decide +kernel, by decide +kernel⟩

def sp_Clock_hours (K : PySem.W.Frag) (d : Ads) : Sp := fun vs H Q _ => ∃ (v : V) (s : List Int), vs = [v] ∧ Clk K d.c_Clock H v s ∧ Q (.int (s.length : Int)) H
set_option maxHeartbeats 4000000 in
theorem ok_Clock_hours (T : Tx P K mg d) : Okf P w K mg base 1 d.f_Clock_hours ["self"] (sp_Clock_hours K d) := by
  refine okf_of T.d_Clock_hours sc_Clock_hours (fun vs H Q E h => ?_) (fun cdv A outer s H vs Q E hr h => ?_)
  · obtain ⟨v, s, rfl, ⟨p, dx, a, b, rfl, hp, ha, hb, g⟩, k⟩ := h
    rfl
  · obtain ⟨v, s, rfl, ⟨p, dx, a, b, rfl, hp, ha, hb, g⟩, k⟩ := h
    refine ⟨_, (pss_one (ps_ret (pe_callB (k_len (K := K) rfl) (by rfl) T.z_len (by decide +kernel) (pa_cons (k_fld (K := K) rfl (pv 0)) pa_nil)))), ?_⟩
    walk_at "rd"
    refine ⟨p, _, dx, _, _, rfl, hp, T.cl_Clock, T.n_Clock_kept_stays, clkF_stays _ _, ?_⟩
    walk_at "rd"
    refine r_len (.inr ha) ?_
    rw [List.length_map]
    exact k

/-! ### Clock.with_stay -/
theorem sc_Clock_with_stay : FnScope ["self", "hour", "stay", "at", "own"] ["self", "hour", "stay"] (defScope s_Clock_with_stay) := ⟨rfl, rfl, rfl, by decide +kernel, rfl, by decide +kernel, by decide +kernel⟩

def sp_Clock_with_stay (K : PySem.W.Frag) (d : Ads) : Sp := fun vs H Q E => ∃ (v : V) (s : List Int) (h : Nat) (c : Int), vs = [v, .int (h : Int), .int c] ∧ Clk K d.c_Clock H v s ∧ h < s.length ∧ 1 ≤ c ∧ c ≤ (s.length : Int) ∧ (Good (setS s h c) → ∀ u H', Ex H H' → Clk K d.c_Clock H' u (setS s h c) → Q u H') ∧
  (∀ j : Nat, j < s.length → over (setS s h c) j → (∀ i, i < j → ¬ over (setS s h c) i) → ∀ H' dd, Ex H H' → H' dd = none → E (.ref d.c_Overtaken) (some dd) (upd H' dd (.xd [("hour", .int (j : Int))])))
set_option maxHeartbeats 4000000 in
theorem ok_Clock_with_stay (T : Tx P K mg d) : Okf P w K mg base 5 d.f_Clock_with_stay ["self", "hour", "stay"] (sp_Clock_with_stay K d) := by
  refine okx_of T.d_Clock_with_stay sc_Clock_with_stay (fun vs H Q E h => ?_) (fun cdv A outer s H vs Q E hr h => ?_)
  · obtain ⟨v, s, h, c, rfl, hC, hh, c1, c2, k, kE⟩ := h
    rfl
  · obtain ⟨v, s, h, c, rfl, hC, hh, c1, c2, k, kE⟩ := h
    refine ⟨_, (pss_cons (ps_if (pt_not (pt_val (pf_call (ok_is_hour T) (hr.mono (by decide)) (by rfl) T.g_is_hour T.d_is_hour.kp (pa_cons (pf_prop (ok_Clock_hours T) (hr.mono (by decide)) T.cl_Clock T.p_Clock_hours (pv 0)) (pa_cons (pv 1) pa_nil))))) (pss_one (ps_raiseE (k := 1) rfl T.er_NoHour (hr.mono (by decide)) (takes_of rfl rfl rfl rfl) (pa_cons (pv 1) pa_nil) (by rfl))) pss_nil)
      (pss_cons (ps_if (PW.pt (pw_or (pt_not (pt_val (pf_call (ok_is_integer T) (hr.mono (by decide)) (by rfl) T.g_is_integer T.d_is_integer.kp (pa_cons (pv 2) pa_nil)))) (pw_or1 (pt_not (pt_chain op_le op_le pe_int (pv 2) (pf_prop (ok_Clock_hours T) (hr.mono (by decide)) T.cl_Clock T.p_Clock_hours (pv 0))))))) (pss_one (ps_raiseE (k := 1) rfl T.er_Wrong (hr.mono (by decide)) (takes_of rfl rfl rfl rfl) (pa_cons pe_int pa_nil) (by rfl))) pss_nil)
      (pss_one (ps_ret (pf_makeE (ok_Clock___init__ T) (hr.mono (by decide)) T.mk_Clock (by rfl) T.g_Clock (passes_call (takes_of rfl rfl rfl rfl) (fun _ _ _ _ h => h)) (pa_cons (pe_lc (own := [("at", 3), ("own", 4)]) rfl sc_Clock_with_stay.nd (k_piE (K := K) rfl (by rfl) T.z_enumerate (pa_cons (k_fld (K := K) rfl (pv 0)) pa_nil)) (blkOk_by (by kernel_rfl)) (fun _ _ _ _ _ => (k_gtup (K := K) (n := 2) rfl rfl (pgs_cons (pg_name (i := 3) sc_Clock_with_stay.nd rfl (by first | exact Or.inl rfl | exact Or.inr rfl)) (pgs_cons (pg_name (i := 4) sc_Clock_with_stay.nd rfl (by first | exact Or.inl rfl | exact Or.inr rfl)) pgs_nil)))) (fun _ _ _ _ _ => pts_nil) (fun _ _ _ _ _ => (pe_ifExp (pt_cmpR op_eq (pv 3) (pv 1) (nomark _)) (pv 2) (pv 4)))) pa_nil)))))), ?_⟩
    have g := hC.good
    have hn := g.ne
    have hle := g.le
    obtain ⟨cq, dcq, acq, bcq, rfl, hcq, hst, hwt, _⟩ := id hC
    walk_at "rd"
    refine r_clkP hC fun _ eq => ?_
    cases eq
    refine ⟨_, _, rfl, hC, ?_⟩
    walk_at "rd"
    refine ⟨_, _, rfl, ?_⟩
    rw [decide_eq_true (by omega : 0 ≤ (h : Int)), decide_eq_true (by omega : (h : Int) < (s.length : Int))]
    walk_at "rd"
    refine iteF ?_
    walk_at "rd"
    refine ⟨_, rfl, ?_⟩
    walk_at "rd"
    refine iteF ?_
    walk_at "rd"
    refine r_yesD c1 ?_
    walk_at "rd"
    refine r_clkP hC fun _ eq => ?_
    cases eq
    refine ⟨_, _, rfl, hC, ?_⟩
    walk_at "rd"
    refine r_same c2 ?_
    walk_at "rd"
    refine ⟨cq, _, dcq, _, _, rfl, hcq, T.cl_Clock, T.n_Clock_kept_stays, clkF_stays _ _, ?_⟩
    walk_at "rd"
    refine ⟨acq, s.map V.int, _, rfl, .inr hst, Ex.refl _, fun J ⟨G, wk, hG⟩ => lc_fun wk (fun i => .int (if (i : Int) = (h : Int) then c else cyc s (i : Int))) hG (by rw [List.length_map]; omega) ?_ ?_⟩
    · rintro i x H1 H2 hi e ⟨T', x1, x2, rfl, nT, rfl, hx1, hx2⟩ kk hk
      cases hx1
      obtain rfl := int_at hx2
      rw [List.length_map] at hi
      rw [← cyc_at hi]
      refine r_pair ?_
      walk_at "rd"
      refine r_ite (fun q => ?_) fun q => ?_
      · walk_at "rd"
        rw [if_pos q] at hk
        exact hk _ (Ex.new nT)
      · walk_at "rd"
        rw [if_neg q] at hk
        exact hk _ (Ex.new nT)
    intro p H1 np e1 hp
    have hp' : H1 p = some (.lst ((setS s h c).map V.int)) := by
      rw [hp, List.length_map]
      unfold setS
      rw [row_lit]
    walk_at "rd"
    refine mkClkX (s := setS s h c) (by walk_at "kn") (ok_setS g c1 c2) (fun gg u H' e hu => k gg _ H' (by walk_at "ex") hu) fun j hj ho hf H' dd e nd => kE j ?_ ho hf H' dd (by walk_at "ex") nd
    unfold setS at hj
    rw [rowOf_length] at hj
    exact hj

/-! ### _law_stepped -/
theorem sc__law_stepped : FnScope ["_law_clock_here", "_law_hour", "_law_stay", "e"] ["_law_clock_here", "_law_hour", "_law_stay"] (defScope s__law_stepped) := ⟨rfl, rfl, rfl, by decide +kernel, rfl, by decide +kernel, by decide +kernel⟩

def sp__law_stepped (K : PySem.W.Frag) (d : Ads) : Sp := fun vs H Q _ => ∃ (v : V) (s : List Int) (h : Nat) (c : Int), vs = [v, .int (h : Int), .int c] ∧ Clk K d.c_Clock H v s ∧ h < s.length ∧ 1 ≤ c ∧ c ≤ (s.length : Int) ∧ (Good (setS s h c) → ∀ u H', Ex H H' → Clk K d.c_Clock H' u (setS s h c) → Q u H') ∧ (¬ Good (setS s h c) → ∀ H', Ex H H' → Q .non H')
set_option maxHeartbeats 4000000 in
theorem ok__law_stepped (T : Tx P K mg d) : Okf P w K mg base 6 d.f__law_stepped ["_law_clock_here", "_law_hour", "_law_stay"] (sp__law_stepped K d) := by
  refine okf_of T.d__law_stepped sc__law_stepped (fun vs H Q E h => ?_) (fun cdv A outer s H vs Q E hr h => ?_)
  · obtain ⟨v, s, h, c, rfl, hC, hh, c1, c2, k, kN⟩ := h
    rfl
  · obtain ⟨v, s, h, c, rfl, hC, hh, c1, c2, k, kN⟩ := h
    refine ⟨_, (pss_one (ps_try_as (i := 3) rfl rfl sc__law_stepped.nd rfl rfl ⟨rfl, by decide, .inl T.g_NeedError⟩ takes0 (fun W pn xe tk _ => (pss_one (ps_ret (pf_methS (ok_Clock_with_stay T) (hr.mono (by decide) : Room 5 _) T.cl_Clock T.m_Clock_with_stay (fun σ => passAt tk σ) (pv 0) (pa_cons (pv 1) (pa_cons (pv 2) pa_nil)))))) (fun ea oe ecls ed pn hz hf => (pss_one (ps_ret (pe_ifExp (pt_val (pe_callB (call_isX hz hf) (by rfl) T.z_isinstance (by decide +kernel) (pa_cons (pv 3) (pa_cons (pe_glob (v := .ref d.c_Overtaken) (by rfl) T.g_Overtaken rfl) pa_nil)))) pe_non pe_no)))))), ?_⟩
    refine r_ret ?_
    walk_at "rd"
    refine r_clkMP hC fun cq eq => ?_
    subst eq
    walk_at "rd"
    refine ⟨_, s, h, c, rfl, hC, hh, c1, c2, k, fun j hj ho hf H' dd e nd => ?_⟩
    refine ⟨true, T.xm_Overtaken, fun _ ea nea => ?_, fun q => nomatch q⟩
    walk_at "rd"
    refine ⟨_, _, _, true, rfl, rfl, T.xc_Overtaken, .inr ⟨_, _, rfl, upd_same⟩, fun u r => r, T.ix_Overtaken_Overtaken, ?_⟩
    walk_at "rd"
    refine iteT ?_
    walk_at "rd"
    exact kN (fun g => good_not g j (by unfold setS; rw [rowOf_length]; exact hj) ho) _ (by walk_at "ex")

/-! ### _law_led_to -/
theorem sc__law_led_to : FnScope ["_law_clock_here", "_law_aims", "_law_many", "_law_turn", "_law_grown", "_law_hour", "_law_stay", "_law_later"] ["_law_clock_here", "_law_aims"] (defScope s__law_led_to) := ⟨rfl, rfl, rfl, by decide +kernel, rfl, by decide +kernel, by decide +kernel⟩

def sp__law_led_to (K : PySem.W.Frag) (d : Ads) : Sp := fun vs H Q _ => ∃ (v : V) (l : Addr) (s t : List Int), vs = [v, .ref l] ∧ Clk K d.c_Clock H v s ∧ SqL K H l (t.map V.int) ∧ Good t ∧ t.length = s.length ∧ Dir s t ∧ ∀ u H', Ex H H' → Clk K d.c_Clock H' u t → Q u H'
set_option maxHeartbeats 4000000 in
theorem ok__law_led_to (T : Tx P K mg d) : Okf P w K mg base 7 d.f__law_led_to ["_law_clock_here", "_law_aims"] (sp__law_led_to K d) := by
  refine okf_of T.d__law_led_to sc__law_led_to (fun vs H Q E h => ?_) (fun cdv A outer s H vs Q E hr h => ?_)
  · obtain ⟨v, l, s, t, rfl, hC, hL, gt, hl, hd, k⟩ := h
    rfl
  · obtain ⟨v, l, s, t, rfl, hC, hL, gt, hl, hd, k⟩ := h
    refine ⟨_, (pss_cons (ps_set (i := 2) sc__law_led_to.nd rfl (by first | exact Or.inl rfl | exact Or.inr rfl) (pe_callB (k_len (K := K) rfl) (by rfl) T.z_len (by decide +kernel) (pa_cons (pv 1) pa_nil)))
      (pss_cons (ps_for PassesOwn.never rfl (pi_range1 (by rfl) T.z_range (pa_cons (pe_op op_add (pe_op op_mul (pv 2) (pv 2)) pe_int) pa_nil)) (pg_name (i := 3) sc__law_led_to.nd rfl (by first | exact Or.inl rfl | exact Or.inr rfl)) (pss_cons (ps_set (i := 4) sc__law_led_to.nd rfl (by first | exact Or.inl rfl | exact Or.inr rfl) pe_bl)
      (pss_cons (ps_for PassesOwn.never rfl (pi_range1 (by rfl) T.z_range (pa_cons (pv 2) pa_nil)) (pg_name (i := 5) sc__law_led_to.nd rfl (by first | exact Or.inl rfl | exact Or.inr rfl)) (pss_cons (ps_set (i := 6) sc__law_led_to.nd rfl (by first | exact Or.inl rfl | exact Or.inr rfl) (pe_ixB (ok_Clock___getitem__ T) (hr.mono (by decide)) T.m_Clock___getitem__.at_ T.fi_Clock___getitem__ T.m_Clock___getitem__.fn (pv 0) (pv 5)))
      (pss_one (ps_if (pt_cmpR op_ne (pv 6) (pe_ix (k_ixL (K := K) rfl) (pv 1) (pv 5) (fun _ _ => rfl)) (nomark _)) (pss_cons (ps_set (i := 7) sc__law_led_to.nd rfl (by first | exact Or.inl rfl | exact Or.inr rfl) (pf_call (ok__law_stepped T) (hr.mono (by decide)) (by rfl) T.g__law_stepped T.d__law_stepped.kp (pa_cons (pv 0) (pa_cons (pv 5) (pa_cons (pe_op op_add (pv 6) (pe_ix (k_ixL (K := K) rfl) (pe_lst (pa_cons pe_int (pa_cons (pe_un un_neg pe_int) pa_nil))) (pe_callTy k_int1 (by rfl) T.z_int (by decide +kernel) (pa_cons (pe_cmpR op_gt (pv 6) (pe_ix (k_ixL (K := K) rfl) (pv 1) (pv 5) (fun _ _ => rfl)) (nomark _)) pa_nil)) (fun _ _ => rfl))) pa_nil)))))
      (pss_one (ps_if (pt_cmpR k_notN (pv 7) pe_non (nomark _)) (pss_one (ps_par (i := 0) (j := 4) (by rfl) sc__law_led_to.nd rfl rfl (by decide) rfl rfl (pa_cons (pv 7) (pa_cons pe_bl pa_nil)) (by rfl))) pss_nil))) pss_nil))))
      (pss_one (ps_if (pt_not (pt_val (pv 4))) (pss_one (ps_ret (pv 0))) pss_nil)))))
      (pss_one (ps_ret (pv 0))))), ?_⟩
    have g0 := hC.good
    have hn := g0.ne
    have hle := g0.le
    obtain ⟨n, en⟩ : ∃ n, n = s.length := ⟨_, rfl⟩
    have ht : t.length = n := by omega
    have nn0 : 0 ≤ (n : Int) * (n : Int) := Int.mul_nonneg (by omega) (by omega)
    have nn1 : (n : Int) * (n : Int) ≤ 48 * 48 := Int.mul_le_mul (by omega) (by omega) (by omega) (by omega)
    walk_at "rd"
    refine r_len (by walk_at "kn") ?_
    rw [List.length_map, ht]
    walk_at "rd"
    refine for_w walk_r0 (fun i σ H' => ∃ v s z3 z4 z5 z6 z7, σ = [some v, some (.ref l), some (.int (n : Int)), z3, z4, z5, z6, z7] ∧ Ex H H' ∧ Clk K d.c_Clock H' v s ∧ s.length = n ∧ Dir s t ∧ gap s t ≤ (n : Int) * n - i) ⟨v, s, _, _, _, _, _, rfl, Ex.refl _, hC, en.symm, hd, by have := gap_le g0 gt hl; rw [en]; omega⟩ (fun _ _ _ _ _ => trivial) ?_ ?_
    · rintro i x σ H1 H2 hi ⟨v1, s1, z3, z4, z5, z6, z7, rfl, e1, hC1, l1, d1, gp⟩ ⟨rfl, rfl⟩
      have g1 := hC1.good
      walk_at "rd"
      refine for_w walk_r0 (fun j σ H' => ∃ v2 s2 gr z5 z6 z7, σ = [some v2, some (.ref l), some (.int (n : Int)), some (.int (i : Int)), some (.bl gr), z5, z6, z7] ∧ Ex H2 H' ∧ Clk K d.c_Clock H' v2 s2 ∧ s2.length = n ∧ Dir s2 t ∧ (gr = true → gap s2 t ≤ gap s1 t - 1) ∧ (gr = false → s2 = s1 ∧ ∀ k : Nat, k < j → cyc s1 k = cyc t k ∨ ¬ Good (setS s1 k (near s1 t k)))) ⟨v1, s1, false, _, _, _, rfl, Ex.refl _, hC1, l1, d1, (fun q => Bool.noConfusion q), fun _ => ⟨rfl, fun k hk => absurd hk (Nat.not_lt_zero _)⟩⟩ (fun _ _ _ _ _ => trivial) ?_ ?_
      · rintro j x σ H3 H4 hj ⟨v2, s2, gr, z5, z6, z7, rfl, e3, hC2, l2, d2, ga, gb⟩ ⟨rfl, rfl⟩
        have g2 := hC2.good
        have hj' : j < n := by omega
        have ea := at_cyc (ns := t) (by omega) (j : Int)
        rw [Int.emod_eq_of_lt (by omega) (by omega)] at ea
        walk_at "rd"
        refine r_clkG (s := s2) (by walk_at "kn") ?_
        refine ⟨_, s2, _, rfl, (by walk_at "kn"), by omega, by omega, ?_⟩
        walk_at "rd"
        refine r_ixL (by walk_at "kn") ea ?_
        walk_at "rd"
        refine r_itn (fun q => ?_) fun q => ?_
        · walk_at "rd"
          refine ⟨szc rfl, fun p np => ?_⟩
          walk_at "rd"
          refine r_ixL (by walk_at "kn") ea ?_
          walk_at "rd"
          have hv : atI [V.int 1, V.int (-1)] (if decide (cyc t (j : Int) < cyc s2 (j : Int)) = true then 1 else 0) = some (.int (near s2 t j - cyc s2 j)) := by
            unfold near
            by_cases z : cyc t (j : Int) < cyc s2 (j : Int)
            · rw [if_pos (decide_eq_true z), if_neg (by omega), show cyc s2 (j : Int) - 1 - cyc s2 (j : Int) = -1 by omega]
              exact atI_nat (j := 1) rfl
            · rw [if_neg (by rw [decide_eq_false z]; decide), if_pos (by omega), show cyc s2 (j : Int) + 1 - cyc s2 (j : Int) = 1 by omega]
              exact atI_nat (j := 0) rfl
          refine r_ixL (by walk_at "kn") hv ?_
          walk_at "rd"
          rw [show cyc s2 (j : Int) + (near s2 t j - cyc s2 j) = near s2 t j by omega]
          have b1 := g2.lo (j : Int)
          have b2 := g2.hi (j : Int)
          have b3 := gt.lo (j : Int)
          have b4 := gt.hi (j : Int)
          have bn : 1 ≤ near s2 t j ∧ near s2 t j ≤ (s2.length : Int) := by
            unfold near
            split <;> omega
          have gle : gap s2 t ≤ gap s1 t := by
            cases gr with
            | true => have := ga rfl; omega
            | false => rw [(gb rfl).1]; omega
          refine ⟨v2, s2, j, near s2 t j, rfl, (by walk_at "kn"), by omega, bn.1, bn.2, fun gg u H' e hu => ?_, fun ng H' e => ?_⟩
          · obtain ⟨uq, duq, auq, buq, rfl, huq, _⟩ := id hu
            walk_at "rd"
            refine iteT ?_
            walk_at "rd"
            refine ⟨_, setS s2 j (near s2 t j), true, _, _, _, rfl, (by walk_at "ex"), hu, by rw [setS_length]; exact l2, dir_set (by omega) (by omega) d2 (by omega) q, fun _ => ?_, fun z => Bool.noConfusion z⟩
            have := gap_step (s := s2) (t := t) (c := near s2 t j) (by omega) (by omega) q rfl
            omega
          · walk_at "rd"
            refine iteF ?_
            walk_at "rd"
            exact ⟨v2, s2, gr, _, _, _, rfl, (by walk_at "ex"), (by walk_at "kn"), l2, d2, ga, fun q' => ⟨(gb q').1, fun k hk => by
              rcases Nat.lt_succ_iff_lt_or_eq.mp hk with z | rfl
              · exact (gb q').2 k z
              · exact .inr (by rw [← (gb q').1]; exact ng)⟩⟩
        · walk_at "rd"
          exact ⟨v2, s2, gr, _, _, _, rfl, e3, hC2, l2, d2, ga, fun q' => ⟨(gb q').1, fun k hk => by
            rcases Nat.lt_succ_iff_lt_or_eq.mp hk with z | rfl
            · exact (gb q').2 k z
            · exact .inl (by rw [← (gb q').1]; exact q)⟩⟩
      rintro σ H3 ⟨v2, s2, gr, z5, z6, z7, rfl, e3, hC2, l2, d2, ga, gb⟩
      rw [Int.toNat_natCast] at gb
      walk_at "rd"
      cases gr with
      | false =>
        obtain ⟨rfl, hb⟩ := gb rfl
        obtain rfl := all_done hC2.good gt (by omega) d2 fun j hj => hb j (by omega)
        refine iteT ?_
        walk_at "rd"
        exact k _ _ (by walk_at "ex") hC2
      | true =>
        refine iteF ?_
        walk_at "rd"
        exact ⟨v2, s2, _, _, _, _, _, rfl, (by walk_at "ex"), hC2, l2, d2, by have := ga rfl; omega⟩
    rintro σ H1 ⟨v1, s1, z3, z4, z5, z6, z7, rfl, e1, hC1, l1, d1, gp⟩
    have := gap_nn s1 t
    omega

/-! ### Clock.__len__ -/
theorem sc_Clock___len__ : FnScope ["self"] ["self"] (defScope s_Clock___len__) := ⟨rfl, rfl, rfl, by decide +kernel, rfl, by decide +kernel, by decide +kernel⟩

def sp_Clock___len__ (K : PySem.W.Frag) (d : Ads) : Sp := fun vs H Q _ => ∃ (v : V) (s : List Int), vs = [v] ∧ Clk K d.c_Clock H v s ∧ Q (.int (s.length : Int)) H
set_option maxHeartbeats 4000000 in
theorem ok_Clock___len__ (T : Tx P K mg d) : Okf P w K mg base 1 d.f_Clock___len__ ["self"] (sp_Clock___len__ K d) := by
  refine okf_of T.d_Clock___len__ sc_Clock___len__ (fun vs H Q E h => ?_) (fun cdv A outer s H vs Q E hr h => ?_)
  · obtain ⟨v, s, rfl, ⟨p, dx, a, b, rfl, hp, ha, hb, g⟩, k⟩ := h
    rfl
  · obtain ⟨v, s, rfl, ⟨p, dx, a, b, rfl, hp, ha, hb, g⟩, k⟩ := h
    refine ⟨_, (pss_one (ps_ret (pe_callB (k_len (K := K) rfl) (by rfl) T.z_len (by decide +kernel) (pa_cons (k_fld (K := K) rfl (pv 0)) pa_nil)))), ?_⟩
    walk_at "rd"
    refine ⟨p, _, dx, _, _, rfl, hp, T.cl_Clock, T.n_Clock_kept_stays, clkF_stays _ _, ?_⟩
    walk_at "rd"
    refine r_len (.inr ha) ?_
    rw [List.length_map]
    exact k

/-! ### Clock.__iter__ -/
theorem sc_Clock___iter__ : FnScope ["self"] ["self"] (defScope s_Clock___iter__) := ⟨rfl, rfl, rfl, by decide +kernel, rfl, by decide +kernel, by decide +kernel⟩

def sp_Clock___iter__ (K : PySem.W.Frag) (d : Ads) (n : Nat) : Sp := fun vs H Q _ => ∃ (v : V) (s : List Int), vs = [v] ∧ Clk K d.c_Clock H v s ∧ ∀ l it, SqT K H l (s.map V.int) → H it = none → n ≤ it → Q (.ref it) (upd H it (ItT l it))
set_option maxHeartbeats 4000000 in
theorem ok_Clock___iter__ (T : Tx P K mg d) (n : Nat) : OkP (fun _ s => n ≤ s.heap.objs.size) P w K mg base 1 d.f_Clock___iter__ ["self"] (sp_Clock___iter__ K d n) := by
  refine okP_of T.d_Clock___iter__ sc_Clock___iter__ (fun vs H Q E h => ?_) (fun cdv A outer s H vs Q E hn hr h => ?_)
  · obtain ⟨v, s, rfl, ⟨p, dx, a, b, rfl, hp, ha, hb, g⟩, k⟩ := h
    rfl
  · obtain ⟨v, s, rfl, ⟨p, dx, a, b, rfl, hp, ha, hb, g⟩, k⟩ := h
    refine ⟨_, (pss_one (ps_ret (pe_callB (k_iterT (K := K) (n := n) rfl hn) (by rfl) T.z_iter (by decide +kernel) (pa_cons (k_fld (K := K) rfl (pv 0)) pa_nil)))), ?_⟩
    walk_at "rd"
    refine ⟨p, _, dx, _, _, rfl, hp, T.cl_Clock, T.n_Clock_kept_stays, clkF_stays _ _, ?_⟩
    walk_at "rd"
    exact ⟨a, _, rfl, ha, fun it n1 n2 => k a it ha n1 n2⟩

theorem r_list_Clock {H : Hp} {Q : VK} {v : V} {s : List Int} (hN : Clk K d.c_Clock H v s) (q : ∀ l, H l = none → Q (.ref l) (upd H l (.lst (s.map V.int)))) : rListO K d.c_Clock (sp_Clock___iter__ K d) (sp_Clock___len__ K d) [v] H Q := by
  obtain ⟨p, dx, a, b, rfl, hp, ha, hb, g⟩ := id hN
  have hle := g.le
  exact ⟨p, dx, _, _, rfl, hp, by rw [List.length_map]; omega, fun n H' Q' e h => ⟨_, s, rfl, hN.ex e, h⟩, fun H' Q' e h => ⟨_, s, rfl, hN.ex e, h _ (by omega) (by omega)⟩, q⟩

/-! ### Clock.widths -/
theorem sc_Clock_widths : FnScope ["self"] ["self"] (defScope s_Clock_widths) := ⟨rfl, rfl, rfl, by decide +kernel, rfl, by decide +kernel, by decide +kernel⟩

def sp_Clock_widths (K : PySem.W.Frag) (d : Ads) : Sp := fun vs H Q _ => ∃ (v : V) (s : List Int), vs = [v] ∧ Clk K d.c_Clock H v s ∧ RetN ((wds s).map V.int) H Q
set_option maxHeartbeats 4000000 in
theorem ok_Clock_widths (T : Tx P K mg d) : Okf P w K mg base 1 d.f_Clock_widths ["self"] (sp_Clock_widths K d) := by
  refine okf_of T.d_Clock_widths sc_Clock_widths (fun vs H Q E h => ?_) (fun cdv A outer s H vs Q E hr h => ?_)
  · obtain ⟨v, s, rfl, ⟨p, dx, a, b, rfl, hp, ha, hb, g⟩, k⟩ := h
    rfl
  · obtain ⟨v, s, rfl, ⟨p, dx, a, b, rfl, hp, ha, hb, g⟩, k⟩ := h
    refine ⟨_, (pss_one (ps_ret (pe_callTy (k_listOf (K := K) rfl) (by rfl) T.z_list (by decide +kernel) (pa_cons (k_fld (K := K) rfl (pv 0)) pa_nil)))), ?_⟩
    walk_at "rd"
    refine ⟨p, _, dx, _, _, rfl, hp, T.cl_Clock, T.n_Clock_kept_widths, clkF_widths _ _, ?_⟩
    walk_at "rd"
    refine r_listOf (.inr hb) fun l nl => ?_
    exact k l _ nl (Ex.new nl) upd_same

/-! ### Clock.stays -/
theorem sc_Clock_stays : FnScope ["self"] ["self"] (defScope s_Clock_stays) := ⟨rfl, rfl, rfl, by decide +kernel, rfl, by decide +kernel, by decide +kernel⟩

def sp_Clock_stays (K : PySem.W.Frag) (d : Ads) : Sp := fun vs H Q _ => ∃ (v : V) (s : List Int), vs = [v] ∧ Clk K d.c_Clock H v s ∧ RetN (s.map V.int) H Q
set_option maxHeartbeats 4000000 in
theorem ok_Clock_stays (T : Tx P K mg d) : Okf P w K mg base 1 d.f_Clock_stays ["self"] (sp_Clock_stays K d) := by
  refine okf_of T.d_Clock_stays sc_Clock_stays (fun vs H Q E h => ?_) (fun cdv A outer s H vs Q E hr h => ?_)
  · obtain ⟨v, s, rfl, ⟨p, dx, a, b, rfl, hp, ha, hb, g⟩, k⟩ := h
    rfl
  · obtain ⟨v, s, rfl, ⟨p, dx, a, b, rfl, hp, ha, hb, g⟩, k⟩ := h
    refine ⟨_, (pss_one (ps_ret (pe_callTy (k_listOf (K := K) rfl) (by rfl) T.z_list (by decide +kernel) (pa_cons (k_fld (K := K) rfl (pv 0)) pa_nil)))), ?_⟩
    walk_at "rd"
    refine ⟨p, _, dx, _, _, rfl, hp, T.cl_Clock, T.n_Clock_kept_stays, clkF_stays _ _, ?_⟩
    walk_at "rd"
    refine r_listOf (.inr ha) fun l nl => ?_
    exact k l _ nl (Ex.new nl) upd_same

/-! ### _law_alike -/
theorem sc__law_alike : FnScope ["_law_found", "_law_due"] ["_law_found", "_law_due"] (defScope s__law_alike) := ⟨rfl, rfl, rfl, by decide +kernel, rfl, by decide +kernel, by decide +kernel⟩

def sp__law_alike (K : PySem.W.Frag) (d : Ads) : Sp := fun vs H Q _ => ∃ (x y : V) (a : PyData) (n : Nat), vs = [x, y] ∧ Dp K H x a ∧ Dp K H y a ∧ SeqAt.shaped a = true ∧ Fine a n ∧ n ≤ 300000 ∧ Q (.bl true) H
set_option maxHeartbeats 4000000 in
theorem ok__law_alike (T : Tx P K mg d) : OkP NoG P w K mg base 1 d.f__law_alike ["_law_found", "_law_due"] (sp__law_alike K d) := by
  refine okP_of T.d__law_alike sc__law_alike (fun vs H Q E h => ?_) (fun cdv A outer s H vs Q E hg hr h => ?_)
  · obtain ⟨x, y, a, n, rfl, hx, hy, hs, hf, hn, k⟩ := h
    rfl
  · obtain ⟨x, y, a, n, rfl, hx, hy, hs, hf, hn, k⟩ := h
    refine ⟨_, (pss_one (ps_ret (pe_and (pe_cmpR (k_eqD (K := K) rfl hr.units) (pv 0) (pv 1) (nomark _)) (pe_one (pe_cmpR op_eq (pe_callB (k_repr (K := K) (k := 0) rfl hg (hr.mono (by decide))) (by rfl) T.z_repr (by decide +kernel) (pa_cons (pv 0) pa_nil)) (pe_callB (k_repr (K := K) (k := 0) rfl hg (hr.mono (by decide))) (by rfl) T.z_repr (by decide +kernel) (pa_cons (pv 1) pa_nil)) (nomark _)))))), ?_⟩
    have hd := SeqAt.depth_of_shaped hs
    walk_at "rd"
    refine ⟨a, a, hx, hy, hs, hs, ?_⟩
    rw [SeqAt.eqv_refl a (SeqAt.canLay_of_shaped hs)]
    walk_at "rd"
    refine iteT ?_
    walk_at "rd"
    refine r_repr hx hf hn hd ?_
    walk_at "rd"
    refine r_repr hy hf hn hd ?_
    walk_at "rd"
    rw [decide_eq_true rfl]
    exact k

/-! ### _law_serving -/
theorem sc__law_serving : FnScope ["_law_stays_here", "_law_hour", "_law_many", "_law_found", "_law_back"] ["_law_stays_here", "_law_hour"] (defScope s__law_serving) := ⟨rfl, rfl, rfl, by decide +kernel, rfl, by decide +kernel, by decide +kernel⟩

def sp__law_serving (K : PySem.W.Frag) (d : Ads) : Sp := fun vs H Q _ => ∃ (l : Addr) (s : List Int) (h : Int), vs = [.ref l, .int h] ∧ SqL K H l (s.map V.int) ∧ Good s ∧ RetN ((servingOf s h).map V.int) H Q
set_option maxHeartbeats 4000000 in
theorem ok__law_serving (T : Tx P K mg d) : Okf P w K mg base 1 d.f__law_serving ["_law_stays_here", "_law_hour"] (sp__law_serving K d) := by
  refine okf_of T.d__law_serving sc__law_serving (fun vs H Q E h => ?_) (fun cdv A outer s H vs Q E hr h => ?_)
  · obtain ⟨l, s, h, rfl, hS, g, k⟩ := h
    rfl
  · obtain ⟨l, s, h, rfl, hS, g, k⟩ := h
    refine ⟨_, (pss_cons (ps_set (i := 2) sc__law_serving.nd rfl (by first | exact Or.inl rfl | exact Or.inr rfl) (pe_callB (k_len (K := K) rfl) (by rfl) T.z_len (by decide +kernel) (pa_cons (pv 0) pa_nil)))
      (pss_cons (ps_setLc (i := 3) (own := [("_law_back", 4)]) rfl sc__law_serving.nd rfl rfl (sw_true rfl rfl rfl (by decide +kernel)) (pi_range1 (by rfl) T.z_range (pa_cons (pv 2) pa_nil)) (blkOk_by (by kernel_rfl)) (fun _ _ _ _ _ => (pg_name (i := 4) sc__law_serving.nd rfl (by first | exact Or.inl rfl | exact Or.inr rfl))) (fun _ _ _ _ _ => (pts_one (pt_cmpR op_gt (pe_ix (k_ixL (K := K) rfl) (pv 0) (pe_op op_mod (pe_callTy k_int1 (by rfl) T.z_int (by decide +kernel) (pa_cons (pe_op op_sub (pv 1) (pv 4)) pa_nil)) (pv 2)) (fun _ _ => rfl)) (pv 4) (nomark _)))) (fun _ _ _ _ _ => (pe_op op_mod (pe_callTy k_int1 (by rfl) T.z_int (by decide +kernel) (pa_cons (pe_op op_sub (pv 1) (pv 4)) pa_nil)) (pv 2))))
      (pss_one (ps_ret (k_revL (K := K) rfl (pv 3)))))), ?_⟩
    have hne := g.ne
    have hle := g.le
    walk_at "rd"
    refine r_len (.inl hS) ?_
    rw [List.length_map]
    walk_at "rd"
    refine lc_filf walk_r0 (fun b => decide ((b : Int) < cyc s (h - (b : Int)))) (fun b => .int ((h - (b : Int)) % (s.length : Int))) (fun _ _ => trivial) (by omega) ?_ ?_
    · rintro i x H1 H2 hi e ⟨rfl, rfl⟩ kb kk hk1 hk2
      walk_at "rd"
      refine r_ixL (ex_l e hS) (at_cyc hne _) ?_
      walk_at "rd"
      refine r_ite (fun hc => ?_) (fun hc => ?_)
      · walk_at "rd"
        exact hk1 _ (decide_eq_true hc) (Ex.refl _)
      · exact hk2 _ (decide_eq_false hc) (Ex.refl _)
    · intro D H' nD e hD
      walk_at "rd"
      refine ⟨D, _, rfl, .inl (.inl hD), fun p np => ?_⟩
      refine k p _ (fresh_back e np) (e.trans (Ex.new np)) ?_
      rw [upd_same, Int.toNat_natCast, ← serving_filter g, List.map_reverse, List.map_map]
      rfl

/-! ### _law_widths -/
theorem sc__law_widths : FnScope ["_law_stays_here", "_law_hour"] ["_law_stays_here"] (defScope s__law_widths) := ⟨rfl, rfl, rfl, by decide +kernel, rfl, by decide +kernel, by decide +kernel⟩

def sp__law_widths (K : PySem.W.Frag) (d : Ads) : Sp := fun vs H Q _ => ∃ (l : Addr) (s : List Int), vs = [.ref l] ∧ SqL K H l (s.map V.int) ∧ Good s ∧ RetN ((wds s).map V.int) H Q
set_option maxHeartbeats 4000000 in
theorem ok__law_widths (T : Tx P K mg d) : Okf P w K mg base 2 d.f__law_widths ["_law_stays_here"] (sp__law_widths K d) := by
  refine okf_of T.d__law_widths sc__law_widths (fun vs H Q E h => ?_) (fun cdv A outer s H vs Q E hr h => ?_)
  · obtain ⟨l, s, rfl, hS, g, k⟩ := h
    rfl
  · obtain ⟨l, s, rfl, hS, g, k⟩ := h
    refine ⟨_, (pss_one (ps_ret (pe_lc (own := [("_law_hour", 1)]) rfl sc__law_widths.nd (pi_range1 (by rfl) T.z_range (pa_cons (pe_callB (k_len (K := K) rfl) (by rfl) T.z_len (by decide +kernel) (pa_cons (pv 0) pa_nil)) pa_nil)) (blkOk_by (by kernel_rfl)) (fun _ _ _ _ _ => (pg_name (i := 1) sc__law_widths.nd rfl (by first | exact Or.inl rfl | exact Or.inr rfl))) (fun _ _ _ _ _ => pts_nil) (fun _ _ _ _ _ => (pe_callB (k_len (K := K) rfl) (by rfl) T.z_len (by decide +kernel) (pa_cons (pf_call (ok__law_serving T) (hr.mono (by decide)) (by rfl) T.g__law_serving T.d__law_serving.kp (pa_cons (pv 0) (pa_cons (pv 1) pa_nil))) pa_nil)))))), ?_⟩
    have hne := g.ne
    have hle := g.le
    walk_at "rd"
    refine r_len (.inl hS) ?_
    rw [List.length_map]
    walk_at "rd"
    refine lc_fun walk_r0 (fun h => .int (wd s (h : Int))) (fun _ _ => trivial) (by omega) ?_ ?_
    · rintro i x H1 H2 hi e ⟨rfl, rfl⟩ kk hk
      walk_at "rd"
      refine ⟨l, s, _, rfl, ex_l e hS, g, fun p H3 np e3 hp => ?_⟩
      walk_at "rd"
      refine r_len (.inl (.inl (.inl hp))) ?_
      rw [List.length_map, serving_len]
      exact hk _ e3
    · intro D H' nD e hD
      refine k D H' nD e ?_
      rw [hD, Int.toNat_natCast]
      unfold wds
      rw [List.map_map]
      rfl

/-! ### _law_served -/
theorem sc__law_served : FnScope ["_law_stays_here", "_law_hour", "_law_k"] ["_law_stays_here", "_law_hour"] (defScope s__law_served) := ⟨rfl, rfl, rfl, by decide +kernel, rfl, by decide +kernel, by decide +kernel⟩

def sp__law_served (K : PySem.W.Frag) (d : Ads) : Sp := fun vs H Q _ => ∃ (l : Addr) (s : List Int) (h : Int), vs = [.ref l, .int h] ∧ SqL K H l (s.map V.int) ∧ Good s ∧ 0 ≤ h ∧ h < (s.length : Int) ∧ RetN ((servedOf s h).map V.int) H Q
set_option maxHeartbeats 4000000 in
theorem ok__law_served (T : Tx P K mg d) : Okf P w K mg base 1 d.f__law_served ["_law_stays_here", "_law_hour"] (sp__law_served K d) := by
  refine okf_of T.d__law_served sc__law_served (fun vs H Q E h => ?_) (fun cdv A outer s H vs Q E hr h => ?_)
  · obtain ⟨l, s, h, rfl, hS, g, h0, h1, k⟩ := h
    rfl
  · obtain ⟨l, s, h, rfl, hS, g, h0, h1, k⟩ := h
    refine ⟨_, (pss_one (ps_ret (pe_lc (own := [("_law_k", 2)]) rfl sc__law_served.nd (pi_range1 (by rfl) T.z_range (pa_cons (pe_ix (k_ixL (K := K) rfl) (pv 0) (pv 1) (fun _ _ => rfl)) pa_nil)) (blkOk_by (by kernel_rfl)) (fun _ _ _ _ _ => (pg_name (i := 2) sc__law_served.nd rfl (by first | exact Or.inl rfl | exact Or.inr rfl))) (fun _ _ _ _ _ => pts_nil) (fun _ _ _ _ _ => (pe_op op_mod (pe_callTy k_int1 (by rfl) T.z_int (by decide +kernel) (pa_cons (pe_op op_add (pv 1) (pv 2)) pa_nil)) (pe_callB (k_len (K := K) rfl) (by rfl) T.z_len (by decide +kernel) (pa_cons (pv 0) pa_nil))))))), ?_⟩
    have hne := g.ne
    have hle := g.le
    have hlo := g.lo h
    have hhi := g.hi h
    have ea := at_cyc (ns := s) hne h
    rw [Int.emod_eq_of_lt h0 h1] at ea
    walk_at "rd"
    refine r_ixL hS ea ?_
    walk_at "rd"
    refine lc_fun walk_r0 (fun k => .int ((h + (k : Int)) % (s.length : Int))) (fun _ _ => trivial) (by omega) ?_ ?_
    · rintro i x H1 H2 hi e ⟨rfl, rfl⟩ kk hk
      walk_at "rd"
      refine r_len (.inl (ex_l e hS)) ?_
      rw [List.length_map]
      walk_at "rd"
      exact hk _ (Ex.refl _)
    · intro D H' nD e hD
      refine k D H' nD e ?_
      rw [hD]
      unfold servedOf
      rw [List.map_map]
      rfl

/-! ### Clock.served -/
theorem sc_Clock_served : FnScope ["self", "hour", "stay", "later"] ["self", "hour"] (defScope s_Clock_served) := ⟨rfl, rfl, rfl, by decide +kernel, rfl, by decide +kernel, by decide +kernel⟩

def sp_Clock_served (K : PySem.W.Frag) (d : Ads) : Sp := fun vs H Q _ => ∃ (v : V) (s : List Int) (h : Int), vs = [v, .int h] ∧ Clk K d.c_Clock H v s ∧ 0 ≤ h ∧ h < (s.length : Int) ∧ RetN ((servedOf s h).map V.int) H Q
set_option maxHeartbeats 4000000 in
theorem ok_Clock_served (T : Tx P K mg d) : Okf P w K mg base 5 d.f_Clock_served ["self", "hour"] (sp_Clock_served K d) := by
  refine okf_of T.d_Clock_served sc_Clock_served (fun vs H Q E h => ?_) (fun cdv A outer s H vs Q E hr h => ?_)
  · obtain ⟨v, s, h, rfl, hC, h0, h1, k⟩ := h
    rfl
  · obtain ⟨v, s, h, rfl, hC, h0, h1, k⟩ := h
    refine ⟨_, (pss_cons (ps_set (i := 2) sc_Clock_served.nd rfl (by first | exact Or.inl rfl | exact Or.inr rfl) (pe_ixB (ok_Clock___getitem__ T) (hr.mono (by decide)) T.m_Clock___getitem__.at_ T.fi_Clock___getitem__ T.m_Clock___getitem__.fn (pv 0) (pv 1)))
      (pss_one (ps_ret (pe_lc (own := [("later", 3)]) rfl sc_Clock_served.nd (pi_range1 (by rfl) T.z_range (pa_cons (pv 2) pa_nil)) (blkOk_by (by kernel_rfl)) (fun _ _ _ _ _ => (pg_name (i := 3) sc_Clock_served.nd rfl (by first | exact Or.inl rfl | exact Or.inr rfl))) (fun _ _ _ _ _ => pts_nil) (fun _ _ _ _ _ => (pe_op op_mod (pe_op op_add (pv 1) (pv 3)) (pf_prop (ok_Clock_hours T) (hr.mono (by decide)) T.cl_Clock T.p_Clock_hours (pv 0)))))))), ?_⟩
    obtain ⟨p, dx, a, b, rfl, hp, ha, hb, g⟩ := id hC
    have hlo := g.lo h
    have hhi := g.hi h
    have hle := g.le
    have hne := g.ne
    walk_at "rd"
    refine ⟨p, dx, _, rfl, hp, ?_⟩
    refine ⟨_, s, h, rfl, hC, h0, h1, ?_⟩
    walk_at "rd"
    refine lc_fun walk_r0 (fun k => .int ((h + (k : Int)) % (s.length : Int))) (fun _ _ => trivial) (by omega) ?_ ?_
    · rintro i x H1 H2 hi e ⟨rfl, rfl⟩ kk hk
      walk_at "rd"
      refine ⟨p, dx, _, rfl, e _ _ hp, ?_⟩
      refine ⟨_, s, rfl, hC.ex e, ?_⟩
      walk_at "rd"
      exact hk _ (Ex.refl _)
    · intro D H' nD e hD
      refine k D H' nD e ?_
      rw [hD]
      unfold servedOf
      rw [List.map_map]
      rfl

/-! ### Clock.serving -/
theorem sc_Clock_serving : FnScope ["self", "hour", "width", "later"] ["self", "hour"] (defScope s_Clock_serving) := ⟨rfl, rfl, rfl, by decide +kernel, rfl, by decide +kernel, by decide +kernel⟩

def sp_Clock_serving (K : PySem.W.Frag) (d : Ads) : Sp := fun vs H Q _ => ∃ (v : V) (s : List Int) (h : Int), vs = [v, .int h] ∧ Clk K d.c_Clock H v s ∧ 0 ≤ h ∧ h < (s.length : Int) ∧ RetN ((servingOf s h).map V.int) H Q
set_option maxHeartbeats 4000000 in
theorem ok_Clock_serving (T : Tx P K mg d) : Okf P w K mg base 3 d.f_Clock_serving ["self", "hour"] (sp_Clock_serving K d) := by
  refine okf_of T.d_Clock_serving sc_Clock_serving (fun vs H Q E h => ?_) (fun cdv A outer s H vs Q E hr h => ?_)
  · obtain ⟨v, s, h, rfl, hC, h0, h1, k⟩ := h
    rfl
  · obtain ⟨v, s, h, rfl, hC, h0, h1, k⟩ := h
    refine ⟨_, (pss_cons (ps_if (pt_not (pt_val (pf_call (ok_is_hour T) (hr.mono (by decide)) (by rfl) T.g_is_hour T.d_is_hour.kp (pa_cons (pf_prop (ok_Clock_hours T) (hr.mono (by decide)) T.cl_Clock T.p_Clock_hours (pv 0)) (pa_cons (pv 1) pa_nil))))) (pss_one ps_never) pss_nil)
      (pss_cons (ps_set (i := 2) sc_Clock_serving.nd rfl (by first | exact Or.inl rfl | exact Or.inr rfl) (pe_ix (k_ixT (K := K) rfl) (k_fld (K := K) rfl (pv 0)) (pv 1) (fun _ _ => rfl)))
      (pss_one (ps_ret (pe_lc (own := [("later", 3)]) rfl sc_Clock_serving.nd (pi_range1 (by rfl) T.z_range (pa_cons (pv 2) pa_nil)) (blkOk_by (by kernel_rfl)) (fun _ _ _ _ _ => (pg_name (i := 3) sc_Clock_serving.nd rfl (by first | exact Or.inl rfl | exact Or.inr rfl))) (fun _ _ _ _ _ => pts_nil) (fun _ _ _ _ _ => (pe_op op_mod (pe_op op_add (pe_op op_add (pe_op op_sub (pv 1) (pv 2)) pe_int) (pv 3)) (pf_prop (ok_Clock_hours T) (hr.mono (by decide)) T.cl_Clock T.p_Clock_hours (pv 0))))))))), ?_⟩
    obtain ⟨p, dx, a, b, rfl, hp, ha, hb, g⟩ := id hC
    have hle := g.le
    have hne := g.ne
    have hw0 := wd_nn (s := s) h
    have hw1 := wd_le (s := s) h
    walk_at "rd"
    refine ⟨p, dx, _, rfl, hp, ?_⟩
    refine ⟨_, s, rfl, hC, ?_⟩
    walk_at "rd"
    refine ⟨_, _, rfl, ?_⟩
    rw [decide_eq_true h0, decide_eq_true h1]
    walk_at "rd"
    refine iteF ?_
    walk_at "rd"
    refine ⟨p, _, dx, _, _, rfl, hp, T.cl_Clock, T.n_Clock_kept_widths, clkF_widths _ _, ?_⟩
    walk_at "rd"
    refine r_ixT hb (v := .int (wd s h)) ?_ ?_
    · have := at_cyc (ns := wds s) (by rw [wds_length]; exact hne) h
      rw [wds_length, Int.emod_eq_of_lt h0 h1, cyc_wds hne] at this
      exact this
    walk_at "rd"
    refine lc_fun walk_r0 (fun k => .int ((h - wd s h + 1 + (k : Int)) % (s.length : Int))) (fun _ _ => trivial) (by omega) ?_ ?_
    · rintro i x H1 H2 hi e ⟨rfl, rfl⟩ kk hk
      walk_at "rd"
      refine ⟨p, dx, _, rfl, e _ _ hp, ?_⟩
      refine ⟨_, s, rfl, hC.ex e, ?_⟩
      walk_at "rd"
      exact hk _ (Ex.refl _)
    · intro D H' nD e hD
      refine k D H' nD e ?_
      rw [hD]
      unfold servingOf
      rw [List.map_map]
      rfl

/-! ### _law_whole -/
theorem sc__law_whole : FnScope ["_law_clock_here", "_law_stays_here", "_law_many", "_law_every", "_law_found", "_law_hour"] ["_law_clock_here", "_law_stays_here"] (defScope s__law_whole) := ⟨rfl, rfl, rfl, by decide +kernel, rfl, by decide +kernel, by decide +kernel⟩

theorem small_stays {s : List Int} (g : Good s) : ∀ z ∈ s, z.natAbs < 1000 := fun z hz => by
  obtain ⟨j, hj, rfl⟩ := List.mem_iff_getElem.mp hz
  have h1 := g.lo (j : Int)
  have h2 := g.hi (j : Int)
  have h3 := g.le
  rw [cyc_at hj, List.getD_eq_getElem?_getD, List.getElem?_eq_getElem hj] at h1 h2
  simp only [Option.getD_some] at h1 h2
  omega
theorem small_wds {s : List Int} (g : Good s) : ∀ z ∈ wds s, z.natAbs < 1000 := fun z hz => by
  unfold wds at hz
  obtain ⟨j, _, rfl⟩ := List.mem_map.mp hz
  have h1 := wd_nn (s := s) (j : Int)
  have h2 := wd_le (s := s) (j : Int)
  have h3 := g.le
  omega
theorem small_mod {n : Nat} (h1 : 1 ≤ n) (h2 : n ≤ 48) (x : Int) : (x % (n : Int)).natAbs < 1000 := by
  have := mod_bd h1 x
  omega
theorem small_served {s : List Int} (g : Good s) (h : Int) : (∀ z ∈ servedOf s h, z.natAbs < 1000) ∧ (servedOf s h).length ≤ 48 := by
  have h2 := g.hi h
  have h3 := g.le
  unfold servedOf
  refine ⟨fun z hz => ?_, by rw [List.length_map, List.length_range]; omega⟩
  obtain ⟨j, _, rfl⟩ := List.mem_map.mp hz
  exact small_mod g.ne g.le _
theorem small_serving {s : List Int} (g : Good s) (h : Int) : (∀ z ∈ servingOf s h, z.natAbs < 1000) ∧ (servingOf s h).length ≤ 48 := by
  have h2 := wd_le (s := s) h
  have h3 := g.le
  unfold servingOf
  refine ⟨fun z hz => ?_, by rw [List.length_map, List.length_range]; omega⟩
  obtain ⟨j, _, rfl⟩ := List.mem_map.mp hz
  exact small_mod g.ne g.le _
def idx (n : Nat) : List Int := (List.range n).map fun (i : Nat) => ((i : Nat) : Int)
theorem idx_at {n i : Nat} (h : i < n) : (idx n).getD i 0 = (i : Int) := by
  unfold idx
  rw [List.getD_eq_getElem?_getD, List.getElem?_map, List.getElem?_range h]
  rfl
theorem idx_len (n : Nat) : (idx n).length = n := by
  unfold idx
  rw [List.length_map, List.length_range]
def sp__law_whole (K : PySem.W.Frag) (d : Ads) : Sp := fun vs H Q _ => ∃ (v : V) (l : Addr) (s : List Int), vs = [v, .ref l] ∧ Clk K d.c_Clock H v s ∧ SqL K H l (s.map V.int) ∧ ∀ H', Ex H H' → Q (.bl true) H'
set_option maxHeartbeats 4000000 in
theorem ok__law_whole (T : Tx P K mg d) : OkP NoG P w K mg base 6 d.f__law_whole ["_law_clock_here", "_law_stays_here"] (sp__law_whole K d) := by
  refine okP_of T.d__law_whole sc__law_whole (fun vs H Q E h => ?_) (fun cdv A outer s H vs Q E hg hr h => ?_)
  · obtain ⟨v, l, s, rfl, hC, hS, k⟩ := h
    rfl
  · obtain ⟨v, l, s, rfl, hC, hS, k⟩ := h
    refine ⟨_, (pss_cons (ps_set (i := 2) sc__law_whole.nd rfl (by first | exact Or.inl rfl | exact Or.inr rfl) (pe_callB (k_len (K := K) rfl) (by rfl) T.z_len (by decide +kernel) (pa_cons (pv 1) pa_nil)))
      (pss_cons (ps_set (i := 3) sc__law_whole.nd rfl (by first | exact Or.inl rfl | exact Or.inr rfl) (pe_listRg rfl (by rfl) T.z_list (prg_1 (by rfl) T.z_range (pv 2))))
      (pss_cons (ps_set (i := 4) sc__law_whole.nd rfl (by first | exact Or.inl rfl | exact Or.inr rfl) (pe_lst (pa_cons (pf_meth0 (ok_Clock_stays T) (hr.mono (by decide)) T.cl_Clock T.m_Clock_stays (pv 0)) (pa_cons (pf_meth0 (ok_Clock_widths T) (hr.mono (by decide)) T.cl_Clock T.m_Clock_widths (pv 0)) (pa_cons (pe_callTy (k_listO (K := K) rfl rfl ⟨T.m_Clock___iter__.at_, T.m_Clock___iter__.fn, T.m_Clock___len__.at_, T.m_Clock___len__.fn⟩ (ok_Clock___iter__ T) (ok_Clock___len__ T) (hr.mono (by decide))) (by rfl) T.z_list (by decide +kernel) (pa_cons (pv 0) pa_nil)) (pa_cons (pe_lc (own := [("_law_hour", 5)]) rfl sc__law_whole.nd (k_piL (K := K) rfl (pv 3)) (blkOk_by (by kernel_rfl)) (fun _ _ _ _ _ => (pg_name (i := 5) sc__law_whole.nd rfl (by first | exact Or.inl rfl | exact Or.inr rfl))) (fun _ _ _ _ _ => pts_nil) (fun _ _ _ _ _ => (pe_ixB (ok_Clock___getitem__ T) (hr.mono (by decide)) T.m_Clock___getitem__.at_ T.fi_Clock___getitem__ T.m_Clock___getitem__.fn (pv 0) (pv 5)))) (pa_cons (pe_lst (pa_cons (pf_prop (ok_Clock_hours T) (hr.mono (by decide)) T.cl_Clock T.p_Clock_hours (pv 0)) (pa_cons (pe_callB (k_lenO (ok_Clock___len__ T) (hr.mono (by decide)) T.m_Clock___len__.at_ T.m_Clock___len__.fn) (by rfl) T.z_len (by decide +kernel) (pa_cons (pv 0) pa_nil)) pa_nil))) pa_nil)))))))
      (pss_cons (ps_if (pt_not (pt_val (pg_call (ok__law_alike T) (fun _ => hg) (hr.mono (by decide)) (by rfl) T.g__law_alike T.d__law_alike.kp (pa_cons (pv 4) (pa_cons (pe_lst (pa_cons (pv 1) (pa_cons (pf_call (ok__law_widths T) (hr.mono (by decide)) (by rfl) T.g__law_widths T.d__law_widths.kp (pa_cons (pv 1) pa_nil)) (pa_cons (pv 1) (pa_cons (pv 1) (pa_cons (pe_lst (pa_cons (pv 2) (pa_cons (pv 2) pa_nil))) pa_nil)))))) pa_nil))))) (pss_one (ps_ret pe_bl)) pss_nil)
      (pss_cons (ps_if (pt_not (pt_val (pg_call (ok__law_alike T) (fun _ => hg) (hr.mono (by decide)) (by rfl) T.g__law_alike T.d__law_alike.kp (pa_cons (pe_lc (own := [("_law_hour", 5)]) rfl sc__law_whole.nd (k_piL (K := K) rfl (pv 3)) (blkOk_by (by kernel_rfl)) (fun _ _ _ _ _ => (pg_name (i := 5) sc__law_whole.nd rfl (by first | exact Or.inl rfl | exact Or.inr rfl))) (fun _ _ _ _ _ => pts_nil) (fun _ _ _ _ _ => (pf_meth (ok_Clock_served T) (hr.mono (by decide)) T.cl_Clock T.m_Clock_served (pv 0) (pa_cons (pv 5) pa_nil)))) (pa_cons (pe_lc (own := [("_law_hour", 5)]) rfl sc__law_whole.nd (k_piL (K := K) rfl (pv 3)) (blkOk_by (by kernel_rfl)) (fun _ _ _ _ _ => (pg_name (i := 5) sc__law_whole.nd rfl (by first | exact Or.inl rfl | exact Or.inr rfl))) (fun _ _ _ _ _ => pts_nil) (fun _ _ _ _ _ => (pf_call (ok__law_served T) (hr.mono (by decide)) (by rfl) T.g__law_served T.d__law_served.kp (pa_cons (pv 1) (pa_cons (pv 5) pa_nil))))) pa_nil))))) (pss_one (ps_ret pe_bl)) pss_nil)
      (pss_one (ps_ret (pg_call (ok__law_alike T) (fun _ => hg) (hr.mono (by decide)) (by rfl) T.g__law_alike T.d__law_alike.kp (pa_cons (pe_lc (own := [("_law_hour", 5)]) rfl sc__law_whole.nd (k_piL (K := K) rfl (pv 3)) (blkOk_by (by kernel_rfl)) (fun _ _ _ _ _ => (pg_name (i := 5) sc__law_whole.nd rfl (by first | exact Or.inl rfl | exact Or.inr rfl))) (fun _ _ _ _ _ => pts_nil) (fun _ _ _ _ _ => (pf_meth (ok_Clock_serving T) (hr.mono (by decide)) T.cl_Clock T.m_Clock_serving (pv 0) (pa_cons (pv 5) pa_nil)))) (pa_cons (pe_lc (own := [("_law_hour", 5)]) rfl sc__law_whole.nd (k_piL (K := K) rfl (pv 3)) (blkOk_by (by kernel_rfl)) (fun _ _ _ _ _ => (pg_name (i := 5) sc__law_whole.nd rfl (by first | exact Or.inl rfl | exact Or.inr rfl))) (fun _ _ _ _ _ => pts_nil) (fun _ _ _ _ _ => (pf_call (ok__law_serving T) (hr.mono (by decide)) (by rfl) T.g__law_serving T.d__law_serving.kp (pa_cons (pv 1) (pa_cons (pv 5) pa_nil))))) pa_nil)))))))))), ?_⟩
    have g := hC.good
    have hne := g.ne
    have hle := g.le
    walk_at "rd"
    refine r_len (.inl hS) ?_
    rw [List.length_map]
    walk_at "rd"
    refine ⟨RgOk.of_le (by omega) (by omega) (by omega) (by omega), fun ev nev => ?_⟩
    rw [rgV0]
    have e1 := Ex.new nev (o := .lst ((idx s.length).map V.int))
    have hev : upd H ev (.lst ((idx s.length).map V.int)) ev = some (.lst ((idx s.length).map V.int)) := upd_same
    generalize hH1 : upd H ev (.lst ((idx s.length).map V.int)) = H1 at *
    rw [show upd H ev (.lst (((List.range s.length).map fun (i : Nat) => ((i : Nat) : Int)).map V.int)) = H1 from hH1]
    clear hH1
    have hC1 := hC.ex e1
    walk_at "rd"
    refine r_clkM hC1 ?_
    walk_at "rd"
    refine ⟨_, s, rfl, hC1, fun p1 H2 np1 e2 hp1 => ?_⟩
    have hC2 := hC1.ex e2
    walk_at "rd"
    refine r_clkM hC2 ?_
    walk_at "rd"
    refine ⟨_, s, rfl, hC2, fun p2 H3 np2 e3 hp2 => ?_⟩
    have hC3 := hC2.ex e3
    walk_at "rd"
    refine r_list_Clock hC3 fun p3 np3 => ?_
    have e4 := Ex.new np3 (o := .lst (s.map V.int))
    have hC4 := hC3.ex e4
    have e14 := (e2.trans e3).trans e4
    walk_at "rd"
    refine ⟨ev, rfl, ⟨_, .inl (.inl (e14 _ _ hev))⟩, lc_fun (walk_list (xs := (idx s.length).map V.int)) (fun i => .int (cyc s (i : Int))) (fun H' e => .inl (.inl (e _ _ (e14 _ _ hev)))) (by rw [List.length_map, idx_len]; omega) ?_ ?_⟩
    · rintro i x H5 H6 hi e ⟨rfl, hx⟩ kk hk
      obtain rfl := int_at hx
      rw [List.length_map, idx_len] at hi
      rw [idx_at hi]
      walk_at "rd"
      refine r_clkG (hC4.ex e) ?_
      exact ⟨_, s, _, rfl, hC4.ex e, by omega, by omega, hk _ (Ex.refl _)⟩
    intro p4 H5 np4 e5 hp4
    rw [List.length_map, idx_len, show (List.range s.length).map (fun (i : Nat) => V.int (cyc s (i : Int))) = s.map V.int from by conv => rhs; rw [row_cyc s, row_lit]] at hp4
    have hC5 := hC4.ex e5
    walk_at "rd"
    refine r_clkP hC5 fun cx ecx => ?_
    subst ecx
    refine ⟨_, s, rfl, hC5, ?_⟩
    walk_at "rd"
    refine r_clkL hC5 ?_
    refine ⟨_, s, rfl, hC5, _, rfl, by omega, by omega, ?_⟩
    walk_at "rd"
    refine ⟨szc rfl, fun p5 np5 => ?_⟩
    have e6 := Ex.new np5 (o := .lst [.int (s.length : Int), .int (s.length : Int)])
    walk_at "rd"
    refine ⟨szc rfl, fun p6 np6 => ?_⟩
    have e7 := Ex.new np6 (o := .lst [.ref p1, .ref p2, .ref p3, .ref p4, .ref p5])
    have hF : Hd K (upd (upd H5 p5 (.lst [.int (s.length : Int), .int (s.length : Int)])) p6 (.lst [.ref p1, .ref p2, .ref p3, .ref p4, .ref p5])) (.ref p6) [s, wds s, s, s, [(s.length : Int), (s.length : Int)]] :=
      hd_list (.inl (.inl upd_same)) (.cons (hd_ints (.inl (.inl (e7 _ _ (e6 _ _ (e5 _ _ (e4 _ _ (e3 _ _ hp1)))))))) (.cons (hd_ints (.inl (.inl (e7 _ _ (e6 _ _ (e5 _ _ (e4 _ _ hp2))))))) (.cons (hd_ints (.inl (.inl (e7 _ _ (e6 _ _ (e5 _ _ upd_same)))))) (.cons (hd_ints (.inl (.inl (e7 _ _ (e6 _ _ hp4))))) (.cons (hd_ints (ns := [(s.length : Int), (s.length : Int)]) (.inl (.inl (e7 _ _ upd_same)))) .nil)))))
    have e17 := ((e14.trans e5).trans e6).trans e7
    have hS7 := ex_l (e1.trans e17) hS
    have hev7 := e17 _ _ hev
    have hC7 := (hC5.ex e6).ex e7
    generalize upd (upd H5 p5 (.lst [.int (s.length : Int), .int (s.length : Int)])) p6 (.lst [.ref p1, .ref p2, .ref p3, .ref p4, .ref p5]) = H7 at *
    walk_at "rd"
    refine ⟨l, s, rfl, hS7, g, fun w2 H8 nw2 e8 hw2 => ?_⟩
    walk_at "rd"
    refine ⟨szc rfl, fun w5 nw5 => ?_⟩
    have e9 := Ex.new nw5 (o := .lst [.int (s.length : Int), .int (s.length : Int)])
    walk_at "rd"
    refine ⟨szc rfl, fun w6 nw6 => ?_⟩
    have e10 := Ex.new nw6 (o := .lst [.ref l, .ref w2, .ref l, .ref l, .ref w5])
    have hS10 := ex_l ((e8.trans e9).trans e10) hS7
    have hW : Hd K (upd (upd H8 w5 (.lst [.int (s.length : Int), .int (s.length : Int)])) w6 (.lst [.ref l, .ref w2, .ref l, .ref l, .ref w5])) (.ref w6) [s, wds s, s, s, [(s.length : Int), (s.length : Int)]] :=
      hd_list (.inl (.inl upd_same)) (.cons (hd_ints hS10) (.cons (hd_ints (.inl (.inl (e10 _ _ (e9 _ _ hw2))))) (.cons (hd_ints hS10) (.cons (hd_ints hS10) (.cons (hd_ints (ns := [(s.length : Int), (s.length : Int)]) (.inl (.inl (e10 _ _ upd_same)))) .nil)))))
    have hF10 := hd_ex ((e8.trans e9).trans e10) hF
    have e10' := (e8.trans e9).trans e10
    have hev10 := e10' _ _ hev7
    have hC10 := hC7.ex e10'
    have e110 := e1.trans (e17.trans e10')
    generalize upd (upd H8 w5 (.lst [.int (s.length : Int), .int (s.length : Int)])) w6 (.lst [.ref l, .ref w2, .ref l, .ref l, .ref w5]) = H10 at *
    walk_at "rd"
    refine ⟨_, _, PySem.W.Datum.toD [s, wds s, s, s, [(s.length : Int), (s.length : Int)]], 5 * (48 * 12 + 1), rfl, hF10, hW, lay_sh (lay_list (lay_list lay_int)) (by decide) _, fine_rows (fun r hr => ?_) (Nat.le_refl 5), by decide, ?_⟩
    · simp only [List.mem_cons, List.not_mem_nil, or_false] at hr
      rcases hr with rfl | rfl | rfl | rfl | rfl
      · exact ⟨small_stays g, hle⟩
      · exact ⟨small_wds g, by rw [wds_length]; exact hle⟩
      · exact ⟨small_stays g, hle⟩
      · exact ⟨small_stays g, hle⟩
      · refine ⟨fun z hz => ?_, by show 2 ≤ 48; decide⟩
        simp only [List.mem_cons, List.not_mem_nil, or_false] at hz
        rcases hz with rfl | rfl <;> omega
    walk_at "rd"
    refine iteF ?_
    walk_at "rd"
    refine ⟨ev, rfl, ⟨_, .inl (.inl hev10)⟩, lc_rows (walk_list (xs := (idx s.length).map V.int)) (fun i => (servedOf s (i : Int)).map V.int) (fun H' e => .inl (.inl (e _ _ hev10))) (by rw [List.length_map, idx_len]; omega) ?_ ?_⟩
    · rintro i x H11 H12 hi e ⟨rfl, hx⟩ kk hk
      obtain rfl := int_at hx
      rw [List.length_map, idx_len] at hi
      rw [idx_at hi]
      walk_at "rd"
      refine r_clkM (hC10.ex e) ?_
      walk_at "rd"
      exact ⟨_, s, _, rfl, hC10.ex e, by omega, by omega, hk⟩
    intro q1 H11 nq1 e11 R1
    rw [List.length_map, idx_len] at R1
    have hev11 := e11 _ _ hev10
    walk_at "rd"
    refine ⟨ev, rfl, ⟨_, .inl (.inl hev11)⟩, lc_rows (walk_list (xs := (idx s.length).map V.int)) (fun i => (servedOf s (i : Int)).map V.int) (fun H' e => .inl (.inl (e _ _ hev11))) (by rw [List.length_map, idx_len]; omega) ?_ ?_⟩
    · rintro i x H12 H13 hi e ⟨rfl, hx⟩ kk hk
      obtain rfl := int_at hx
      rw [List.length_map, idx_len] at hi
      rw [idx_at hi]
      walk_at "rd"
      exact ⟨l, s, _, rfl, ex_l (e11.trans e) hS10, g, by omega, by omega, hk⟩
    intro q2 H12 nq2 e12 R2
    rw [List.length_map, idx_len] at R2
    have fr : ∀ (f : Nat → List Int), (∀ i, (∀ z ∈ f i, z.natAbs < 1000) ∧ (f i).length ≤ 48) → Fine (PySem.W.Datum.toD ((List.range s.length).map f)) (48 * (48 * 12 + 1)) := fun f hf => fine_rows (fun r hr => by
      obtain ⟨i, _, rfl⟩ := List.mem_map.mp hr
      exact hf i) (by rw [List.length_map, List.length_range]; exact hle)
    walk_at "rd"
    refine ⟨_, _, PySem.W.Datum.toD ((List.range s.length).map fun (i : Nat) => servedOf s (i : Int)), 48 * (48 * 12 + 1), rfl, (R1.ex e12).hd (fun i => servedOf s (i : Int)) (fun i _ => hda_ints _), R2.hd (fun i => servedOf s (i : Int)) (fun i _ => hda_ints _), lay_sh (lay_list (lay_list lay_int)) (by decide) _, fr _ (fun i => small_served g _), by decide, ?_⟩
    walk_at "rd"
    refine iteF ?_
    have hC12 := (hC10.ex e11).ex e12
    have hev12 := e12 _ _ hev11
    have hS12 := ex_l (e11.trans e12) hS10
    walk_at "rd"
    refine ⟨ev, rfl, ⟨_, .inl (.inl hev12)⟩, lc_rows (walk_list (xs := (idx s.length).map V.int)) (fun i => (servingOf s (i : Int)).map V.int) (fun H' e => .inl (.inl (e _ _ hev12))) (by rw [List.length_map, idx_len]; omega) ?_ ?_⟩
    · rintro i x H13 H14 hi e ⟨rfl, hx⟩ kk hk
      obtain rfl := int_at hx
      rw [List.length_map, idx_len] at hi
      rw [idx_at hi]
      walk_at "rd"
      refine r_clkM (hC12.ex e) ?_
      walk_at "rd"
      exact ⟨_, s, _, rfl, hC12.ex e, by omega, by omega, hk⟩
    intro q3 H13 nq3 e13 R3
    rw [List.length_map, idx_len] at R3
    have hev13 := e13 _ _ hev12
    walk_at "rd"
    refine ⟨ev, rfl, ⟨_, .inl (.inl hev13)⟩, lc_rows (walk_list (xs := (idx s.length).map V.int)) (fun i => (servingOf s (i : Int)).map V.int) (fun H' e => .inl (.inl (e _ _ hev13))) (by rw [List.length_map, idx_len]; omega) ?_ ?_⟩
    · rintro i x H14 H15 hi e ⟨rfl, hx⟩ kk hk
      obtain rfl := int_at hx
      rw [List.length_map, idx_len] at hi
      rw [idx_at hi]
      walk_at "rd"
      exact ⟨l, s, _, rfl, ex_l (e13.trans e) hS12, g, hk⟩
    intro q4 H14 nq4 e14' R4
    rw [List.length_map, idx_len] at R4
    walk_at "rd"
    refine ⟨_, _, PySem.W.Datum.toD ((List.range s.length).map fun (i : Nat) => servingOf s (i : Int)), 48 * (48 * 12 + 1), rfl, (R3.ex e14').hd (fun i => servingOf s (i : Int)) (fun i _ => hda_ints _), R4.hd (fun i => servingOf s (i : Int)) (fun i _ => hda_ints _), lay_sh (lay_list (lay_list lay_int)) (by decide) _, fr _ (fun i => small_serving g _), by decide, ?_⟩
    exact k _ (((e110.trans e11).trans e12).trans (e13.trans e14'))

/-! ### Clock.__eq__ -/
theorem sc_Clock___eq__ : FnScope ["self", "other"] ["self", "other"] (defScope s_Clock___eq__) := ⟨rfl, rfl, rfl, by decide +kernel, rfl, by decide +kernel, by decide +kernel⟩

def sp_Clock___eq__ (K : PySem.W.Frag) (d : Ads) : Sp := fun vs H Q _ => ∃ (v w : V) (s t : List Int), vs = [v, w] ∧ Clk K d.c_Clock H v s ∧ Clk K d.c_Clock H w t ∧ Q (.bl (decide (s = t))) H
set_option maxHeartbeats 4000000 in
theorem ok_Clock___eq__ (T : Tx P K mg d) : Okf P w K mg base 1 d.f_Clock___eq__ ["self", "other"] (sp_Clock___eq__ K d) := by
  refine okf_of T.d_Clock___eq__ sc_Clock___eq__ (fun vs H Q E h => ?_) (fun cdv A outer s H vs Q E hr h => ?_)
  · obtain ⟨v, w, s, t, rfl, ⟨p, dx, a, b, rfl, hp, ha, hb, g⟩, ⟨p2, dx2, a2, b2, rfl, hp2, ha2, hb2, g2⟩, k⟩ := h
    rfl
  · obtain ⟨v, w, s, t, rfl, ⟨p, dx, a, b, rfl, hp, ha, hb, g⟩, ⟨p2, dx2, a2, b2, rfl, hp2, ha2, hb2, g2⟩, k⟩ := h
    refine ⟨_, (pss_one (ps_ret (pe_and (pe_callB (k_isi (K := K) rfl) (by rfl) T.z_isinstance (by decide +kernel) (pa_cons (pv 1) (pa_cons (pe_glob (v := .ref d.c_Clock) (by rfl) T.g_Clock rfl) pa_nil))) (pe_one (pe_cmpR (k_eqD (K := K) rfl hr.units) (k_fld (K := K) rfl (pv 0)) (k_fld (K := K) rfl (pv 1)) (nomark _)))))), ?_⟩
    walk_at "rd"
    refine r_isiOwn T.ic_Clock hp2 ?_
    walk_at "rd"
    refine iteT ?_
    walk_at "rd"
    refine ⟨p, _, dx, _, _, rfl, hp, T.cl_Clock, T.n_Clock_kept_stays, clkF_stays _ _, ?_⟩
    walk_at "rd"
    refine ⟨p2, _, dx2, _, _, rfl, hp2, T.cl_Clock, T.n_Clock_kept_stays, clkF_stays _ _, ?_⟩
    exact r_eqT ha ha2 k

/-! ### _law_far -/
theorem sc__law_far : FnScope ["_law_bag_here", "_law_great"] ["_law_bag_here"] (defScope s__law_far) := ⟨rfl, rfl, rfl, by decide +kernel, rfl, by decide +kernel, by decide +kernel⟩

def sp__law_far (K : PySem.W.Frag) (d : Ads) : Sp := fun vs H Q _ => ∃ (b : Addr), vs = [.ref b] ∧ Bag H b ∧ ∀ n H', Ex H H' → Q (.int n) H'
set_option maxHeartbeats 4000000 in
theorem ok__law_far (T : Tx P K mg d) : Okf P w K mg base 2 d.f__law_far ["_law_bag_here"] (sp__law_far K d) := by
  refine okf_of T.d__law_far sc__law_far (fun vs H Q E h => ?_) (fun cdv A outer s H vs Q E hr h => ?_)
  · obtain ⟨b, rfl, hB, k⟩ := h
    rfl
  · obtain ⟨b, rfl, hB, k⟩ := h
    refine ⟨_, (pss_cons (ps_set (i := 1) sc__law_far.nd rfl (by first | exact Or.inl rfl | exact Or.inr rfl) (pe_callTy k_intS (by rfl) T.z_int (by decide +kernel) (pa_cons (pe_op k_addS pe_str (pe_op op_strmul pe_str (pf_call (ok__law_take T) (hr.mono (by decide)) (by rfl) T.g__law_take T.d__law_take.kp (pa_cons (pv 0) (pa_cons pe_int pa_nil))))) pa_nil)))
      (pss_one (ps_ret (pe_op op_add (pe_ix (k_ixL (K := K) rfl) (pe_lst (pa_cons (pe_op op_sub (pf_call (ok__law_take T) (hr.mono (by decide)) (by rfl) T.g__law_take T.d__law_take.kp (pa_cons (pv 0) (pa_cons pe_int pa_nil))) pe_int) (pa_cons (pe_op op_add (pv 1) (pf_call (ok__law_take T) (hr.mono (by decide)) (by rfl) T.g__law_take T.d__law_take.kp (pa_cons (pv 0) (pa_cons pe_int pa_nil)))) (pa_cons (pe_op op_sub pe_int (pv 1)) pa_nil)))) (pf_call (ok__law_take T) (hr.mono (by decide)) (by rfl) T.g__law_take T.d__law_take.kp (pa_cons (pv 0) (pa_cons pe_int pa_nil))) (fun _ _ => rfl)) (pf_call (ok__law_take T) (hr.mono (by decide)) (by rfl) T.g__law_take T.d__law_take.kp (pa_cons (pv 0) (pa_cons pe_int pa_nil))))))), ?_⟩
    walk_at "rd"
    refine ⟨b, _, rfl, hB, by omega, by omega, fun c c0 c1 => ?_⟩
    walk_at "rd"
    refine ⟨_, _, rfl, rfl, c0, by omega, by decide, ?_⟩
    have ht := ten_text ⟨c.toNat, by omega⟩
    rw [Bool.and_eq_true] at ht
    have ec : ((c.toNat : Nat) : Int) = c := by omega
    have ht1 := ht.1
    have ht2 := of_decide_eq_true ht.2
    rw [ec] at ht1 ht2
    obtain ⟨t, ht3⟩ := Option.isSome_iff_exists.mp ht1
    refine ⟨_, _, rfl, rfl, ?_, ?_⟩
    · have : (640 : Nat) ≤ sizeLine := by decide
      rw [Str.length_append] at ht2
      omega
    refine ⟨_, t, rfl, ht3, ht2, ?_⟩
    walk_at "rd"
    refine ⟨b, _, rfl, hB, by omega, by omega, fun c2 _ _ => ?_⟩
    walk_at "rd"
    refine ⟨b, _, rfl, hB, by omega, by omega, fun c3 _ _ => ?_⟩
    walk_at "rd"
    refine ⟨szc rfl, fun p np => ?_⟩
    have e1 : Ex H (upd H p (.lst [.int (c2 - 30), .int (t + c3), .int (0 - t)])) := Ex.new np
    walk_at "rd"
    refine ⟨b, _, rfl, hB.mono (.of e1), by omega, by omega, fun c4 c40 c41 => ?_⟩
    refine r_ixL (v := .int ([c2 - 30, t + c3, 0 - t].getD c4.toNat 0)) (SqL.of upd_same) (at_int (ns := [c2 - 30, t + c3, 0 - t]) c40 c41) ?_
    walk_at "rd"
    refine ⟨b, _, rfl, hB.mono (.of e1), by omega, by omega, fun c5 _ _ => ?_⟩
    walk_at "rd"
    exact k _ _ e1

/-! ### Clock.mirrored -/
theorem sc_Clock_mirrored : FnScope ["self"] ["self"] (defScope s_Clock_mirrored) := ⟨rfl, rfl, rfl, by decide +kernel, rfl, by decide +kernel, by decide +kernel⟩

def sp_Clock_mirrored (K : PySem.W.Frag) (d : Ads) : Sp := fun vs H Q _ => ∃ (v : V) (s : List Int), vs = [v] ∧ Clk K d.c_Clock H v s ∧ ∀ u H', Ex H H' → Clk K d.c_Clock H' u (mirS s) → Q u H'
set_option maxHeartbeats 4000000 in
theorem ok_Clock_mirrored (T : Tx P K mg d) : Okf P w K mg base 5 d.f_Clock_mirrored ["self"] (sp_Clock_mirrored K d) := by
  refine okf_of T.d_Clock_mirrored sc_Clock_mirrored (fun vs H Q E h => ?_) (fun cdv A outer s H vs Q E hr h => ?_)
  · obtain ⟨v, s, rfl, hC, k⟩ := h
    rfl
  · obtain ⟨v, s, rfl, hC, k⟩ := h
    refine ⟨_, (pss_one (ps_ret (pf_make (ok_Clock___init__ T) (hr.mono (by decide)) T.mk_Clock (by rfl) T.g_Clock (pa_cons (k_revT (K := K) rfl (k_fld (K := K) rfl (pv 0))) pa_nil)))), ?_⟩
    have g := hC.good
    obtain ⟨p, dx, a, b', rfl, hp, ha, hb, _⟩ := id hC
    walk_at "rd"
    refine ⟨p, _, dx, _, _, rfl, hp, T.cl_Clock, T.n_Clock_kept_widths, clkF_widths _ _, ?_⟩
    walk_at "rd"
    refine ⟨_, _, rfl, hb, fun t nt => ?_⟩
    walk_at "rd"
    refine mkClk ⟨t, mirS s, rfl, .inr (.inl (.inl ?_)), g.mir, fun u H2 e2 c => k _ H2 ((Ex.new nt).trans e2) c⟩
    rw [upd_same]
    unfold mirS
    rw [List.map_reverse]

/-! ### _law_led -/
theorem sc__law_led : FnScope ["_law_some", "_law_by", "_law_at"] ["_law_some", "_law_by"] (defScope s__law_led) := ⟨rfl, rfl, rfl, by decide +kernel, rfl, by decide +kernel, by decide +kernel⟩

def sp__law_led (K : PySem.W.Frag) (d : Ads) : Sp := fun vs H Q _ => ∃ (l : Addr) (s : List Int) (b : Int), vs = [.ref l, .int b] ∧ SqL K H l (s.map V.int) ∧ 1 ≤ s.length ∧ s.length ≤ 1000 ∧ RetN ((turnS s b).map V.int) H Q
set_option maxHeartbeats 4000000 in
theorem ok__law_led (T : Tx P K mg d) : Okf P w K mg base 1 d.f__law_led ["_law_some", "_law_by"] (sp__law_led K d) := by
  refine okf_of T.d__law_led sc__law_led (fun vs H Q E h => ?_) (fun cdv A outer s H vs Q E hr h => ?_)
  · obtain ⟨l, s, b, rfl, hS, hne, hle, k⟩ := h
    rfl
  · obtain ⟨l, s, b, rfl, hS, hne, hle, k⟩ := h
    refine ⟨_, (pss_one (ps_ret (pe_lc (own := [("_law_at", 2)]) rfl sc__law_led.nd (pi_range1 (by rfl) T.z_range (pa_cons (pe_callB (k_len (K := K) rfl) (by rfl) T.z_len (by decide +kernel) (pa_cons (pv 0) pa_nil)) pa_nil)) (blkOk_by (by kernel_rfl)) (fun _ _ _ _ _ => (pg_name (i := 2) sc__law_led.nd rfl (by first | exact Or.inl rfl | exact Or.inr rfl))) (fun _ _ _ _ _ => pts_nil) (fun _ _ _ _ _ => (pe_ix (k_ixL (K := K) rfl) (pv 0) (pe_op op_mod (pe_callTy k_int1 (by rfl) T.z_int (by decide +kernel) (pa_cons (pe_op op_add (pv 2) (pv 1)) pa_nil)) (pe_callB (k_len (K := K) rfl) (by rfl) T.z_len (by decide +kernel) (pa_cons (pv 0) pa_nil))) (fun _ _ => rfl)))))), ?_⟩
    walk_at "rd"
    refine r_len (.inl hS) ?_
    rw [List.length_map]
    walk_at "rd"
    refine lc_fun walk_r0 (fun i => .int (cyc s ((i : Int) + b))) (fun _ _ => trivial) (by omega) ?_ ?_
    · rintro i x H1 H2 hi e ⟨rfl, rfl⟩ kk hk
      walk_at "rd"
      refine r_len (.inl (ex_l e hS)) ?_
      rw [List.length_map]
      walk_at "rd"
      refine r_ixL (ex_l e hS) (at_cyc hne _) ?_
      exact hk _ (Ex.refl _)
    · intro D H' nD e hD
      refine k D H' nD e ?_
      rw [hD, Int.toNat_natCast]
      unfold turnS
      rw [row_lit]

/-! ### Clock.turned -/
theorem sc_Clock_turned : FnScope ["self", "by", "hour"] ["self", "by"] (defScope s_Clock_turned) := ⟨rfl, rfl, rfl, by decide +kernel, rfl, by decide +kernel, by decide +kernel⟩

def sp_Clock_turned (K : PySem.W.Frag) (d : Ads) : Sp := fun vs H Q _ => ∃ (v : V) (s : List Int) (b : Int), vs = [v, .int b] ∧ Clk K d.c_Clock H v s ∧ ∀ u H', Ex H H' → Clk K d.c_Clock H' u (turnS s b) → Q u H'
set_option maxHeartbeats 4000000 in
theorem ok_Clock_turned (T : Tx P K mg d) : Okf P w K mg base 5 d.f_Clock_turned ["self", "by"] (sp_Clock_turned K d) := by
  refine okf_of T.d_Clock_turned sc_Clock_turned (fun vs H Q E h => ?_) (fun cdv A outer s H vs Q E hr h => ?_)
  · obtain ⟨v, s, b, rfl, hC, k⟩ := h
    rfl
  · obtain ⟨v, s, b, rfl, hC, k⟩ := h
    refine ⟨_, (pss_one (ps_ret (pf_make (ok_Clock___init__ T) (hr.mono (by decide)) T.mk_Clock (by rfl) T.g_Clock (pa_cons (pe_lc (own := [("hour", 2)]) rfl sc_Clock_turned.nd (pi_range1 (by rfl) T.z_range (pa_cons (pf_prop (ok_Clock_hours T) (hr.mono (by decide)) T.cl_Clock T.p_Clock_hours (pv 0)) pa_nil)) (blkOk_by (by kernel_rfl)) (fun _ _ _ _ _ => (pg_name (i := 2) sc_Clock_turned.nd rfl (by first | exact Or.inl rfl | exact Or.inr rfl))) (fun _ _ _ _ _ => pts_nil) (fun _ _ _ _ _ => (pe_ix (k_ixT (K := K) rfl) (k_fld (K := K) rfl (pv 0)) (pe_op op_mod (pe_op op_add (pv 2) (pv 1)) (pf_prop (ok_Clock_hours T) (hr.mono (by decide)) T.cl_Clock T.p_Clock_hours (pv 0))) (fun _ _ => rfl)))) pa_nil)))), ?_⟩
    have g := hC.good
    obtain ⟨p, dx, a, b', rfl, hp, ha, hb, _⟩ := id hC
    have hne := g.ne
    have hle := g.le
    walk_at "rd"
    refine ⟨p, dx, _, rfl, hp, ?_⟩
    refine ⟨_, s, rfl, hC, ?_⟩
    walk_at "rd"
    refine lc_fun walk_r0 (fun i => .int (cyc s ((i : Int) + b))) (fun _ _ => trivial) (by omega) ?_ ?_
    · rintro i x H1 H2 hi e ⟨rfl, rfl⟩ kk hk
      walk_at "rd"
      refine ⟨p, _, dx, _, _, rfl, e _ _ hp, T.cl_Clock, T.n_Clock_kept_stays, clkF_stays _ _, ?_⟩
      walk_at "rd"
      refine ⟨p, dx, _, rfl, e _ _ hp, ?_⟩
      refine ⟨_, s, rfl, hC.ex e, ?_⟩
      walk_at "rd"
      refine r_ixT (tup_mono (.of e) ha) (at_cyc hne _) ?_
      exact hk _ (Ex.refl _)
    · intro D H' nD e hD
      walk_at "rd"
      refine mkClk ⟨D, turnS s b, rfl, .inl (.inl (.inl ?_)), g.turn b, fun u H2 e2 c => k _ H2 (e.trans e2) c⟩
      rw [hD]
      unfold turnS rowOf
      rw [List.map_map, Int.toNat_natCast]
      rfl

/-! ### _law_first_over -/
theorem sc__law_first_over : FnScope ["_law_stays_here", "_law_many", "_law_found", "_law_hour"] ["_law_stays_here"] (defScope s__law_first_over) := ⟨rfl, rfl, rfl, by decide +kernel, rfl, by decide +kernel, by decide +kernel⟩

def sp__law_first_over (K : PySem.W.Frag) (d : Ads) : Sp := fun vs H Q _ => ∃ (l : Addr) (s : List Int), vs = [.ref l] ∧ SqL K H l (s.map V.int) ∧ 1 ≤ s.length ∧ s.length ≤ 48 ∧ ((∀ j, j < s.length → ¬ over s j) → ∀ H', Ex H H' → Q .non H') ∧ ((∃ j, j < s.length ∧ over s j) → ∀ i H', Ex H H' → Q (.int i) H')
set_option maxHeartbeats 4000000 in
theorem ok__law_first_over (T : Tx P K mg d) : Okf P w K mg base 1 d.f__law_first_over ["_law_stays_here"] (sp__law_first_over K d) := by
  refine okf_of T.d__law_first_over sc__law_first_over (fun vs H Q E h => ?_) (fun cdv A outer s H vs Q E hr h => ?_)
  · obtain ⟨l, s, rfl, hL, n1, n8, kN, kI⟩ := h
    rfl
  · obtain ⟨l, s, rfl, hL, n1, n8, kN, kI⟩ := h
    refine ⟨_, (pss_cons (ps_set (i := 1) sc__law_first_over.nd rfl (by first | exact Or.inl rfl | exact Or.inr rfl) (pe_callB (k_len (K := K) rfl) (by rfl) T.z_len (by decide +kernel) (pa_cons (pv 0) pa_nil)))
      (pss_cons (ps_setLc (i := 2) (own := [("_law_hour", 3)]) rfl sc__law_first_over.nd rfl rfl (sw_true rfl rfl rfl (by decide +kernel)) (pi_range1 (by rfl) T.z_range (pa_cons (pv 1) pa_nil)) (blkOk_by (by kernel_rfl)) (fun _ _ _ _ _ => (pg_name (i := 3) sc__law_first_over.nd rfl (by first | exact Or.inl rfl | exact Or.inr rfl))) (fun _ _ _ _ _ => (pts_one (pt_cmpR op_gt (pe_ix (k_ixL (K := K) rfl) (pv 0) (pv 3) (fun _ _ => rfl)) (pe_op op_add pe_int (pe_ix (k_ixL (K := K) rfl) (pv 0) (pe_op op_mod (pe_callTy k_int1 (by rfl) T.z_int (by decide +kernel) (pa_cons (pe_op op_add (pv 3) pe_int) pa_nil)) (pv 1)) (fun _ _ => rfl))) (nomark _)))) (fun _ _ _ _ _ => (pv 3)))
      (pss_one (ps_ret (pe_ifExp (pt_cmpR (k_neD (K := K) rfl hr.units) (pv 2) (pe_lst pa_nil) (nomark _)) (pe_ix (k_ixL (K := K) rfl) (pv 2) pe_int (fun _ _ => rfl)) pe_non))))), ?_⟩
    walk_at "rd"
    refine r_len (by walk_at "kn") ?_
    rw [List.length_map]
    walk_at "rd"
    refine lc_filf walk_r0 (fun (i : Nat) => decide (s.getD i 0 > 1 + cyc s ((i : Int) + 1))) (fun (i : Nat) => .int (i : Int)) (fun _ _ => trivial) (by omega) ?_ ?_
    · rintro i x H1 H2 hi e ⟨rfl, rfl⟩ kt kk hk hk2
      rw [Int.toNat_natCast] at hi
      walk_at "rd"
      refine r_ixL (by walk_at "kn") (at_int (by omega) (by omega)) ?_
      walk_at "rd"
      refine r_ixL (by walk_at "kn") (at_cyc n1 _) ?_
      walk_at "rd"
      rw [Int.toNat_natCast]
      refine r_ite (fun q => ?_) fun q => ?_
      · walk_at "rd"
        exact hk _ (decide_eq_true q) (Ex.refl _)
      · exact hk2 _ (decide_eq_false q) (Ex.refl _)
    intro D1 H1 nD1 e1 hD1
    rw [Int.toNat_natCast] at hD1
    have hD1' : H1 D1 = some (.lst ((((List.range s.length).filter fun (i : Nat) => decide (s.getD i 0 > 1 + cyc s ((i : Int) + 1))).map fun (i : Nat) => (i : Int)).map V.int)) := by
      rw [hD1, List.map_map]
      rfl
    walk_at "rd"
    refine ⟨szc rfl, fun p np => ?_⟩
    walk_at "rd"
    refine r_neL (ms := []) (by walk_at "kn") (by walk_at "kn") ?_
    walk_at "rd"
    refine r_itn (fun q => ?_) fun q => ?_
    · walk_at "rd"
      obtain ⟨z, zs, ez⟩ : ∃ z zs, (((List.range s.length).filter fun (i : Nat) => decide (s.getD i 0 > 1 + cyc s ((i : Int) + 1))).map fun (i : Nat) => (i : Int)) = z :: zs := by
        cases hz : (((List.range s.length).filter fun (i : Nat) => decide (s.getD i 0 > 1 + cyc s ((i : Int) + 1))).map fun (i : Nat) => (i : Int)) with
        | nil => exact absurd hz q
        | cons z zs => exact ⟨z, zs, rfl⟩
      rw [ez] at hD1'
      refine r_ixL (v := .int z) (xs := (z :: zs).map V.int) (by walk_at "kn") (atI_nat (j := 0) rfl) ?_
      refine kI ?_ z _ (by walk_at "ex")
      have hm : z ∈ (((List.range s.length).filter fun (i : Nat) => decide (s.getD i 0 > 1 + cyc s ((i : Int) + 1))).map fun (i : Nat) => (i : Int)) := by rw [ez]; exact List.mem_cons_self
      obtain ⟨j, hj, _⟩ := List.mem_map.mp hm
      have hj2 := List.mem_filter.mp hj
      exact ⟨j, List.mem_range.mp hj2.1, (show s.getD j 0 > 1 + cyc s ((j : Int) + 1) from of_decide_eq_true hj2.2)⟩
    · walk_at "rd"
      refine kN (fun j hj => ?_) _ (by walk_at "ex")
      rw [List.map_eq_nil_iff, fil_nil] at q
      have := q j hj
      unfold over
      exact of_decide_eq_false this

/-! ### _law_elsewhere_right -/
theorem sc__law_elsewhere_right : FnScope ["_law_bag_here", "_law_clock_here", "_law_stays_here", "_law_by", "_law_hour", "_law_some", "_law_row", "_law_stay", "_law_later", "_law_found"] ["_law_bag_here", "_law_clock_here", "_law_stays_here"] (defScope s__law_elsewhere_right) := ⟨rfl, rfl, rfl, by decide +kernel, rfl, by decide +kernel, by decide +kernel⟩

def sp__law_elsewhere_right (K : PySem.W.Frag) (d : Ads) : Sp := fun vs H Q _ => ∃ (b : Addr) (v : V) (l : Addr) (s : List Int), vs = [.ref b, v, .ref l] ∧ Bag H b ∧ Clk K d.c_Clock H v s ∧ SqL K H l (s.map V.int) ∧ ∀ H', Ex H H' → Q (.bl true) H'
set_option maxHeartbeats 4000000 in
theorem ok__law_elsewhere_right (T : Tx P K mg d) : OkP NoG P w K mg base 7 d.f__law_elsewhere_right ["_law_bag_here", "_law_clock_here", "_law_stays_here"] (sp__law_elsewhere_right K d) := by
  refine okP_of T.d__law_elsewhere_right sc__law_elsewhere_right (fun vs H Q E h => ?_) (fun cdv A outer s H vs Q E hg hr h => ?_)
  · obtain ⟨b, v, l, s, rfl, hB, hC, hL, k⟩ := h
    rfl
  · obtain ⟨b, v, l, s, rfl, hB, hC, hL, k⟩ := h
    refine ⟨_, (pss_cons (ps_par (i := 3) (j := 4) (by rfl) sc__law_elsewhere_right.nd rfl rfl (by decide) rfl rfl (pa_cons (pf_call (ok__law_far T) (hr.mono (by decide)) (by rfl) T.g__law_far T.d__law_far.kp (pa_cons (pv 0) pa_nil)) (pa_cons (pf_call (ok__law_take T) (hr.mono (by decide)) (by rfl) T.g__law_take T.d__law_take.kp (pa_cons (pv 0) (pa_cons (pe_callB (k_len (K := K) rfl) (by rfl) T.z_len (by decide +kernel) (pa_cons (pv 2) pa_nil)) pa_nil))) pa_nil)) (by rfl))
      (pss_cons (ps_for PassesOwn.never rfl (k_piT (K := K) rfl (pe_tup (pa_cons (pe_tup (pa_cons (pf_meth (ok_Clock_turned T) (hr.mono (by decide)) T.cl_Clock T.m_Clock_turned (pv 1) (pa_cons (pv 3) pa_nil)) (pa_cons (pf_call (ok__law_led T) (hr.mono (by decide)) (by rfl) T.g__law_led T.d__law_led.kp (pa_cons (pv 2) (pa_cons (pv 3) pa_nil))) pa_nil))) (pa_cons (pe_tup (pa_cons (pf_meth0 (ok_Clock_mirrored T) (hr.mono (by decide)) T.cl_Clock T.m_Clock_mirrored (pv 1)) (pa_cons (k_revL (K := K) rfl (pf_call (ok__law_widths T) (hr.mono (by decide)) (by rfl) T.g__law_widths T.d__law_widths.kp (pa_cons (pv 2) pa_nil))) pa_nil))) pa_nil)))) (k_gtup (K := K) (n := 2) rfl rfl (pgs_cons (pg_name (i := 5) sc__law_elsewhere_right.nd rfl (by first | exact Or.inl rfl | exact Or.inr rfl)) (pgs_cons (pg_name (i := 6) sc__law_elsewhere_right.nd rfl (by first | exact Or.inl rfl | exact Or.inr rfl)) pgs_nil))) (pss_cons (ps_set (i := 7) sc__law_elsewhere_right.nd rfl (by first | exact Or.inl rfl | exact Or.inr rfl) (pe_op op_add pe_int (pf_call (ok__law_take T) (hr.mono (by decide)) (by rfl) T.g__law_take T.d__law_take.kp (pa_cons (pv 0) (pa_cons (pe_callB (k_len (K := K) rfl) (by rfl) T.z_len (by decide +kernel) (pa_cons (pv 2) pa_nil)) pa_nil)))))
      (pss_cons (ps_set (i := 8) sc__law_elsewhere_right.nd rfl (by first | exact Or.inl rfl | exact Or.inr rfl) (pe_op op_cat (pe_op op_cat (pe_slice (k_slL (K := K) rfl) (pv 6) po_none (po_some (pv 4))) (pe_lst (pa_cons (pv 7) pa_nil))) (pe_slice (k_slL (K := K) rfl) (pv 6) (po_some (pe_op op_add (pv 4) pe_int)) po_none)))
      (pss_cons (ps_set (i := 9) sc__law_elsewhere_right.nd rfl (by first | exact Or.inl rfl | exact Or.inr rfl) (pf_call (ok__law_stepped T) (hr.mono (by decide)) (by rfl) T.g__law_stepped T.d__law_stepped.kp (pa_cons (pv 5) (pa_cons (pv 4) (pa_cons (pv 7) pa_nil)))))
      (pss_cons (ps_if (PW.pt (pw_or (pt_cmpR op_ne (pe_cmpR k_isN (pv 9) pe_non (nomark _)) (pe_cmpR k_notN (pf_call (ok__law_first_over T) (hr.mono (by decide)) (by rfl) T.g__law_first_over T.d__law_first_over.kp (pa_cons (pv 8) pa_nil)) pe_non (nomark _)) (nomark _)) (pw_or1 (pt_not (pt_val (pg_call (ok__law_whole T) (fun _ => hg) (hr.mono (by decide)) (by rfl) T.g__law_whole T.d__law_whole.kp (pa_cons (pv 5) (pa_cons (pv 6) pa_nil)))))))) (pss_one (ps_ret pe_bl)) pss_nil)
      (pss_one (ps_if (PW.pt (pw_and (pt_cmpR k_notN (pv 9) pe_non (nomark _)) (pw_and1 (pt_not (pt_val (pg_call (ok__law_whole T) (fun _ => hg) (hr.mono (by decide)) (by rfl) T.g__law_whole T.d__law_whole.kp (pa_cons (pv 9) (pa_cons (pv 8) pa_nil)))))))) (pss_one (ps_ret pe_bl)) pss_nil)))))))
      (pss_one (ps_ret (pg_call (ok__law_whole T) (fun _ => hg) (hr.mono (by decide)) (by rfl) T.g__law_whole T.d__law_whole.kp (pa_cons (pv 1) (pa_cons (pv 2) pa_nil))))))), ?_⟩
    have g := hC.good
    have hn := g.ne
    have hle := g.le
    obtain ⟨n, en⟩ : ∃ n, n = s.length := ⟨_, rfl⟩
    walk_at "rd"
    refine ⟨b, rfl, hB, fun by_ H1 e1 => ?_⟩
    walk_at "rd"
    refine r_len (by walk_at "kn") ?_
    rw [List.length_map, ← en]
    refine ⟨b, _, rfl, (by walk_at "kn"), by omega, by omega, fun h' h0 h1 => ?_⟩
    obtain ⟨h, rfl⟩ : ∃ h : Nat, h' = (h : Int) := ⟨h'.toNat, by omega⟩
    have hh : h < n := by omega
    walk_at "rd"
    refine r_clkM (s := s) (by walk_at "kn") ?_
    walk_at "rd"
    refine ⟨_, s, _, rfl, (by walk_at "kn"), fun u1 H2 e2 hu1 => ?_⟩
    walk_at "rd"
    refine ⟨l, s, _, rfl, (by walk_at "kn"), hn, by omega, fun p1 H3 np1 e3 hp1 => ?_⟩
    walk_at "rd"
    refine ⟨szc rfl, fun t1 nt1 => ?_⟩
    walk_at "rd"
    refine r_clkM (s := s) (by walk_at "kn") ?_
    walk_at "rd"
    refine ⟨_, s, rfl, (by walk_at "kn"), fun u2 H4 e4 hu2 => ?_⟩
    walk_at "rd"
    refine ⟨l, s, rfl, (by walk_at "kn"), g, fun p2 H5 np2 e5 hp2 => ?_⟩
    walk_at "rd"
    refine ⟨p2, _, rfl, (by walk_at "kn"), fun p3 np3 => ?_⟩
    walk_at "rd"
    refine ⟨szc rfl, fun t2 nt2 => ?_⟩
    walk_at "rd"
    refine ⟨szc rfl, fun t3 nt3 => ?_⟩
    walk_at "rd"
    obtain ⟨G, eG⟩ : ∃ G, G = upd (upd (upd H5 p3 (HO.lst (List.map V.int (wds s)).reverse)) t2 (HO.tup [u2, V.ref p3])) t3 (HO.tup [V.ref t1, V.ref t2]) := ⟨_, rfl⟩
    have a1 : G t1 = some (.tup [u1, .ref p1]) := by
      rw [eG]
      exact mv_at (upd_same (H := H3)) (by walk_at "ex")
    have a2 : G t2 = some (.tup [u2, .ref p3]) := by
      rw [eG]
      exact mv_at (upd_same (H := upd H5 p3 (HO.lst (List.map V.int (wds s)).reverse))) (by walk_at "ex")
    have a3 : SqL K G p1 ((turnS s by_).map V.int) := by
      rw [eG]
      exact (by walk_at "kn")
    have a4 : SqL K G p3 ((mirS s).map V.int) := by
      rw [eG]
      unfold mirS
      rw [List.map_reverse]
      exact (by walk_at "kn")
    have a5 : Clk K d.c_Clock G u1 (turnS s by_) := by
      rw [eG]
      exact (by walk_at "kn")
    have a6 : Clk K d.c_Clock G u2 (mirS s) := by
      rw [eG]
      exact (by walk_at "kn")
    have a7 : Clk K d.c_Clock G v s := by
      rw [eG]
      exact (by walk_at "kn")
    have a8 : SqL K G l (s.map V.int) := by
      rw [eG]
      exact (by walk_at "kn")
    have a9 : SqT K G t3 [.ref t1, .ref t2] := by
      rw [eG]
      exact (by walk_at "kn")
    have aB : Bag G b := by
      rw [eG]
      exact (by walk_at "kn")
    have eH : Ex H G := by
      rw [eG]
      exact (by walk_at "ex")
    rw [← eG]
    clear eG e5 e4 e3 e2 e1 hB hC hL hu1 hu2 hp1 hp2
    refine ⟨t3, rfl, ⟨_, a9⟩, ?_⟩
    refine for_w (walk_tup (xs := [V.ref t1, .ref t2])) (fun i σ H' => ∃ z5 z6 z7 z8 z9, σ = [some (.ref b), some v, some (.ref l), some (.int by_), some (.int (h : Int)), z5, z6, z7, z8, z9] ∧ Ex G H') ⟨_, _, _, _, _, rfl, Ex.refl _⟩ (fun _ _ _ _ ⟨_, _, _, _, _, _, q⟩ => ex_t q a9) ?_ ?_
    · rintro i x σ G1 G2 hi ⟨z5, z6, z7, z8, z9, rfl, eg⟩ ⟨rfl, hx⟩
      obtain ⟨t, u, p, r, rfl, ht, hu, hp, hr⟩ : ∃ t u p r, x = .ref t ∧ G t = some (.tup [u, .ref p]) ∧ Clk K d.c_Clock G u r ∧ SqL K G p (r.map V.int) ∧ r.length = n := by
        have := List.mem_of_getElem? hx
        simp only [List.mem_cons, List.not_mem_nil, or_false] at this
        rcases this with rfl | rfl
        · exact ⟨t1, u1, p1, _, rfl, a1, a5, a3, by rw [turnS_length]; omega⟩
        · exact ⟨t2, u2, p3, _, rfl, a2, a6, a4, by rw [mirS_length]; omega⟩
      refine r_pairT (mv_at ht (by walk_at "ex")) ?_
      walk_at "rd"
      refine r_len (by walk_at "kn") ?_
      rw [List.length_map, ← en]
      refine ⟨b, _, rfl, (by walk_at "kn"), by omega, by omega, fun c' c0 c1 => ?_⟩
      walk_at "rd"
      refine ⟨p, _, rfl, (by walk_at "kn"), fun pa1 npa1 => ?_⟩
      rw [cut_take (by omega) (by rw [List.length_map]; omega), Int.toNat_natCast]
      walk_at "rd"
      refine ⟨szc rfl, fun pb1 npb1 => ?_⟩
      walk_at "rd"
      refine ⟨pa1, pb1, _, _, rfl, rfl, (by walk_at "kn"), (by walk_at "kn"), ?_, fun pc1 npc1 => ?_⟩
      · rw [List.length_take, List.length_map, List.length_singleton]
        exact line_le (by omega)
      walk_at "rd"
      refine ⟨p, _, rfl, (by walk_at "kn"), fun pd1 npd1 => ?_⟩
      rw [cut_drop (by omega) (by rw [List.length_map]; omega), show ((h : Int) + 1).toNat = h + 1 by omega]
      walk_at "rd"
      refine ⟨pc1, pd1, _, _, rfl, rfl, (by walk_at "kn"), (by walk_at "kn"), ?_, fun pe1 npe1 => ?_⟩
      · rw [List.length_append, List.length_take, List.length_singleton, List.length_drop, List.length_map]
        exact line_le (by omega)
      rw [set_lstS (by omega : h < r.length)]
      have gr := hu.good
      have gn := gr.ne
      have hok := ok_setS (h := h) gr (c := 1 + c') (by omega) (by omega)
      have hno := no_over hok
      walk_at "rd"
      refine ⟨u, r, h, 1 + c', rfl, (by walk_at "kn"), by omega, by omega, by omega, fun gg w G3 e3 hw => ?_, fun gg G3 e3 => ?_⟩
      · obtain ⟨wq, dwq, awq, bwq, rfl, hwq, _⟩ := id hw
        walk_at "rd"
        refine ⟨pe1, setS r h (1 + c'), rfl, (by walk_at "kn"), by rw [setS_length]; omega, by rw [setS_length]; omega, fun _ G4 e4 => ?_, fun ⟨j, hj, q⟩ => absurd q (hno.mp gg j hj)⟩
        walk_at "rd"
        refine iteF ?_
        walk_at "rd"
        refine ⟨u, p, r, rfl, (by walk_at "kn"), (by walk_at "kn"), fun G5 e5 => ?_⟩
        walk_at "rd"
        refine iteF ?_
        walk_at "rd"
        refine iteT ?_
        walk_at "rd"
        refine ⟨_, pe1, setS r h (1 + c'), rfl, (by walk_at "kn"), (by walk_at "kn"), fun G6 e6 => ?_⟩
        walk_at "rd"
        refine iteF ?_
        walk_at "rd"
        exact ⟨_, _, _, _, _, rfl, (by walk_at "ex")⟩
      · walk_at "rd"
        refine ⟨pe1, setS r h (1 + c'), rfl, (by walk_at "kn"), by rw [setS_length]; omega, by rw [setS_length]; omega, fun q => absurd (hno.mpr q) gg, fun _ j G4 e4 => ?_⟩
        walk_at "rd"
        refine iteF ?_
        walk_at "rd"
        refine ⟨u, p, r, rfl, (by walk_at "kn"), (by walk_at "kn"), fun G5 e5 => ?_⟩
        walk_at "rd"
        refine iteF ?_
        walk_at "rd"
        refine iteF ?_
        walk_at "rd"
        exact ⟨_, _, _, _, _, rfl, (by walk_at "ex")⟩
    rintro σ G1 ⟨z5, z6, z7, z8, z9, rfl, eg⟩
    walk_at "rd"
    refine ⟨v, l, s, rfl, (by walk_at "kn"), (by walk_at "kn"), fun G5 e5 => ?_⟩
    walk_at "rd"
    exact k _ (by walk_at "ex")

/-! ### law -/
theorem sc_law : FnScope ["_law_script", "_law_bag_here", "_law_turn", "_law_many", "_law_stays_here", "_law_row", "_law_clock_here", "_law_other", "_law_greater", "_law_hour", "_law_wide", "_law_one", "_law_stay", "_law_found"] ["_law_script"] (defScope s_law) := ⟨rfl, rfl, rfl, by decide +kernel, rfl, by decide +kernel, by decide +kernel⟩

def sp_law (K : PySem.W.Frag) (d : Ads) : Sp := spLaw K
theorem four : ∀ i : Nat, i < 4 → 1 ≤ ([9, 6, 3, 2] : List Int).getD i 0 ∧ ([9, 6, 3, 2] : List Int).getD i 0 ≤ 9 := by decide
set_option maxHeartbeats 4000000 in
theorem ok_law (T : Tx P K mg d) : OkP NoG P w K mg base 8 d.f_law ["_law_script"] (sp_law K d) := by
  refine okP_of T.d_law sc_law (fun vs H Q E h => ?_) (fun cdv A outer s H vs Q E hg hr h => ?_)
  · obtain ⟨a, ns, rfl, hS, hl, k⟩ := h
    rfl
  · obtain ⟨a, ns, rfl, hS, hl, k⟩ := h
    refine ⟨_, (pss_cons (ps_set (i := 1) sc_law.nd rfl (by first | exact Or.inl rfl | exact Or.inr rfl) (pf_call (ok__law_bag T) (hr.mono (by decide)) (by rfl) T.g__law_bag T.d__law_bag.kp (pa_cons (pv 0) pa_nil)))
      (pss_cons (ps_for PassesOwn.never rfl (pi_range1 (by rfl) T.z_range (pa_cons pe_int pa_nil)) (pg_name (i := 2) sc_law.nd rfl (by first | exact Or.inl rfl | exact Or.inr rfl)) (pss_cons (ps_set (i := 3) sc_law.nd rfl (by first | exact Or.inl rfl | exact Or.inr rfl) (pe_op op_add pe_int (pf_call (ok__law_take T) (hr.mono (by decide)) (by rfl) T.g__law_take T.d__law_take.kp (pa_cons (pv 1) (pa_cons (pe_ix (k_ixL (K := K) rfl) (pe_lst (pa_cons pe_int (pa_cons pe_int (pa_cons pe_int (pa_cons pe_int pa_nil))))) (pv 2) (fun _ _ => rfl)) pa_nil)))))
      (pss_cons (ps_asg (pe_tup (pa_cons (pf_call (ok__law_stays T) (hr.mono (by decide)) (by rfl) T.g__law_stays T.d__law_stays.kp (pa_cons (pv 1) (pa_cons (pv 3) pa_nil))) (pa_cons (pf_call (ok__law_stays T) (hr.mono (by decide)) (by rfl) T.g__law_stays T.d__law_stays.kp (pa_cons (pv 1) (pa_cons (pv 3) pa_nil))) pa_nil))) (k_gtup (K := K) (n := 2) rfl rfl (pgs_cons (pg_name (i := 4) sc_law.nd rfl (by first | exact Or.inl rfl | exact Or.inr rfl)) (pgs_cons (pg_name (i := 5) sc_law.nd rfl (by first | exact Or.inl rfl | exact Or.inr rfl)) pgs_nil))))
      (pss_cons (ps_par (i := 6) (j := 7) (by rfl) sc_law.nd rfl rfl (by decide) rfl rfl (pa_cons (pf_call (ok__law_clock T) (hr.mono (by decide)) (by rfl) T.g__law_clock T.d__law_clock.kp (pa_cons (pv 1) (pa_cons (pv 4) pa_nil))) (pa_cons (pf_call (ok__law_clock T) (hr.mono (by decide)) (by rfl) T.g__law_clock T.d__law_clock.kp (pa_cons (pv 1) (pa_cons (pv 5) pa_nil))) pa_nil)) (by rfl))
      (pss_cons (ps_setLc (i := 8) (own := [("_law_hour", 9)]) rfl sc_law.nd rfl rfl (sw_true rfl rfl rfl (by decide +kernel)) (pi_range1 (by rfl) T.z_range (pa_cons (pv 3) pa_nil)) (blkOk_by (by kernel_rfl)) (fun _ _ _ _ _ => (pg_name (i := 9) sc_law.nd rfl (by first | exact Or.inl rfl | exact Or.inr rfl))) (fun _ _ _ _ _ => pts_nil) (fun _ _ _ _ _ => (pe_callB (k_max2 rfl) (by rfl) T.z_max (by decide +kernel) (pa_cons (pe_ix (k_ixL (K := K) rfl) (pv 4) (pv 9) (fun _ _ => rfl)) (pa_cons (pe_ix (k_ixL (K := K) rfl) (pv 5) (pv 9) (fun _ _ => rfl)) pa_nil)))))
      (pss_cons (ps_set (i := 10) sc_law.nd rfl (by first | exact Or.inl rfl | exact Or.inr rfl) (pf_call (ok__law_led_to T) (hr.mono (by decide)) (by rfl) T.g__law_led_to T.d__law_led_to.kp (pa_cons (pv 6) (pa_cons (pv 8) pa_nil))))
      (pss_cons (ps_if (PW.pt (pw_or (pt_not (pt_val (pg_call (ok__law_whole T) (fun _ => hg) (hr.mono (by decide)) (by rfl) T.g__law_whole T.d__law_whole.kp (pa_cons (pv 6) (pa_cons (pv 4) pa_nil))))) (pw_or (pt_not (pt_val (pg_call (ok__law_whole T) (fun _ => hg) (hr.mono (by decide)) (by rfl) T.g__law_whole T.d__law_whole.kp (pa_cons (pv 10) (pa_cons (pv 8) pa_nil))))) (pw_or1 (pt_not (pt_val (pg_call (ok__law_whole T) (fun _ => hg) (hr.mono (by decide)) (by rfl) T.g__law_whole T.d__law_whole.kp (pa_cons (pv 6) (pa_cons (pv 4) pa_nil))))))))) (pss_one (ps_ret pe_bl)) pss_nil)
      (pss_cons (ps_if (PW.pt (pw_or (pt_cmpR (op_neB (ok_Clock___eq__ T) (hr.mono (by decide)) T.m_Clock___eq__.at_ T.m_Clock___eq__.fn T.ne_Clock.1 T.ne_Clock.2) (pv 10) (pf_make (ok_Clock___init__ T) (hr.mono (by decide)) T.mk_Clock (by rfl) T.g_Clock (pa_cons (pv 8) pa_nil)) (nomark _)) (pw_or (pt_cmpR (op_neB (ok_Clock___eq__ T) (hr.mono (by decide)) T.m_Clock___eq__.at_ T.m_Clock___eq__.fn T.ne_Clock.1 T.ne_Clock.2) (pf_call (ok__law_led_to T) (hr.mono (by decide)) (by rfl) T.g__law_led_to T.d__law_led_to.kp (pa_cons (pv 10) (pa_cons (pv 5) pa_nil))) (pv 7) (nomark _)) (pw_or1 (pt_not (pt_val (pg_call (ok__law_whole T) (fun _ => hg) (hr.mono (by decide)) (by rfl) T.g__law_whole T.d__law_whole.kp (pa_cons (pv 10) (pa_cons (pv 8) pa_nil))))))))) (pss_one (ps_ret pe_bl)) pss_nil)
      (pss_cons (ps_if (pt_not (pt_val (pg_call (ok__law_elsewhere_right T) (fun _ => hg) (hr.mono (by decide)) (by rfl) T.g__law_elsewhere_right T.d__law_elsewhere_right.kp (pa_cons (pv 1) (pa_cons (pv 6) (pa_cons (pv 4) pa_nil)))))) (pss_one (ps_ret pe_bl)) pss_nil)
      (pss_cons (ps_for PassesOwn.never rfl (pi_range1 (by rfl) T.z_range (pa_cons (pv 3) pa_nil)) (pg_name (i := 9) sc_law.nd rfl (by first | exact Or.inl rfl | exact Or.inr rfl)) (pss_one (ps_if (pt_cmpR (k_neD (K := K) rfl hr.units) (pe_lc (own := [("_law_one", 11)]) rfl sc_law.nd (k_piL (K := K) rfl (pf_meth (ok_Clock_served T) (hr.mono (by decide)) T.cl_Clock T.m_Clock_served (pv 6) (pa_cons (pv 9) pa_nil))) (blkOk_by (by kernel_rfl)) (fun _ _ _ _ _ => (pg_name (i := 11) sc_law.nd rfl (by first | exact Or.inl rfl | exact Or.inr rfl))) (fun _ _ _ _ _ => (pts_one (pt_cmpR (k_notIn (K := K) rfl) (pv 11) (pf_meth (ok_Clock_served T) (hr.mono (by decide)) T.cl_Clock T.m_Clock_served (pv 10) (pa_cons (pv 9) pa_nil)) (by rfl)))) (fun _ _ _ _ _ => (pv 11))) (pe_lst pa_nil) (nomark _)) (pss_one (ps_ret pe_bl)) pss_nil)))
      (pss_one (ps_for PassesOwn.never rfl (pi_range1 (by rfl) T.z_range (pa_cons (pv 3) pa_nil)) (pg_name (i := 9) sc_law.nd rfl (by first | exact Or.inl rfl | exact Or.inr rfl)) (pss_one (ps_for PassesOwn.never rfl (pi_range2 (by rfl) T.z_range (pa_cons pe_int (pa_cons (pe_op op_add (pv 3) pe_int) pa_nil))) (pg_name (i := 12) sc_law.nd rfl (by first | exact Or.inl rfl | exact Or.inr rfl)) (pss_cons (ps_set (i := 5) sc_law.nd rfl (by first | exact Or.inl rfl | exact Or.inr rfl) (pe_op op_cat (pe_op op_cat (pe_slice (k_slL (K := K) rfl) (pv 4) po_none (po_some (pv 9))) (pe_lst (pa_cons (pv 12) pa_nil))) (pe_slice (k_slL (K := K) rfl) (pv 4) (po_some (pe_op op_add (pv 9) pe_int)) po_none)))
      (pss_cons (ps_set (i := 13) sc_law.nd rfl (by first | exact Or.inl rfl | exact Or.inr rfl) (pf_call (ok__law_stepped T) (hr.mono (by decide)) (by rfl) T.g__law_stepped T.d__law_stepped.kp (pa_cons (pv 6) (pa_cons (pv 9) (pa_cons (pv 12) pa_nil)))))
      (pss_cons (ps_if (pt_cmpR op_ne (pe_cmpR k_isN (pv 13) pe_non (nomark _)) (pe_cmpR k_notN (pf_call (ok__law_first_over T) (hr.mono (by decide)) (by rfl) T.g__law_first_over T.d__law_first_over.kp (pa_cons (pv 5) pa_nil)) pe_non (nomark _)) (nomark _)) (pss_one (ps_ret pe_bl)) pss_nil)
      (pss_cons (ps_if (PW.pt (pw_and (pt_cmpR k_notN (pv 13) pe_non (nomark _)) (pw_and1 (PW.pt (pw_or (pt_cmpR (op_neB (ok_Clock___eq__ T) (hr.mono (by decide)) T.m_Clock___eq__.at_ T.m_Clock___eq__.fn T.ne_Clock.1 T.ne_Clock.2) (pv 13) (pf_make (ok_Clock___init__ T) (hr.mono (by decide)) T.mk_Clock (by rfl) T.g_Clock (pa_cons (pv 5) pa_nil)) (nomark _)) (pw_or1 (pt_not (pt_val (pg_call (ok__law_whole T) (fun _ => hg) (hr.mono (by decide)) (by rfl) T.g__law_whole T.d__law_whole.kp (pa_cons (pv 13) (pa_cons (pv 5) pa_nil))))))))))) (pss_one (ps_ret pe_bl)) pss_nil)
      (pss_one (ps_if (pt_not (pt_val (pg_call (ok__law_whole T) (fun _ => hg) (hr.mono (by decide)) (by rfl) T.g__law_whole T.d__law_whole.kp (pa_cons (pv 6) (pa_cons (pv 4) pa_nil))))) (pss_one (ps_ret pe_bl)) pss_nil))))))))))))))))))))
      (pss_one (ps_ret pe_bl)))), ?_⟩
    walk_at "rd"
    refine ⟨a, ns, rfl, hS, hl, fun b H1 e1 hB1 => ?_⟩
    walk_at "rd"
    refine for_w walk_r0 (fun i σ H' => (∃ y2 y3 y4 y5 y6 y7 y8 y9 y10 y11 y12 y13, σ = [some (.ref a), some (.ref b), y2, y3, y4, y5, y6, y7, y8, y9, y10, y11, y12, y13]) ∧ Bag H' b) ⟨⟨_, _, _, _, _, _, _, _, _, _, _, _, rfl⟩, hB1⟩ (fun _ _ _ _ _ => trivial) ?_ ?_
    · rintro i x σ H2 H3 hi ⟨⟨y2, y3, y4, y5, y6, y7, y8, y9, y10, y11, y12, y13, rfl⟩, hB⟩ ⟨rfl, rfl⟩
      have hi4 : i < 4 := hi
      walk_at "rd"
      refine ⟨szc rfl, fun l nl => ?_⟩
      walk_at "rd"
      refine r_ixL (SqL.of upd_same) (at_int (ns := [9, 6, 3, 2]) (by omega) (by show (i : Int) < 4; omega)) ?_
      have hu := four i (by omega)
      rw [Int.toNat_natCast]
      refine ⟨b, _, rfl, (by walk_at "kn"), by omega, by omega, fun c c0 c1 => ?_⟩
      obtain ⟨n, hn⟩ : ∃ n : Nat, 1 + c = (n : Int) := ⟨(1 + c).toNat, by omega⟩
      have n1 : 1 ≤ n := by omega
      have n8 : n ≤ 9 := by omega
      walk_at "rd"
      rw [hn]
      refine ⟨b, n, rfl, (by walk_at "kn"), by omega, by omega, fun s sl g ps H4 nps e4 hL => ?_⟩
      walk_at "rd"
      refine ⟨b, n, rfl, (by walk_at "kn"), by omega, by omega, fun t tl gt pt H5 npt e5 hT => ?_⟩
      walk_at "rd"
      refine ⟨szc rfl, fun q1 nq1 => r_pair ?_⟩
      walk_at "rd"
      refine ⟨b, ps, s, rfl, (by walk_at "kn"), (by walk_at "kn"), g, fun v H6 e6 hC => ?_⟩
      walk_at "rd"
      refine ⟨b, pt, t, rfl, (by walk_at "kn"), (by walk_at "kn"), gt, fun w H7 e7 hO => ?_⟩
      walk_at "rd"
      refine lc_fun walk_r0 (fun (i : Nat) => .int (max (cyc s (i : Int)) (cyc t (i : Int)))) (fun _ _ => trivial) (by omega) ?_ ?_
      · rintro i x G1 G2 hi e ⟨rfl, rfl⟩ kk hk
        rw [Int.toNat_natCast] at hi
        walk_at "rd"
        refine r_ixL (by walk_at "kn") (at_int (by omega) (by omega)) ?_
        walk_at "rd"
        refine r_ixL (by walk_at "kn") (at_int (by omega) (by omega)) ?_
        walk_at "rd"
        rw [Int.toNat_natCast, ← cyc_at (by omega), ← cyc_at (by omega)]
        rw [show (if cyc t (i : Int) > cyc s (i : Int) then cyc t (i : Int) else cyc s (i : Int)) = max (cyc s (i : Int)) (cyc t (i : Int)) by split <;> omega]
        exact hk _ (Ex.refl _)
      intro pg H8 npg e8 hpg
      have hpg' : H8 pg = some (.lst ((mxS s t).map V.int)) := by
        rw [hpg, Int.toNat_natCast]
        unfold mxS
        rw [row_lit, sl]
      have gm := g.mxS gt (by omega)
      walk_at "rd"
      refine ⟨v, pg, s, mxS s t, rfl, (by walk_at "kn"), (by walk_at "kn"), gm, mxS_length s t, dir_up (by omega) (by omega), fun u H9 e9 hU => ?_⟩
      walk_at "rd"
      refine ⟨v, ps, s, rfl, (by walk_at "kn"), (by walk_at "kn"), fun G1 f1 => ?_⟩
      walk_at "rd"
      refine iteF ?_
      walk_at "rd"
      refine ⟨u, pg, mxS s t, rfl, (by walk_at "kn"), (by walk_at "kn"), fun G2 f2 => ?_⟩
      walk_at "rd"
      refine iteF ?_
      walk_at "rd"
      refine ⟨v, ps, s, rfl, (by walk_at "kn"), (by walk_at "kn"), fun G3 f3 => ?_⟩
      walk_at "rd"
      refine iteF ?_
      walk_at "rd"
      refine mkClkX (s := mxS s t) (by walk_at "kn") gm.ok (fun _ u2 J1 j1 hU2 => ?_) fun h hh ho => absurd ho (good_not gm h hh)
      refine r_clk2N (s := mxS s t) (t := mxS s t) (by walk_at "kn") (by walk_at "kn") ?_
      refine ⟨_, _, mxS s t, mxS s t, rfl, (by walk_at "kn"), (by walk_at "kn"), ?_⟩
      rw [decide_eq_true rfl]
      walk_at "rd"
      refine iteF ?_
      walk_at "rd"
      refine ⟨u, pt, mxS s t, t, rfl, (by walk_at "kn"), (by walk_at "kn"), gt, by rw [mxS_length]; omega, dir_down (by omega) (by omega), fun u3 J2 j2 hU3 => ?_⟩
      walk_at "rd"
      refine r_clk2N (s := t) (t := t) (by walk_at "kn") (by walk_at "kn") ?_
      refine ⟨_, _, t, t, rfl, (by walk_at "kn"), (by walk_at "kn"), ?_⟩
      rw [decide_eq_true rfl]
      walk_at "rd"
      refine iteF ?_
      walk_at "rd"
      refine ⟨u, pg, mxS s t, rfl, (by walk_at "kn"), (by walk_at "kn"), fun J3 j3 => ?_⟩
      walk_at "rd"
      refine iteF ?_
      walk_at "rd"
      refine ⟨b, v, ps, s, rfl, (by walk_at "kn"), (by walk_at "kn"), (by walk_at "kn"), fun J4 j4 => ?_⟩
      walk_at "rd"
      refine iteF ?_
      walk_at "rd"
      have k1 : Clk K d.c_Clock J4 v s := (by walk_at "kn")
      have k2 : Clk K d.c_Clock J4 u (mxS s t) := (by walk_at "kn")
      have k3 : SqL K J4 ps (s.map V.int) := (by walk_at "kn")
      have k4 : Bag J4 b := (by walk_at "kn")
      clear hU3 hU2 hU hO hC hL hT hB hpg hpg'
      refine for_w walk_r0 (fun j σ H' => (∃ z9 z11, σ = [some (.ref a), some (.ref b), some (.int (i : Int)), some (.int (n : Int)), some (.ref ps), some (.ref pt), some v, some w, some (.ref pg), z9, some u, z11, y12, y13]) ∧ Ex J4 H') ⟨⟨_, _, rfl⟩, Ex.refl _⟩ (fun _ _ _ _ _ => trivial) ?_ ?_
      · rintro j x σ L1 L2 hj ⟨⟨z9, z11, rfl⟩, l1⟩ ⟨rfl, rfl⟩
        have hj : j < n := by omega
        walk_at "rd"
        refine r_clkM (s := s) (by walk_at "kn") ?_
        walk_at "rd"
        refine ⟨v, s, _, rfl, (by walk_at "kn"), by omega, by omega, fun p1 L3 np1 l3 hp1 => ?_⟩
        walk_at "rd"
        refine ⟨p1, rfl, ⟨_, .inl (.inl hp1)⟩, ?_⟩
        refine lc_filf (walk_list (xs := (servedOf s (j : Int)).map V.int)) (fun _ => false) (fun _ => .int 0) (fun _ e => .inl (.inl (e _ _ hp1))) (by rw [List.length_map]; have := (small_served g (j : Int)).2; omega) ?_ ?_
        · rintro o x L4 L5 ho e ⟨rfl, hx⟩ kt kk hk hk2
          rw [List.length_map] at ho
          obtain ⟨z, rfl, hz⟩ : ∃ z, x = .int z ∧ z ∈ servedOf s (j : Int) := by
            obtain ⟨z, hz, rfl⟩ := List.mem_map.mp (List.mem_of_getElem? hx)
            exact ⟨z, rfl, hz⟩
          walk_at "rd"
          refine r_clkM (s := mxS s t) (by walk_at "kn") ?_
          walk_at "rd"
          refine ⟨u, mxS s t, _, rfl, (by walk_at "kn"), by omega, by rw [mxS_length]; omega, fun p2 L6 np2 l6 hp2 => ?_⟩
          walk_at "rd"
          refine r_notInI (ns := servedOf (mxS s t) (j : Int)) (by walk_at "kn") ?_
          rw [decide_eq_true (served_up (t := t) (by omega) (by omega) _ z hz)]
          walk_at "rd"
          refine iteF ?_
          exact hk2 _ rfl (by walk_at "ex")
        intro p2 L4 np2 l4 hp2
        have hp2' : L4 p2 = some (.lst ([] : List V)) := by
          rw [hp2]
          simp
        walk_at "rd"
        refine ⟨szc rfl, fun p3 np3 => ?_⟩
        walk_at "rd"
        refine r_neL (ns := []) (ms := []) (by walk_at "kn") (by walk_at "kn") ?_
        rw [decide_eq_true rfl]
        walk_at "rd"
        refine iteF ?_
        walk_at "rd"
        exact ⟨⟨_, _, rfl⟩, (by walk_at "ex")⟩
      rintro σ L1 ⟨⟨z9, z11, rfl⟩, l1⟩
      walk_at "rd"
      refine for_w walk_r0 (fun j σ H' => (∃ z5 z9 z12 z13, σ = [some (.ref a), some (.ref b), some (.int (i : Int)), some (.int (n : Int)), some (.ref ps), z5, some v, some w, some (.ref pg), z9, some u, z11, z12, z13]) ∧ Ex J4 H') ⟨⟨_, _, _, _, rfl⟩, l1⟩ (fun _ _ _ _ _ => trivial) ?_ ?_
      · rintro j x σ L2 L3 hj ⟨⟨z5, z9, z12, z13, rfl⟩, l2⟩ ⟨rfl, rfl⟩
        have hj : j < n := by omega
        walk_at "rd"
        refine ⟨1, (n : Int) + 1, rfl, by omega, ?_⟩
        refine for_w (walk_range (lo := 1)) (fun o σ H' => (∃ z5 z12 z13, σ = [some (.ref a), some (.ref b), some (.int (i : Int)), some (.int (n : Int)), some (.ref ps), z5, some v, some w, some (.ref pg), some (.int (j : Int)), some u, z11, z12, z13]) ∧ Ex J4 H') ⟨⟨_, _, _, rfl⟩, l2⟩ (fun _ _ _ _ _ => trivial) ?_ ?_
        · rintro o x σ M1 M2 ho ⟨⟨z5, z12, z13, rfl⟩, m1⟩ ⟨rfl, rfl⟩
          walk_at "rd"
          refine ⟨ps, _, rfl, (by walk_at "kn"), fun pa1 npa1 => ?_⟩
          rw [cut_take (by omega) (by rw [List.length_map]; omega), Int.toNat_natCast]
          walk_at "rd"
          refine ⟨szc rfl, fun pb1 npb1 => ?_⟩
          walk_at "rd"
          refine ⟨pa1, pb1, _, _, rfl, rfl, (by walk_at "kn"), (by walk_at "kn"), ?_, fun pc1 npc1 => ?_⟩
          · rw [List.length_take, List.length_map, List.length_singleton]
            exact line_le (by omega)
          walk_at "rd"
          refine ⟨ps, _, rfl, (by walk_at "kn"), fun pd1 npd1 => ?_⟩
          rw [cut_drop (by omega) (by rw [List.length_map]; omega), show ((j : Int) + 1).toNat = j + 1 by omega]
          walk_at "rd"
          refine ⟨pc1, pd1, _, _, rfl, rfl, (by walk_at "kn"), (by walk_at "kn"), ?_, fun pe1 npe1 => ?_⟩
          · rw [List.length_append, List.length_take, List.length_singleton, List.length_drop, List.length_map]
            exact line_le (by omega)
          rw [set_lstS (by omega : j < s.length)]
          walk_at "rd"
          have ho2 : o < n := by omega
          have hok := ok_setS (h := j) g (c := 1 + (o : Int)) (by omega) (by omega)
          have hno := no_over hok
          refine ⟨v, s, j, 1 + (o : Int), rfl, (by walk_at "kn"), by omega, by omega, by omega, fun gg w M3 m3 hw => ?_, fun gg M3 m3 => ?_⟩
          · obtain ⟨wq, dwq, awq, bwq, rfl, hwq, _⟩ := id hw
            walk_at "rd"
            refine ⟨pe1, setS s j (1 + (o : Int)), rfl, (by walk_at "kn"), by rw [setS_length]; omega, by rw [setS_length]; omega, fun _ M4 m4 => ?_, fun ⟨j, hj, q⟩ => absurd q (hno.mp gg j hj)⟩
            walk_at "rd"
            refine iteF ?_
            walk_at "rd"
            refine iteT ?_
            walk_at "rd"
            refine mkClkX (s := setS s j (1 + (o : Int))) (by walk_at "kn") hok (fun _ w2 M5 m5 hw2 => ?_) fun h hh ho => absurd ho (good_not gg h hh)
            refine r_clk2N (s := setS s j (1 + (o : Int))) (t := setS s j (1 + (o : Int))) (by walk_at "kn") (by walk_at "kn") ?_
            refine ⟨_, _, setS s j (1 + (o : Int)), setS s j (1 + (o : Int)), rfl, (by walk_at "kn"), (by walk_at "kn"), ?_⟩
            rw [decide_eq_true rfl]
            walk_at "rd"
            refine iteF ?_
            walk_at "rd"
            refine ⟨_, pe1, setS s j (1 + (o : Int)), rfl, (by walk_at "kn"), (by walk_at "kn"), fun M6 m6 => ?_⟩
            walk_at "rd"
            refine iteF ?_
            walk_at "rd"
            refine ⟨v, ps, s, rfl, (by walk_at "kn"), (by walk_at "kn"), fun M7 m7 => ?_⟩
            walk_at "rd"
            refine iteF ?_
            walk_at "rd"
            exact ⟨⟨_, _, _, rfl⟩, (by walk_at "ex")⟩
          · walk_at "rd"
            refine ⟨pe1, setS s j (1 + (o : Int)), rfl, (by walk_at "kn"), by rw [setS_length]; omega, by rw [setS_length]; omega, fun q => absurd (hno.mpr q) gg, fun _ j4 M4 m4 => ?_⟩
            walk_at "rd"
            refine iteF ?_
            walk_at "rd"
            refine iteF ?_
            walk_at "rd"
            refine iteF ?_
            walk_at "rd"
            refine ⟨v, ps, s, rfl, (by walk_at "kn"), (by walk_at "kn"), fun M7 m7 => ?_⟩
            walk_at "rd"
            refine iteF ?_
            walk_at "rd"
            exact ⟨⟨_, _, _, rfl⟩, (by walk_at "ex")⟩
        rintro σ M1 ⟨⟨z5, z12, z13, rfl⟩, m1⟩
        walk_at "rd"
        exact ⟨⟨_, _, _, _, rfl⟩, m1⟩
      rintro σ M1 ⟨⟨z5, z9, z12, z13, rfl⟩, m1⟩
      walk_at "rd"
      exact ⟨⟨_, _, _, _, _, _, _, _, _, _, _, _, rfl⟩, k4.mono (.of m1)⟩
    rintro σ H2 ⟨⟨y2, y3, y4, y5, y6, y7, y8, y9, y10, y11, y12, y13, rfl⟩, hB⟩
    walk_at "rd"
    exact k _
end

theorem all_mk {P : Program} {w : World} {K : PySem.W.Frag} {h : Heap} {mg : Str → Option Value} {fa : Addr} (X : K.In h) (G : h.Ns mainGlobals mg) (hfa : mg "law" = some (.ref fa))
    {c_Clock f__law_bag f__law_take f__law_stays f_is_integer f_are_stays f_need_order f_width_of f_Clock___init__ f__law_clock f_is_hour f_Clock___getitem__ f_Clock_hours q_Clock_hours f_Clock_with_stay f__law_stepped f__law_led_to f_Clock___len__ f_Clock___iter__ f_Clock_widths f_Clock_stays f__law_alike f__law_serving f__law_widths f__law_served f_Clock_served f_Clock_serving f__law_whole f_Clock___eq__ f__law_far f_Clock_mirrored f__law_led f_Clock_turned f__law_first_over f__law_elsewhere_right f_law c_NeedError c_NoHour fi_NoHour c_Overtaken fi_Overtaken c_Wrong fi_Wrong : Addr}
    {od__law_bag an__law_bag : Option Addr} {sl__law_bag : Array (Option Value)} {oc__law_bag kV__law_bag dc__law_bag pm__law_bag cd__law_bag ct__law_bag : Value}
    {od__law_take an__law_take : Option Addr} {sl__law_take : Array (Option Value)} {oc__law_take kV__law_take dc__law_take pm__law_take cd__law_take ct__law_take : Value}
    {od__law_stays an__law_stays : Option Addr} {sl__law_stays : Array (Option Value)} {oc__law_stays kV__law_stays dc__law_stays pm__law_stays cd__law_stays ct__law_stays : Value}
    {od_is_integer an_is_integer : Option Addr} {sl_is_integer : Array (Option Value)} {oc_is_integer kV_is_integer dc_is_integer pm_is_integer cd_is_integer ct_is_integer : Value}
    {od_are_stays an_are_stays : Option Addr} {sl_are_stays : Array (Option Value)} {oc_are_stays kV_are_stays dc_are_stays pm_are_stays cd_are_stays ct_are_stays : Value}
    {od_need_order an_need_order : Option Addr} {sl_need_order : Array (Option Value)} {oc_need_order kV_need_order dc_need_order pm_need_order cd_need_order ct_need_order : Value}
    {od_width_of an_width_of : Option Addr} {sl_width_of : Array (Option Value)} {oc_width_of kV_width_of dc_width_of pm_width_of cd_width_of ct_width_of : Value}
    {od_Clock___init__ an_Clock___init__ : Option Addr} {sl_Clock___init__ : Array (Option Value)} {oc_Clock___init__ kV_Clock___init__ dc_Clock___init__ pm_Clock___init__ cd_Clock___init__ ct_Clock___init__ : Value}
    {od__law_clock an__law_clock : Option Addr} {sl__law_clock : Array (Option Value)} {oc__law_clock kV__law_clock dc__law_clock pm__law_clock cd__law_clock ct__law_clock : Value}
    {od_is_hour an_is_hour : Option Addr} {sl_is_hour : Array (Option Value)} {oc_is_hour kV_is_hour dc_is_hour pm_is_hour cd_is_hour ct_is_hour : Value}
    {od_Clock___getitem__ an_Clock___getitem__ : Option Addr} {sl_Clock___getitem__ : Array (Option Value)} {oc_Clock___getitem__ kV_Clock___getitem__ dc_Clock___getitem__ pm_Clock___getitem__ cd_Clock___getitem__ ct_Clock___getitem__ : Value}
    {od_Clock_hours an_Clock_hours : Option Addr} {sl_Clock_hours : Array (Option Value)} {oc_Clock_hours kV_Clock_hours dc_Clock_hours pm_Clock_hours cd_Clock_hours ct_Clock_hours : Value}
    {rest_Clock_hours : List Value}
    {od_Clock_with_stay an_Clock_with_stay : Option Addr} {sl_Clock_with_stay : Array (Option Value)} {oc_Clock_with_stay kV_Clock_with_stay dc_Clock_with_stay pm_Clock_with_stay cd_Clock_with_stay ct_Clock_with_stay : Value}
    {od__law_stepped an__law_stepped : Option Addr} {sl__law_stepped : Array (Option Value)} {oc__law_stepped kV__law_stepped dc__law_stepped pm__law_stepped cd__law_stepped ct__law_stepped : Value}
    {od__law_led_to an__law_led_to : Option Addr} {sl__law_led_to : Array (Option Value)} {oc__law_led_to kV__law_led_to dc__law_led_to pm__law_led_to cd__law_led_to ct__law_led_to : Value}
    {od_Clock___len__ an_Clock___len__ : Option Addr} {sl_Clock___len__ : Array (Option Value)} {oc_Clock___len__ kV_Clock___len__ dc_Clock___len__ pm_Clock___len__ cd_Clock___len__ ct_Clock___len__ : Value}
    {od_Clock___iter__ an_Clock___iter__ : Option Addr} {sl_Clock___iter__ : Array (Option Value)} {oc_Clock___iter__ kV_Clock___iter__ dc_Clock___iter__ pm_Clock___iter__ cd_Clock___iter__ ct_Clock___iter__ : Value}
    {od_Clock_widths an_Clock_widths : Option Addr} {sl_Clock_widths : Array (Option Value)} {oc_Clock_widths kV_Clock_widths dc_Clock_widths pm_Clock_widths cd_Clock_widths ct_Clock_widths : Value}
    {od_Clock_stays an_Clock_stays : Option Addr} {sl_Clock_stays : Array (Option Value)} {oc_Clock_stays kV_Clock_stays dc_Clock_stays pm_Clock_stays cd_Clock_stays ct_Clock_stays : Value}
    {od__law_alike an__law_alike : Option Addr} {sl__law_alike : Array (Option Value)} {oc__law_alike kV__law_alike dc__law_alike pm__law_alike cd__law_alike ct__law_alike : Value}
    {od__law_serving an__law_serving : Option Addr} {sl__law_serving : Array (Option Value)} {oc__law_serving kV__law_serving dc__law_serving pm__law_serving cd__law_serving ct__law_serving : Value}
    {od__law_widths an__law_widths : Option Addr} {sl__law_widths : Array (Option Value)} {oc__law_widths kV__law_widths dc__law_widths pm__law_widths cd__law_widths ct__law_widths : Value}
    {od__law_served an__law_served : Option Addr} {sl__law_served : Array (Option Value)} {oc__law_served kV__law_served dc__law_served pm__law_served cd__law_served ct__law_served : Value}
    {od_Clock_served an_Clock_served : Option Addr} {sl_Clock_served : Array (Option Value)} {oc_Clock_served kV_Clock_served dc_Clock_served pm_Clock_served cd_Clock_served ct_Clock_served : Value}
    {od_Clock_serving an_Clock_serving : Option Addr} {sl_Clock_serving : Array (Option Value)} {oc_Clock_serving kV_Clock_serving dc_Clock_serving pm_Clock_serving cd_Clock_serving ct_Clock_serving : Value}
    {od__law_whole an__law_whole : Option Addr} {sl__law_whole : Array (Option Value)} {oc__law_whole kV__law_whole dc__law_whole pm__law_whole cd__law_whole ct__law_whole : Value}
    {od_Clock___eq__ an_Clock___eq__ : Option Addr} {sl_Clock___eq__ : Array (Option Value)} {oc_Clock___eq__ kV_Clock___eq__ dc_Clock___eq__ pm_Clock___eq__ cd_Clock___eq__ ct_Clock___eq__ : Value}
    {od__law_far an__law_far : Option Addr} {sl__law_far : Array (Option Value)} {oc__law_far kV__law_far dc__law_far pm__law_far cd__law_far ct__law_far : Value}
    {od_Clock_mirrored an_Clock_mirrored : Option Addr} {sl_Clock_mirrored : Array (Option Value)} {oc_Clock_mirrored kV_Clock_mirrored dc_Clock_mirrored pm_Clock_mirrored cd_Clock_mirrored ct_Clock_mirrored : Value}
    {od__law_led an__law_led : Option Addr} {sl__law_led : Array (Option Value)} {oc__law_led kV__law_led dc__law_led pm__law_led cd__law_led ct__law_led : Value}
    {od_Clock_turned an_Clock_turned : Option Addr} {sl_Clock_turned : Array (Option Value)} {oc_Clock_turned kV_Clock_turned dc_Clock_turned pm_Clock_turned cd_Clock_turned ct_Clock_turned : Value}
    {od__law_first_over an__law_first_over : Option Addr} {sl__law_first_over : Array (Option Value)} {oc__law_first_over kV__law_first_over dc__law_first_over pm__law_first_over cd__law_first_over ct__law_first_over : Value}
    {od__law_elsewhere_right an__law_elsewhere_right : Option Addr} {sl__law_elsewhere_right : Array (Option Value)} {oc__law_elsewhere_right kV__law_elsewhere_right dc__law_elsewhere_right pm__law_elsewhere_right cd__law_elsewhere_right ct__law_elsewhere_right : Value}
    {od_law an_law : Option Addr} {sl_law : Array (Option Value)} {oc_law kV_law dc_law pm_law cd_law ct_law : Value}
    {t_MOST_HOURS : Tok}
    {cda_NoHour cc_NoHour N_NoHour : Addr}
    {nm_NoHour qn_NoHour fl_NoHour : Str} {bs_NoHour sub_NoHour : List Value} {sn_NoHour : List Str} {ab_NoHour : Bool} {col_NoHour : Option Bool} {dd_NoHour ods_NoHour ans_NoHour cdd_NoHour cld_NoHour : Option Addr} {m0_NoHour m1_NoHour m2_NoHour m3_NoHour m5_NoHour : Option Value} {ocs_NoHour dcs_NoHour pms_NoHour cts_NoHour ccl_NoHour cl_NoHour : Value} {sls_NoHour ccs_NoHour csl_NoHour : Array (Option Value)} {vs_NoHour : Array Value} {tf_NoHour : Tok}
    {cda_Overtaken cc_Overtaken N_Overtaken : Addr}
    {nm_Overtaken qn_Overtaken fl_Overtaken : Str} {bs_Overtaken sub_Overtaken : List Value} {sn_Overtaken : List Str} {ab_Overtaken : Bool} {col_Overtaken : Option Bool} {dd_Overtaken ods_Overtaken ans_Overtaken cdd_Overtaken cld_Overtaken : Option Addr} {m0_Overtaken m1_Overtaken m2_Overtaken m3_Overtaken m5_Overtaken : Option Value} {ocs_Overtaken dcs_Overtaken pms_Overtaken cts_Overtaken ccl_Overtaken cl_Overtaken : Value} {sls_Overtaken ccs_Overtaken csl_Overtaken : Array (Option Value)} {vs_Overtaken : Array Value} {tf_Overtaken : Tok}
    {cda_Wrong cc_Wrong N_Wrong : Addr}
    {nm_Wrong qn_Wrong fl_Wrong : Str} {bs_Wrong sub_Wrong : List Value} {sn_Wrong : List Str} {ab_Wrong : Bool} {col_Wrong : Option Bool} {dd_Wrong ods_Wrong ans_Wrong cdd_Wrong cld_Wrong : Option Addr} {m0_Wrong m1_Wrong m2_Wrong m3_Wrong m5_Wrong : Option Value} {ocs_Wrong dcs_Wrong pms_Wrong cts_Wrong ccl_Wrong cl_Wrong : Value} {sls_Wrong ccs_Wrong csl_Wrong : Array (Option Value)} {vs_Wrong : Array Value} {tf_Wrong : Tok}
    (a_Clock : PySem.W.nsIn K mainGlobals "Clock" = some (some (.ref c_Clock)))
    (pg_Clock : PySem.W.plainGet K c_Clock Str.empty = true)
    (hd_Clock : PySem.W.hasDictIn K c_Clock = true)
    (po_Clock : PySem.W.plainOver K c_Clock = true)
    (sa_Clock : PySem.W.findIn K (.ref c_Clock) "__setattr__" = some (some (.builtin "object.__setattr__")))
    (sf_Clock : PySem.W.selfFirst K c_Clock = true)
    (n_Clock_kept_stays : PySem.W.findIn K (.ref c_Clock) "kept_stays" = some none)
    (n_Clock_kept_widths : PySem.W.findIn K (.ref c_Clock) "kept_widths" = some none)
    (a__law_bag : PySem.W.nsIn K mainGlobals "_law_bag" = some (some (.ref f__law_bag)))
    (l__law_bag : K.lookup f__law_bag = some ⟨oc__law_bag, od__law_bag, .func (PySem.W.fnOf "_law_bag" "_law_bag" (defArgs s__law_bag) (defBody s__law_bag) (defScope s__law_bag) .none kV__law_bag dc__law_bag pm__law_bag an__law_bag cd__law_bag ct__law_bag), sl__law_bag⟩)
    (c__law_bag : PySem.W.codeIn K cd__law_bag "_law_bag" = true)
    (k__law_bag : PySem.W.keepIn K (.ref f__law_bag) = true)
    (a__law_take : PySem.W.nsIn K mainGlobals "_law_take" = some (some (.ref f__law_take)))
    (l__law_take : K.lookup f__law_take = some ⟨oc__law_take, od__law_take, .func (PySem.W.fnOf "_law_take" "_law_take" (defArgs s__law_take) (defBody s__law_take) (defScope s__law_take) .none kV__law_take dc__law_take pm__law_take an__law_take cd__law_take ct__law_take), sl__law_take⟩)
    (c__law_take : PySem.W.codeIn K cd__law_take "_law_take" = true)
    (k__law_take : PySem.W.keepIn K (.ref f__law_take) = true)
    (a__law_stays : PySem.W.nsIn K mainGlobals "_law_stays" = some (some (.ref f__law_stays)))
    (l__law_stays : K.lookup f__law_stays = some ⟨oc__law_stays, od__law_stays, .func (PySem.W.fnOf "_law_stays" "_law_stays" (defArgs s__law_stays) (defBody s__law_stays) (defScope s__law_stays) .none kV__law_stays dc__law_stays pm__law_stays an__law_stays cd__law_stays ct__law_stays), sl__law_stays⟩)
    (c__law_stays : PySem.W.codeIn K cd__law_stays "_law_stays" = true)
    (k__law_stays : PySem.W.keepIn K (.ref f__law_stays) = true)
    (a_is_integer : PySem.W.nsIn K mainGlobals "is_integer" = some (some (.ref f_is_integer)))
    (l_is_integer : K.lookup f_is_integer = some ⟨oc_is_integer, od_is_integer, .func (PySem.W.fnOf "is_integer" "is_integer" (defArgs s_is_integer) (defBody s_is_integer) (defScope s_is_integer) .none kV_is_integer dc_is_integer pm_is_integer an_is_integer cd_is_integer ct_is_integer), sl_is_integer⟩)
    (c_is_integer : PySem.W.codeIn K cd_is_integer "is_integer" = true)
    (k_is_integer : PySem.W.keepIn K (.ref f_is_integer) = true)
    (a_are_stays : PySem.W.nsIn K mainGlobals "are_stays" = some (some (.ref f_are_stays)))
    (l_are_stays : K.lookup f_are_stays = some ⟨oc_are_stays, od_are_stays, .func (PySem.W.fnOf "are_stays" "are_stays" (defArgs s_are_stays) (defBody s_are_stays) (defScope s_are_stays) .none kV_are_stays dc_are_stays pm_are_stays an_are_stays cd_are_stays ct_are_stays), sl_are_stays⟩)
    (c_are_stays : PySem.W.codeIn K cd_are_stays "are_stays" = true)
    (k_are_stays : PySem.W.keepIn K (.ref f_are_stays) = true)
    (a_need_order : PySem.W.nsIn K mainGlobals "need_order" = some (some (.ref f_need_order)))
    (l_need_order : K.lookup f_need_order = some ⟨oc_need_order, od_need_order, .func (PySem.W.fnOf "need_order" "need_order" (defArgs s_need_order) (defBody s_need_order) (defScope s_need_order) .none kV_need_order dc_need_order pm_need_order an_need_order cd_need_order ct_need_order), sl_need_order⟩)
    (c_need_order : PySem.W.codeIn K cd_need_order "need_order" = true)
    (k_need_order : PySem.W.keepIn K (.ref f_need_order) = true)
    (a_width_of : PySem.W.nsIn K mainGlobals "width_of" = some (some (.ref f_width_of)))
    (l_width_of : K.lookup f_width_of = some ⟨oc_width_of, od_width_of, .func (PySem.W.fnOf "width_of" "width_of" (defArgs s_width_of) (defBody s_width_of) (defScope s_width_of) .none kV_width_of dc_width_of pm_width_of an_width_of cd_width_of ct_width_of), sl_width_of⟩)
    (c_width_of : PySem.W.codeIn K cd_width_of "width_of" = true)
    (k_width_of : PySem.W.keepIn K (.ref f_width_of) = true)
    (a_Clock___init__ : PySem.W.findIn K (.ref c_Clock) "__init__" = some (some (.ref f_Clock___init__)))
    (i_Clock___init__ : PySem.W.isFn K (.ref f_Clock___init__) = true)
    (mm_Clock : PySem.W.makesIn K c_Clock = true)
    (mc_Clock : PySem.W.keepIn K (.ref c_Clock) = true)
    (l_Clock___init__ : K.lookup f_Clock___init__ = some ⟨oc_Clock___init__, od_Clock___init__, .func (PySem.W.fnOf "__init__" "Clock.__init__" (defArgs s_Clock___init__) (defBody s_Clock___init__) (defScope s_Clock___init__) .none kV_Clock___init__ dc_Clock___init__ pm_Clock___init__ an_Clock___init__ cd_Clock___init__ ct_Clock___init__), sl_Clock___init__⟩)
    (c_Clock___init__ : PySem.W.codeIn K cd_Clock___init__ "Clock.__init__" = true)
    (k_Clock___init__ : PySem.W.keepIn K (.ref f_Clock___init__) = true)
    (a__law_clock : PySem.W.nsIn K mainGlobals "_law_clock" = some (some (.ref f__law_clock)))
    (l__law_clock : K.lookup f__law_clock = some ⟨oc__law_clock, od__law_clock, .func (PySem.W.fnOf "_law_clock" "_law_clock" (defArgs s__law_clock) (defBody s__law_clock) (defScope s__law_clock) .none kV__law_clock dc__law_clock pm__law_clock an__law_clock cd__law_clock ct__law_clock), sl__law_clock⟩)
    (c__law_clock : PySem.W.codeIn K cd__law_clock "_law_clock" = true)
    (k__law_clock : PySem.W.keepIn K (.ref f__law_clock) = true)
    (a_is_hour : PySem.W.nsIn K mainGlobals "is_hour" = some (some (.ref f_is_hour)))
    (l_is_hour : K.lookup f_is_hour = some ⟨oc_is_hour, od_is_hour, .func (PySem.W.fnOf "is_hour" "is_hour" (defArgs s_is_hour) (defBody s_is_hour) (defScope s_is_hour) .none kV_is_hour dc_is_hour pm_is_hour an_is_hour cd_is_hour ct_is_hour), sl_is_hour⟩)
    (c_is_hour : PySem.W.codeIn K cd_is_hour "is_hour" = true)
    (k_is_hour : PySem.W.keepIn K (.ref f_is_hour) = true)
    (a_Clock___getitem__ : PySem.W.findIn K (.ref c_Clock) "__getitem__" = some (some (.ref f_Clock___getitem__)))
    (i_Clock___getitem__ : PySem.W.isFn K (.ref f_Clock___getitem__) = true)
    (fi_Clock___getitem__ : PySem.W.fnIn K f_Clock___getitem__ = true)
    (l_Clock___getitem__ : K.lookup f_Clock___getitem__ = some ⟨oc_Clock___getitem__, od_Clock___getitem__, .func (PySem.W.fnOf "__getitem__" "Clock.__getitem__" (defArgs s_Clock___getitem__) (defBody s_Clock___getitem__) (defScope s_Clock___getitem__) .none kV_Clock___getitem__ dc_Clock___getitem__ pm_Clock___getitem__ an_Clock___getitem__ cd_Clock___getitem__ ct_Clock___getitem__), sl_Clock___getitem__⟩)
    (c_Clock___getitem__ : PySem.W.codeIn K cd_Clock___getitem__ "Clock.__getitem__" = true)
    (k_Clock___getitem__ : PySem.W.keepIn K (.ref f_Clock___getitem__) = true)
    (pa_Clock_hours : PySem.W.findIn K (.ref c_Clock) "hours" = some (some (.ref q_Clock_hours)))
    (pb_Clock_hours : PySem.W.specialIn K (.ref q_Clock_hours) "__get__" = some (some (.builtin "property.__get__")))
    (pc_Clock_hours : PySem.W.takesIn K (.ref q_Clock_hours) = some true)
    (pd_Clock_hours : PySem.W.recIn K q_Clock_hours "property" = some (.ref f_Clock_hours :: rest_Clock_hours))
    (l_Clock_hours : K.lookup f_Clock_hours = some ⟨oc_Clock_hours, od_Clock_hours, .func (PySem.W.fnOf "hours" "Clock.hours" (defArgs s_Clock_hours) (defBody s_Clock_hours) (defScope s_Clock_hours) .none kV_Clock_hours dc_Clock_hours pm_Clock_hours an_Clock_hours cd_Clock_hours ct_Clock_hours), sl_Clock_hours⟩)
    (c_Clock_hours : PySem.W.codeIn K cd_Clock_hours "Clock.hours" = true)
    (k_Clock_hours : PySem.W.keepIn K (.ref f_Clock_hours) = true)
    (a_Clock_with_stay : PySem.W.findIn K (.ref c_Clock) "with_stay" = some (some (.ref f_Clock_with_stay)))
    (i_Clock_with_stay : PySem.W.isFn K (.ref f_Clock_with_stay) = true)
    (l_Clock_with_stay : K.lookup f_Clock_with_stay = some ⟨oc_Clock_with_stay, od_Clock_with_stay, .func (PySem.W.fnOf "with_stay" "Clock.with_stay" (defArgs s_Clock_with_stay) (defBody s_Clock_with_stay) (defScope s_Clock_with_stay) .none kV_Clock_with_stay dc_Clock_with_stay pm_Clock_with_stay an_Clock_with_stay cd_Clock_with_stay ct_Clock_with_stay), sl_Clock_with_stay⟩)
    (c_Clock_with_stay : PySem.W.codeIn K cd_Clock_with_stay "Clock.with_stay" = true)
    (k_Clock_with_stay : PySem.W.keepIn K (.ref f_Clock_with_stay) = true)
    (a__law_stepped : PySem.W.nsIn K mainGlobals "_law_stepped" = some (some (.ref f__law_stepped)))
    (l__law_stepped : K.lookup f__law_stepped = some ⟨oc__law_stepped, od__law_stepped, .func (PySem.W.fnOf "_law_stepped" "_law_stepped" (defArgs s__law_stepped) (defBody s__law_stepped) (defScope s__law_stepped) .none kV__law_stepped dc__law_stepped pm__law_stepped an__law_stepped cd__law_stepped ct__law_stepped), sl__law_stepped⟩)
    (c__law_stepped : PySem.W.codeIn K cd__law_stepped "_law_stepped" = true)
    (k__law_stepped : PySem.W.keepIn K (.ref f__law_stepped) = true)
    (a__law_led_to : PySem.W.nsIn K mainGlobals "_law_led_to" = some (some (.ref f__law_led_to)))
    (l__law_led_to : K.lookup f__law_led_to = some ⟨oc__law_led_to, od__law_led_to, .func (PySem.W.fnOf "_law_led_to" "_law_led_to" (defArgs s__law_led_to) (defBody s__law_led_to) (defScope s__law_led_to) .none kV__law_led_to dc__law_led_to pm__law_led_to an__law_led_to cd__law_led_to ct__law_led_to), sl__law_led_to⟩)
    (c__law_led_to : PySem.W.codeIn K cd__law_led_to "_law_led_to" = true)
    (k__law_led_to : PySem.W.keepIn K (.ref f__law_led_to) = true)
    (a_Clock___len__ : PySem.W.findIn K (.ref c_Clock) "__len__" = some (some (.ref f_Clock___len__)))
    (i_Clock___len__ : PySem.W.isFn K (.ref f_Clock___len__) = true)
    (l_Clock___len__ : K.lookup f_Clock___len__ = some ⟨oc_Clock___len__, od_Clock___len__, .func (PySem.W.fnOf "__len__" "Clock.__len__" (defArgs s_Clock___len__) (defBody s_Clock___len__) (defScope s_Clock___len__) .none kV_Clock___len__ dc_Clock___len__ pm_Clock___len__ an_Clock___len__ cd_Clock___len__ ct_Clock___len__), sl_Clock___len__⟩)
    (c_Clock___len__ : PySem.W.codeIn K cd_Clock___len__ "Clock.__len__" = true)
    (k_Clock___len__ : PySem.W.keepIn K (.ref f_Clock___len__) = true)
    (a_Clock___iter__ : PySem.W.findIn K (.ref c_Clock) "__iter__" = some (some (.ref f_Clock___iter__)))
    (i_Clock___iter__ : PySem.W.isFn K (.ref f_Clock___iter__) = true)
    (l_Clock___iter__ : K.lookup f_Clock___iter__ = some ⟨oc_Clock___iter__, od_Clock___iter__, .func (PySem.W.fnOf "__iter__" "Clock.__iter__" (defArgs s_Clock___iter__) (defBody s_Clock___iter__) (defScope s_Clock___iter__) .none kV_Clock___iter__ dc_Clock___iter__ pm_Clock___iter__ an_Clock___iter__ cd_Clock___iter__ ct_Clock___iter__), sl_Clock___iter__⟩)
    (c_Clock___iter__ : PySem.W.codeIn K cd_Clock___iter__ "Clock.__iter__" = true)
    (k_Clock___iter__ : PySem.W.keepIn K (.ref f_Clock___iter__) = true)
    (a_Clock_widths : PySem.W.findIn K (.ref c_Clock) "widths" = some (some (.ref f_Clock_widths)))
    (i_Clock_widths : PySem.W.isFn K (.ref f_Clock_widths) = true)
    (l_Clock_widths : K.lookup f_Clock_widths = some ⟨oc_Clock_widths, od_Clock_widths, .func (PySem.W.fnOf "widths" "Clock.widths" (defArgs s_Clock_widths) (defBody s_Clock_widths) (defScope s_Clock_widths) .none kV_Clock_widths dc_Clock_widths pm_Clock_widths an_Clock_widths cd_Clock_widths ct_Clock_widths), sl_Clock_widths⟩)
    (c_Clock_widths : PySem.W.codeIn K cd_Clock_widths "Clock.widths" = true)
    (k_Clock_widths : PySem.W.keepIn K (.ref f_Clock_widths) = true)
    (a_Clock_stays : PySem.W.findIn K (.ref c_Clock) "stays" = some (some (.ref f_Clock_stays)))
    (i_Clock_stays : PySem.W.isFn K (.ref f_Clock_stays) = true)
    (l_Clock_stays : K.lookup f_Clock_stays = some ⟨oc_Clock_stays, od_Clock_stays, .func (PySem.W.fnOf "stays" "Clock.stays" (defArgs s_Clock_stays) (defBody s_Clock_stays) (defScope s_Clock_stays) .none kV_Clock_stays dc_Clock_stays pm_Clock_stays an_Clock_stays cd_Clock_stays ct_Clock_stays), sl_Clock_stays⟩)
    (c_Clock_stays : PySem.W.codeIn K cd_Clock_stays "Clock.stays" = true)
    (k_Clock_stays : PySem.W.keepIn K (.ref f_Clock_stays) = true)
    (a__law_alike : PySem.W.nsIn K mainGlobals "_law_alike" = some (some (.ref f__law_alike)))
    (l__law_alike : K.lookup f__law_alike = some ⟨oc__law_alike, od__law_alike, .func (PySem.W.fnOf "_law_alike" "_law_alike" (defArgs s__law_alike) (defBody s__law_alike) (defScope s__law_alike) .none kV__law_alike dc__law_alike pm__law_alike an__law_alike cd__law_alike ct__law_alike), sl__law_alike⟩)
    (c__law_alike : PySem.W.codeIn K cd__law_alike "_law_alike" = true)
    (k__law_alike : PySem.W.keepIn K (.ref f__law_alike) = true)
    (a__law_serving : PySem.W.nsIn K mainGlobals "_law_serving" = some (some (.ref f__law_serving)))
    (l__law_serving : K.lookup f__law_serving = some ⟨oc__law_serving, od__law_serving, .func (PySem.W.fnOf "_law_serving" "_law_serving" (defArgs s__law_serving) (defBody s__law_serving) (defScope s__law_serving) .none kV__law_serving dc__law_serving pm__law_serving an__law_serving cd__law_serving ct__law_serving), sl__law_serving⟩)
    (c__law_serving : PySem.W.codeIn K cd__law_serving "_law_serving" = true)
    (k__law_serving : PySem.W.keepIn K (.ref f__law_serving) = true)
    (a__law_widths : PySem.W.nsIn K mainGlobals "_law_widths" = some (some (.ref f__law_widths)))
    (l__law_widths : K.lookup f__law_widths = some ⟨oc__law_widths, od__law_widths, .func (PySem.W.fnOf "_law_widths" "_law_widths" (defArgs s__law_widths) (defBody s__law_widths) (defScope s__law_widths) .none kV__law_widths dc__law_widths pm__law_widths an__law_widths cd__law_widths ct__law_widths), sl__law_widths⟩)
    (c__law_widths : PySem.W.codeIn K cd__law_widths "_law_widths" = true)
    (k__law_widths : PySem.W.keepIn K (.ref f__law_widths) = true)
    (a__law_served : PySem.W.nsIn K mainGlobals "_law_served" = some (some (.ref f__law_served)))
    (l__law_served : K.lookup f__law_served = some ⟨oc__law_served, od__law_served, .func (PySem.W.fnOf "_law_served" "_law_served" (defArgs s__law_served) (defBody s__law_served) (defScope s__law_served) .none kV__law_served dc__law_served pm__law_served an__law_served cd__law_served ct__law_served), sl__law_served⟩)
    (c__law_served : PySem.W.codeIn K cd__law_served "_law_served" = true)
    (k__law_served : PySem.W.keepIn K (.ref f__law_served) = true)
    (a_Clock_served : PySem.W.findIn K (.ref c_Clock) "served" = some (some (.ref f_Clock_served)))
    (i_Clock_served : PySem.W.isFn K (.ref f_Clock_served) = true)
    (l_Clock_served : K.lookup f_Clock_served = some ⟨oc_Clock_served, od_Clock_served, .func (PySem.W.fnOf "served" "Clock.served" (defArgs s_Clock_served) (defBody s_Clock_served) (defScope s_Clock_served) .none kV_Clock_served dc_Clock_served pm_Clock_served an_Clock_served cd_Clock_served ct_Clock_served), sl_Clock_served⟩)
    (c_Clock_served : PySem.W.codeIn K cd_Clock_served "Clock.served" = true)
    (k_Clock_served : PySem.W.keepIn K (.ref f_Clock_served) = true)
    (a_Clock_serving : PySem.W.findIn K (.ref c_Clock) "serving" = some (some (.ref f_Clock_serving)))
    (i_Clock_serving : PySem.W.isFn K (.ref f_Clock_serving) = true)
    (l_Clock_serving : K.lookup f_Clock_serving = some ⟨oc_Clock_serving, od_Clock_serving, .func (PySem.W.fnOf "serving" "Clock.serving" (defArgs s_Clock_serving) (defBody s_Clock_serving) (defScope s_Clock_serving) .none kV_Clock_serving dc_Clock_serving pm_Clock_serving an_Clock_serving cd_Clock_serving ct_Clock_serving), sl_Clock_serving⟩)
    (c_Clock_serving : PySem.W.codeIn K cd_Clock_serving "Clock.serving" = true)
    (k_Clock_serving : PySem.W.keepIn K (.ref f_Clock_serving) = true)
    (a__law_whole : PySem.W.nsIn K mainGlobals "_law_whole" = some (some (.ref f__law_whole)))
    (l__law_whole : K.lookup f__law_whole = some ⟨oc__law_whole, od__law_whole, .func (PySem.W.fnOf "_law_whole" "_law_whole" (defArgs s__law_whole) (defBody s__law_whole) (defScope s__law_whole) .none kV__law_whole dc__law_whole pm__law_whole an__law_whole cd__law_whole ct__law_whole), sl__law_whole⟩)
    (c__law_whole : PySem.W.codeIn K cd__law_whole "_law_whole" = true)
    (k__law_whole : PySem.W.keepIn K (.ref f__law_whole) = true)
    (a_Clock___eq__ : PySem.W.findIn K (.ref c_Clock) "__eq__" = some (some (.ref f_Clock___eq__)))
    (i_Clock___eq__ : PySem.W.isFn K (.ref f_Clock___eq__) = true)
    (l_Clock___eq__ : K.lookup f_Clock___eq__ = some ⟨oc_Clock___eq__, od_Clock___eq__, .func (PySem.W.fnOf "__eq__" "Clock.__eq__" (defArgs s_Clock___eq__) (defBody s_Clock___eq__) (defScope s_Clock___eq__) .none kV_Clock___eq__ dc_Clock___eq__ pm_Clock___eq__ an_Clock___eq__ cd_Clock___eq__ ct_Clock___eq__), sl_Clock___eq__⟩)
    (c_Clock___eq__ : PySem.W.codeIn K cd_Clock___eq__ "Clock.__eq__" = true)
    (k_Clock___eq__ : PySem.W.keepIn K (.ref f_Clock___eq__) = true)
    (a__law_far : PySem.W.nsIn K mainGlobals "_law_far" = some (some (.ref f__law_far)))
    (l__law_far : K.lookup f__law_far = some ⟨oc__law_far, od__law_far, .func (PySem.W.fnOf "_law_far" "_law_far" (defArgs s__law_far) (defBody s__law_far) (defScope s__law_far) .none kV__law_far dc__law_far pm__law_far an__law_far cd__law_far ct__law_far), sl__law_far⟩)
    (c__law_far : PySem.W.codeIn K cd__law_far "_law_far" = true)
    (k__law_far : PySem.W.keepIn K (.ref f__law_far) = true)
    (a_Clock_mirrored : PySem.W.findIn K (.ref c_Clock) "mirrored" = some (some (.ref f_Clock_mirrored)))
    (i_Clock_mirrored : PySem.W.isFn K (.ref f_Clock_mirrored) = true)
    (l_Clock_mirrored : K.lookup f_Clock_mirrored = some ⟨oc_Clock_mirrored, od_Clock_mirrored, .func (PySem.W.fnOf "mirrored" "Clock.mirrored" (defArgs s_Clock_mirrored) (defBody s_Clock_mirrored) (defScope s_Clock_mirrored) .none kV_Clock_mirrored dc_Clock_mirrored pm_Clock_mirrored an_Clock_mirrored cd_Clock_mirrored ct_Clock_mirrored), sl_Clock_mirrored⟩)
    (c_Clock_mirrored : PySem.W.codeIn K cd_Clock_mirrored "Clock.mirrored" = true)
    (k_Clock_mirrored : PySem.W.keepIn K (.ref f_Clock_mirrored) = true)
    (a__law_led : PySem.W.nsIn K mainGlobals "_law_led" = some (some (.ref f__law_led)))
    (l__law_led : K.lookup f__law_led = some ⟨oc__law_led, od__law_led, .func (PySem.W.fnOf "_law_led" "_law_led" (defArgs s__law_led) (defBody s__law_led) (defScope s__law_led) .none kV__law_led dc__law_led pm__law_led an__law_led cd__law_led ct__law_led), sl__law_led⟩)
    (c__law_led : PySem.W.codeIn K cd__law_led "_law_led" = true)
    (k__law_led : PySem.W.keepIn K (.ref f__law_led) = true)
    (a_Clock_turned : PySem.W.findIn K (.ref c_Clock) "turned" = some (some (.ref f_Clock_turned)))
    (i_Clock_turned : PySem.W.isFn K (.ref f_Clock_turned) = true)
    (l_Clock_turned : K.lookup f_Clock_turned = some ⟨oc_Clock_turned, od_Clock_turned, .func (PySem.W.fnOf "turned" "Clock.turned" (defArgs s_Clock_turned) (defBody s_Clock_turned) (defScope s_Clock_turned) .none kV_Clock_turned dc_Clock_turned pm_Clock_turned an_Clock_turned cd_Clock_turned ct_Clock_turned), sl_Clock_turned⟩)
    (c_Clock_turned : PySem.W.codeIn K cd_Clock_turned "Clock.turned" = true)
    (k_Clock_turned : PySem.W.keepIn K (.ref f_Clock_turned) = true)
    (a__law_first_over : PySem.W.nsIn K mainGlobals "_law_first_over" = some (some (.ref f__law_first_over)))
    (l__law_first_over : K.lookup f__law_first_over = some ⟨oc__law_first_over, od__law_first_over, .func (PySem.W.fnOf "_law_first_over" "_law_first_over" (defArgs s__law_first_over) (defBody s__law_first_over) (defScope s__law_first_over) .none kV__law_first_over dc__law_first_over pm__law_first_over an__law_first_over cd__law_first_over ct__law_first_over), sl__law_first_over⟩)
    (c__law_first_over : PySem.W.codeIn K cd__law_first_over "_law_first_over" = true)
    (k__law_first_over : PySem.W.keepIn K (.ref f__law_first_over) = true)
    (a__law_elsewhere_right : PySem.W.nsIn K mainGlobals "_law_elsewhere_right" = some (some (.ref f__law_elsewhere_right)))
    (l__law_elsewhere_right : K.lookup f__law_elsewhere_right = some ⟨oc__law_elsewhere_right, od__law_elsewhere_right, .func (PySem.W.fnOf "_law_elsewhere_right" "_law_elsewhere_right" (defArgs s__law_elsewhere_right) (defBody s__law_elsewhere_right) (defScope s__law_elsewhere_right) .none kV__law_elsewhere_right dc__law_elsewhere_right pm__law_elsewhere_right an__law_elsewhere_right cd__law_elsewhere_right ct__law_elsewhere_right), sl__law_elsewhere_right⟩)
    (c__law_elsewhere_right : PySem.W.codeIn K cd__law_elsewhere_right "_law_elsewhere_right" = true)
    (k__law_elsewhere_right : PySem.W.keepIn K (.ref f__law_elsewhere_right) = true)
    (a_law : PySem.W.nsIn K mainGlobals "law" = some (some (.ref f_law)))
    (l_law : K.lookup f_law = some ⟨oc_law, od_law, .func (PySem.W.fnOf "law" "law" (defArgs s_law) (defBody s_law) (defScope s_law) .none kV_law dc_law pm_law an_law cd_law ct_law), sl_law⟩)
    (c_law : PySem.W.codeIn K cd_law "law" = true)
    (k_law : PySem.W.keepIn K (.ref f_law) = true)
    (z_abs : PySem.W.nsIn K mainGlobals "abs" = some none)
    (z_all : PySem.W.nsIn K mainGlobals "all" = some none)
    (z_bool : PySem.W.nsIn K mainGlobals "bool" = some none)
    (z_enumerate : PySem.W.nsIn K mainGlobals "enumerate" = some none)
    (z_int : PySem.W.nsIn K mainGlobals "int" = some none)
    (z_isinstance : PySem.W.nsIn K mainGlobals "isinstance" = some none)
    (z_iter : PySem.W.nsIn K mainGlobals "iter" = some none)
    (z_len : PySem.W.nsIn K mainGlobals "len" = some none)
    (z_list : PySem.W.nsIn K mainGlobals "list" = some none)
    (z_max : PySem.W.nsIn K mainGlobals "max" = some none)
    (z_min : PySem.W.nsIn K mainGlobals "min" = some none)
    (z_range : PySem.W.nsIn K mainGlobals "range" = some none)
    (z_repr : PySem.W.nsIn K mainGlobals "repr" = some none)
    (z_tuple : PySem.W.nsIn K mainGlobals "tuple" = some none)
    (k_MOST_HOURS : PySem.W.nsIn K mainGlobals "MOST_HOURS" = some (some (.int 48 t_MOST_HOURS)))
    (ia_Clock : PySem.W.findIn K (.ref c_Clock) "__class__" = some (some (.builtin "object.__class__")))
    (gn_obj : PySem.W.specialIn K (.builtin "object.__class__") "__get__" = some (some (.builtin "getset_descriptor.__get__")))
    (tk_obj : PySem.W.takesIn K (.builtin "object.__class__") = some true)
    (im_Clock : PySem.W.mroIn K c_Clock (.type "object") = some true)
    (ne_Clock : PySem.W.findIn K (.ref c_Clock) "__ne__" = some (some (.builtin "object.__ne__")))
    (mr_Clock : PySem.W.mroIn K c_Clock (.type "object") = some true)
    (ba_n : PySem.W.nsIn K mainGlobals "NeedError" = some (some (.ref c_NeedError)))
    (bs_n : PySem.W.subIn K (.ref c_NeedError) (.type "BaseException") = some true)
    (bd_n : PySem.W.hasDictIn K c_NeedError = true)
    (bt_n : PySem.W.typeIn K (.ref c_NeedError) = some (.type "type"))
    (noT : PySem.W.nsIn K cStatics "thirdparty.any" = some none)
    (z_super : PySem.W.nsIn K mainGlobals "super" = some none)
    (tp_s : (P.main.scope.names.lookup ("super" : Str)).isSome = false)
    (ea_NoHour : PySem.W.nsIn K mainGlobals "NoHour" = some (some (.ref c_NoHour)))
    (el_NoHour : K.lookup c_NoHour = some (excClassObj nm_NoHour qn_NoHour c_NoHour N_NoHour bs_NoHour [.ref c_NeedError, .type "ValueError", .type "Exception", .type "BaseException", .type "object"] true sn_NoHour sub_NoHour ab_NoHour col_NoHour dd_NoHour m0_NoHour m1_NoHour m2_NoHour m3_NoHour m5_NoHour "ValueError.__new__"))
    (es_NoHour : PySem.W.findIn K (.ref c_NoHour) "__setattr__" = some (some (.builtin "object.__setattr__")))
    (eg_NoHour : PySem.W.findIn K (.ref c_NoHour) "__getattribute__" = some (some (.builtin "BaseException.__getattribute__")))
    (eh_NoHour : PySem.W.findIn K (.ref c_NoHour) "__getattr__" = some none)
    (en_NoHour : PySem.W.findIn K (.ref c_NoHour) "hour" = some none)
    (ei_NoHour : PySem.W.findIn K (.ref c_NoHour) "__init__" = some (some (.ref fi_NoHour)))
    (eC_NoHour : PySem.W.findIn K (.ref c_NoHour) "__class__" = some (some (.builtin "object.__class__")))
    (et_NoHour : PySem.W.typeIn K (.ref fi_NoHour) = some (.type "function"))
    (ek_NoHour : PySem.W.keepIn K (.ref c_NoHour) = true)
    (ee_NoHour : PySem.W.subIn K (.ref c_NoHour) (.type "BaseException") = some true)
    (ev_NoHour : PySem.W.subIn K (.ref c_NoHour) (.type "ValueError") = some true)
    (eN_NoHour : PySem.W.subIn K (.ref c_NoHour) (.ref c_NeedError) = some true)
    (ey_NoHour : PySem.W.typeIn K (.ref c_NoHour) = some (.type "type"))
    (ed_NoHour : PySem.W.hasDictIn K c_NoHour = true)
    (em_NoHour : PySem.W.mroIn K c_NoHour (.ref c_NoHour) = some true)
    (eO_NoHour : PySem.W.mroIn K c_NoHour (.type "object") = some true)
    (eu_NoHour : PySem.W.ks_superIn K c_NoHour c_NoHour "__init__" = some (some (.builtin "ValueError.__init__")))
    (ef_NoHour : K.lookup fi_NoHour = some ⟨ocs_NoHour, ods_NoHour, .func (PySem.W.ksFn "__init__" "NoHour.__init__" (defArgs (inClass (top 5) 0)) (defBody (inClass (top 5) 0)) (defScope (inClass (top 5) 0)) .none .none dcs_NoHour pms_NoHour ans_NoHour (.ref cda_NoHour) cts_NoHour cc_NoHour), sls_NoHour⟩)
    (ec_NoHour : PySem.W.codeIn K (.ref cda_NoHour) "NoHour.__init__" = true)
    (eo_NoHour : K.lookup cda_NoHour = some ⟨ccl_NoHour, cdd_NoHour, .fields vs_NoHour, ccs_NoHour⟩)
    (ew_NoHour : vs_NoHour[2]? = some (.str fl_NoHour tf_NoHour))
    (eF_NoHour : ((P.main.file : Str) == fl_NoHour) = true)
    (eq_NoHour : K.lookup cc_NoHour = some ⟨cl_NoHour, cld_NoHour, .cell (some (.ref c_NoHour)), csl_NoHour⟩)
    (ea_Overtaken : PySem.W.nsIn K mainGlobals "Overtaken" = some (some (.ref c_Overtaken)))
    (el_Overtaken : K.lookup c_Overtaken = some (excClassObj nm_Overtaken qn_Overtaken c_Overtaken N_Overtaken bs_Overtaken [.ref c_NeedError, .type "ValueError", .type "Exception", .type "BaseException", .type "object"] true sn_Overtaken sub_Overtaken ab_Overtaken col_Overtaken dd_Overtaken m0_Overtaken m1_Overtaken m2_Overtaken m3_Overtaken m5_Overtaken "ValueError.__new__"))
    (es_Overtaken : PySem.W.findIn K (.ref c_Overtaken) "__setattr__" = some (some (.builtin "object.__setattr__")))
    (eg_Overtaken : PySem.W.findIn K (.ref c_Overtaken) "__getattribute__" = some (some (.builtin "BaseException.__getattribute__")))
    (eh_Overtaken : PySem.W.findIn K (.ref c_Overtaken) "__getattr__" = some none)
    (en_Overtaken : PySem.W.findIn K (.ref c_Overtaken) "hour" = some none)
    (ei_Overtaken : PySem.W.findIn K (.ref c_Overtaken) "__init__" = some (some (.ref fi_Overtaken)))
    (eC_Overtaken : PySem.W.findIn K (.ref c_Overtaken) "__class__" = some (some (.builtin "object.__class__")))
    (et_Overtaken : PySem.W.typeIn K (.ref fi_Overtaken) = some (.type "function"))
    (ek_Overtaken : PySem.W.keepIn K (.ref c_Overtaken) = true)
    (ee_Overtaken : PySem.W.subIn K (.ref c_Overtaken) (.type "BaseException") = some true)
    (ev_Overtaken : PySem.W.subIn K (.ref c_Overtaken) (.type "ValueError") = some true)
    (eN_Overtaken : PySem.W.subIn K (.ref c_Overtaken) (.ref c_NeedError) = some true)
    (ey_Overtaken : PySem.W.typeIn K (.ref c_Overtaken) = some (.type "type"))
    (ed_Overtaken : PySem.W.hasDictIn K c_Overtaken = true)
    (em_Overtaken : PySem.W.mroIn K c_Overtaken (.ref c_Overtaken) = some true)
    (eO_Overtaken : PySem.W.mroIn K c_Overtaken (.type "object") = some true)
    (eu_Overtaken : PySem.W.ks_superIn K c_Overtaken c_Overtaken "__init__" = some (some (.builtin "ValueError.__init__")))
    (ef_Overtaken : K.lookup fi_Overtaken = some ⟨ocs_Overtaken, ods_Overtaken, .func (PySem.W.ksFn "__init__" "Overtaken.__init__" (defArgs (inClass (top 4) 0)) (defBody (inClass (top 4) 0)) (defScope (inClass (top 4) 0)) .none .none dcs_Overtaken pms_Overtaken ans_Overtaken (.ref cda_Overtaken) cts_Overtaken cc_Overtaken), sls_Overtaken⟩)
    (ec_Overtaken : PySem.W.codeIn K (.ref cda_Overtaken) "Overtaken.__init__" = true)
    (eo_Overtaken : K.lookup cda_Overtaken = some ⟨ccl_Overtaken, cdd_Overtaken, .fields vs_Overtaken, ccs_Overtaken⟩)
    (ew_Overtaken : vs_Overtaken[2]? = some (.str fl_Overtaken tf_Overtaken))
    (eF_Overtaken : ((P.main.file : Str) == fl_Overtaken) = true)
    (eq_Overtaken : K.lookup cc_Overtaken = some ⟨cl_Overtaken, cld_Overtaken, .cell (some (.ref c_Overtaken)), csl_Overtaken⟩)
    (ea_Wrong : PySem.W.nsIn K mainGlobals "Wrong" = some (some (.ref c_Wrong)))
    (el_Wrong : K.lookup c_Wrong = some (excClassObj nm_Wrong qn_Wrong c_Wrong N_Wrong bs_Wrong [.ref c_NeedError, .type "ValueError", .type "Exception", .type "BaseException", .type "object"] true sn_Wrong sub_Wrong ab_Wrong col_Wrong dd_Wrong m0_Wrong m1_Wrong m2_Wrong m3_Wrong m5_Wrong "ValueError.__new__"))
    (es_Wrong : PySem.W.findIn K (.ref c_Wrong) "__setattr__" = some (some (.builtin "object.__setattr__")))
    (eg_Wrong : PySem.W.findIn K (.ref c_Wrong) "__getattribute__" = some (some (.builtin "BaseException.__getattribute__")))
    (eh_Wrong : PySem.W.findIn K (.ref c_Wrong) "__getattr__" = some none)
    (en_Wrong : PySem.W.findIn K (.ref c_Wrong) "place" = some none)
    (ei_Wrong : PySem.W.findIn K (.ref c_Wrong) "__init__" = some (some (.ref fi_Wrong)))
    (eC_Wrong : PySem.W.findIn K (.ref c_Wrong) "__class__" = some (some (.builtin "object.__class__")))
    (et_Wrong : PySem.W.typeIn K (.ref fi_Wrong) = some (.type "function"))
    (ek_Wrong : PySem.W.keepIn K (.ref c_Wrong) = true)
    (ee_Wrong : PySem.W.subIn K (.ref c_Wrong) (.type "BaseException") = some true)
    (ev_Wrong : PySem.W.subIn K (.ref c_Wrong) (.type "ValueError") = some true)
    (eN_Wrong : PySem.W.subIn K (.ref c_Wrong) (.ref c_NeedError) = some true)
    (ey_Wrong : PySem.W.typeIn K (.ref c_Wrong) = some (.type "type"))
    (ed_Wrong : PySem.W.hasDictIn K c_Wrong = true)
    (em_Wrong : PySem.W.mroIn K c_Wrong (.ref c_Wrong) = some true)
    (eO_Wrong : PySem.W.mroIn K c_Wrong (.type "object") = some true)
    (eu_Wrong : PySem.W.ks_superIn K c_Wrong c_Wrong "__init__" = some (some (.builtin "ValueError.__init__")))
    (ef_Wrong : K.lookup fi_Wrong = some ⟨ocs_Wrong, ods_Wrong, .func (PySem.W.ksFn "__init__" "Wrong.__init__" (defArgs (inClass (top 3) 0)) (defBody (inClass (top 3) 0)) (defScope (inClass (top 3) 0)) .none .none dcs_Wrong pms_Wrong ans_Wrong (.ref cda_Wrong) cts_Wrong cc_Wrong), sls_Wrong⟩)
    (ec_Wrong : PySem.W.codeIn K (.ref cda_Wrong) "Wrong.__init__" = true)
    (eo_Wrong : K.lookup cda_Wrong = some ⟨ccl_Wrong, cdd_Wrong, .fields vs_Wrong, ccs_Wrong⟩)
    (ew_Wrong : vs_Wrong[2]? = some (.str fl_Wrong tf_Wrong))
    (eF_Wrong : ((P.main.file : Str) == fl_Wrong) = true)
    (eq_Wrong : K.lookup cc_Wrong = some ⟨cl_Wrong, cld_Wrong, .cell (some (.ref c_Wrong)), csl_Wrong⟩)
    (kt_ix_NoHour_NoHour : PySem.W.kitOne K (.ref c_NoHour) (.ref c_NoHour) = some true)
    (kt_ix_NoHour_Overtaken : PySem.W.kitOne K (.ref c_NoHour) (.ref c_Overtaken) = some false)
    (kt_ix_NoHour_Wrong : PySem.W.kitOne K (.ref c_NoHour) (.ref c_Wrong) = some false)
    (kt_ix_Overtaken_NoHour : PySem.W.kitOne K (.ref c_Overtaken) (.ref c_NoHour) = some false)
    (kt_ix_Overtaken_Overtaken : PySem.W.kitOne K (.ref c_Overtaken) (.ref c_Overtaken) = some true)
    (kt_ix_Overtaken_Wrong : PySem.W.kitOne K (.ref c_Overtaken) (.ref c_Wrong) = some false)
    (kt_ix_Wrong_NoHour : PySem.W.kitOne K (.ref c_Wrong) (.ref c_NoHour) = some false)
    (kt_ix_Wrong_Overtaken : PySem.W.kitOne K (.ref c_Wrong) (.ref c_Overtaken) = some false)
    (kt_ix_Wrong_Wrong : PySem.W.kitOne K (.ref c_Wrong) (.ref c_Wrong) = some true) :
    ∀ base : Heap, K.In base → base.Ns mainGlobals mg → OkP NoG P w K mg base 8 fa ["_law_script"] (fun vs H Q E => spLaw K vs H Q E) := by
  have e := hfa.symm.trans (PySem.W.mg_of X G a_law)
  cases e
  have T : Tx P K mg ⟨c_Clock, f__law_bag, f__law_take, f__law_stays, f_is_integer, f_are_stays, f_need_order, f_width_of, f_Clock___init__, f__law_clock, f_is_hour, f_Clock___getitem__, f_Clock_hours, q_Clock_hours, f_Clock_with_stay, f__law_stepped, f__law_led_to, f_Clock___len__, f_Clock___iter__, f_Clock_widths, f_Clock_stays, f__law_alike, f__law_serving, f__law_widths, f__law_served, f_Clock_served, f_Clock_serving, f__law_whole, f_Clock___eq__, f__law_far, f_Clock_mirrored, f__law_led, f_Clock_turned, f__law_first_over, f__law_elsewhere_right, fa, c_NeedError, c_NoHour, fi_NoHour, c_Overtaken, fi_Overtaken, c_Wrong, fi_Wrong⟩ := {
    g_Clock := PySem.W.mg_of X G a_Clock,
    cl_Clock := ⟨pg_Clock, hd_Clock, po_Clock, sa_Clock⟩,
    sf_Clock := sf_Clock,
    n_Clock_kept_stays := n_Clock_kept_stays,
    n_Clock_kept_widths := n_Clock_kept_widths,
    g__law_bag := PySem.W.mg_of X G a__law_bag,
    d__law_bag := ⟨_, fun_mk l__law_bag c__law_bag k__law_bag, (fun_mk (st := s__law_bag) l__law_bag c__law_bag k__law_bag).binds (ps := ["_law_script"]) fun _ _ _ _ _ _ us hl => match us, hl with | [_], _ => rfl⟩,
    g__law_take := PySem.W.mg_of X G a__law_take,
    d__law_take := ⟨_, fun_mk l__law_take c__law_take k__law_take, (fun_mk (st := s__law_take) l__law_take c__law_take k__law_take).binds (ps := ["_law_bag_here", "_law_upto"]) fun _ _ _ _ _ _ us hl => match us, hl with | [_, _], _ => rfl⟩,
    g__law_stays := PySem.W.mg_of X G a__law_stays,
    d__law_stays := ⟨_, fun_mk l__law_stays c__law_stays k__law_stays, (fun_mk (st := s__law_stays) l__law_stays c__law_stays k__law_stays).binds (ps := ["_law_bag_here", "_law_many"]) fun _ _ _ _ _ _ us hl => match us, hl with | [_, _], _ => rfl⟩,
    g_is_integer := PySem.W.mg_of X G a_is_integer,
    d_is_integer := ⟨_, fun_mk l_is_integer c_is_integer k_is_integer, (fun_mk (st := s_is_integer) l_is_integer c_is_integer k_is_integer).binds (ps := ["thing"]) fun _ _ _ _ _ _ us hl => match us, hl with | [_], _ => rfl⟩,
    g_are_stays := PySem.W.mg_of X G a_are_stays,
    d_are_stays := ⟨_, fun_mk l_are_stays c_are_stays k_are_stays, (fun_mk (st := s_are_stays) l_are_stays c_are_stays k_are_stays).binds (ps := ["thing"]) fun _ _ _ _ _ _ us hl => match us, hl with | [_], _ => rfl⟩,
    g_need_order := PySem.W.mg_of X G a_need_order,
    d_need_order := ⟨_, fun_mk l_need_order c_need_order k_need_order, (fun_mk (st := s_need_order) l_need_order c_need_order k_need_order).binds (ps := ["stays"]) fun _ _ _ _ _ _ us hl => match us, hl with | [_], _ => rfl⟩,
    g_width_of := PySem.W.mg_of X G a_width_of,
    d_width_of := ⟨_, fun_mk l_width_of c_width_of k_width_of, (fun_mk (st := s_width_of) l_width_of c_width_of k_width_of).binds (ps := ["stays", "hour"]) fun _ _ _ _ _ _ us hl => match us, hl with | [_, _], _ => rfl⟩,
    mk_Clock := ⟨mm_Clock, a_Clock___init__, i_Clock___init__, mc_Clock⟩,
    d_Clock___init__ := ⟨_, fun_mk l_Clock___init__ c_Clock___init__ k_Clock___init__, (fun_mk (st := s_Clock___init__) l_Clock___init__ c_Clock___init__ k_Clock___init__).binds (ps := ["self", "stays"]) fun _ _ _ _ _ _ us hl => match us, hl with | [_, _], _ => rfl⟩,
    g__law_clock := PySem.W.mg_of X G a__law_clock,
    d__law_clock := ⟨_, fun_mk l__law_clock c__law_clock k__law_clock, (fun_mk (st := s__law_clock) l__law_clock c__law_clock k__law_clock).binds (ps := ["_law_bag_here", "_law_stays_here"]) fun _ _ _ _ _ _ us hl => match us, hl with | [_, _], _ => rfl⟩,
    g_is_hour := PySem.W.mg_of X G a_is_hour,
    d_is_hour := ⟨_, fun_mk l_is_hour c_is_hour k_is_hour, (fun_mk (st := s_is_hour) l_is_hour c_is_hour k_is_hour).binds (ps := ["hours", "thing"]) fun _ _ _ _ _ _ us hl => match us, hl with | [_, _], _ => rfl⟩,
    m_Clock___getitem__ := ⟨a_Clock___getitem__, i_Clock___getitem__, k_Clock___getitem__⟩,
    fi_Clock___getitem__ := fi_Clock___getitem__,
    d_Clock___getitem__ := ⟨_, fun_mk l_Clock___getitem__ c_Clock___getitem__ k_Clock___getitem__, (fun_mk (st := s_Clock___getitem__) l_Clock___getitem__ c_Clock___getitem__ k_Clock___getitem__).binds (ps := ["self", "hour"]) fun _ _ _ _ _ _ us hl => match us, hl with | [_, _], _ => rfl⟩,
    p_Clock_hours := ⟨pa_Clock_hours, pb_Clock_hours, pc_Clock_hours, ⟨_, pd_Clock_hours⟩⟩,
    d_Clock_hours := ⟨_, fun_mk l_Clock_hours c_Clock_hours k_Clock_hours, (fun_mk (st := s_Clock_hours) l_Clock_hours c_Clock_hours k_Clock_hours).binds (ps := ["self"]) fun _ _ _ _ _ _ us hl => match us, hl with | [_], _ => rfl⟩,
    m_Clock_with_stay := ⟨a_Clock_with_stay, i_Clock_with_stay, k_Clock_with_stay⟩,
    d_Clock_with_stay := ⟨_, fun_mk l_Clock_with_stay c_Clock_with_stay k_Clock_with_stay, (fun_mk (st := s_Clock_with_stay) l_Clock_with_stay c_Clock_with_stay k_Clock_with_stay).binds (ps := ["self", "hour", "stay"]) fun _ _ _ _ _ _ us hl => match us, hl with | [_, _, _], _ => rfl⟩,
    g__law_stepped := PySem.W.mg_of X G a__law_stepped,
    d__law_stepped := ⟨_, fun_mk l__law_stepped c__law_stepped k__law_stepped, (fun_mk (st := s__law_stepped) l__law_stepped c__law_stepped k__law_stepped).binds (ps := ["_law_clock_here", "_law_hour", "_law_stay"]) fun _ _ _ _ _ _ us hl => match us, hl with | [_, _, _], _ => rfl⟩,
    g__law_led_to := PySem.W.mg_of X G a__law_led_to,
    d__law_led_to := ⟨_, fun_mk l__law_led_to c__law_led_to k__law_led_to, (fun_mk (st := s__law_led_to) l__law_led_to c__law_led_to k__law_led_to).binds (ps := ["_law_clock_here", "_law_aims"]) fun _ _ _ _ _ _ us hl => match us, hl with | [_, _], _ => rfl⟩,
    m_Clock___len__ := ⟨a_Clock___len__, i_Clock___len__, k_Clock___len__⟩,
    d_Clock___len__ := ⟨_, fun_mk l_Clock___len__ c_Clock___len__ k_Clock___len__, (fun_mk (st := s_Clock___len__) l_Clock___len__ c_Clock___len__ k_Clock___len__).binds (ps := ["self"]) fun _ _ _ _ _ _ us hl => match us, hl with | [_], _ => rfl⟩,
    m_Clock___iter__ := ⟨a_Clock___iter__, i_Clock___iter__, k_Clock___iter__⟩,
    d_Clock___iter__ := ⟨_, fun_mk l_Clock___iter__ c_Clock___iter__ k_Clock___iter__, (fun_mk (st := s_Clock___iter__) l_Clock___iter__ c_Clock___iter__ k_Clock___iter__).binds (ps := ["self"]) fun _ _ _ _ _ _ us hl => match us, hl with | [_], _ => rfl⟩,
    m_Clock_widths := ⟨a_Clock_widths, i_Clock_widths, k_Clock_widths⟩,
    d_Clock_widths := ⟨_, fun_mk l_Clock_widths c_Clock_widths k_Clock_widths, (fun_mk (st := s_Clock_widths) l_Clock_widths c_Clock_widths k_Clock_widths).binds (ps := ["self"]) fun _ _ _ _ _ _ us hl => match us, hl with | [_], _ => rfl⟩,
    m_Clock_stays := ⟨a_Clock_stays, i_Clock_stays, k_Clock_stays⟩,
    d_Clock_stays := ⟨_, fun_mk l_Clock_stays c_Clock_stays k_Clock_stays, (fun_mk (st := s_Clock_stays) l_Clock_stays c_Clock_stays k_Clock_stays).binds (ps := ["self"]) fun _ _ _ _ _ _ us hl => match us, hl with | [_], _ => rfl⟩,
    g__law_alike := PySem.W.mg_of X G a__law_alike,
    d__law_alike := ⟨_, fun_mk l__law_alike c__law_alike k__law_alike, (fun_mk (st := s__law_alike) l__law_alike c__law_alike k__law_alike).binds (ps := ["_law_found", "_law_due"]) fun _ _ _ _ _ _ us hl => match us, hl with | [_, _], _ => rfl⟩,
    g__law_serving := PySem.W.mg_of X G a__law_serving,
    d__law_serving := ⟨_, fun_mk l__law_serving c__law_serving k__law_serving, (fun_mk (st := s__law_serving) l__law_serving c__law_serving k__law_serving).binds (ps := ["_law_stays_here", "_law_hour"]) fun _ _ _ _ _ _ us hl => match us, hl with | [_, _], _ => rfl⟩,
    g__law_widths := PySem.W.mg_of X G a__law_widths,
    d__law_widths := ⟨_, fun_mk l__law_widths c__law_widths k__law_widths, (fun_mk (st := s__law_widths) l__law_widths c__law_widths k__law_widths).binds (ps := ["_law_stays_here"]) fun _ _ _ _ _ _ us hl => match us, hl with | [_], _ => rfl⟩,
    g__law_served := PySem.W.mg_of X G a__law_served,
    d__law_served := ⟨_, fun_mk l__law_served c__law_served k__law_served, (fun_mk (st := s__law_served) l__law_served c__law_served k__law_served).binds (ps := ["_law_stays_here", "_law_hour"]) fun _ _ _ _ _ _ us hl => match us, hl with | [_, _], _ => rfl⟩,
    m_Clock_served := ⟨a_Clock_served, i_Clock_served, k_Clock_served⟩,
    d_Clock_served := ⟨_, fun_mk l_Clock_served c_Clock_served k_Clock_served, (fun_mk (st := s_Clock_served) l_Clock_served c_Clock_served k_Clock_served).binds (ps := ["self", "hour"]) fun _ _ _ _ _ _ us hl => match us, hl with | [_, _], _ => rfl⟩,
    m_Clock_serving := ⟨a_Clock_serving, i_Clock_serving, k_Clock_serving⟩,
    d_Clock_serving := ⟨_, fun_mk l_Clock_serving c_Clock_serving k_Clock_serving, (fun_mk (st := s_Clock_serving) l_Clock_serving c_Clock_serving k_Clock_serving).binds (ps := ["self", "hour"]) fun _ _ _ _ _ _ us hl => match us, hl with | [_, _], _ => rfl⟩,
    g__law_whole := PySem.W.mg_of X G a__law_whole,
    d__law_whole := ⟨_, fun_mk l__law_whole c__law_whole k__law_whole, (fun_mk (st := s__law_whole) l__law_whole c__law_whole k__law_whole).binds (ps := ["_law_clock_here", "_law_stays_here"]) fun _ _ _ _ _ _ us hl => match us, hl with | [_, _], _ => rfl⟩,
    m_Clock___eq__ := ⟨a_Clock___eq__, i_Clock___eq__, k_Clock___eq__⟩,
    d_Clock___eq__ := ⟨_, fun_mk l_Clock___eq__ c_Clock___eq__ k_Clock___eq__, (fun_mk (st := s_Clock___eq__) l_Clock___eq__ c_Clock___eq__ k_Clock___eq__).binds (ps := ["self", "other"]) fun _ _ _ _ _ _ us hl => match us, hl with | [_, _], _ => rfl⟩,
    g__law_far := PySem.W.mg_of X G a__law_far,
    d__law_far := ⟨_, fun_mk l__law_far c__law_far k__law_far, (fun_mk (st := s__law_far) l__law_far c__law_far k__law_far).binds (ps := ["_law_bag_here"]) fun _ _ _ _ _ _ us hl => match us, hl with | [_], _ => rfl⟩,
    m_Clock_mirrored := ⟨a_Clock_mirrored, i_Clock_mirrored, k_Clock_mirrored⟩,
    d_Clock_mirrored := ⟨_, fun_mk l_Clock_mirrored c_Clock_mirrored k_Clock_mirrored, (fun_mk (st := s_Clock_mirrored) l_Clock_mirrored c_Clock_mirrored k_Clock_mirrored).binds (ps := ["self"]) fun _ _ _ _ _ _ us hl => match us, hl with | [_], _ => rfl⟩,
    g__law_led := PySem.W.mg_of X G a__law_led,
    d__law_led := ⟨_, fun_mk l__law_led c__law_led k__law_led, (fun_mk (st := s__law_led) l__law_led c__law_led k__law_led).binds (ps := ["_law_some", "_law_by"]) fun _ _ _ _ _ _ us hl => match us, hl with | [_, _], _ => rfl⟩,
    m_Clock_turned := ⟨a_Clock_turned, i_Clock_turned, k_Clock_turned⟩,
    d_Clock_turned := ⟨_, fun_mk l_Clock_turned c_Clock_turned k_Clock_turned, (fun_mk (st := s_Clock_turned) l_Clock_turned c_Clock_turned k_Clock_turned).binds (ps := ["self", "by"]) fun _ _ _ _ _ _ us hl => match us, hl with | [_, _], _ => rfl⟩,
    g__law_first_over := PySem.W.mg_of X G a__law_first_over,
    d__law_first_over := ⟨_, fun_mk l__law_first_over c__law_first_over k__law_first_over, (fun_mk (st := s__law_first_over) l__law_first_over c__law_first_over k__law_first_over).binds (ps := ["_law_stays_here"]) fun _ _ _ _ _ _ us hl => match us, hl with | [_], _ => rfl⟩,
    g__law_elsewhere_right := PySem.W.mg_of X G a__law_elsewhere_right,
    d__law_elsewhere_right := ⟨_, fun_mk l__law_elsewhere_right c__law_elsewhere_right k__law_elsewhere_right, (fun_mk (st := s__law_elsewhere_right) l__law_elsewhere_right c__law_elsewhere_right k__law_elsewhere_right).binds (ps := ["_law_bag_here", "_law_clock_here", "_law_stays_here"]) fun _ _ _ _ _ _ us hl => match us, hl with | [_, _, _], _ => rfl⟩,
    d_law := ⟨_, fun_mk l_law c_law k_law, (fun_mk (st := s_law) l_law c_law k_law).binds (ps := ["_law_script"]) fun _ _ _ _ _ _ us hl => match us, hl with | [_], _ => rfl⟩,
    z_abs := PySem.W.mg_none_of X G z_abs,
    z_all := PySem.W.mg_none_of X G z_all,
    z_bool := PySem.W.mg_none_of X G z_bool,
    z_enumerate := PySem.W.mg_none_of X G z_enumerate,
    z_int := PySem.W.mg_none_of X G z_int,
    z_isinstance := PySem.W.mg_none_of X G z_isinstance,
    z_iter := PySem.W.mg_none_of X G z_iter,
    z_len := PySem.W.mg_none_of X G z_len,
    z_list := PySem.W.mg_none_of X G z_list,
    z_max := PySem.W.mg_none_of X G z_max,
    z_min := PySem.W.mg_none_of X G z_min,
    z_range := PySem.W.mg_none_of X G z_range,
    z_repr := PySem.W.mg_none_of X G z_repr,
    z_tuple := PySem.W.mg_none_of X G z_tuple,
    k_MOST_HOURS := ⟨_, PySem.W.mg_of X G k_MOST_HOURS⟩,
    ic_Clock := ⟨⟨pg_Clock, hd_Clock, po_Clock, sa_Clock⟩, ia_Clock, gn_obj, tk_obj, im_Clock⟩,
    ne_Clock := ⟨ne_Clock, mr_Clock⟩,
    g_NeedError := PySem.W.mg_of X G ba_n,
    g_NoHour := PySem.W.mg_of X G ea_NoHour,
    er_NoHour := { gC := PySem.W.mg_of X G ea_NoHour, cls := ⟨_, _, _, _, _, _, _, _, _, _, _, _, _, _, _, el_NoHour, rfl⟩, sa := es_NoHour, ga := eg_NoHour, gg := eh_NoHour, noN := en_NoHour, iC := ei_NoHour, tC := et_NoHour, kC := ek_NoHour, exC := ee_NoHour, vB := ev_NoHour, tyC := ey_NoHour, hdC := ed_NoHour, mr := em_NoHour, sup := eu_NoHour, noT := noT, noS := PySem.W.mg_none_of X G z_super, sf := by decide +kernel, db := by decide +kernel, fn := ⟨_, _, _, _, _, _, _, _, _, _, _, _, _, _, _, _, _, _, _, _, _, _, _, _, _, _, _, _, _, _, _, _, ef_NoHour, ec_NoHour, eo_NoHour, ew_NoHour, eF_NoHour, eq_NoHour, by decide +kernel, by decide +kernel, by decide +kernel, by decide +kernel, by decide +kernel, tp_s, fun _ => ⟨_, rfl⟩, fun _ _ _ => .of_eq rfl⟩ },
    xc_NoHour := ⟨eg_NoHour, eh_NoHour, ee_NoHour, ed_NoHour, eC_NoHour, gn_obj, tk_obj, eO_NoHour⟩,
    xm_NoHour := PySem.W.exm_ref bs_n bd_n bt_n eN_NoHour,
    ix_NoHour_NoHour := kt_ix_NoHour_NoHour,
    ix_NoHour_Overtaken := kt_ix_NoHour_Overtaken,
    ix_NoHour_Wrong := kt_ix_NoHour_Wrong,
    g_Overtaken := PySem.W.mg_of X G ea_Overtaken,
    er_Overtaken := { gC := PySem.W.mg_of X G ea_Overtaken, cls := ⟨_, _, _, _, _, _, _, _, _, _, _, _, _, _, _, el_Overtaken, rfl⟩, sa := es_Overtaken, ga := eg_Overtaken, gg := eh_Overtaken, noN := en_Overtaken, iC := ei_Overtaken, tC := et_Overtaken, kC := ek_Overtaken, exC := ee_Overtaken, vB := ev_Overtaken, tyC := ey_Overtaken, hdC := ed_Overtaken, mr := em_Overtaken, sup := eu_Overtaken, noT := noT, noS := PySem.W.mg_none_of X G z_super, sf := by decide +kernel, db := by decide +kernel, fn := ⟨_, _, _, _, _, _, _, _, _, _, _, _, _, _, _, _, _, _, _, _, _, _, _, _, _, _, _, _, _, _, _, _, ef_Overtaken, ec_Overtaken, eo_Overtaken, ew_Overtaken, eF_Overtaken, eq_Overtaken, by decide +kernel, by decide +kernel, by decide +kernel, by decide +kernel, by decide +kernel, tp_s, fun _ => ⟨_, rfl⟩, fun _ _ _ => .of_eq rfl⟩ },
    xc_Overtaken := ⟨eg_Overtaken, eh_Overtaken, ee_Overtaken, ed_Overtaken, eC_Overtaken, gn_obj, tk_obj, eO_Overtaken⟩,
    xm_Overtaken := PySem.W.exm_ref bs_n bd_n bt_n eN_Overtaken,
    ix_Overtaken_NoHour := kt_ix_Overtaken_NoHour,
    ix_Overtaken_Overtaken := kt_ix_Overtaken_Overtaken,
    ix_Overtaken_Wrong := kt_ix_Overtaken_Wrong,
    g_Wrong := PySem.W.mg_of X G ea_Wrong,
    er_Wrong := { gC := PySem.W.mg_of X G ea_Wrong, cls := ⟨_, _, _, _, _, _, _, _, _, _, _, _, _, _, _, el_Wrong, rfl⟩, sa := es_Wrong, ga := eg_Wrong, gg := eh_Wrong, noN := en_Wrong, iC := ei_Wrong, tC := et_Wrong, kC := ek_Wrong, exC := ee_Wrong, vB := ev_Wrong, tyC := ey_Wrong, hdC := ed_Wrong, mr := em_Wrong, sup := eu_Wrong, noT := noT, noS := PySem.W.mg_none_of X G z_super, sf := by decide +kernel, db := by decide +kernel, fn := ⟨_, _, _, _, _, _, _, _, _, _, _, _, _, _, _, _, _, _, _, _, _, _, _, _, _, _, _, _, _, _, _, _, ef_Wrong, ec_Wrong, eo_Wrong, ew_Wrong, eF_Wrong, eq_Wrong, by decide +kernel, by decide +kernel, by decide +kernel, by decide +kernel, by decide +kernel, tp_s, fun _ => ⟨_, rfl⟩, fun _ _ _ => .of_eq rfl⟩ },
    xc_Wrong := ⟨eg_Wrong, eh_Wrong, ee_Wrong, ed_Wrong, eC_Wrong, gn_obj, tk_obj, eO_Wrong⟩,
    xm_Wrong := PySem.W.exm_ref bs_n bd_n bt_n eN_Wrong,
    ix_Wrong_NoHour := kt_ix_Wrong_NoHour,
    ix_Wrong_Overtaken := kt_ix_Wrong_Overtaken,
    ix_Wrong_Wrong := kt_ix_Wrong_Wrong }
  intro base _ _
  exact ok_law (d := ⟨c_Clock, f__law_bag, f__law_take, f__law_stays, f_is_integer, f_are_stays, f_need_order, f_width_of, f_Clock___init__, f__law_clock, f_is_hour, f_Clock___getitem__, f_Clock_hours, q_Clock_hours, f_Clock_with_stay, f__law_stepped, f__law_led_to, f_Clock___len__, f_Clock___iter__, f_Clock_widths, f_Clock_stays, f__law_alike, f__law_serving, f__law_widths, f__law_served, f_Clock_served, f_Clock_serving, f__law_whole, f_Clock___eq__, f__law_far, f_Clock_mirrored, f__law_led, f_Clock_turned, f__law_first_over, f__law_elsewhere_right, fa, c_NeedError, c_NoHour, fi_NoHour, c_Overtaken, fi_Overtaken, c_Wrong, fi_Wrong⟩) T
theorem walk {l : PySem.W.OpenLaw} {q : Program} {loose : List Str} {XP : (Str → Option Value) → Heap → Prop} {YP : World → Heap → Prop} {dr : DefRec} {K : Params → PySem.W.Frag} (hn : l.most = some 63) (hdf : dr.params.defaults = [])
    (hY : ∀ (w : World) (h : Heap), YP w h → (K w.params).In h)
    (F : ∀ (w : World) (mg : Str → Option Value) (fa : Addr) (h : Heap), (K w.params).In h → h.Ns mainGlobals mg → mg dr.name = some (.ref fa) → ∀ base : Heap, (K w.params).In base → base.Ns mainGlobals mg → OkP NoG l.prog w (K w.params) mg base 8 fa ["_law_script"] (fun vs H Q E => spLaw (K w.params) vs H Q E)) :
    PySem.W.WalkO q loose XP YP l.row.toRowW dr [] (fun f vs => PySem.call f vs) :=
  walkG (n := 63) (k := 8) (x := "_law_script") (sp := fun w => spLaw (K w.params)) hn (by decide) hdf ⟨rfl, by decide, by decide⟩ hY F fun _ _ a ns hl hS => ⟨a, ns, rfl, hS, hl, fun _ => rfl⟩
end Pf
open PySem PySem.W PyProof.Rows in
set_option maxRecDepth 100000 in
set_option maxHeartbeats 0 in
theorem PySem.Challenge.cw_hourneeds_k17_whole_stays_changed_one_by_holds : PySem.Challenge.rw_hourneeds_k17_whole_stays_changed_one_by.Holds := by
  w_on; o_law; k_head; (case hw => w_witness2)
  k_fill
  refine Pf.walk (l := PySem.Challenge.rw_hourneeds_k17_whole_stays_changed_one_by) rfl rfl (fun w h Y => PySem.W.kIn_of Y) ?F
  case F =>
    intro w mg fa h KX G hmg
    refine' Pf.all_mk KX G hmg ?a_Clock ?pg_Clock ?hd_Clock ?po_Clock ?sa_Clock ?sf_Clock ?n_Clock_kept_stays ?n_Clock_kept_widths ?a__law_bag ?l__law_bag ?c__law_bag ?k__law_bag ?a__law_take ?l__law_take ?c__law_take ?k__law_take ?a__law_stays ?l__law_stays ?c__law_stays ?k__law_stays ?a_is_integer ?l_is_integer ?c_is_integer ?k_is_integer ?a_are_stays ?l_are_stays ?c_are_stays ?k_are_stays ?a_need_order ?l_need_order ?c_need_order ?k_need_order ?a_width_of ?l_width_of ?c_width_of ?k_width_of ?a_Clock___init__ ?i_Clock___init__ ?mm_Clock ?mc_Clock ?l_Clock___init__ ?c_Clock___init__ ?k_Clock___init__ ?a__law_clock ?l__law_clock ?c__law_clock ?k__law_clock ?a_is_hour ?l_is_hour ?c_is_hour ?k_is_hour ?a_Clock___getitem__ ?i_Clock___getitem__ ?fi_Clock___getitem__ ?l_Clock___getitem__ ?c_Clock___getitem__ ?k_Clock___getitem__ ?pa_Clock_hours ?pb_Clock_hours ?pc_Clock_hours ?pd_Clock_hours ?l_Clock_hours ?c_Clock_hours ?k_Clock_hours ?a_Clock_with_stay ?i_Clock_with_stay ?l_Clock_with_stay ?c_Clock_with_stay ?k_Clock_with_stay ?a__law_stepped ?l__law_stepped ?c__law_stepped ?k__law_stepped ?a__law_led_to ?l__law_led_to ?c__law_led_to ?k__law_led_to ?a_Clock___len__ ?i_Clock___len__ ?l_Clock___len__ ?c_Clock___len__ ?k_Clock___len__ ?a_Clock___iter__ ?i_Clock___iter__ ?l_Clock___iter__ ?c_Clock___iter__ ?k_Clock___iter__ ?a_Clock_widths ?i_Clock_widths ?l_Clock_widths ?c_Clock_widths ?k_Clock_widths ?a_Clock_stays ?i_Clock_stays ?l_Clock_stays ?c_Clock_stays ?k_Clock_stays ?a__law_alike ?l__law_alike ?c__law_alike ?k__law_alike ?a__law_serving ?l__law_serving ?c__law_serving ?k__law_serving ?a__law_widths ?l__law_widths ?c__law_widths ?k__law_widths ?a__law_served ?l__law_served ?c__law_served ?k__law_served ?a_Clock_served ?i_Clock_served ?l_Clock_served ?c_Clock_served ?k_Clock_served ?a_Clock_serving ?i_Clock_serving ?l_Clock_serving ?c_Clock_serving ?k_Clock_serving ?a__law_whole ?l__law_whole ?c__law_whole ?k__law_whole ?a_Clock___eq__ ?i_Clock___eq__ ?l_Clock___eq__ ?c_Clock___eq__ ?k_Clock___eq__ ?a__law_far ?l__law_far ?c__law_far ?k__law_far ?a_Clock_mirrored ?i_Clock_mirrored ?l_Clock_mirrored ?c_Clock_mirrored ?k_Clock_mirrored ?a__law_led ?l__law_led ?c__law_led ?k__law_led ?a_Clock_turned ?i_Clock_turned ?l_Clock_turned ?c_Clock_turned ?k_Clock_turned ?a__law_first_over ?l__law_first_over ?c__law_first_over ?k__law_first_over ?a__law_elsewhere_right ?l__law_elsewhere_right ?c__law_elsewhere_right ?k__law_elsewhere_right ?a_law ?l_law ?c_law ?k_law ?z_abs ?z_all ?z_bool ?z_enumerate ?z_int ?z_isinstance ?z_iter ?z_len ?z_list ?z_max ?z_min ?z_range ?z_repr ?z_tuple ?k_MOST_HOURS ?ia_Clock ?gn_obj ?tk_obj ?im_Clock ?ne_Clock ?mr_Clock ?ba_n ?bs_n ?bd_n ?bt_n ?noT ?z_super ?tp_s ?ea_NoHour ?el_NoHour ?es_NoHour ?eg_NoHour ?eh_NoHour ?en_NoHour ?ei_NoHour ?eC_NoHour ?et_NoHour ?ek_NoHour ?ee_NoHour ?ev_NoHour ?eN_NoHour ?ey_NoHour ?ed_NoHour ?em_NoHour ?eO_NoHour ?eu_NoHour ?ef_NoHour ?ec_NoHour ?eo_NoHour ?ew_NoHour ?eF_NoHour ?eq_NoHour ?ea_Overtaken ?el_Overtaken ?es_Overtaken ?eg_Overtaken ?eh_Overtaken ?en_Overtaken ?ei_Overtaken ?eC_Overtaken ?et_Overtaken ?ek_Overtaken ?ee_Overtaken ?ev_Overtaken ?eN_Overtaken ?ey_Overtaken ?ed_Overtaken ?em_Overtaken ?eO_Overtaken ?eu_Overtaken ?ef_Overtaken ?ec_Overtaken ?eo_Overtaken ?ew_Overtaken ?eF_Overtaken ?eq_Overtaken ?ea_Wrong ?el_Wrong ?es_Wrong ?eg_Wrong ?eh_Wrong ?en_Wrong ?ei_Wrong ?eC_Wrong ?et_Wrong ?ek_Wrong ?ee_Wrong ?ev_Wrong ?eN_Wrong ?ey_Wrong ?ed_Wrong ?em_Wrong ?eO_Wrong ?eu_Wrong ?ef_Wrong ?ec_Wrong ?eo_Wrong ?ew_Wrong ?eF_Wrong ?eq_Wrong ?kt_ix_NoHour_NoHour ?kt_ix_NoHour_Overtaken ?kt_ix_NoHour_Wrong ?kt_ix_Overtaken_NoHour ?kt_ix_Overtaken_Overtaken ?kt_ix_Overtaken_Wrong ?kt_ix_Wrong_NoHour ?kt_ix_Wrong_Overtaken ?kt_ix_Wrong_Wrong
    (case a_Clock => k_is)
    (case pg_Clock => k_is)
    (case hd_Clock => k_is)
    (case po_Clock => k_is)
    (case sa_Clock => k_is)
    (case sf_Clock => k_is)
    (case n_Clock_kept_stays => k_is)
    (case n_Clock_kept_widths => k_is)
    (case a__law_bag => k_is)
    (case l__law_bag => k_is)
    (case c__law_bag => k_is)
    (case k__law_bag => k_is)
    (case a__law_take => k_is)
    (case l__law_take => k_is)
    (case c__law_take => k_is)
    (case k__law_take => k_is)
    (case a__law_stays => k_is)
    (case l__law_stays => k_is)
    (case c__law_stays => k_is)
    (case k__law_stays => k_is)
    (case a_is_integer => k_is)
    (case l_is_integer => k_is)
    (case c_is_integer => k_is)
    (case k_is_integer => k_is)
    (case a_are_stays => k_is)
    (case l_are_stays => k_is)
    (case c_are_stays => k_is)
    (case k_are_stays => k_is)
    (case a_need_order => k_is)
    (case l_need_order => k_is)
    (case c_need_order => k_is)
    (case k_need_order => k_is)
    (case a_width_of => k_is)
    (case l_width_of => k_is)
    (case c_width_of => k_is)
    (case k_width_of => k_is)
    (case a_Clock___init__ => k_is)
    (case i_Clock___init__ => k_is)
    (case mm_Clock => k_is)
    (case mc_Clock => k_is)
    (case l_Clock___init__ => k_is)
    (case c_Clock___init__ => k_is)
    (case k_Clock___init__ => k_is)
    (case a__law_clock => k_is)
    (case l__law_clock => k_is)
    (case c__law_clock => k_is)
    (case k__law_clock => k_is)
    (case a_is_hour => k_is)
    (case l_is_hour => k_is)
    (case c_is_hour => k_is)
    (case k_is_hour => k_is)
    (case a_Clock___getitem__ => k_is)
    (case i_Clock___getitem__ => k_is)
    (case fi_Clock___getitem__ => k_is)
    (case l_Clock___getitem__ => k_is)
    (case c_Clock___getitem__ => k_is)
    (case k_Clock___getitem__ => k_is)
    (case pa_Clock_hours => k_is)
    (case pb_Clock_hours => k_is)
    (case pc_Clock_hours => k_is)
    (case pd_Clock_hours => k_is)
    (case l_Clock_hours => k_is)
    (case c_Clock_hours => k_is)
    (case k_Clock_hours => k_is)
    (case a_Clock_with_stay => k_is)
    (case i_Clock_with_stay => k_is)
    (case l_Clock_with_stay => k_is)
    (case c_Clock_with_stay => k_is)
    (case k_Clock_with_stay => k_is)
    (case a__law_stepped => k_is)
    (case l__law_stepped => k_is)
    (case c__law_stepped => k_is)
    (case k__law_stepped => k_is)
    (case a__law_led_to => k_is)
    (case l__law_led_to => k_is)
    (case c__law_led_to => k_is)
    (case k__law_led_to => k_is)
    (case a_Clock___len__ => k_is)
    (case i_Clock___len__ => k_is)
    (case l_Clock___len__ => k_is)
    (case c_Clock___len__ => k_is)
    (case k_Clock___len__ => k_is)
    (case a_Clock___iter__ => k_is)
    (case i_Clock___iter__ => k_is)
    (case l_Clock___iter__ => k_is)
    (case c_Clock___iter__ => k_is)
    (case k_Clock___iter__ => k_is)
    (case a_Clock_widths => k_is)
    (case i_Clock_widths => k_is)
    (case l_Clock_widths => k_is)
    (case c_Clock_widths => k_is)
    (case k_Clock_widths => k_is)
    (case a_Clock_stays => k_is)
    (case i_Clock_stays => k_is)
    (case l_Clock_stays => k_is)
    (case c_Clock_stays => k_is)
    (case k_Clock_stays => k_is)
    (case a__law_alike => k_is)
    (case l__law_alike => k_is)
    (case c__law_alike => k_is)
    (case k__law_alike => k_is)
    (case a__law_serving => k_is)
    (case l__law_serving => k_is)
    (case c__law_serving => k_is)
    (case k__law_serving => k_is)
    (case a__law_widths => k_is)
    (case l__law_widths => k_is)
    (case c__law_widths => k_is)
    (case k__law_widths => k_is)
    (case a__law_served => k_is)
    (case l__law_served => k_is)
    (case c__law_served => k_is)
    (case k__law_served => k_is)
    (case a_Clock_served => k_is)
    (case i_Clock_served => k_is)
    (case l_Clock_served => k_is)
    (case c_Clock_served => k_is)
    (case k_Clock_served => k_is)
    (case a_Clock_serving => k_is)
    (case i_Clock_serving => k_is)
    (case l_Clock_serving => k_is)
    (case c_Clock_serving => k_is)
    (case k_Clock_serving => k_is)
    (case a__law_whole => k_is)
    (case l__law_whole => k_is)
    (case c__law_whole => k_is)
    (case k__law_whole => k_is)
    (case a_Clock___eq__ => k_is)
    (case i_Clock___eq__ => k_is)
    (case l_Clock___eq__ => k_is)
    (case c_Clock___eq__ => k_is)
    (case k_Clock___eq__ => k_is)
    (case a__law_far => k_is)
    (case l__law_far => k_is)
    (case c__law_far => k_is)
    (case k__law_far => k_is)
    (case a_Clock_mirrored => k_is)
    (case i_Clock_mirrored => k_is)
    (case l_Clock_mirrored => k_is)
    (case c_Clock_mirrored => k_is)
    (case k_Clock_mirrored => k_is)
    (case a__law_led => k_is)
    (case l__law_led => k_is)
    (case c__law_led => k_is)
    (case k__law_led => k_is)
    (case a_Clock_turned => k_is)
    (case i_Clock_turned => k_is)
    (case l_Clock_turned => k_is)
    (case c_Clock_turned => k_is)
    (case k_Clock_turned => k_is)
    (case a__law_first_over => k_is)
    (case l__law_first_over => k_is)
    (case c__law_first_over => k_is)
    (case k__law_first_over => k_is)
    (case a__law_elsewhere_right => k_is)
    (case l__law_elsewhere_right => k_is)
    (case c__law_elsewhere_right => k_is)
    (case k__law_elsewhere_right => k_is)
    (case a_law => k_is)
    (case l_law => k_is)
    (case c_law => k_is)
    (case k_law => k_is)
    (case z_abs => k_is)
    (case z_all => k_is)
    (case z_bool => k_is)
    (case z_enumerate => k_is)
    (case z_int => k_is)
    (case z_isinstance => k_is)
    (case z_iter => k_is)
    (case z_len => k_is)
    (case z_list => k_is)
    (case z_max => k_is)
    (case z_min => k_is)
    (case z_range => k_is)
    (case z_repr => k_is)
    (case z_tuple => k_is)
    (case k_MOST_HOURS => k_is)
    (case ia_Clock => k_is)
    (case gn_obj => k_is)
    (case tk_obj => k_is)
    (case im_Clock => k_is)
    (case ne_Clock => k_is)
    (case mr_Clock => k_is)
    (case ba_n => k_is)
    (case bs_n => k_is)
    (case bd_n => k_is)
    (case bt_n => k_is)
    (case noT => k_is)
    (case z_super => k_is)
    (case tp_s => decide +kernel)
    (case ea_NoHour => k_is)
    (case el_NoHour => k_is)
    (case es_NoHour => k_is)
    (case eg_NoHour => k_is)
    (case eh_NoHour => k_is)
    (case en_NoHour => k_is)
    (case ei_NoHour => k_is)
    (case eC_NoHour => k_is)
    (case et_NoHour => k_is)
    (case ek_NoHour => k_is)
    (case ee_NoHour => k_is)
    (case ev_NoHour => k_is)
    (case eN_NoHour => k_is)
    (case ey_NoHour => k_is)
    (case ed_NoHour => k_is)
    (case em_NoHour => k_is)
    (case eO_NoHour => k_is)
    (case eu_NoHour => ks_is)
    (case ef_NoHour => k_is)
    (case ec_NoHour => k_is)
    (case eo_NoHour => k_is)
    (case ew_NoHour => rfl)
    (case eF_NoHour => decide +kernel)
    (case eq_NoHour => k_is)
    (case ea_Overtaken => k_is)
    (case el_Overtaken => k_is)
    (case es_Overtaken => k_is)
    (case eg_Overtaken => k_is)
    (case eh_Overtaken => k_is)
    (case en_Overtaken => k_is)
    (case ei_Overtaken => k_is)
    (case eC_Overtaken => k_is)
    (case et_Overtaken => k_is)
    (case ek_Overtaken => k_is)
    (case ee_Overtaken => k_is)
    (case ev_Overtaken => k_is)
    (case eN_Overtaken => k_is)
    (case ey_Overtaken => k_is)
    (case ed_Overtaken => k_is)
    (case em_Overtaken => k_is)
    (case eO_Overtaken => k_is)
    (case eu_Overtaken => ks_is)
    (case ef_Overtaken => k_is)
    (case ec_Overtaken => k_is)
    (case eo_Overtaken => k_is)
    (case ew_Overtaken => rfl)
    (case eF_Overtaken => decide +kernel)
    (case eq_Overtaken => k_is)
    (case ea_Wrong => k_is)
    (case el_Wrong => k_is)
    (case es_Wrong => k_is)
    (case eg_Wrong => k_is)
    (case eh_Wrong => k_is)
    (case en_Wrong => k_is)
    (case ei_Wrong => k_is)
    (case eC_Wrong => k_is)
    (case et_Wrong => k_is)
    (case ek_Wrong => k_is)
    (case ee_Wrong => k_is)
    (case ev_Wrong => k_is)
    (case eN_Wrong => k_is)
    (case ey_Wrong => k_is)
    (case ed_Wrong => k_is)
    (case em_Wrong => k_is)
    (case eO_Wrong => k_is)
    (case eu_Wrong => ks_is)
    (case ef_Wrong => k_is)
    (case ec_Wrong => k_is)
    (case eo_Wrong => k_is)
    (case ew_Wrong => rfl)
    (case eF_Wrong => decide +kernel)
    (case eq_Wrong => k_is)
    (case kt_ix_NoHour_NoHour => kit_is)
    (case kt_ix_NoHour_Overtaken => kit_is)
    (case kt_ix_NoHour_Wrong => kit_is)
    (case kt_ix_Overtaken_NoHour => kit_is)
    (case kt_ix_Overtaken_Overtaken => kit_is)
    (case kt_ix_Overtaken_Wrong => kit_is)
    (case kt_ix_Wrong_NoHour => kit_is)
    (case kt_ix_Wrong_Overtaken => kit_is)
    (case kt_ix_Wrong_Wrong => kit_is)
#print axioms PySem.Challenge.cw_hourneeds_k17_whole_stays_changed_one_by_holds
