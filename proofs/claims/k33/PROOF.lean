import PyProof.Rows.All
import Wide.All
import OpenK.AllK
import Wide.FinOn
import HandS.ForMost
import HandS.ForExc
import HandS.Evl
import HandS.Walk
import HandS.Property
import HandS.IsInst
import HandS.Style
import HandS.More
import HandS.SetFor
import HandS.Zip
import HandS.TupAny
import HandS.Wide
import HandS.Deep
import KE.KOpsOwn
import KE.KDictZip
import KE.RegKIsAll
import KE.GoesEnum
import KE.Datum
import KE.IntTextLaws
import PyProof.StrBlock2
import KE.GoesMore
import KE.KItemsList
import HandS.ListItems
import KE.KTupSum
import OpenK.KOps
import HandS.OwnIter
import HandS.IterVal
import PyProof.ReprRoads
import PyProof.ReprLen
import PyProof.CallFns
import HandS.Conv
import HandS.ClsMeth
import HandS.TryOnly
import HandS.Text
import HandS.HeadHook2
import HandS.Head2
import HandS.HeadEnd
import PySem.Challenge.RW_hourneeds_k33_fewest_with_both_papers
set_option Elab.async false
set_option linter.all false
set_option maxRecDepth 100000
set_option maxHeartbeats 2000000
/-! Rules of our own over the hand layer: items of lists by +=, operators, comparisons and subscripts of own classes. -/
namespace Hn
open PySem PySem.Spec PyProof.Rows L2

/-- xs[i] by getItem (for xs[i] += e) -/
theorem get_list {X : Cx} : PGet X (rIxL X.K) := by
  intro pins s σ H x y v u Q I rx ry h
  obtain ⟨p, xs, i, z, rfl, rfl, hq, he, q⟩ := h
  cases rx
  obtain ⟨t, rfl⟩ := ry
  obtain ⟨its, r, pl, hz⟩ := I.list hq
  obtain ⟨j, h1, h2, h3, h4, h5⟩ := atI_get he
  obtain ⟨w, ew, rw'⟩ := r.get h2
  have hl := r.length
  have hn := line63
  have fin : EP X pins σ Q w s := ⟨z, H, I, rw', q⟩
  by_cases h0 : 0 ≤ i
  · have hj : i.toNat = j := by
      rw [seqIndex_of h0 h5] at h1
      exact Option.some.inj h1
    exact wpAny_getItem_list pl.isList h0 (by omega) (by rw [hj]; simpa using ew) fin
  · have hj : (i + (its.toArray.size : Int)).toNat = j := by
      rw [seqIndex_neg (by omega) h4] at h1
      rw [List.size_toArray, ← hl]
      exact Option.some.inj h1
    exact wpAny_getItem_list_neg pl.isList (by omega) (by rw [List.size_toArray] <;> omega) (by omega) (by rw [hj]; simpa using ew) fin

section
variable {X : Cx} {CX : CXT} {k : Nat} {f C : Addr} {fd : FuncData} {ps : List Str} {sp : Sp} {E : XK}

/-- a promise whose answers are never NotImplemented: nothing to ask, values V have none -/
theorem back_ne {pins : List (Addr × Obj)} {σ : L2.St} {Q : VK} {v : Value} {s' : Shared} (h : EP X pins σ Q v s') : PySem.W.CmpBack (EP X pins σ Q) v s' := by
  obtain ⟨z, H', I', r, q⟩ := id h
  cases z with
  | non => cases r; exact h
  | bl b => cases r; exact h
  | int i => obtain ⟨t, rfl⟩ := r; exact h
  | str i => obtain ⟨t, rfl⟩ := r; exact h
  | byt i => obtain ⟨t, rfl⟩ := r; exact h
  | flt i => obtain ⟨t, rfl⟩ := r; exact h
  | ref a => cases r; exact h
  | ty n => cases r; exact h

/-- x op y by the class's own method, both of one class -/
def rOwn (C : Addr) (sp : Sp) (E : XK) : R2 := fun x y H Q => ∃ a b dx dy fs gs, x = .ref a ∧ y = .ref b ∧ H a = some (.ins C dx fs) ∧ H b = some (.ins C dy gs) ∧ sp [x, y] H Q E
theorem op_own {op : Operator} (F : FnOk X.prog X.w X.K X.mg X.base CX k f fd ps sp) (hr : Room k X.A) (hb : Binds X.K fd ps []) (hx : Passes CX X E)
    (hc : PySem.W.selfFirst X.K C = true) (hs : PySem.W.findIn X.K (.ref C) (PySem.dunder op.info.2) = some (some (.ref f))) (hf : PySem.W.isFn X.K (.ref f) = true) :
    OpR X (binaryOp op) (rOwn C sp E) := by
  intro pins s σ H x y v u Q I rx ry h
  obtain ⟨a, b, dx, dy, fs, gs, rfl, rfl, ha, hbb, q⟩ := h
  cases rx
  cases ry
  obtain ⟨mA, J, _⟩ := ins_get I.hok ha
  obtain ⟨mB, J', _⟩ := ins_get I.hok hbb
  obtain ⟨od, J, _⟩ := J.look
  obtain ⟨od', J', _⟩ := J'.look
  obtain ⟨m, hF⟩ := I.fr
  refine PySem.W.binop_K hF I.ok.mod.kin J J'.type hc hs hf ?_
  exact wpAny_mono (run_fn (us := [.ref a, .ref b]) (vs := [.ref a, .ref b]) F hr hb .nil hx I (.cons rfl (.cons rfl .nil)) q) (fun v s' hv => back_ne hv) fun _ _ e => e

/-- x op n, n an int -/
def rOwnI (C : Addr) (sp : Sp) (E : XK) : R2 := fun x y H Q => ∃ a i dx fs, x = .ref a ∧ y = .int i ∧ H a = some (.ins C dx fs) ∧ sp [x, y] H Q E
theorem op_ownI {op : Operator} {rc fo ro : Option Value} (F : FnOk X.prog X.w X.K X.mg X.base CX k f fd ps sp) (hr : Room k X.A) (hb : Binds X.K fd ps []) (hx : Passes CX X E)
    (hc : PySem.W.selfFirst X.K C = true) (hs : PySem.W.findIn X.K (.ref C) (PySem.dunder op.info.2) = some (some (.ref f))) (hf : PySem.W.isFn X.K (.ref f) = true)
    (hrc : PySem.W.findIn X.K (.ref C) (dunderR op.info.2) = some rc) (hp : rc = none ∨ ∃ g : Addr, rc = some (.ref g))
    (h1 : PySem.W.findIn X.K (.type "int") (PySem.dunder op.info.2) = some fo) (h2 : PySem.W.findIn X.K (.type "int") (dunderR op.info.2) = some ro) (hsub : PySem.W.subIn X.K (.type "int") (.ref C) = some false) :
    OpR X (binaryOp op) (rOwnI C sp E) := by
  intro pins s σ H x y v u Q I rx ry h
  obtain ⟨a, i, dx, fs, rfl, rfl, ha, q⟩ := h
  cases rx
  obtain ⟨t, rfl⟩ := ry
  obtain ⟨mA, J, _⟩ := ins_get I.hok ha
  obtain ⟨od, J, _⟩ := J.look
  obtain ⟨m, hF⟩ := I.fr
  refine PySem.W.ksp_binT (b := .int i t) (T := "int") hF I.ok.mod.kin J rfl hc hs hf hrc hp h1 h2 hsub ?_
  exact wpAny_mono (run_fn (us := [.ref a, .int i t]) (vs := [.ref a, .int i]) F hr hb .nil hx I (.cons rfl (.cons ⟨t, rfl⟩ .nil)) q) (fun v s' hv => back_ne hv) fun _ _ e => e

/-- x == y by the class's own method -/
theorem op_eqOwn (F : FnOk X.prog X.w X.K X.mg X.base CX k f fd ps sp) (hr : Room k X.A) (hb : Binds X.K fd ps []) (hx : Passes CX X E)
    (hs : PySem.W.findIn X.K (.ref C) "__eq__" = some (some (.ref f))) (hf : PySem.W.isFn X.K (.ref f) = true) :
    OpR X (compareOp .Eq) (rOwn C sp E) := by
  intro pins s σ H x y v u Q I rx ry h
  obtain ⟨a, b, dx, dy, fs, gs, rfl, rfl, ha, hbb, q⟩ := h
  cases rx
  cases ry
  obtain ⟨mA, J, _⟩ := ins_get I.hok ha
  obtain ⟨mB, J', _⟩ := ins_get I.hok hbb
  obtain ⟨od, J, _⟩ := J.look
  obtain ⟨od', J', _⟩ := J'.look
  obtain ⟨m, hF⟩ := I.fr
  refine PySem.W.cmp_K (op := .Eq) (tb := .ref C) hr.units0 hF I.ok.mod.kin J J'.type (by simp [PySem.W.notFirst]) hs hf ?_
  exact wpAny_mono (run_fn (us := [.ref a, .ref b]) (vs := [.ref a, .ref b]) F hr hb .nil hx I (.cons rfl (.cons rfl .nil)) q) (fun v s' hv => back_ne hv) fun _ _ e => e

/-- the callee runs, called by a built-in -/
theorem run_fn1 {pins : List (Addr × Obj)} {σ : L2.St} {H : Hp} {s : Shared} {Q : VK} {us : List Value} {vs : List V} (F : FnOk X.prog X.w X.K X.mg X.base CX k f fd ps sp) (hr : Room (k + 1) X.A) (hb : Binds X.K fd ps []) (hx : Passes CX X E)
    (I : Inv X pins σ H s) (r : Vals vs us) (h : sp vs H Q E) : wpAny (model X.prog X.w) X.A.in1 (call (.ref f) us) (EP X pins σ Q) X.xe s := by
  have hl : (us ++ []).length = ps.length := by
    rw [List.append_nil, ← r.length]
    exact F.len _ _ _ _ h
  have hb' := hb s us I.kIn hl
  rw [List.append_nil] at hb'
  refine wpAny_call (codeAny_mono (F.run X.A.in1 X.stack s H ⟨us, []⟩ us vs Q E hr.in1 I.env0.in1 hb' r h) fun r s' hq => ?_)
  cases r with
  | error e => exact hx pins σ H s e s' I hq
  | ok fl =>
    cases fl with
    | ret u => exact I.after hq
    | next => exact False.elim hq
    | brk => exact False.elim hq
    | cont => exact False.elim hq

section
open PySem.W
variable {prog : Program} {w : World} {A : Around} {E' : Value → Shared → Prop} {s : Shared} {K : Frag} {x L : Addr} {h0 : Heap} {m : Str → Option Value} {ox : Obj} {od : Option Obj} {b : Value}
theorem ne_slot : Slot "object" "__ne__" "object.__ne__" :=
  .of (owner := "object") (n := "__ne__") (by rw [typeLookup_type, builtinLookup_eq_fast]; kernel_rfl) (by decide +kernel) (by decide +kernel) (by decide +kernel)
    (by first | exact .inl (by decide +kernel) | exact .inr (by decide +kernel)) (by rw [isSubtype_type]; kernel_rfl)
/-- object.__ne__ asks the own __eq__ -/
theorem objNe_K {Q : Fin → Shared → Prop} (hu : A.units < cLine) (X : K.In s.heap) (I : InstAt s.heap x ox C od) (hs : findIn K (.ref C) "__eq__" = some (some (.ref f))) (hf : isFn K (.ref f) = true)
    (h : wpAny (model prog w) A (call (.ref f) [.ref x, b]) (fun v s' => ∃ r, v = .bool r ∧ Q (.done (.ret (.bool (!r)))) s') E' s) :
    wpAny (model prog w) A (Builtin.«object.__ne__» ⟨[.ref x, b], []⟩) Q E' s := by
  have one : wpAny (model prog w) A (callSpecialIfBound? (.ref x) (Str.ofString "__eq__") [b]) (fun v s' => ∃ r, v = some (.bool r) ∧ Q (.done (.ret (.bool (!r)))) s') E' s :=
    ifBound_K X I hs hf (wpAny_mono h (fun v s' hv => by obtain ⟨r, rfl, q⟩ := hv; exact ⟨r, rfl, q⟩) fun _ _ e => e)
  unfold Builtin.«object.__ne__»
  obtain ⟨hh, g, d, t, os⟩ := s
  repeat (first
    | with_reducible refine wpAny_cRoomFor hu ?_
    | (refine wpAny_bind (m := callSpecialIfBound? (.ref x) (Str.ofString "__eq__") [b]) (wpAny_mono one (fun v s' hv => ?_) fun _ _ e => e); obtain ⟨r, rfl, hq⟩ := hv)
    | exact hq
    | exact wpAny_pure hq
    | (refine wpAny_bind (m := truthy (.bool _)) (wpAny_truthy_bool ?_))
    | wp_step)
/-- x's type is below object -/
theorem isObj_K {M : Model} (X : K.In s.heap) (I : InstAt s.heap x ox C od) (hm : mroIn K C (.type "object") = some true) : Looks M s.heap (isInstance (.ref x) (.type "object")) true :=
  I.type.andThen (looks_mroIn X hm)
theorem tryNe_K {Q : Option Value → Shared → Prop} (hu : A.units + 1 < cLine) (X : K.In s.heap) (I : InstAt s.heap x ox C od) (hn : findIn K (.ref C) "__ne__" = some (some (.builtin "object.__ne__"))) (hm : mroIn K C (.type "object") = some true)
    (hs : findIn K (.ref C) "__eq__" = some (some (.ref f))) (hf : isFn K (.ref f) = true)
    (h : wpAny (model prog w) A.in1 (call (.ref f) [.ref x, b]) (fun v s' => ∃ r, v = .bool r ∧ Q (some (.bool (!r))) s') E' s) :
    wpAny (model prog w) A (tryCompare (.ref x) "__ne__" b) Q E' s := by
  unfold tryCompare
  simp only [callSpecialIfBound?, bindSpecialIfBound?]
  refine wpAny_bind (wpAny_holding (wpAny_bind (wpAny_bind (wpAny_bind (I.type.here ((looks_findIn X hn).here ?_))))))
  simp only [ne_slot.bind]
  refine wpAny_bind (wpAny_askSetting (wpAny_ite ?_))
  have fin : wpAny (model prog w) A (call (.builtin "object.__ne__") ([.ref x] ++ [b])) (fun v s' => ∃ r, v = .bool r ∧ Q (some v) s') E' s := by
    refine wpAny_call (codeAny_call_builtin ne_slot.plain F.cmpEntry_ne (check_slot F.cmpKind_ne F.cmpSplit_ne (isObj_K X I hm) (F.cmpArgs_ne _ _) ?_))
    refine objNe_K (A := A.in1) hu X I hs hf (wpAny_mono h (fun v s' hv => ?_) fun _ _ e => e)
    obtain ⟨r, rfl, q⟩ := hv
    exact ⟨r, rfl, ⟨!r, rfl, q⟩⟩
  have fin2 : wpAny (model prog w) A (call (.builtin "object.__ne__") ([.ref x] ++ [b]) >>= fun v => pure (some v)) (fun v s' => ∃ r, v = some (.bool r) ∧ Q v s') E' s :=
    wpAny_bind (wpAny_mono fin (fun v s' hv => wpAny_pure (by obtain ⟨r, rfl, q⟩ := hv; exact ⟨r, rfl, q⟩)) fun _ _ e => e)
  have fin3 : wpAny (model prog w) A (call (.builtin "object.__ne__") ([.ref x] ++ [b]) >>= fun v => pure (some v)) (fun v s' => wpAny (model prog w) A (match v with
    | some .notImplemented => pure none | none => pure none | some v => pure (some v)) Q E' s') E' s :=
    wpAny_mono fin2 (fun v s' hv => by obtain ⟨r, rfl, q⟩ := hv; exact wpAny_pure q) fun _ _ e => e
  split
  · exact wpAny_bind (wpAny_pure (wpAny_pure fin3))
  · exact wpAny_tryCatch (wpAny_bind (wpAny_pure (wpAny_pure fin3)))
theorem ne_K {Q : Value → Shared → Prop} (hu : A.units + 1 < cLine) (X : K.In s.heap) (I : InstAt s.heap x ox C od) (hb : Looks (model prog w) s.heap (typeOf b) (.ref C)) (hn : findIn K (.ref C) "__ne__" = some (some (.builtin "object.__ne__")))
    (hm : mroIn K C (.type "object") = some true) (hs : findIn K (.ref C) "__eq__" = some (some (.ref f))) (hf : isFn K (.ref f) = true) (hone : ∀ v, b = .ref v ∨ True)
    (ho : oneThing? .NotEq (.ref x) b = none)
    (h : wpAny (model prog w) A.in1 (call (.ref f) [.ref x, b]) (fun v s' => ∃ r, v = .bool r ∧ Q (.bool (!r)) s') E' s) : wpAny (model prog w) A (richCompare .NotEq (.ref x) b) Q E' s := by
  unfold richCompare
  simp only [ho]
  refine wpAny_holding (wpAny_bind (wpAny_cRoomFor (Nat.lt_of_succ_lt hu) ?_))
  rw [cmpInfo_NotEq]
  dsimp only
  refine wpAny_bind (I.type.here (wpAny_bind (hb.here ?_)))
  rw [show (Value.ref C != Value.ref C) = false from by simp]
  simp only [Bool.false_eq_true, if_false]
  refine wpAny_bind (wpAny_pure ?_)
  simp only [Bool.false_eq_true, if_false]
  refine wpAny_bind (tryNe_K hu X I hn hm hs hf (wpAny_mono h (fun v s' hv => ?_) fun _ _ e => e))
  obtain ⟨r, rfl, q⟩ := hv
  exact ⟨r, rfl, wpAny_pure q⟩
end
/-- x != y by the class's own __eq__ -/
def rOwnNe (C : Addr) (sp : Sp) (E : XK) : R2 := fun x y H Q => ∃ a b dx dy fs gs, x = .ref a ∧ y = .ref b ∧ H a = some (.ins C dx fs) ∧ H b = some (.ins C dy gs) ∧ sp [x, y] H (fun z H' => ∃ r, z = .bl r ∧ Q (.bl (!r)) H') E
theorem op_neOwn (F : FnOk X.prog X.w X.K X.mg X.base CX k f fd ps sp) (hr : Room (k + 1) X.A) (hb : Binds X.K fd ps []) (hx : Passes CX X E)
    (hs : PySem.W.findIn X.K (.ref C) "__eq__" = some (some (.ref f))) (hf : PySem.W.isFn X.K (.ref f) = true)
    (hn : PySem.W.findIn X.K (.ref C) "__ne__" = some (some (.builtin "object.__ne__"))) (hm : PySem.W.mroIn X.K C (.type "object") = some true) :
    OpR X (compareOp .NotEq) (rOwnNe C sp E) := by
  intro pins s σ H x y v u Q I rx ry h
  obtain ⟨a, b, dx, dy, fs, gs, rfl, rfl, ha, hbb, q⟩ := h
  cases rx
  cases ry
  obtain ⟨mA, J, _⟩ := ins_get I.hok ha
  obtain ⟨mB, J', _⟩ := ins_get I.hok hbb
  obtain ⟨od, J, _⟩ := J.look
  obtain ⟨od', J', _⟩ := J'.look
  have hu := hr.units
  refine ne_K (by omega) I.kIn J J'.type hn hm hs hf (fun _ => .inr trivial) (by simp only [oneThing_ref]) ?_
  refine wpAny_mono (run_fn1 (us := [.ref a, .ref b]) (vs := [.ref a, .ref b]) F hr hb hx I (.cons rfl (.cons rfl .nil)) q) (fun v s' hv => ?_) fun _ _ e => e
  obtain ⟨z, H', I', rz, r, rfl, q⟩ := hv
  cases rz
  exact ⟨r, rfl, .bl (!r), H', I', rfl, q⟩
end
end Hn

/-! Defs by their promise alone; comprehensions by what each item is; the bag of drawn numbers. -/
namespace Hn
open PySem PySem.Spec PyProof.Rows L2 Evl

/-! ### defs -/
/-- the def at f keeps the promise sp, by at most level k -/
def Okf (P : Program) (w : World) (K : PySem.W.Frag) (mg : Str → Option Value) (base : Heap) (k : Nat) (f : Addr) (ps : List Str) (sp : Sp) : Prop :=
  ∃ fd, FnOk P w K mg base (L2.CX P w) k f fd ps sp ∧ Binds K fd ps []
section
variable {P : Program} {w : World} {K : PySem.W.Frag} {mg : Str → Option Value} {base : Heap}
theorem Okf.mono {j k : Nat} {f : Addr} {ps : List Str} {sp : Sp} (F : Okf P w K mg base j f ps sp) (h : j ≤ k) : Okf P w K mg base k f ps sp :=
  let ⟨fd, a, b⟩ := F
  ⟨fd, a.mono h, b⟩
theorem Okf.imp {k : Nat} {f : Addr} {ps : List Str} {sp sp' : Sp} (F : Okf P w K mg base k f ps sp) (h : ∀ vs H Q E, sp' vs H Q E → sp vs H Q E) : Okf P w K mg base k f ps sp' :=
  let ⟨fd, a, b⟩ := F
  ⟨fd, a.imp h, b⟩
/-- a def of the text that stands at f, and how it binds -/
def Df (K : PySem.W.Frag) (x qual : Str) (st : Stmt) (f : Addr) (ps : List Str) : Prop := ∃ fd, Fun K x qual st f fd ∧ Binds K fd ps []
theorem Df.kp {x qual : Str} {st : Stmt} {f : Addr} {ps : List Str} (F : Df K x qual st f ps) : PySem.W.keepIn K (.ref f) = true := let ⟨_, a, _⟩ := F; a.kp
/-- a def that lets nothing out keeps its promise wherever something may be let out -/
theorem fn_lift {CX : CXT} {k : Nat} {f : Addr} {fd : FuncData} {ps : List Str} {sp : Sp} (F : FnOk P w K mg base CX0 k f fd ps sp) : FnOk P w K mg base CX k f fd ps sp :=
  ⟨F.len, fun A outer s H args us vs Q E hr e0 hb r q => codeAny_mono (F.run A outer s H args us vs Q E hr e0 hb r q) fun rr s' hc => by
    cases rr with
    | error e => exact False.elim hc
    | ok fl => cases fl <;> exact hc⟩
theorem okf_of {x qual : Str} {st : Stmt} {f : Addr} {N ps : List Str} {k : Nat} {sp : Sp} (F : Df K x qual st f ps) (S : FnScope N ps (defScope st)) (len : ∀ vs H Q E, sp vs H Q E → vs.length = ps.length)
    (hbody : ∀ (cdv : Value) (A : Around) (outer : List Env) (s : Shared) (H : Hp) (vs : List V) (Q : VK) (E : XK), Room k (A.deeper (envOfC qual (defScope st) s.heap.objs.size f cdv)) → sp vs H Q E →
      ∃ t, PSs (cxOf CX0 P w K mg base N qual (defScope st) f cdv A outer s H E).nox (defBody st) t ∧ t { nx := fun _ H' => Q .non H', rt := Q } (start N vs) H) : Okf P w K mg base (k + 1) f ps sp :=
  let ⟨fd, a, b⟩ := F
  ⟨fd, fn_lift (a.ok S len hbody), b⟩
end
section
variable {X : Cx} {k : Nat} {f C : Addr} {ps : List Str} {sp : Sp} {x m : Str} {p pos apos : Pos} {e o : Expr} {es : List Expr} {ta : TE} {t : TA}
theorem pf_call (G : Okf X.prog X.w X.K X.mg X.base k f ps sp) (hr : Room k X.A) (hg : Gl X x) (hm : X.mg x = some (.ref f)) (hk : PySem.W.keepIn X.K (.ref f) = true)
    (ha : PA X (e :: es) t) (hdb : (x == ("__debug__" : Str)) = false := by decide) (he : starEach (e :: es) X.env = (false, eval e X.env) :: starEach es X.env := by rfl) (hpl : (backTo pos (starEach es X.env)).any (·.1) = false := by rfl) :
    PE X (.Call (.Name x p) (e :: es) [] pos) (tCall sp [] E0 t) :=
  let ⟨_, a, b⟩ := G
  pe_call a hr hg hm hk b .nil passL ha hdb he hpl
theorem pf_meth {pl : Sem Bool} (G : Okf X.prog X.w X.K X.mg X.base k f ps sp) (hr : Room k X.A) (c : Cls X.K C) (hm : Meth X.K C m f) (he : PE X o ta) (ha : PA X (e :: es) t)
    (hst : starEach (e :: es) X.env = (false, eval e X.env) :: starEach es X.env := by rfl) (hpl : (backTo pos (starEach es X.env)).any (·.1) = false := by rfl)
    (ht : eval (.Call (.Attribute o m apos) (e :: es) [] pos) X.env = (do
      let ov ← eval o X.env
      standAt apos.atName
      let (f, first) ← holding [ov] (getMethod ov m pl)
      callWith pos f first (backTo pos (starEach (e :: es) X.env)) (backToKw pos (keywordEach [] X.env))) := by rfl) :
    PE X (.Call (.Attribute o m apos) (e :: es) [] pos) (tMeth C m sp [] E0 ta t) :=
  let ⟨_, a, b⟩ := G
  pe_meth he c hm a hr b .nil passL ha hst hpl ht
theorem pf_meth0 {pl : Sem Bool} (G : Okf X.prog X.w X.K X.mg X.base k f ps sp) (hr : Room k X.A) (c : Cls X.K C) (hm : Meth X.K C m f) (he : PE X o ta)
    (ht : eval (.Call (.Attribute o m apos) [] [] pos) X.env = (do
      let ov ← eval o X.env
      standAt apos.atName
      let (f, first) ← holding [ov] (getMethod ov m pl)
      callWith pos f first (backTo pos (starEach [] X.env)) (backToKw pos (keywordEach [] X.env))) := by rfl) :
    PE X (.Call (.Attribute o m apos) [] [] pos) (tMeth C m sp [] E0 ta tNil) :=
  let ⟨_, a, b⟩ := G
  pe_meth0 he c hm a hr b .nil passL ht
theorem pf_make (G : Okf X.prog X.w X.K X.mg X.base k f ps sp) (hr : Room (k + 1) X.A) (M : Mk X.K C f) (hg : Gl X x) (hm : X.mg x = some (.ref C))
    (ha : PA X (e :: es) t) (hdb : (x == ("__debug__" : Str)) = false := by decide) (he : starEach (e :: es) X.env = (false, eval e X.env) :: starEach es X.env := by rfl) (hpl : (backTo pos (starEach es X.env)).any (·.1) = false := by rfl) :
    PE X (.Call (.Name x p) (e :: es) [] pos) (tMake C sp [] E0 t) :=
  let ⟨_, a, b⟩ := G
  pe_make M a hr hg hm b .nil passL ha hdb he hpl
theorem passN {X : Cx} : Passes (L2.CX X.prog X.w) X.nox E0 := fun _ _ _ _ _ _ _ h => by
  obtain ⟨_, _, _, _, _, _, _, _, _, _, _, _, z⟩ := h
  exact z.elim
theorem pf_prop {q : Addr} (G : Okf X.prog X.w X.K X.mg X.base k f ps sp) (hr : Room (k + 1) X.A) (c : Cls X.K C) (hp : PropOf X.K C m q f) (he : PE X e ta)
    (hab : attributeBase e m X.env (eval e X.env) = eval e X.env := by rfl) : PE X (.Attribute e m pos) (tProp C sp [] E0 ta) :=
  let ⟨_, a, b⟩ := G
  pe_prop he c hp a hr b .nil passN hab
end

/-! ### sequences -/
/-- a list or a tuple -/
def Sq (K : PySem.W.Frag) (H : Hp) (a : Addr) (xs : List V) : Prop := SqL K H a xs ∨ SqT K H a xs
theorem Sq.mono {K : PySem.W.Frag} {H H' : Hp} {a : Addr} {xs : List V} (e : Ex H H') (h : Sq K H a xs) : Sq K H' a xs := h.elim (fun h => .inl (ex_l e h)) (fun h => .inr (ex_t e h))
theorem Ex.upd2 {H H1 : Hp} {p : Addr} {o : HO} (e : Ex H H1) (h : H1 p = none) : Ex H (upd H1 p o) := e.trans (Ex.new h)

/-! ### items of rows of ints -/
theorem at_int {ns : List Int} {i : Int} (h0 : 0 ≤ i) (h1 : i < (ns.length : Int)) : atI (ns.map V.int) i = some (.int (ns.getD i.toNat 0)) := by
  obtain ⟨j, rfl⟩ : ∃ j : Nat, i = (j : Int) := ⟨i.toNat, by omega⟩
  have hj : j < ns.length := by omega
  refine atI_nat ?_
  rw [List.getElem?_map, List.getElem?_eq_getElem hj, Int.toNat_natCast, List.getD_eq_getElem?_getD, List.getElem?_eq_getElem hj]
  rfl
theorem int_at {ns : List Int} {i : Nat} {x : V} (h : (ns.map V.int)[i]? = some x) : x = .int (ns.getD i 0) := by
  rw [List.getElem?_map] at h
  rw [List.getD_eq_getElem?_getD]
  cases e : ns[i]? with
  | none => rw [e] at h; cases h
  | some u => rw [e] at h; exact (Option.some.inj h).symm
theorem gD_mem {ns : List Int} {j : Nat} (h : j < ns.length) : ns.getD j 0 ∈ ns := by
  rw [List.getD_eq_getElem?_getD, List.getElem?_eq_getElem h]
  exact List.getElem_mem h

/-! ### all but lists stays -/
def isLst : HO → Bool
  | .lst _ => true
  | _ => false
/-- what is no list stands as it stood -/
def Xl (H H' : Hp) : Prop := ∀ a o, H a = some o → isLst o = false → H' a = some o
theorem Xl.refl (H : Hp) : Xl H H := fun _ _ h _ => h
theorem Xl.trans {H H1 H2 : Hp} (a : Xl H H1) (b : Xl H1 H2) : Xl H H2 := fun x o h n => b x o (a x o h n) n
theorem Xl.of {H H' : Hp} (e : Ex H H') : Xl H H' := fun a o h _ => e a o h
theorem Xl.set {H : Hp} {l : Addr} {xs ys : List V} (h : H l = some (.lst xs)) : Xl H (upd H l (.lst ys)) := fun a o e n => by
  rw [upd_ne (ne_of e h (by intro z; rw [z] at n; cases n))]
  exact e

/-! ### comprehensions: each item is told by R, which stays -/
section
variable {J : It} {n : Nat} {G : Hp → Prop} {Y : Nat → Hp → V → Hp → Prop}
/-- what a comprehension's reading asks behind the walked thing -/
def LcTail (J : It) (H1 : Hp) (g : TG) (tt : TT) (te : TE) (vs : List Nat) (σ : L2.St) (Q : VK) : Prop :=
  ∀ D, H1 D = none → ∃ W : Nat → Nat → Hp → Prop, (∃ m, W 0 m (upd H1 D (.lst []))) ∧ ∀ i m H, W i m H →
      (J.stop i H ∧ Q (.ref D) H) ∨ (J.go i H ∧ ∃ Nx : Hp → Prop, (∀ H', Nx H' → ∃ m', m' < m ∧ W (i + 1) m' H') ∧ ∀ x H', J.yld i H x H' → g x (wipe σ vs) H' fun σ2 H2 => wipe σ2 vs = wipe σ vs ∧ tt σ2 H2 fun b H3 =>
        if b = true then te σ2 H3 fun y H4 => ∃ acc, H4 D = some (.lst acc) ∧ acc.length < sizeLine ∧ Nx (upd H4 D (.lst (acc ++ [y]))) else Nx H3)
/-- items f i of the turns i that pass the test p -/
theorem lc_fil (w : Walk J n G Y) {g : TG} {tt : TT} {te : TE} {vs : List Nat} {σ : L2.St} {H1 : Hp} {Q : VK} (p : Nat → Bool) (R : Addr → Nat → V → Hp → Prop) (hG : ∀ D H H', Ex H1 H' → Ex H H' → H1 D = none → (∃ xs, H D = some (.lst xs)) → G H')
    (hR1 : ∀ D i v H H', Ex H H' → R D i v H → R D i v H') (hR2 : ∀ D i v H xs ys, H D = some (.lst xs) → R D i v H → R D i v (upd H D (.lst ys))) (hn : n ≤ 100000)
    (turn : ∀ D i x H H', i < n → Ex H1 H → H1 D = none → (∃ xs, H D = some (.lst xs)) → Y i H x H' → ∀ k : Bool → Hp → Prop, ∀ kk : VK, (∀ y H4, p i = true → Ex H H4 → R D i y H4 → kk y H4) → (∀ H3, p i = false → Ex H H3 → k false H3) →
      g x (wipe σ vs) H' fun σ2 H2 => wipe σ2 vs = wipe σ vs ∧ tt σ2 H2 fun b H3 => if b = true then te σ2 H3 kk else k false H3)
    (fin : ∀ D H ys, H1 D = none → Ex H1 H → H D = some (.lst ys) → ys.length = ((List.range n).filter p).length → (∀ (j : Nat) (y : V) (i : Nat), ys[j]? = some y → ((List.range n).filter p)[j]? = some i → R D i y H) → Q (.ref D) H) :
    LcTail J H1 g tt te vs σ Q := by
  intro D hD
  refine lc_it w (fun i H => Ex H1 H ∧ ∃ ys, H D = some (.lst ys) ∧ ys.length = ((List.range i).filter p).length ∧ ∀ (j : Nat) (y : V) (i' : Nat), ys[j]? = some y → ((List.range i).filter p)[j]? = some i' → R D i' y H) ⟨Ex.new hD, [], upd_same, rfl, fun j y i h => by simp at h⟩ (fun i H _ q => hG D H H q.1 (Ex.refl H) hD (let ⟨ys, h, _⟩ := q.2; ⟨ys, h⟩)) (fun i x H H' hi q y => ?_) fun H q => ?_
  · obtain ⟨e, ys, hy, hl, hr⟩ := q
    have hlen : ys.length ≤ i := by
      rw [hl]
      have := List.length_filter_le p (List.range i)
      rw [List.length_range] at this
      exact this
    have T := turn D i x H H' hi e hD ⟨ys, hy⟩ y (fun _ H3 => Ex H1 H3 ∧ ∃ ys, H3 D = some (.lst ys) ∧ ys.length = ((List.range (i + 1)).filter p).length ∧ ∀ (j : Nat) (y : V) (i' : Nat), ys[j]? = some y → ((List.range (i + 1)).filter p)[j]? = some i' → R D i' y H3)
      (fun y H4 => ∃ acc, H4 D = some (.lst acc) ∧ acc.length < sizeLine ∧ Ex H1 (upd H4 D (.lst (acc ++ [y]))) ∧ ∃ ys, (upd H4 D (.lst (acc ++ [y]))) D = some (.lst ys) ∧ ys.length = ((List.range (i + 1)).filter p).length ∧ ∀ (j : Nat) (y' : V) (i' : Nat), ys[j]? = some y' → ((List.range (i + 1)).filter p)[j]? = some i' → R D i' y' (upd H4 D (.lst (acc ++ [y]))))
      ?_ ?_
    · exact T
    · intro z H4 pi e4 rz
      have hfil : (List.range (i + 1)).filter p = (List.range i).filter p ++ [i] := by
        rw [List.range_succ, List.filter_append, List.filter_cons, if_pos pi] <;> rfl
      have hD4 := e4 D _ hy
      refine ⟨ys, hD4, sz_lt (by omega), Ex.mut (e.trans e4) hD, ys ++ [z], upd_same, ?_, fun j u i' hj hi' => ?_⟩
      · rw [hfil, List.length_append, List.length_append, hl]
        rfl
      · rw [hfil] at hi'
        refine hR2 D i' u H4 ys _ hD4 ?_
        rcases Nat.lt_or_ge j ys.length with h | h
        · rw [List.getElem?_append_left h] at hj
          rw [List.getElem?_append_left (by omega)] at hi'
          exact hR1 D i' u H H4 e4 (hr j u i' hj hi')
        · have h0 : j = ys.length := by
            have := (List.getElem?_eq_some_iff.mp hj).1
            rw [List.length_append, List.length_singleton] at this
            omega
          subst h0
          rw [List.getElem?_append_right (Nat.le_refl _), Nat.sub_self] at hj
          rw [hl, List.getElem?_append_right (Nat.le_refl _), Nat.sub_self] at hi'
          have ej : z = u := by simpa using hj
          have ei : i = i' := by simpa using hi'
          rw [← ej, ← ei]
          exact rz
    · intro H3 pi e3
      have hfil : (List.range (i + 1)).filter p = (List.range i).filter p := by
        rw [List.range_succ, List.filter_append, List.filter_cons, if_neg (by rw [pi]; decide)]
        exact List.append_nil _
      rw [hfil]
      exact ⟨e.trans e3, ys, e3 D _ hy, hl, fun j u i' hj hi' => hR1 D i' u H H3 e3 (hr j u i' hj hi')⟩
  · obtain ⟨e, ys, hy, hl, hr⟩ := q
    exact fin D H ys hD e hy hl fun j y i h1 h2 => hr j y i h1 h2
/-- range(n) -/
theorem walk_r0 {n : Nat} : Walk (Itr 0 n) n (fun _ => True) (fun i H x H' => H' = H ∧ x = .int (i : Int)) :=
  ⟨fun _ _ hi _ => hi, fun _ _ => Nat.le_refl _, fun i _ x _ _ _ y => ⟨y.1, by rw [y.2, Int.zero_add]⟩⟩
theorem filter_all (n : Nat) : (List.range n).filter (fun _ => true) = List.range n := List.filter_eq_self.mpr fun _ _ => rfl
/-- every turn gives an item -/
theorem lc_map (w : Walk J n G Y) {g : TG} {te : TE} {vs : List Nat} {σ : L2.St} {H1 : Hp} {Q : VK} (R : Addr → Nat → V → Hp → Prop) (hG : ∀ D H H', Ex H1 H' → Ex H H' → H1 D = none → (∃ xs, H D = some (.lst xs)) → G H')
    (hR1 : ∀ D i v H H', Ex H H' → R D i v H → R D i v H') (hR2 : ∀ D i v H xs ys, H D = some (.lst xs) → R D i v H → R D i v (upd H D (.lst ys))) (hn : n ≤ 100000)
    (turn : ∀ D i x H H', i < n → Ex H1 H → H1 D = none → (∃ xs, H D = some (.lst xs)) → Y i H x H' → ∀ k : VK, (∀ y H4, Ex H H4 → R D i y H4 → k y H4) → g x (wipe σ vs) H' fun σ2 H2 => wipe σ2 vs = wipe σ vs ∧ te σ2 H2 k)
    (fin : ∀ D H ys, H1 D = none → Ex H1 H → H D = some (.lst ys) → ys.length = n → (∀ (i : Nat) (y : V), ys[i]? = some y → R D i y H) → Q (.ref D) H) :
    LcTail J H1 g tYes te vs σ Q := by
  refine lc_fil w (fun _ => true) R hG hR1 hR2 hn (fun D i x H H' hi e hD hx y k kk h1 _ => turn D i x H H' hi e hD hx y kk fun z H4 e4 r => h1 z H4 rfl e4 r) fun D H ys hD e hy hl hr => ?_
  rw [filter_all, List.length_range] at hl
  refine fin D H ys hD e hy hl fun i y h => hr i y i h ?_
  have hi := (List.getElem?_eq_some_iff.mp h).1
  rw [filter_all, List.getElem?_range (by omega)]
/-- .. each item a value that says nothing of the heap -/
theorem lc_val (w : Walk J n G Y) {g : TG} {te : TE} {vs : List Nat} {σ : L2.St} {H1 : Hp} {Q : VK} (R : Nat → V → Prop) (hG : ∀ H, Ex H1 H → G H) (hn : n ≤ 100000)
    (turn : ∀ i x H H', i < n → Ex H1 H → Y i H x H' → ∀ k : VK, (∀ y H4, Ex H H4 → R i y → k y H4) → g x (wipe σ vs) H' fun σ2 H2 => wipe σ2 vs = wipe σ vs ∧ te σ2 H2 k)
    (fin : ∀ D H ys, H1 D = none → Ex H1 H → H D = some (.lst ys) → ys.length = n → (∀ (i : Nat) (y : V), ys[i]? = some y → R i y) → Q (.ref D) H) : LcTail J H1 g tYes te vs σ Q :=
  lc_map w (fun _ i v _ => R i v) (fun _ _ H' e _ _ _ => hG H' e) (fun _ _ _ _ _ _ r => r) (fun _ _ _ _ _ _ _ r => r) hn (fun _ i x H H' hi e _ _ y k h => turn i x H H' hi e y k h) fun D H ys hD e hy hl hr => fin D H ys hD e hy hl hr
/-- .. each item just f i -/
theorem lc_fun (w : Walk J n G Y) {g : TG} {te : TE} {vs : List Nat} {σ : L2.St} {H1 : Hp} {Q : VK} (f : Nat → V) (hG : ∀ H, Ex H1 H → G H) (hn : n ≤ 100000)
    (turn : ∀ i x H H', i < n → Ex H1 H → Y i H x H' → ∀ k : VK, (∀ H4, Ex H H4 → k (f i) H4) → g x (wipe σ vs) H' fun σ2 H2 => wipe σ2 vs = wipe σ vs ∧ te σ2 H2 k)
    (fin : ∀ D H, H1 D = none → Ex H1 H → H D = some (.lst ((List.range n).map f)) → Q (.ref D) H) : LcTail J H1 g tYes te vs σ Q :=
  lc_val w (fun i y => y = f i) hG hn (fun i x H H' hi e y k h => turn i x H H' hi e y k fun H4 e4 => h _ H4 e4 rfl) fun D H ys hD e hy hl hr => by
    refine fin D H hD e ?_
    rw [hy]
    congr 2
    refine List.ext_getElem? fun i => ?_
    rcases Nat.lt_or_ge i n with h | h
    · have h2 : i < ys.length := by omega
      rw [List.getElem?_eq_getElem h2, List.getElem?_map, List.getElem?_range h, hr i ys[i] (List.getElem?_eq_getElem h2)]
      rfl
    · rw [List.getElem?_eq_none (by omega), List.getElem?_eq_none (by rw [List.length_map, List.length_range]; omega)]
/-- .. each item that passes just f i -/
theorem lc_filf (w : Walk J n G Y) {g : TG} {tt : TT} {te : TE} {vs : List Nat} {σ : L2.St} {H1 : Hp} {Q : VK} (p : Nat → Bool) (f : Nat → V) (hG : ∀ H, Ex H1 H → G H) (hn : n ≤ 100000)
    (turn : ∀ i x H H', i < n → Ex H1 H → Y i H x H' → ∀ k : Bool → Hp → Prop, ∀ kk : VK, (∀ H4, p i = true → Ex H H4 → kk (f i) H4) → (∀ H3, p i = false → Ex H H3 → k false H3) →
      g x (wipe σ vs) H' fun σ2 H2 => wipe σ2 vs = wipe σ vs ∧ tt σ2 H2 fun b H3 => if b = true then te σ2 H3 kk else k false H3)
    (fin : ∀ D H, H1 D = none → Ex H1 H → H D = some (.lst (((List.range n).filter p).map f)) → Q (.ref D) H) : LcTail J H1 g tt te vs σ Q :=
  lc_fil w p (fun _ i v _ => v = f i) (fun _ _ H' e _ _ _ => hG H' e) (fun _ _ _ _ _ _ r => r) (fun _ _ _ _ _ _ _ r => r) hn (fun _ i x H H' hi e _ _ y k kk h1 h2 => turn i x H H' hi e y k kk (fun H4 pi e4 => h1 _ H4 pi e4 rfl) h2) fun D H ys hD e hy hl hr => by
    refine fin D H hD e ?_
    rw [hy]
    congr 2
    refine List.ext_getElem? fun j => ?_
    rcases Nat.lt_or_ge j ys.length with h | h
    · have h2 : j < ((List.range n).filter p).length := by omega
      rw [List.getElem?_eq_getElem h, List.getElem?_map, List.getElem?_eq_getElem h2, hr j ys[j] _ (List.getElem?_eq_getElem h) (List.getElem?_eq_getElem h2)]
      rfl
    · rw [List.getElem?_eq_none (by omega), List.getElem?_eq_none (by rw [List.length_map]; omega)]
end
end Hn

/-! The bag of drawn numbers: its state is not told, so a draw changes nothing that is known. -/
namespace Hn
open PySem PySem.Spec PyProof.Rows L2 Evl

/-- what a bag's list holds -/
def BagV (l : Addr) (xs : List V) : Prop := ∃ c0 c1 c2 : Int, xs = [.int c0, .int c1, .int c2, .ref l] ∧ 0 ≤ c0 ∧ 0 ≤ c1 ∧ c1 < 2147483647 ∧ 0 ≤ c2
/-- the bag's own object: a list of such four -/
def BagO (b l : Addr) (h : Heap) : Prop := ∃ xs, BagV l xs ∧ ∃ (its : List Value) (n : Nat), Vals xs its ∧ h.get? b = some { cls := .type "list", data := .seq its.toArray n }
/-- a bag stands at b -/
def Bag (H : Hp) (b : Addr) : Prop := ∃ (l : Addr) (o : Obj) (cs : List Int), H b = some (.ext (BagO b l)) ∧ H l = some (.frz o (.lst (cs.map V.int))) ∧ (∀ c ∈ cs, 0 ≤ c) ∧ cs.length ≤ 63
theorem Bag.mono {H H' : Hp} {b : Addr} (e : Xl H H') (h : Bag H b) : Bag H' b :=
  let ⟨l, o, cs, h1, h2, h3, h4⟩ := h
  ⟨l, o, cs, e _ _ h1 rfl, e _ _ h2 rfl, h3, h4⟩

/-! ### another view of the heap at a def's end -/
section
variable {P : Program} {w : World} {K : PySem.W.Frag} {mg : Str → Option Value} {base : Heap} {CX : CXT}
/-- what is tracked may be told otherwise when a def ends -/
theorem fn_alt {k : Nat} {f : Addr} {fd : FuncData} {ps : List Str} {sp sp' : Sp} (F : FnOk P w K mg base CX k f fd ps sp)
    (h : ∀ vs H Q E, sp' vs H Q E → sp vs H (fun v H1 => ∀ h' : Heap, HOk P w H1 h' → ∃ H2 : Hp, HOk P w H2 h' ∧ (∀ a, H1 a = none → H2 a = none) ∧ (∀ b xs, H b = some (.tup xs) → H2 b = some (.tup xs)) ∧
      (∀ b o u, H b = some (.frz o u) → H2 b = some (.frz o u)) ∧ (∀ b qs, H b = some (.tbl qs) → ∃ more, H2 b = some (.tbl (qs ++ more))) ∧ Q v H2) E) : FnOk P w K mg base CX k f fd ps sp' := by
  refine ⟨fun vs H Q E q => F.len _ _ _ _ (h vs H Q E q), fun A outer s H args us vs Q E hr e0 hb r q => ?_⟩
  refine codeAny_mono (F.run A outer s H args us vs _ E hr e0 hb r (h vs H Q E q)) fun rr s' hc => ?_
  cases rr with
  | error e => exact hc
  | ok fl =>
    cases fl with
    | ret u =>
      obtain ⟨v, H1, h1, h2, un, hok, rv, q⟩ := hc
      obtain ⟨H2, k1, k2, k3, k4, k5, k6⟩ := q s'.heap hok
      exact ⟨v, H2, h1, h2, ⟨un.keep, un.slot, fun b o e n x => k2 b (un.free b o e n x), un.there, k3, k4, k5⟩, k1, rv, k6⟩
    | next => exact False.elim hc
    | brk => exact False.elim hc
    | cont => exact False.elim hc
theorem okf_alt {k : Nat} {f : Addr} {ps : List Str} {sp sp' : Sp} (F : Okf P w K mg base k f ps sp)
    (h : ∀ vs H Q E, sp' vs H Q E → sp vs H (fun v H1 => ∀ h' : Heap, HOk P w H1 h' → ∃ H2 : Hp, HOk P w H2 h' ∧ (∀ a, H1 a = none → H2 a = none) ∧ (∀ b xs, H b = some (.tup xs) → H2 b = some (.tup xs)) ∧
      (∀ b o u, H b = some (.frz o u) → H2 b = some (.frz o u)) ∧ (∀ b qs, H b = some (.tbl qs) → ∃ more, H2 b = some (.tbl (qs ++ more))) ∧ Q v H2) E) : Okf P w K mg base k f ps sp' :=
  let ⟨fd, a, b⟩ := F
  ⟨fd, fn_alt a h, b⟩
/-- what stands at a may be told otherwise, if it is so and nothing leans on it -/
theorem hok_put {H : Hp} {h : Heap} {a : Addr} {o u : HO} (x : HOk P w H h) (ha : H a = some o) (hm : Mut (some o)) (hu : ObjOk P w (upd H a u) h a u) : HOk P w (upd H a u) h := fun b q e => by
  by_cases hb : b = a
  · subst hb
    rw [upd_same] at e
    cases e
    exact hu
  · rw [upd_ne hb] at e
    refine (x b q e).stay (fun _ _ _ z => z) (fun c z => ?_) fun c xs z => ?_
    · rw [upd_ne (ne_of z ha (by intro q; rw [← q] at hm; exact hm))]
      exact z
    · rw [upd_ne (ne_of z ha (by intro q; rw [← q] at hm; exact hm))]
      exact z
theorem ext_ok {H : Hp} {h : Heap} {b l : Addr} {xs : List V} (hx : BagV l xs) (ok : ObjOk P w H h b (.lst xs)) (H' : Hp) : ObjOk P w H' h b (.ext (BagO b l)) := by
  obtain ⟨_, its, n, r, e⟩ := ok
  refine ⟨⟨xs, hx, its, n, r, e⟩, ⟨_, e⟩, fun h1 h2 q k => ?_⟩
  obtain ⟨xs', hx', its', n', r', e'⟩ := q
  exact ⟨xs', hx', its', n', r', k _ e'⟩

/-- what _law_take promises of the list itself -/
def spTakeL : Sp := fun vs H Q _ => ∃ (b l : Addr) (u : Int) (o : Obj) (cs : List Int) (xs : List V), vs = [.ref b, .int u] ∧ H b = some (.lst xs) ∧ BagV l xs ∧ H l = some (.frz o (.lst (cs.map V.int))) ∧ (∀ c ∈ cs, 0 ≤ c) ∧ cs.length ≤ 63 ∧ 0 < u ∧ u < 1073741824 ∧
  ∀ (n : Int) (ys : List V), 0 ≤ n → n < u → BagV l ys → Q (.int n) (upd H b (.lst ys))
/-- .. of the bag: some number below the bound, nothing else is otherwise -/
def spTake : Sp := fun vs H Q _ => ∃ (b : Addr) (u : Int), vs = [.ref b, .int u] ∧ Bag H b ∧ 0 < u ∧ u < 1073741824 ∧ ∀ n : Int, 0 ≤ n → n < u → Q (.int n) H

theorem take_ok {k : Nat} {f : Addr} {ps : List Str} (F : Okf P w K mg base k f ps spTakeL) (hl : ps.length = 2) : Okf P w K mg base k f ps spTake := by
  obtain ⟨fd, F, hb⟩ := F
  refine ⟨fd, ⟨fun vs H Q E q => ?_, fun A outer s H args us vs Q E hr e0 hbd r q => ?_⟩, hb⟩
  · obtain ⟨b, u, rfl, _⟩ := q
    exact hl.symm
  · obtain ⟨b, u, rfl, ⟨l, o, cs, hB, hL, hc, hcl⟩, hu0, hu1, k⟩ := q
    obtain ⟨⟨xs, hx, its, n, rv, hobj⟩, _, _⟩ := e0.hok b _ hB
    have hz : xs.length ≤ sizeLine := by
      obtain ⟨c0, c1, c2, rfl, _⟩ := hx
      show 4 ≤ sizeLine
      decide
    have ok1 : HOk P w (upd H b (.lst xs)) s.heap := hok_put e0.hok hB trivial ⟨hz, its, n, rv, hobj⟩
    have nb : ∀ c, H c = none → c ≠ b := fun c z y => by rw [y, hB] at z; cases z
    have e1 : Env0 P w K mg base A outer s (upd H b (.lst xs)) :=
      ⟨e0.frames, e0.mod, fun c q e => ⟨(e0.bs c q e).1, by rw [upd_ne (nb c (e0.bs c q e).2)]; exact (e0.bs c q e).2⟩, e0.bsz, e0.funs, fun c hc' => by rw [upd_ne (nb c (e0.frf c hc'))]; exact e0.frf c hc', ok1, e0.bare⟩
    have nl : l ≠ b := ne_of hL hB (by intro z; cases z)
    refine codeAny_mono (F.run A outer s (upd H b (.lst xs)) args us [.ref b, .int u] (fun v H' => ∃ m ys, v = .int m ∧ 0 ≤ m ∧ m < u ∧ BagV l ys ∧ H' = upd H b (.lst ys)) E0 hr e1 hbd r
      ⟨b, l, u, o, cs, xs, rfl, upd_same, hx, by rw [upd_ne nl]; exact hL, hc, hcl, hu0, hu1, fun m ys h0 h1 hy => ⟨m, ys, rfl, h0, h1, hy, upd_upd⟩⟩) fun rr s' hc' => ?_
    cases rr with
    | error e =>
      obtain ⟨_, _, _, _, _, _, _, _, _, _, _, _, z⟩ := hc'
      exact z.elim
    | ok fl =>
      cases fl with
      | ret uu =>
        obtain ⟨v, H1, h1, h2, un, hok, rv', m, ys, rfl, m0, m1, hy, rfl⟩ := hc'
        refine ⟨.int m, H, h1, h2, ⟨fun c q e n hf hx' => ?_, fun c q e n hf hx' => ?_, fun c q e n hx' => n, un.there, fun _ _ z => z, fun _ _ _ z => z, fun c qs z => ⟨#[], by rw [z]; simp⟩⟩, ?_, rv', k m m0 m1⟩
        · exact un.keep c q e (by rw [upd_ne (nb c n)]; exact n) hf hx'
        · exact un.slot c q e (by rw [upd_ne (nb c n)]; exact n) hf hx'
        · have ok2 := hok_put hok (upd_same (H := H)) trivial (u := .ext (BagO b l)) (ext_ok hy (hok b _ upd_same) _)
          rw [upd_upd] at ok2
          have eH : upd H b (.ext (BagO b l)) = H := by
            funext c
            by_cases hcb : c = b
            · subst hcb
              rw [upd_same, hB]
            · rw [upd_ne hcb]
          rw [eH] at ok2
          exact ok2
      | next => exact False.elim hc'
      | brk => exact False.elim hc'
      | cont => exact False.elim hc'

/-- what _law_bag promises of the lists themselves, and of the bag -/
def spBagL (K : PySem.W.Frag) : Sp := fun vs H Q _ => ∃ (a : Addr) (ns : List Int), vs = [.ref a] ∧ SqL K H a (ns.map V.int) ∧ ns.length ≤ 63 ∧
  ∀ (b l : Addr) (cs : List Int) (H' : Hp), Ex H H' → H b = none → H l = none → H' b = some (.lst [.int 0, .int 1234567891, .int 0, .ref l]) → H' l = some (.lst (cs.map V.int)) → (∀ c ∈ cs, 0 ≤ c) → cs.length ≤ 63 → Q (.ref b) H'
def spBag (K : PySem.W.Frag) : Sp := fun vs H Q _ => ∃ (a : Addr) (ns : List Int), vs = [.ref a] ∧ SqL K H a (ns.map V.int) ∧ ns.length ≤ 63 ∧ ∀ (b : Addr) (H' : Hp), Ex H H' → Bag H' b → Q (.ref b) H'
theorem bag_ok {k : Nat} {f : Addr} {ps : List Str} (F : Okf P w K mg base k f ps (spBagL K)) : Okf P w K mg base k f ps (spBag K) := by
  refine okf_alt F fun vs H Q E q => ?_
  obtain ⟨a, ns, rfl, hS, hl, k⟩ := q
  refine ⟨a, ns, rfl, hS, hl, fun b l cs H' e nb nl hb hL h0 hcl h' hok => ?_⟩
  have nlb : l ≠ b := ne_of hL hb (by
    intro z
    have z' : cs.map V.int = [.int 0, .int 1234567891, .int 0, .ref l] := by injection z
    have := congrArg (fun z => z[3]?) z'
    rw [List.getElem?_map] at this
    cases hh : cs[3]? with
    | none => rw [hh] at this; simp at this
    | some q => rw [hh] at this; simp at this)
  obtain ⟨hz, its, n, r, hobj⟩ := hok l _ hL
  have ok1 : HOk P w (upd H' l (.frz { cls := .type "list", data := .seq its.toArray n } (.lst (cs.map V.int)))) h' := hok_put hok hL trivial ⟨hobj, hz, its, n, r, hobj⟩
  have hb1 : upd H' l (.frz { cls := .type "list", data := .seq its.toArray n } (.lst (cs.map V.int))) b = some (.lst [.int 0, .int 1234567891, .int 0, .ref l]) := by rw [upd_ne nlb.symm]; exact hb
  have hv : BagV l [.int 0, .int 1234567891, .int 0, .ref l] := ⟨0, 1234567891, 0, rfl, by decide, by decide, by decide, by decide⟩
  have ok2 := hok_put ok1 hb1 trivial (u := .ext (BagO b l)) (ext_ok hv (ok1 b _ hb1) _)
  have e2 : Ex H (upd (upd H' l (.frz { cls := .type "list", data := .seq its.toArray n } (.lst (cs.map V.int)))) b (.ext (BagO b l))) := Ex.mut (Ex.mut e nl) nb
  refine ⟨_, ok2, fun c hc => ?_, fun c xs z => e2 _ _ z, fun c o u z => e2 _ _ z, fun c qs z => ⟨#[], by rw [e2 _ _ z]; simp⟩, k b _ e2 ⟨l, _, cs, upd_same, by rw [upd_ne nlb]; exact upd_same, h0, hcl⟩⟩
  have c1 : c ≠ b := fun z => by rw [z, hb] at hc; cases hc
  have c2 : c ≠ l := fun z => by rw [z, hL] at hc; cases hc
  rw [upd_ne c1, upd_ne c2]
  exact hc
end
end Hn

/-! More rules: the operators by promises, constants, subscripts of own classes. -/
namespace Hn
open PySem PySem.Spec PyProof.Rows L2 Evl
section
variable {X : Cx} {k : Nat} {f C : Addr} {ps : List Str} {sp : Sp}
theorem pe_gint {x : Str} {i : Int} {pos : Pos} (hg : Gl X x) (hm : ∃ t : Tok, X.mg x = some (.int i t)) (hd : (x == ("__debug__" : Str)) = false := by decide) : PE X (.Name x pos) (tC (.int i)) :=
  let ⟨t, h⟩ := hm
  pe_glob hg h ⟨t, rfl⟩ hd
theorem op_ownB {op : Operator} (G : Okf X.prog X.w X.K X.mg X.base k f ps sp) (hr : Room k X.A)
    (hc : PySem.W.selfFirst X.K C = true) (hs : PySem.W.findIn X.K (.ref C) (PySem.dunder op.info.2) = some (some (.ref f))) (hf : PySem.W.isFn X.K (.ref f) = true) : OpR X (binaryOp op) (rOwn C sp E0) :=
  let ⟨_, a, b⟩ := G
  op_own a hr b passL hc hs hf
theorem op_eqB (G : Okf X.prog X.w X.K X.mg X.base k f ps sp) (hr : Room k X.A)
    (hs : PySem.W.findIn X.K (.ref C) "__eq__" = some (some (.ref f))) (hf : PySem.W.isFn X.K (.ref f) = true) : OpR X (compareOp .Eq) (rOwn C sp E0) :=
  let ⟨_, a, b⟩ := G
  op_eqOwn a hr b passL hs hf
theorem op_neB (G : Okf X.prog X.w X.K X.mg X.base k f ps sp) (hr : Room (k + 1) X.A)
    (hs : PySem.W.findIn X.K (.ref C) "__eq__" = some (some (.ref f))) (hf : PySem.W.isFn X.K (.ref f) = true)
    (hn : PySem.W.findIn X.K (.ref C) "__ne__" = some (some (.builtin "object.__ne__"))) (hm : PySem.W.mroIn X.K C (.type "object") = some true) : OpR X (compareOp .NotEq) (rOwnNe C sp E0) :=
  let ⟨_, a, b⟩ := G
  op_neOwn a hr b passL hs hf hn hm
end
end Hn

/-! Readings opened one by one, by their heads. -/
namespace Hn
open PySem PySem.Spec PyProof.Rows L2 Evl
section
variable {K : PySem.W.Frag} {σ : L2.St} {H : Hp} {Q : VK} {QB : Bool → Hp → Prop} {D : Ends} {ta tb tc te : TE} {t u : TS} {tt tu : TT} {ar : TA} {QA : List V → Hp → Prop} {r r' : R2} {x y v : V} {i j : Int} {n : Nat} {wi : TI} {g : TG} {R : It → Hp → Prop} {vs : List Nat}
theorem r_seq (h : t { D with nx := u D } σ H) : tSeq t u D σ H := h
theorem r_next (h : D.nx σ H) : tNext D σ H := h
theorem r_asg (h : te σ H fun x H1 => g x σ H1 D.nx) : tAsg te g D σ H := h
theorem r_name {q : L2.St → Hp → Prop} (h : q (σ.set n (some v)) H) : gName n v σ H q := h
theorem r_ret (h : te σ H D.rt) : tRet te D σ H := h
theorem r_retN (h : D.rt .non H) : tRetN D σ H := h
theorem r_drop (h : te σ H fun _ H1 => D.nx σ H1) : tDrop te D σ H := h
theorem r_ifS (h : tt σ H fun b H1 => if b = true then t D σ H1 else u D σ H1) : tIfS tt t u D σ H := h
theorem r_test (h : te σ H fun x H' => ∃ k, x = .bl k ∧ QB k H') : tTest te σ H QB := h
theorem r_B (h : te σ H fun x H' => ∃ k, x = .bl k ∧ QB k H') : tB te σ H QB := h
theorem r_and (h : tt σ H fun c H1 => if c = true then tu σ H1 QB else QB false H1) : tAnd tt tu σ H QB := h
theorem r_or (h : tt σ H fun c H1 => if c = true then QB true H1 else tu σ H1 QB) : tOr tt tu σ H QB := h
theorem r_not (h : tt σ H fun c H1 => QB (!c) H1) : tNot tt σ H QB := h
theorem r_andV (h : ta σ H fun x H1 => ∃ c, x = .bl c ∧ if c = true then tb σ H1 Q else Q (.bl false) H1) : tAndV ta tb σ H Q := h
theorem r_orV (h : ta σ H fun x H1 => ∃ c, x = .bl c ∧ if c = true then Q (.bl true) H1 else tb σ H1 Q) : tOrV ta tb σ H Q := h
theorem r_notV (h : ta σ H fun x H1 => ∃ c, x = .bl c ∧ Q (.bl (!c)) H1) : tNotV ta σ H Q := h
theorem r_if (h : tt σ H fun c H1 => if c = true then ta σ H1 Q else tb σ H1 Q) : tIf tt ta tb σ H Q := h
theorem r_var (h : σ[n]? = some (some v)) (q : Q v H) : tVar n σ H Q := ⟨v, h, q⟩
theorem r_c (q : Q v H) : tC v σ H Q := q
theorem r_op (h : ta σ H fun x H1 => tb σ H1 fun y H2 => r x y H2 Q) : tOp r ta tb σ H Q := h
theorem r_un {ru : V → Hp → VK → Prop} (h : ta σ H fun x H1 => ru x H1 Q) : tUn ru ta σ H Q := h
theorem r_chain (h : ta σ H fun x H1 => tb σ H1 fun y H2 => r x y H2 fun z H3 => ∃ k, z = .bl k ∧ (if k = true then tc σ H3 fun w' H4 => r' y w' H4 Q else Q (.bl false) H3)) : tChain r r' ta tb tc σ H Q := h
theorem r_lst (h : ar σ H fun xs H1 => xs.length ≤ sizeLine ∧ ∀ p, H1 p = none → Q (.ref p) (upd H1 p (.lst xs))) : tLst ar σ H Q := h
theorem r_tup (h : ar σ H fun xs H1 => xs.length ≤ sizeLine ∧ ∀ p, H1 p = none → Q (.ref p) (upd H1 p (.tup xs))) : tTup ar σ H Q := h
theorem r_nil (h : QA [] H) : tNil σ H QA := h
theorem r_cons (h : ta σ H fun x H1 => ar σ H1 fun xs H2 => QA (x :: xs) H2) : tCons ta ar σ H QA := h
theorem r_call {sp : Sp} {dvs : List V} {E : XK} (h : ar σ H fun vs H1 => sp (vs ++ dvs) H1 Q E) : tCall sp dvs E ar σ H Q := h
theorem r_call1 {sp : Sp} {E : XK} {ws : List V} (h : sp ws H Q E) : sp (ws ++ []) H Q E := by rw [List.append_nil]; exact h
theorem r_meth {sp : Sp} {C : Addr} {m : Str} {E : XK} (h : ta σ H fun x H1 => ∃ a dx fs, x = .ref a ∧ H1 a = some (.ins C dx fs) ∧ fs.lookup m = none ∧ ar σ H1 fun vs H2 => sp (x :: (vs ++ [])) H2 Q E) : tMeth C m sp [] E ta ar σ H Q := h
theorem r_make {sp : Sp} {C : Addr} {E : XK} (h : ar σ H fun vs H1 => ∀ x dx, H1 x = none → H1 dx = none → dx ≠ x → sp (.ref x :: (vs ++ [])) (upd (upd H1 dx (.own x)) x (.ins C dx [])) (fun v H2 => v = .non ∧ Q (.ref x) H2) E) : tMake C sp [] E ar σ H Q := h
theorem r_prop {sp : Sp} {C : Addr} {E : XK} (h : ta σ H fun x H1 => ∃ a dx fs, x = .ref a ∧ H1 a = some (.ins C dx fs) ∧ sp [.ref a] H1 Q E) : tProp C sp [] E ta σ H Q := h
theorem r_cb {rc : List V → Hp → VK → Prop} (h : ar σ H fun vs H1 => rc vs H1 Q) : tCB rc ar σ H Q := h
theorem r_bm {T : String} {rm : V → List V → Hp → VK → Prop} (h : te σ H fun x H1 => tyV K T x H1 ∧ ar σ H1 fun xs H2 => rm x xs H2 Q) : tBM K T rm te ar σ H Q := h
theorem r_bm0 {T : String} {rm : V → List V → Hp → VK → Prop} (h : te σ H fun x H1 => tyV K T x H1 ∧ rm x [] H1 Q) : tBM0 K T rm te σ H Q := h
theorem r_sl {rs : V → Option Int → Option Int → Hp → VK → Prop} {tl th : TO} (h : te σ H fun x H1 => tl σ H1 fun l H2 => th σ H2 fun u H3 => rs x l u H3 Q) : L2.tSl rs te tl th σ H Q := h
theorem r_noPart {q : Option Int → Hp → Prop} (h : q none H) : tNoPart σ H q := h
theorem r_part {q : Option Int → Hp → Prop} (h : te σ H fun x H1 => ∃ i, x = .int i ∧ q (some i) H1) : tPart te σ H q := h
theorem r_int1 {p : Int → Prop} (h : p i) : ∃ k, V.int i = .int k ∧ p k := ⟨i, rfl, h⟩
theorem r_bl1 {b : Bool} {p : Bool → Prop} (h : p b) : ∃ k, V.bl b = .bl k ∧ p k := ⟨b, rfl, h⟩
theorem r_revL (h : te σ H fun x H1 => ∃ a xs, x = .ref a ∧ SqL K H1 a xs ∧ ∀ p, H1 p = none → Q (.ref p) (upd H1 p (.lst xs.reverse))) : tRevL K te σ H Q := h
theorem r_lc (h : wi σ H fun J H1 => LcTail J H1 g tt te vs σ Q) : tLc wi g tt te vs σ H Q := h
theorem r_par {n m : Nat} (h : ar σ H fun vs H1 => ∃ v w, vs = [v, w] ∧ D.nx ((σ.set n (some v)).set m (some w)) H1) : tPar n m ar D σ H := h
theorem r_par3 {n m l : Nat} (h : ar σ H fun vs H1 => ∃ u v w, vs = [u, v, w] ∧ D.nx (((σ.set n (some u)).set m (some v)).set l (some w)) H1) : tPar3 n m l ar D σ H := h
theorem r_two {p : V → V → Prop} {a b : V} (h : p a b) : ∃ v w, [a, b] = [v, w] ∧ p v w := ⟨a, b, rfl, h⟩
theorem r_three {p : V → V → V → Prop} {a b c : V} (h : p a b c) : ∃ u v w, [a, b, c] = [u, v, w] ∧ p u v w := ⟨a, b, c, rfl, h⟩
theorem r_aug {ti : TIp} {x : V} (h : σ[n]? = some (some x)) (q : te σ H fun y H1 => ti x y H1 fun z H2 => D.nx (σ.set n (some z)) H2) : tAug n te ti D σ H := ⟨x, h, q⟩
theorem r_augS {ti te' : TE} {tget : V → V → Hp → VK → Prop} {tip : TIp} {tset : TSet} (h : ta σ H fun o H1 => ti σ H1 fun i H2 => tget o i H2 fun x H3 => te' σ H3 fun y H4 => tip x y H4 fun z H5 => tset o i z H5 fun H6 => D.nx σ H6) : tAugS ta ti te' tget tip tset D σ H := h
theorem r_sub {tset : TSet} {q : L2.St → Hp → Prop} (h : ta σ H fun o H1 => tb σ H1 fun i H2 => tset o i v H2 fun H3 => q σ H3) : gSub ta tb tset v σ H q := h
theorem r_fld {f : Str} (h : ta σ H fun x H1 => ∃ a C dx fs v, x = .ref a ∧ H1 a = some (.ins C dx fs) ∧ Cls K C ∧ NoAttr K C f ∧ fs.lookup f = some v ∧ Q v H1) : tFld K ta f σ H Q := h
theorem r_sfld {f : Str} (h : tb σ H fun y H1 => ta σ H1 fun x H2 => ∃ a C dx fs, x = .ref a ∧ H2 a = some (.ins C dx fs) ∧ Cls K C ∧ NoAttr K C f ∧ fs.length < 1000 ∧ D.nx σ (upd H2 a (.ins C dx (putF f y fs)))) : sFld K ta tb f D σ H := h
theorem r_iList (h : te σ H fun x H1 => ∃ a, x = .ref a ∧ (∃ xs, SqL K H1 a xs) ∧ R (Itl K a) H1) : iList K te σ H R := h
theorem r_iTup (h : te σ H fun x H1 => ∃ a, x = .ref a ∧ (∃ xs, SqT K H1 a xs) ∧ R (Itt K a) H1) : iTup K te σ H R := h
theorem r_iRng1 (h : ar σ H fun vs H1 => ∃ j : Int, vs = [.int j] ∧ -(2 ^ 62) ≤ j ∧ j < 2 ^ 62 ∧ R (Itr 0 j.toNat) H1) : iRng1 ar σ H R := h
theorem r_iRng2 (h : ar σ H fun vs H1 => ∃ i j : Int, vs = [.int i, .int j] ∧ (-(2 ^ 62) ≤ i ∧ i < 2 ^ 62 ∧ -(2 ^ 62) ≤ j ∧ j < 2 ^ 62) ∧ R (Itr i (j - i).toNat) H1) : iRng2 ar σ H R := h
theorem r_iEnum (h : ar σ H fun vs H1 => ∃ a xs, vs = [.ref a] ∧ SqL K H1 a xs ∧ R (Ite K a) H1) : iEnum K ar σ H R := h
theorem r_iZip (h : ar σ H fun vs H1 => ∃ a b xs ys, vs = [.ref a, .ref b] ∧ SqL K H1 a xs ∧ SqL K H1 b ys ∧ R (Itz K a b) H1) : iZip K ar σ H R := h
theorem r_range1 {p : Int → Prop} (h0 : -(2 ^ 62) ≤ i) (h1 : i < 2 ^ 62) (h : p i) : ∃ j : Int, [V.int i] = [.int j] ∧ -(2 ^ 62) ≤ j ∧ j < 2 ^ 62 ∧ p j := ⟨i, rfl, h0, h1, h⟩
theorem r_yes (h : QB true H) : tYes σ H QB := h
theorem r_wipe {σ2 : L2.St} {p : Prop} (e : wipe σ2 vs = wipe σ vs) (h : p) : wipe σ2 vs = wipe σ vs ∧ p := ⟨e, h⟩
theorem r_pair {T : Addr} {n m : Nat} {q : L2.St → Hp → Prop} (h : q ((σ.set n (some x)).set m (some y)) (upd H T (.tup [x, y]))) : gTup K 2 (gCons (gName n) (gCons (gName m) gNil)) (.ref T) σ (upd H T (.tup [x, y])) q :=
  ⟨T, [x, y], rfl, .inl (.inl upd_same), rfl, x, [y], rfl, y, [], rfl, rfl, h⟩
/-! values -/
theorem r_I0 {f : Int → Int → V} (q : Q (f i j) H) : rI0 f (.int i) (.int j) H Q := ⟨i, j, rfl, rfl, q⟩
theorem r_I {C : Int → Int → Prop} {f : Int → Int → V} (c : C i j) (q : Q (f i j) H) : rI C f (.int i) (.int j) H Q := ⟨i, j, rfl, rfl, c, q⟩
theorem r_U {f : Int → V} (q : Q (f i) H) : rU f (.int i) H Q := ⟨i, rfl, q⟩
theorem r_eqI (q : Q (.bl (decide (i = j))) H) : rEq (.int i) (.int j) H Q := by
  refine ⟨rfl, ?_⟩
  have e : decide (V.int i = V.int j) = decide (i = j) := by rw [Bool.eq_iff_iff]; simp
  rw [e]
  exact q
theorem r_neI (q : Q (.bl (!decide (i = j))) H) : rNe (.int i) (.int j) H Q := by
  refine ⟨rfl, ?_⟩
  have e : decide (V.int i = V.int j) = decide (i = j) := by rw [Bool.eq_iff_iff]; simp
  rw [e]
  exact q
theorem r_eqB {a b : Bool} (q : Q (.bl (decide (a = b))) H) : rEq (.bl a) (.bl b) H Q := by
  refine ⟨rfl, ?_⟩
  have e : decide (V.bl a = V.bl b) = decide (a = b) := by rw [Bool.eq_iff_iff]; simp
  rw [e]
  exact q
theorem r_neB {a b : Bool} (q : Q (.bl (!decide (a = b))) H) : rNe (.bl a) (.bl b) H Q := by
  refine ⟨rfl, ?_⟩
  have e : decide (V.bl a = V.bl b) = decide (a = b) := by rw [Bool.eq_iff_iff]; simp
  rw [e]
  exact q
theorem r_ipI {f : Int → Int → Int} (q : Q (.int (f i j)) H) : ipI f (.int i) (.int j) H Q := ⟨i, j, rfl, rfl, q⟩
theorem r_ixL {p : Addr} {xs : List V} (h : SqL K H p xs) (ha : atI xs i = some v) (q : Q v H) : rIxL K (.ref p) (.int i) H Q := ⟨p, xs, i, v, rfl, rfl, h, ha, q⟩
theorem r_ixT {p : Addr} {xs : List V} (h : SqT K H p xs) (ha : atI xs i = some v) (q : Q v H) : rIxT K (.ref p) (.int i) H Q := ⟨p, xs, i, v, rfl, rfl, h, ha, q⟩
theorem r_ixS {p : Addr} {xs : List V} (h : Sq K H p xs) (ha : atI xs i = some v) (q : Q v H) : rIx K (.ref p) (.int i) H Q :=
  h.elim (fun h => .inl ⟨p, xs, i, v, rfl, rfl, h, ha, q⟩) fun h => .inr (.inl ⟨p, xs, i, v, rfl, rfl, h, ha, q⟩)
theorem r_setL {p : Addr} {xs : List V} {k : Int} {m : Nat} {q : Hp → Prop} (h : H p = some (.lst xs)) (hk : ixN xs.length k = some m) (hq : q (upd H p (.lst (xs.set m v)))) : rSetL (.ref p) (.int k) v H q := ⟨p, xs, k, m, rfl, rfl, h, hk, hq⟩
/-! tests -/
theorem r_ite {p A B : Prop} [Decidable p] (h1 : p → A) (h2 : ¬ p → B) : if decide p = true then A else B := ite2 (fun h => h1 (of_decide_eq_true h)) fun h => h2 fun z => h (decide_eq_true z)
theorem r_itn {p A B : Prop} [Decidable p] (h1 : ¬ p → A) (h2 : p → B) : if (!decide p) = true then A else B := by
  by_cases h : p
  · rw [decide_eq_true h]
    exact iteF (h2 h)
  · rw [decide_eq_false h]
    exact iteT (h1 h)
theorem r_itb {b : Bool} {A B : Prop} (h1 : b = true → A) (h2 : b = false → B) : if b = true then A else B := by
  cases b
  · exact iteF (h2 rfl)
  · exact iteT (h1 rfl)
theorem r_itnb {b : Bool} {A B : Prop} (h1 : b = false → A) (h2 : b = true → B) : if (!b) = true then A else B := by
  cases b
  · exact iteT (h1 rfl)
  · exact iteF (h2 rfl)
/-! loops -/
/-- what a for's reading asks behind the walked thing -/
def ForTail (J : It) (H1 : Hp) (g : TG) (tb : TS) (D : Ends) (σ : L2.St) : Prop := ∃ W : Nat → Nat → L2.St → Hp → Prop, (∃ m, W 0 m σ H1) ∧ ∀ i m σ H, W i m σ H →
  (J.stop i H ∧ D.nx σ H) ∨ (J.go i H ∧ ∃ N : L2.St → Hp → Prop, (∀ σ' H', N σ' H' → ∃ m', m' < m ∧ W (i + 1) m' σ' H') ∧ ∀ x H', J.yld i H x H' → g x σ H' fun σ2 H2 => tb { D with nx := N, ct := N, bk := D.nx } σ2 H2)
theorem r_for (h : wi σ H fun J H1 => ForTail J H1 g t D σ) : tFor wi g t D σ H := h
theorem for_w {J : It} {G : Hp → Prop} {Y : Nat → Hp → V → Hp → Prop} (w : Walk J n G Y) (Pv : Nat → L2.St → Hp → Prop) (h0 : Pv 0 σ H) (hG : ∀ i σ H, i ≤ n → Pv i σ H → G H)
    (hs : ∀ i x σ H H', i < n → Pv i σ H → Y i H x H' → g x σ H' fun σ2 H2 => t { D with nx := Pv (i + 1), ct := Pv (i + 1), bk := D.nx } σ2 H2) (hd : ∀ σ H, Pv n σ H → D.nx σ H) : ForTail J H g t D σ :=
  for_it w Pv h0 hG hs hd
end
end Hn

/-! Lists and tuples walked alike; enumerate of a tuple; t[::-1]; c[i] by an own __getitem__. -/
namespace Hn
open PySem PySem.Spec PyProof.Rows L2 Evl

/-! ### enumerate(v), v a tuple -/
theorem meets_enum1 {v : Value} {o : Obj} {P : Heap → Prop} (B : Begins v o P) :
    Meets (Builtin.«enumerate.__new__» ⟨[.type "enumerate", v], []⟩) (fun _ R s => P s.heap ∧
      R (.ok (.ret (.ref (s.heap.push o).objs.size))) { s with heap := (s.heap.push o).push { cls := .type "enumerate", data := .fields #[.none, .bool false, .ref s.heap.objs.size, rawInt 0, .none, .none] } }) :=
  .of_wp fun prog w A R s h => by
    obtain ⟨hp, g, d, tk, os⟩ := s
    obtain ⟨h1, h⟩ := h
    have hsub := sub_enumerate
    have q1 : ∀ {A' : Around} {E : Value → Shared → Prop} {Q : Value → Shared → Prop}, Q (.ref hp.objs.size) ⟨hp.push o, g, d, tk, os⟩ → wpAny (model prog w) A' (pyIter v) Q E ⟨hp, g, d, tk, os⟩ := fun q => B.iter prog w _ _ ⟨hp, g, d, tk, os⟩ _ h1 q
    wp_walk using q1
    refine wpAny_stack_any fun st => wpAny_pure ?_
    split
    · rename_i c _ _ _ _ _
      cases (c == Value.type "enumerate") <;> (wp_walk using q1; exact ⟨_, rfl, h⟩)
    · wp_walk using q1
      exact ⟨_, rfl, h⟩
theorem call_enum1 {prog : Program} {w : World} {A : Around} {E : Value → Shared → Prop} {s : Shared} {v : Value} {o : Obj} {P : Heap → Prop} {Q : Value → Shared → Prop} (B : Begins v o P) (h1 : P s.heap)
    (h : ∀ h' : Heap, IsEnum h' (s.heap.objs.size + 1) s.heap.objs.size 0 .none → h'.get? s.heap.objs.size = some o → (∀ b o, s.heap.get? b = some o → h'.get? b = some o) → Q (.ref (s.heap.objs.size + 1)) { s with heap := h' }) :
    wpAny (model prog w) A (call (.type "enumerate") [v]) Q E s := by
  refine callType_new F.called_enumerate (by decide) (F.typeCall_enumerate_1 _) (F.newCall_enumerate_1 _) (fun obj => F.args_object_init_2 obj _) F.entry_enumerate_new (meets_enum1 B) ⟨h1, ?_⟩
  have hz : (s.heap.push o).objs.size = s.heap.objs.size + 1 := Heap.size_push ..
  have hg := Heap.get?_push_size (s.heap.push o) (o := { cls := .type "enumerate", data := .fields #[.none, .bool false, .ref s.heap.objs.size, rawInt 0, .none, .none] }) rfl
  rw [hz] at hg
  show _ ∧ _
  rw [hz]
  exact ⟨⟨_, hg, rfl⟩, h _ hg (Heap.get?_push_of_some _ (Heap.get?_push_size _ B.free)) fun b o x => Heap.get?_push_of_some _ (Heap.get?_push_of_some _ x)⟩
/-- the tuple at a, each item in a new pair behind its place -/
def Itet (K : PySem.W.Frag) (a : Addr) : It :=
  ⟨fun i H => ∃ (xs : List V) (x : V), SqT K H a xs ∧ xs[i]? = some x, fun i H v H' => ∃ T x, v = .ref T ∧ H T = none ∧ H' = upd H T (.tup [.int (i : Nat), x]) ∧ ∀ xs, SqT K H a xs → xs[i]? = some x, fun i H => ∃ xs : List V, SqT K H a xs ∧ xs.length = i⟩
theorem walk_enumT {K : PySem.W.Frag} {a : Addr} {xs : List V} : Walk (Itet K a) xs.length (fun H => SqT K H a xs) (YPair (fun i => some (.int (i : Nat))) (fun i => xs[i]?)) := by
  refine ⟨fun i _ hi q => ⟨xs, xs[i], q, by simp [hi]⟩, fun _ q => ⟨xs, q, rfl⟩, fun i H v H' _ q y => ?_⟩
  obtain ⟨T, x, h1, h2, h3, h4⟩ := y
  exact ⟨T, _, x, h1, h2, h3, rfl, h4 xs q⟩
theorem turn_enumT {P : Program} {w : World} {K : PySem.W.Frag} {elts : List Expr} {kk : Nat} {tpos : Pos} (a e it : Addr) (hne : e ≠ it) (ha : a ≠ it) (hae : e ≠ a) :
    Turn P w K (.Tuple elts kk tpos) (Itet K a) [e, it] e (fun i h => (∃ old, IsEnum h e it ((i : Nat) : Int) old) ∧ h.IsTupleIter it a i) where
  mem := by simp
  obj := fun i h st b hb => by
    obtain ⟨⟨old, he⟩, ⟨o, ho, hc, hd⟩⟩ := st
    rcases (show b = e ∨ b = it by simpa using hb) with z | z
    · rw [z]
      exact ⟨_, he, fun v q => nomatch q⟩
    · rw [z]
      exact ⟨o, ho, fun v q => by rw [hd] at q; cases q⟩
  keep := fun i h h' st k => by
    obtain ⟨⟨old, he⟩, hi⟩ := st
    exact ⟨⟨old, k e (by simp) _ he⟩, hi.at fun o q => k it (by simp) o q⟩
  item := by
    intro X hP hw hK hc i pins s σ H E I hf st hg
    subst hP hw hK
    obtain ⟨⟨old, he⟩, hit⟩ := st
    obtain ⟨xs, x, hq, hx⟩ := hg
    obtain ⟨its, rv, p, hz⟩ := I.tuple hq
    obtain ⟨u, hu, ru⟩ := rv.get hx
    have hel : e < s.heap.objs.size := Heap.lt_size he
    have hil : it < s.heap.objs.size := by obtain ⟨_, q, _⟩ := hit; exact Heap.lt_size q
    have hn : i < its.toArray.size := by
      rw [List.size_toArray]
      exact (List.getElem?_eq_some_iff.mp hu).1
    have D := Draws.tuple (prog := X.prog) (w := X.w) (A := X.A.in1) (I.ok.hd hc) it a ha its.toArray
    refine wpAny_pyNext_enum_itemC D he ⟨hit, p⟩ hn hne (by simp [hne, hae]) fun x' h' tk hx' ho hst' hT hsz hk => ?_
    have ex : x' = u := by
      have z : its.toArray[i]? = some u := by simpa using hu
      rw [z] at hx'
      exact (Option.some.inj hx').symm
    subst ex
    refine ⟨_, rfl, wpAny_letOwnedTupleGo_enum (s := { s with heap := h', toks := tk + 1 }) ho fun h'' he' sb => ?_⟩
    have hT2 : h''.get? s.heap.objs.size = some { cls := .type "tuple", data := .seq #[.int i tk, x'] } := (sb.2 _ (Nat.ne_of_gt hel)).trans hT
    have new : ObjOk X.prog X.w (upd H s.heap.objs.size (.tup [.int (i : Nat), x])) h'' s.heap.objs.size (.tup [.int (i : Nat), x]) :=
      ⟨by show 2 ≤ sizeLine; decide, [.int i tk, x'], .cons ⟨_, rfl⟩ (.cons ru .nil), ⟨_, hT2, rfl, _, rfl⟩⟩
    have I1 : Inv X pins σ (upd H s.heap.objs.size (.tup [.int (i : Nat), x])) { s with heap := h'', toks := tk + 1 } :=
      I.turnedNew (ch := [e, it]) (fun b ob hb q => (sb.2 b (fun z => hb (by simp [z]))).trans (hk b ob (fun z => hb (by simp [z])) (fun z => hb (by simp [z])) q)) hf (Nat.le_refl _) new
    refine ⟨.ref s.heap.objs.size, _, I1, rfl, ⟨_, x, rfl, I.hok.fresh (Nat.le_refl _), rfl, fun ys hy => ?_⟩, ⟨⟨x', ?_⟩, hst'.1.at fun o q => (sb.2 it (Ne.symm hne)).trans q⟩, fun b hb => ?_⟩
    · rw [I.tuple_inj hy hq]
      exact hx
    · have e1 : ((i + 1 : Nat) : Int) = (i : Int) + 1 := by omega
      rw [e1]
      exact he'
    · have hb' : b < s.heap.objs.size := by
        rcases (show b = e ∨ b = it by simpa using hb) with z | z
        · rw [z]; exact hel
        · rw [z]; exact hil
      rw [upd_ne (Nat.ne_of_lt hb')]
      exact (hf b hb).1
  done := by
    intro X hP hw hK hc i pins s σ H E I hf st hg
    subst hP hw hK
    obtain ⟨⟨old, he⟩, hit⟩ := st
    obtain ⟨xs, hq, hx⟩ := hg
    obtain ⟨its, rv, p, hz⟩ := I.tuple hq
    obtain ⟨f0, f1, f2, f3, f4, f5⟩ := hf it (by simp)
    have hl : its.toArray.size = i := by
      rw [List.size_toArray, ← rv.length]
      exact hx
    have D := Draws.tuple (prog := X.prog) (w := X.w) (A := X.A.in1) (I.ok.hd hc) it a ha its.toArray
    refine wpAny_pyNext_enum_endD D he ⟨by rw [hl]; exact hit, p⟩ fun h' eb => ?_
    exact ⟨rfl, I.turned (t' := s.toks) (fun b o hb q => eb b o hb q) f0 f1 f3 f4 f5⟩
  self := fun A i s Q E st h => by
    obtain ⟨⟨_, he⟩, _⟩ := st
    exact wpAny_pyIter_enum he h
/-! ### a list or a tuple walked -/
section
variable {X : Cx} {tg : Expr}
/-- a walk that gives xs as long as what stands in H1 stands -/
def Goes1 (H1 : Hp) (n : Nat) (Y : Nat → Hp → V → Hp → Prop) (J : It) : Prop := ∃ G : Hp → Prop, Walk J n G Y ∧ ∀ H, Ex H1 H → G H
def iSeq (K : PySem.W.Frag) (tl : TE) : TI := fun σ H R => tl σ H fun x H1 => ∃ a xs H0, x = .ref a ∧ Sq K H0 a xs ∧ Ex H0 H1 ∧ ∀ J, Goes1 H0 xs.length (YAt xs) J → R J H1
theorem new1 {pins : List (Addr × Obj)} {σ : L2.St} {H : Hp} {s : Shared} (I : Inv X pins σ H s) : (∀ b ∈ [s.heap.objs.size], FpOk X pins H b) ∧ ∀ o, Inv X pins σ H { s with heap := s.heap.push o } :=
  ⟨fun b hb => by
    obtain rfl : b = s.heap.objs.size := by simpa using hb
    exact I.fpOk (Nat.le_refl _) (I.hok.fresh (Nat.le_refl _)), fun o => I.kept (t' := s.toks) fun b o e => Heap.get?_push_of_some _ e⟩
theorem pi_seq {l : Expr} {tl : TE} (hl : PE X l tl) : PI X tg l (iSeq X.K tl) := by
  refine ⟨fun pins s σ H R I h => ?_⟩
  refine thn (hl.run pins s σ H _ I h) fun v s1 ⟨x, H1, I1, r1, a, xs, H0, ex, hq0, e0, q⟩ => ?_
  subst ex
  cases r1
  obtain ⟨fp, kp⟩ := new1 I1
  rcases hq0 with hq | hq
  · obtain ⟨its, rv, p, hz⟩ := I1.list (ex_l e0 hq)
    refine wpAny_pyIter_list p.isList ?_
    exact ⟨s1.heap.objs.size, [s1.heap.objs.size], _, _, H1, rfl, kp _, turn_list a _, ⟨_, Heap.get?_push_size _ rfl, rfl, rfl⟩, fp, q _ ⟨_, walk_list, fun H' e => ex_l e hq⟩⟩
  · obtain ⟨its, rv, p, hz⟩ := I1.tuple (ex_t e0 hq)
    refine wpAny_pyIter_tuple (show s1.heap.IsTuple a its.toArray from p) ?_
    exact ⟨s1.heap.objs.size, [s1.heap.objs.size], _, _, H1, rfl, kp _, turn_tuple a _, ⟨_, Heap.get?_push_size _ rfl, rfl, rfl⟩, fp, q _ ⟨_, walk_tup, fun H' e => ex_t e hq⟩⟩
/-- enumerate of a list or a tuple -/
def YEnum (xs : List V) : Nat → Hp → V → Hp → Prop := YPair (fun i => some (.int (i : Nat))) (fun i => xs[i]?)
def iEnumS (K : PySem.W.Frag) (ta : TA) : TI := fun σ H R => ta σ H fun vs H1 => ∃ a xs H0, vs = [.ref a] ∧ Sq K H0 a xs ∧ Ex H0 H1 ∧ ∀ J, Goes1 H0 xs.length (YEnum xs) J → R J H1
theorem pi_enumS {e : Expr} {ta : TA} {p pos tpos : Pos} {elts : List Expr} {kk : Nat} (hg : Gl X "enumerate") (hm : X.mg "enumerate" = none) (ha : PA X [e] ta) (hs : starEach [e] X.env = [(false, eval e X.env)] := by rfl) :
    PI X (.Tuple elts kk tpos) (.Call (.Name "enumerate" p) [e] [] pos) (iEnumS X.K ta) := by
  refine ⟨fun pins s σ H R I h => ?_⟩
  refine Call_ (ld_blt I hg hm boot_enumerate (PyProof.Rows.callWith_type1 (thn (ha.run pos pins s σ H _ I h) fun us s1 ⟨vs, H1, I1, r1, a, xs, H0, ex, hq0, e0, q⟩ => ?_) hs rfl))
  subst ex
  obtain rfl := Vals.ref1 r1
  have fp : ∀ b ∈ [s1.heap.objs.size + 1, s1.heap.objs.size], FpOk X pins H1 b := fun b hb => by
    have hle : s1.heap.objs.size ≤ b := by
      rcases (show b = s1.heap.objs.size + 1 ∨ b = s1.heap.objs.size by simpa using hb) with z | z <;> omega
    exact I1.fpOk hle (I1.hok.fresh hle)
  rcases hq0 with hq | hq
  · obtain ⟨its, rv, p', hz⟩ := I1.list (ex_l e0 hq)
    refine call_enumerate_list p'.isList fun h' he hit hsz hk => wpAny_pyIter_enum he ?_
    exact ⟨s1.heap.objs.size + 1, [s1.heap.objs.size + 1, s1.heap.objs.size], _, _, H1, rfl, I1.kept (t' := s1.toks) hk, turn_enum a (s1.heap.objs.size + 1) s1.heap.objs.size, ⟨⟨.none, he⟩, hit, Nat.succ_ne_self _⟩, fp, q _ ⟨_, walk_enum, fun H' e => ex_l e hq⟩⟩
  · obtain ⟨its, rv, p', hz⟩ := I1.tuple (ex_t e0 hq)
    have hlt : a < s1.heap.objs.size := by obtain ⟨o, ho, _⟩ := id p'; exact Heap.lt_size ho
    refine call_enum1 (begins_tuple a its.toArray) p' fun h' he hit hk => wpAny_pyIter_enum he ?_
    exact ⟨s1.heap.objs.size + 1, [s1.heap.objs.size + 1, s1.heap.objs.size], _, _, H1, rfl, I1.kept (t' := s1.toks) hk, turn_enumT a (s1.heap.objs.size + 1) s1.heap.objs.size (Nat.succ_ne_self _) (Nat.ne_of_lt hlt) (Nat.ne_of_gt (Nat.lt_succ_of_lt hlt)), ⟨⟨.none, he⟩, ⟨_, hit, rfl, rfl⟩⟩, fp, q _ ⟨_, walk_enumT, fun H' e => ex_t e hq⟩⟩
end
section
variable {K : PySem.W.Frag} {σ : L2.St} {H : Hp} {te : TE} {ar : TA} {R : It → Hp → Prop}
theorem r_iSeq (h : te σ H fun x H1 => ∃ a xs H0, x = .ref a ∧ Sq K H0 a xs ∧ Ex H0 H1 ∧ ∀ J, Goes1 H0 xs.length (YAt xs) J → R J H1) : iSeq K te σ H R := h
theorem r_iEnumS (h : ar σ H fun vs H1 => ∃ a xs H0, vs = [.ref a] ∧ Sq K H0 a xs ∧ Ex H0 H1 ∧ ∀ J, Goes1 H0 xs.length (YEnum xs) J → R J H1) : iEnumS K ar σ H R := h
end
/-! ### t[::-1] -/
theorem adjust_rev (n : Nat) : Builtin.Slice.sliceAdjust none none (-1) (n : Int) = ((n : Int) - 1, -1) := by
  unfold Builtin.Slice.sliceAdjust
  simp
theorem places_rev (n : Nat) : Builtin.Slice.slicePlaces ((n : Int) - 1) (-1) (-1) = n := by
  unfold Builtin.Slice.slicePlaces
  rw [if_neg (by decide)]
  split <;> simp <;> omega
section
open HT
variable {prog : Program} {w : World} {A : Around} {E : Value → Shared → Prop} {s : Shared}
theorem sliceApplied_rev {sl : Addr} {vs : Value} {n : Nat} {Q : Int × Int × Nat → Shared → Prop} (hs : s.heap.IsSliceOf sl .none .none vs) (ps : IsPart vs (some (-1)))
    (h : Q ((n : Int) - 1, -1, n) s) : wpAny (model prog w) A (Builtin.Slice.sliceApplied (.ref sl) (pure (n : Int))) Q E s := by
  obtain ⟨os, hos, hcs, hds⟩ := id hs
  unfold Builtin.Slice.sliceApplied Builtin.Slice.sliceFields
  refine wpAny_bind (wpAny_bind (wpAny_field hos hds (x := .none) rfl (wpAny_bind (wpAny_field hos hds (x := .none) rfl (wpAny_bind (wpAny_field hos hds (x := vs) rfl (wpAny_pure ?_)))))))
  refine wpAny_bind (slicePart_ ps ?_)
  show wpAny _ _ (if ((-1 : Int) == 0) = true then _ else _) _ _ s
  rw [if_neg (by decide)]
  refine wpAny_bind (slicePart_none (wpAny_bind (slicePart_none (wpAny_bind (wpAny_pure ?_)))))
  show wpAny _ _ (match Builtin.Slice.sliceAdjust none none (-1) (n : Int) with | (lo, hi) => pure (lo, (-1 : Int), Builtin.Slice.slicePlaces lo hi (-1))) _ _ s
  rw [adjust_rev n]
  show wpAny _ _ (pure ((n : Int) - 1, (-1 : Int), Builtin.Slice.slicePlaces ((n : Int) - 1) (-1) (-1))) _ _ s
  rw [places_rev]
  exact wpAny_pure h
theorem pick_rev (xs : Array Value) : ((List.range xs.size).filterMap fun (k : Nat) => xs[((xs.size : Int) - 1 + (k : Int) * -1).toNat]?).toArray = xs.toList.reverse.toArray := by
  congr 1
  have e : ((List.range xs.size).filterMap fun (k : Nat) => xs[((xs.size : Int) - 1 + (k : Int) * -1).toNat]?) = ((List.range xs.size).map (fun k => xs.size - 1 - k)).filterMap (xs[·]?) := by
    rw [List.filterMap_map]
    congr 1
    funext k
    have : ((xs.size : Int) - 1 + (k : Int) * -1).toNat = xs.size - 1 - k := by omega
    show xs[((xs.size : Int) - 1 + (k : Int) * -1).toNat]? = xs[xs.size - 1 - k]?
    rw [this]
  rw [e, PySem.W.krv_range, List.filterMap_reverse, PySem.W.krv_all]
theorem getItem_tuple_rev {t sl : Addr} {items : Array Value} {vs : Value} {Q : Value → Shared → Prop} (ht : IsTup s.heap t items) (hs : s.heap.IsSliceOf sl .none .none vs) (ps : IsPart vs (some (-1))) (hsz : items.size ≤ sizeLine)
    (h : Q (.ref s.heap.objs.size) { s with heap := s.heap.push { cls := .type "tuple", data := .seq items.toList.reverse.toArray } }) : wpAny (model prog w) A (getItem (.ref t) (.ref sl)) Q E s := by
  have htake : sizeOk (.seq items.toList.reverse.toArray) := by
    show items.toList.reverse.toArray.size ≤ sizeLine
    rw [List.size_toArray, List.length_reverse, Array.length_toList]
    exact hsz
  obtain ⟨os, hos, hcs, hds⟩ := id hs
  have hTs : s.TypeIs (.ref sl) "slice" := ⟨os, hos, hcs⟩
  unfold getItem
  try with_reducible refine wpAny_holding ?_
  first | refine wpAny_bind (wpAny_pure ?_) | skip
  refine wpAny_bind (wpAny_sequenceKey ht.typeIs (by decide) (wpAny_bind (wpAny_callSpecial?_slot (name := Str.ofString "__getitem__") ht.typeIs PyProof.Rows.slot_tuple_getitem (wpAny_call_entry PyProof.Rows.slot_tuple_getitem ht.typeIs entry_tuple_getitem ?_ (args_tuple_getitem _ _)))))
  show wpAny _ _ (Builtin.Tuple.tupleItemsOf (.ref t) >>= _) _ _ s
  refine wpAny_bind (tupleItemsOf_ ht (wpAny_bind (wpAny_typeOf hTs ?_)))
  rw [if_pos (by decide)]
  refine wpAny_bind (sliceApplied_rev hs ps ?_)
  show wpAny _ _ (if (((items.size : Int) - 1 == 0) && ((-1 : Int) == 1) && items.size == items.size) = true then _ else _) _ _ s
  rw [if_neg (by rw [show ((-1 : Int) == 1) = false from rfl, Bool.and_false, Bool.false_and]; decide), pick_rev]
  first
    | exact wpAny_bind (m := Builtin.Tuple.tupleExact _) (wpAny_newObj_type (wpAny_pure ⟨_, rfl, wpAny_pure h⟩) htake)
    | exact wpAny_bind (wpAny_bind (m := Builtin.Tuple.tupleExact _) (wpAny_newObj_type (wpAny_pure (wpAny_pure ⟨_, rfl, wpAny_pure h⟩)) htake))
    | exact wpAny_bind (wpAny_bind (m := Builtin.Tuple.tupleExact _) (wpAny_newObj_type (wpAny_pure ⟨_, rfl, wpAny_pure h⟩) htake))
end
section
variable {X : Cx}
def tRevT (K : PySem.W.Frag) (te : TE) : TE := fun σ H Q => te σ H fun x H1 => ∃ a xs, x = .ref a ∧ SqT K H1 a xs ∧ ∀ p, H1 p = none → Q (.ref p) (upd H1 p (.tup xs.reverse))
theorem r_revT {K : PySem.W.Frag} {σ : L2.St} {H : Hp} {te : TE} {Q : VK} (h : te σ H fun x H1 => ∃ a xs, x = .ref a ∧ SqT K H1 a xs ∧ ∀ p, H1 p = none → Q (.ref p) (upd H1 p (.tup xs.reverse))) : tRevT K te σ H Q := h
theorem pe_revT {e : Expr} {te : TE} {k : Nat} {p1 p2 p3 pos : Pos} (he : PE X e te) : PE X (.Subscript e (.Slice none none (some (.UnaryOp .USub (.Constant (.int 1) k p1) p2)) p3) pos) (tRevT X.K te) := by
  refine ⟨fun pins s σ H Q I h => ?_⟩
  refine Subscript_ (thn (he.run pins s σ H _ I h) fun v s1 ⟨x, H1, I1, r1, a, xs, ex, hx, q⟩ => ?_)
  subst ex
  cases r1
  have hst : PO X (some (.UnaryOp .USub (.Constant (.int 1) k p1) p2)) (tPart (tUn (rU fun i => .int (-i)) (tC (.int 1)))) := po_some (pe_un un_neg pe_int)
  refine wpAny_Slice (thn (po_none.run pins s1 σ H1 (fun o H2 => o = none ∧ H2 = H1) I1 ⟨rfl, rfl⟩) fun vl s2 ⟨l, H2, I2, pl, el, e2⟩ => ?_)
  subst el e2
  refine thn (po_none.run pins s2 σ H2 (fun o H3 => o = none ∧ H3 = H2) I2 ⟨rfl, rfl⟩) fun vu s3 ⟨u, H3, I3, pu, eu, e3⟩ => ?_
  subst eu e3
  refine thn (hst.run pins s3 σ H3 (fun o H4 => o = some (-1) ∧ H4 = H3) I3 ⟨1, rfl, -1, rfl, rfl, rfl⟩) fun vs s4 ⟨o, H4, I4, ps, eo, e4⟩ => ?_
  subst eo e4
  cases pl
  cases pu
  have I5 : Inv X pins σ H4 { s4 with heap := s4.heap.push { cls := .type "slice", data := .fields #[.none, .none, vs] } } := I4.kept (t' := s4.toks) fun b ob q => Heap.get?_push_of_some _ q
  obtain ⟨its, r, ht, hz⟩ := I5.tuple hx
  have hlen := r.length
  show wpAny (model X.prog X.w) X.A (subscriptTail e (.Slice none none (some (.UnaryOp .USub (.Constant (.int 1) k p1) p2)) p3) (.ref a) (.ref s4.heap.objs.size)) (EP X pins σ Q) X.xe { s4 with heap := s4.heap.push { cls := .type "slice", data := .fields #[.none, .none, vs] } }
  refine tail_any (ops := [.ref a, .ref s4.heap.objs.size]) ht.typeIs (PyProof.Rows.slot_tuple_getitem.lookup) ?_ (by with_unfolding_all rfl)
  refine getItem_tuple_rev ht (Heap.IsSliceOf.new _ .none .none vs) ps (by rw [List.size_toArray]; omega) ?_
  refine ⟨.ref _, _, I5.laid (t' := s4.toks) (o := .tup xs.reverse) (fun b ob q => Heap.get?_push_of_some _ q) (Nat.le_refl _) ?_, rfl, q _ (I5.hok.fresh (Nat.le_refl _))⟩
  exact ⟨by rw [List.length_reverse]; exact hz, its.reverse, r.reverse, ⟨_, Heap.get?_push_size _ rfl, rfl, _, rfl⟩⟩

/-! ### c[i] by the class's own __getitem__ -/
variable {k : Nat} {f C : Addr} {ps : List Str} {sp : Sp}
def tIxO (C : Addr) (sp : Sp) (ta tb : TE) : TE := fun σ H Q => ta σ H fun x H1 => tb σ H1 fun y H2 => ∃ a dx fs, x = .ref a ∧ H2 a = some (.ins C dx fs) ∧ sp [x, y] H2 Q E0
theorem r_ixO {C : Addr} {sp : Sp} {σ : L2.St} {H : Hp} {ta tb : TE} {Q : VK} (h : ta σ H fun x H1 => tb σ H1 fun y H2 => ∃ a dx fs, x = .ref a ∧ H2 a = some (.ins C dx fs) ∧ sp [x, y] H2 Q E0) : tIxO C sp ta tb σ H Q := h
theorem pe_ixB {a b : Expr} {ta tb : TE} {pos : Pos} (G : Okf X.prog X.w X.K X.mg X.base k f ps sp) (hr : Room (k + 1) X.A)
    (hs : PySem.W.findIn X.K (.ref C) "__getitem__" = some (some (.ref f))) (hf : PySem.W.fnIn X.K f = true) (hfn : PySem.W.isFn X.K (.ref f) = true) (ha : PE X a ta) (hb : PE X b tb)
    (hsl : ∀ x i, subscripted b true (.ref x) i = runValue (.builtin "lifetime.subscript" ⟨[.ref x, i], []⟩) := by intro _ _; with_unfolding_all rfl) : PE X (.Subscript a b pos) (tIxO C sp ta tb) := by
  obtain ⟨fd, F, hbd⟩ := G
  refine ⟨fun pins s σ H Q I h => ?_⟩
  refine Subscript_ (binT ha hb I h fun v u s2 x y H2 I2 rx ry q => ?_)
  obtain ⟨p, dx, fs, rfl, hp, q⟩ := q
  cases rx
  obtain ⟨mA, J, _⟩ := ins_get I2.hok hp
  obtain ⟨od, J, _⟩ := J.look
  obtain ⟨m, hF⟩ := I2.fr
  refine PySem.W.sub_K hF I2.ok.mod.kin J hs hf hfn ?_ (hsl p u)
  exact run_fn1 (us := [.ref p, u]) (vs := [.ref p, y]) F hr hbd passL I2 (.cons rfl (.cons ry .nil)) q
end
end Hn

/-! Clocks, plainly: stays round about, widths. -/
namespace Hn

/-- the item at any place, round about -/
def cyc (s : List Int) (i : Int) : Int := s.getD (i % (s.length : Int)).toNat 0
/-- how many begins back serve the hour h -/
def wd (s : List Int) (h : Int) : Int := (((List.range s.length).filter fun (b : Nat) => decide ((b : Int) < cyc s (h - (b : Int)))).length : Int)
def wds (s : List Int) : List Int := (List.range s.length).map fun (h : Nat) => wd s h
def okStays (s : List Int) : Bool := decide (1 ≤ s.length) && decide (s.length ≤ 48) && s.all fun x => decide (1 ≤ x) && decide (x ≤ (s.length : Int))
structure Good (s : List Int) : Prop where
  ne : 1 ≤ s.length
  le : s.length ≤ 48
  lo : ∀ i : Int, 1 ≤ cyc s i
  hi : ∀ i : Int, cyc s i ≤ (s.length : Int)
  od : ∀ i : Int, cyc s i ≤ 1 + cyc s (i + 1)

theorem mod_bd {n : Nat} (h : 1 ≤ n) (i : Int) : 0 ≤ i % (n : Int) ∧ i % (n : Int) < (n : Int) := ⟨Int.emod_nonneg _ (by omega), Int.emod_lt_of_pos _ (by omega)⟩
theorem cyc_mem {s : List Int} (h : 1 ≤ s.length) (i : Int) : cyc s i ∈ s := by
  have := mod_bd h i
  unfold cyc
  rw [List.getD_eq_getElem?_getD, List.getElem?_eq_getElem (by omega)]
  exact List.getElem_mem _
theorem cyc_at {s : List Int} {j : Nat} (h : j < s.length) : cyc s (j : Int) = s.getD j 0 := by
  unfold cyc
  rw [Int.emod_eq_of_lt (by omega) (by omega), Int.toNat_natCast]
theorem cyc_mod (s : List Int) (i : Int) : cyc s (i % (s.length : Int)) = cyc s i := by
  unfold cyc
  rw [Int.emod_emod_of_dvd _ (Int.dvd_refl _)]
theorem cyc_congr {s : List Int} {i j : Int} (h : i % (s.length : Int) = j % (s.length : Int)) : cyc s i = cyc s j := by
  unfold cyc
  rw [h]
theorem okStays_iff {s : List Int} : okStays s = true ↔ (1 ≤ s.length ∧ s.length ≤ 48 ∧ ∀ x ∈ s, 1 ≤ x ∧ x ≤ (s.length : Int)) := by
  unfold okStays
  simp only [Bool.and_eq_true, decide_eq_true_eq, List.all_eq_true]
  constructor
  · rintro ⟨⟨a, b⟩, c⟩
    exact ⟨a, b, c⟩
  · rintro ⟨a, b, c⟩
    exact ⟨⟨a, b⟩, c⟩
theorem Good.ok {s : List Int} (g : Good s) : okStays s = true := by
  refine okStays_iff.mpr ⟨g.ne, g.le, fun x hx => ?_⟩
  obtain ⟨j, hj, rfl⟩ := List.mem_iff_getElem.mp hx
  have e : cyc s (j : Int) = s[j] := by
    rw [cyc_at hj, List.getD_eq_getElem?_getD, List.getElem?_eq_getElem hj]
    rfl
  rw [← e]
  exact ⟨g.lo _, g.hi _⟩
theorem Good.of {s : List Int} (h : okStays s = true) (o : ∀ j : Nat, j < s.length → s.getD j 0 ≤ 1 + cyc s ((j : Int) + 1)) : Good s := by
  obtain ⟨h1, h2, h3⟩ := okStays_iff.mp h
  refine ⟨h1, h2, fun i => (h3 _ (cyc_mem h1 i)).1, fun i => (h3 _ (cyc_mem h1 i)).2, fun i => ?_⟩
  have hb := mod_bd h1 i
  have e1 := o (i % (s.length : Int)).toNat (by omega)
  have e2 : (((i % (s.length : Int)).toNat : Nat) : Int) = i % (s.length : Int) := by omega
  rw [e2] at e1
  have e3 : cyc s (i % (s.length : Int) + 1) = cyc s (i + 1) := cyc_congr (by rw [Int.emod_add_emod])
  rw [e3] at e1
  exact e1

/-! ### windows have no gap -/
theorem down {s : List Int} (g : Good s) (h : Int) : ∀ (b : Nat), (b : Int) + 1 < cyc s (h - ((b : Int) + 1)) → (b : Int) < cyc s (h - b) := fun b q => by
  have := g.od (h - ((b : Int) + 1))
  rw [show h - ((b : Int) + 1) + 1 = h - b by omega] at this
  omega
theorem down' {s : List Int} (g : Good s) (h : Int) : ∀ (k b : Nat), (((b + k : Nat) : Int)) < cyc s (h - ((b + k : Nat) : Int)) → (b : Int) < cyc s (h - b)
  | 0, b, q => q
  | k + 1, b, q => down' g h k b (by
      have := down g h (b + k)
      rw [show ((b + (k + 1) : Nat) : Int) = ((b + k : Nat) : Int) + 1 by omega] at q
      exact this q)
/-- a downward closed test on the first numbers: how many pass is where it ends -/
theorem count_down (p : Nat → Bool) : ∀ n : Nat, (∀ b, p (b + 1) = true → p b = true) → ∀ b, b < n → (b < ((List.range n).filter p).length ↔ p b = true) := by
  intro n hp
  have hp' : ∀ k b, p (b + k) = true → p b = true := fun k => by
    induction k with
    | zero => exact fun b h => h
    | succ k ih => exact fun b h => ih b (hp (b + k) h)
  induction n with
  | zero => intro b hb; omega
  | succ n ih =>
    intro b hb
    rw [List.range_succ, List.filter_append, List.length_append, List.filter_cons]
    have hle : ((List.range n).filter p).length ≤ n := by
      have := List.length_filter_le p (List.range n)
      rw [List.length_range] at this
      exact this
    by_cases hn : p n = true
    · have all : ((List.range n).filter p).length = n := by
        have e : (List.range n).filter p = List.range n := List.filter_eq_self.mpr fun a ha => hp' (n - a) a (by
          have := List.mem_range.mp ha
          rw [show a + (n - a) = n by omega]
          exact hn)
        rw [e, List.length_range]
      rw [if_pos hn, all]
      simp only [List.filter_nil, List.length_cons, List.length_nil]
      refine ⟨fun _ => hp' (n - b) b (by rw [show b + (n - b) = n by omega]; exact hn), fun _ => by omega⟩
    · rw [if_neg hn]
      simp only [List.filter_nil, List.length_nil, Nat.add_zero]
      rcases Nat.lt_or_ge b n with h | h
      · exact ih b h
      · have e : b = n := by omega
        subst e
        exact ⟨fun h => absurd h (by omega), fun h => absurd h hn⟩
/-- the hour h is served by the begin b hours back just if b is less than its width -/
theorem wd_iff {s : List Int} (g : Good s) (h : Int) {b : Nat} (hb : b < s.length) : (b : Int) < wd s h ↔ (b : Int) < cyc s (h - b) := by
  have := count_down (fun (b : Nat) => decide ((b : Int) < cyc s (h - (b : Int)))) s.length (fun b q => by
    have q' := of_decide_eq_true q
    exact decide_eq_true (down g h b (by
      rw [show ((b + 1 : Nat) : Int) = (b : Int) + 1 by omega] at q'
      exact q'))) b hb
  unfold wd
  rw [decide_eq_true_eq] at this
  rw [← this]
  omega
theorem wd_le {s : List Int} (h : Int) : wd s h ≤ (s.length : Int) := by
  unfold wd
  have := List.length_filter_le (fun (b : Nat) => decide ((b : Int) < cyc s (h - (b : Int)))) (List.range s.length)
  rw [List.length_range] at this
  omega
theorem wd_nn {s : List Int} (h : Int) : 0 ≤ wd s h := by
  unfold wd
  omega
theorem wd_pos {s : List Int} (g : Good s) (h : Int) : 1 ≤ wd s h := by
  have := (wd_iff g h (b := 0) g.ne).mpr (by have := g.lo (h - ((0 : Nat) : Int)); omega)
  omega
theorem wd_mod (s : List Int) (h : Int) : wd s (h % (s.length : Int)) = wd s h := by
  unfold wd
  congr 2
  refine List.filter_congr fun b _ => ?_
  rw [cyc_congr (i := h % (s.length : Int) - b) (j := h - b) (by rw [Int.emod_sub_emod])]
theorem wds_length (s : List Int) : (wds s).length = s.length := by
  unfold wds
  rw [List.length_map, List.length_range]
theorem cyc_wds {s : List Int} (h1 : 1 ≤ s.length) (h : Int) : cyc (wds s) h = wd s h := by
  have hb := mod_bd h1 h
  unfold cyc
  rw [wds_length, List.getD_eq_getElem?_getD]
  unfold wds
  rw [List.getElem?_map, List.getElem?_range (by omega)]
  show wd s (((h % (s.length : Int)).toNat : Nat) : Int) = wd s h
  rw [show (((h % (s.length : Int)).toNat : Nat) : Int) = h % (s.length : Int) by omega, wd_mod]
theorem wd_step {s : List Int} (g : Good s) (h : Int) : wd s (h + 1) ≤ 1 + wd s h := by
  rcases Int.lt_or_le (1 + wd s h) (wd s (h + 1)) with q | q
  · exfalso
    have h0 := wd_nn (s := s) h
    have h1 := wd_le (s := s) (h + 1)
    obtain ⟨b, hb⟩ : ∃ b : Nat, wd s h = (b : Int) := ⟨(wd s h).toNat, by omega⟩
    have e1 := (wd_iff g (h + 1) (b := b + 1) (by omega)).mp (by omega)
    have e2 : (b : Int) < cyc s (h - b) := by
      rw [show h + 1 - ((b + 1 : Nat) : Int) = h - b by omega] at e1
      omega
    have e3 := (wd_iff g h (b := b) (by omega)).mpr e2
    omega
  · omega
end Hn

/-! Kinds of values; calls by name, read. -/
namespace Hn
open PySem PySem.Spec PyProof.Rows L2 Evl
section
variable {K : PySem.W.Frag} {σ : L2.St} {H : Hp} {Q : VK} {a : Addr} {xs : List V} {i : Int}
theorem sq_ty (h : Sq K H a xs) : TyX K H (.ref a) (.type "list") ∨ TyX K H (.ref a) (.type "tuple") := by
  rcases h with h | h
  · rcases h with (h | ⟨o, h⟩) | ⟨o, its, n, h1, h2, _⟩
    · exact .inl (.base (.lst h))
    · exact .inl (.base (.frz h))
    · exact .inl (.kList h1 h2)
  · rcases h with (h | ⟨o, h⟩) | ⟨o, its, n, h1, h2, _⟩
    · exact .inr (.base (.tup h))
    · exact .inr (.fTuple h)
    · exact .inr (.kTuple h1 h2)
theorem r_isiSeq {tp : Addr} (h : Sq K H a xs) (ht : H tp = some (.tup [.ty "list", .ty "tuple"])) (q : Q (.bl true) H) : rIsiT K [.ref a, .ref tp] H Q := by
  have pc : Paired ClsV [V.ty "list", V.ty "tuple"] [.type "list", .type "tuple"] := .cons (.ty _) (.cons (.ty _) .nil)
  rcases sq_ty h with t | t
  · exact ⟨.ref a, tp, _, _, _, true, rfl, ht, pc, t, kitAny_cons (b := true) (kit_ty (by decide +kernel)) (fun z => nomatch z) (fun _ => rfl), q⟩
  · exact ⟨.ref a, tp, _, _, _, true, rfl, ht, pc, t, kitAny_cons (b := false) (kit_ty (by decide +kernel)) (fun _ => kitAny_cons (b := true) (kit_ty (by decide +kernel)) (fun z => nomatch z) (fun _ => rfl)) (fun z => nomatch z), q⟩
theorem r_isiInt (q : Q (.bl true) H) : rIsi K [.int i, .ty "int"] H Q := ⟨.int i, .ty "int", _, _, true, rfl, .ty _, .base (.int i), kit_ty (by decide +kernel), q⟩
theorem r_isiIntB (q : Q (.bl false) H) : rIsi K [.int i, .ty "bool"] H Q := ⟨.int i, .ty "bool", _, _, false, rfl, .ty _, .base (.int i), kit_ty (by decide +kernel), q⟩
theorem r_all {bs : List Bool} (h : SqL K H a (bs.map V.bl)) (q : Q (.bl (bs.all id)) H) : rAll K [.ref a] H Q := ⟨a, bs, rfl, h, q⟩
theorem r_sum {ns : List Int} (h : SqL K H a (ns.map V.int)) (q : Q (.int ns.sum) H) : rSum K [.ref a] H Q := ⟨a, ns, rfl, h, q⟩
theorem ty_lst (h : H a = some (.lst xs)) : tyV K "list" (.ref a) H := .inl ⟨rfl, xs, .inl (.inl h)⟩
theorem szc (h : Nat.ble xs.length 1000 = true) : xs.length ≤ sizeLine := by
  have : (1000 : Nat) ≤ sizeLine := by decide
  have := Nat.le_of_ble_eq_true h
  omega
/-- a new list that nobody else holds -/
def RetN (xs : List V) (H : Hp) (Q : VK) : Prop := ∀ p H', H p = none → Ex H H' → H' p = some (.lst xs) → Q (.ref p) H'
theorem tup_mono {H' : Hp} (e : Xl H H') (h : SqT K H a xs) : SqT K H' a xs := by
  rcases h with (h | ⟨o, h⟩) | h
  · exact .inl (.inl (e _ _ h rfl))
  · exact .inl (.inr ⟨o, e _ _ h rfl⟩)
  · exact .inr h
/-- a tuple stands though an instance is written -/
theorem tup_ins {C dx : Addr} {fs : List (Str × V)} {p : Addr} {o : HO} (hp : H p = some (.ins C dx fs)) (h : SqT K H a xs) : SqT K (upd H p o) a xs := by
  rcases h with (h | ⟨o', h⟩) | h
  · exact .inl (.inl (by rw [upd_ne (ne_of h hp (by intro z; cases z))]; exact h))
  · exact .inl (.inr ⟨o', by rw [upd_ne (ne_of h hp (by intro z; cases z))]; exact h⟩)
  · exact .inr h
theorem map_range_int (ns : List Int) (f : Int → V) : (List.range ns.length).map (fun i => f (ns.getD i 0)) = ns.map f := by
  refine List.ext_getElem? fun i => ?_
  rw [List.getElem?_map, List.getElem?_map]
  rcases Nat.lt_or_ge i ns.length with h | h
  · rw [List.getElem?_range h, List.getElem?_eq_getElem h, Option.map_some, Option.map_some, List.getD_eq_getElem?_getD, List.getElem?_eq_getElem h]
    rfl
  · rw [List.getElem?_eq_none (by rw [List.length_range]; omega), List.getElem?_eq_none h]
    rfl
end
end Hn

/-! The rules with the written part by its own name, so that they fit within a comprehension's block. -/
namespace Hn
open PySem PySem.Spec PyProof.Rows L2 Evl
section
variable {X : Cx} {K : PySem.W.Frag} {tg l e : Expr} {tl te : TE} {ar : TA}
theorem k_ixL (h : X.K = K) : IxR X (rIxL K) := h ▸ ix_list
theorem k_ixT (h : X.K = K) : IxR X (rIxT K) := h ▸ ix_tup
theorem k_ixS (h : X.K = K) : IxR X (rIx K) := h ▸ ix_seq
theorem k_getL (h : X.K = K) : PGet X (rIxL K) := h ▸ get_list
def rLen (K : PySem.W.Frag) : List V → Hp → VK → Prop := fun xs H Q => ∃ p ys, xs = [.ref p] ∧ (SqL K H p ys ∨ SqT K H p ys) ∧ Q (.int ys.length) H
def rListOf (K : PySem.W.Frag) : List V → Hp → VK → Prop := fun xs H Q => ∃ p ys, xs = [.ref p] ∧ (SqL K H p ys ∨ SqT K H p ys) ∧ ∀ l, H l = none → Q (.ref l) (upd H l (.lst ys))
def rTupOf (K : PySem.W.Frag) : List V → Hp → VK → Prop := fun xs H Q => ∃ p ys, xs = [.ref p] ∧ ((SqL K H p ys ∧ ∀ l, H l = none → Q (.ref l) (upd H l (.tup ys))) ∨ (SqT K H p ys ∧ Q (.ref p) H))
def rAbs : List V → Hp → VK → Prop := fun xs H Q => ∃ i, xs = [.int i] ∧ Q (.int (if i < 0 then -i else i)) H
def rInt1 : List V → Hp → VK → Prop := fun xs H Q => (∃ i, xs = [.int i] ∧ Q (.int i) H) ∨ ∃ k, xs = [.bl k] ∧ Q (.int (if k then 1 else 0)) H
def rIsNon : R2 := fun x y H Q => y = .non ∧ Q (.bl (decide (x = .non))) H
def rNotNon : R2 := fun x y H Q => y = .non ∧ Q (.bl (!decide (x = .non))) H
def rInsert : V → List V → Hp → VK → Prop := fun x vs H Q => ∃ (l : Addr) (xs : List V) (i : Int) (y : V), x = .ref l ∧ vs = [.int i, y] ∧ H l = some (.lst xs) ∧ xs.length < sizeLine ∧ 0 ≤ i ∧ i < 2 ^ 63 ∧
    Q .non (upd H l (.lst (xs.take i.toNat ++ [y] ++ xs.drop i.toNat)))
def rMin2 : List V → Hp → VK → Prop := fun xs H Q => ∃ i j, xs = [.int i, .int j] ∧ Q (.int (if j < i then j else i)) H
def rMx2 : List V → Hp → VK → Prop := fun xs H Q => ∃ i j, xs = [.int i, .int j] ∧ Q (.int (if j > i then j else i)) H
theorem k_len (h : X.K = K) : CallR X (.builtin "len") (rLen K) := h ▸ call_len_seq
theorem k_listOf (h : X.K = K) : CallR X (.type "list") (rListOf K) := h ▸ call_list_of
theorem k_tupOf (h : X.K = K) : CallR X (.type "tuple") (rTupOf K) := h ▸ call_tuple_of
theorem k_abs : CallR X (.builtin "abs") rAbs := call_abs
theorem k_int1 : CallR X (.type "int") rInt1 := call_int1
theorem k_isN : OpR X (compareOp .Is) rIsNon := op_isN
theorem k_notN : OpR X (compareOp .IsNot) rNotNon := op_notN
theorem k_insert : MtR X "list.insert" rInsert := mt_insert
theorem k_min2 (hc : X.calm = true) : CallR X (.builtin "min") rMin2 := call_min2 hc
theorem k_max2 (hc : X.calm = true) : CallR X (.builtin "max") rMx2 := call_max2 hc
section
variable {H : Hp} {Q : VK} {i j : Int} {x : V} {a : Addr} {xs : List V}
theorem r_len (h : Sq K H a xs) (q : Q (.int (xs.length : Int)) H) : rLen K [.ref a] H Q := ⟨a, xs, rfl, h, q⟩
theorem r_listOf (h : Sq K H a xs) (q : ∀ l, H l = none → Q (.ref l) (upd H l (.lst xs))) : rListOf K [.ref a] H Q := ⟨a, xs, rfl, h, q⟩
/-- tuple(x): some tuple of the items, x itself or a new one -/
theorem r_tupOf (h : Sq K H a xs) (q : ∀ l H', Ex H H' → SqT K H' l xs → Q (.ref l) H') : rTupOf K [.ref a] H Q :=
  h.elim (fun h => ⟨a, xs, rfl, .inl ⟨h, fun l nl => q l _ (Ex.new nl) (.inl (.inl upd_same))⟩⟩) fun h => ⟨a, xs, rfl, .inr ⟨h, q a H (Ex.refl H) h⟩⟩
theorem r_abs (q : Q (.int (if i < 0 then -i else i)) H) : rAbs [.int i] H Q := ⟨i, rfl, q⟩
theorem r_intP (q : Q (.int i) H) : rInt1 [.int i] H Q := .inl ⟨i, rfl, q⟩
theorem r_intB {b : Bool} (q : Q (.int (if b then 1 else 0)) H) : rInt1 [.bl b] H Q := .inr ⟨b, rfl, q⟩
theorem r_min2 (q : Q (.int (if j < i then j else i)) H) : rMin2 [.int i, .int j] H Q := ⟨i, j, rfl, q⟩
theorem r_max2 (q : Q (.int (if j > i then j else i)) H) : rMx2 [.int i, .int j] H Q := ⟨i, j, rfl, q⟩
theorem r_isN (q : Q (.bl (decide (x = .non))) H) : rIsNon x .non H Q := ⟨rfl, q⟩
theorem r_notN (q : Q (.bl (!decide (x = .non))) H) : rNotNon x .non H Q := ⟨rfl, q⟩
theorem r_isNi (q : Q (.bl false) H) : rIsNon (.int i) .non H Q := ⟨rfl, q⟩
theorem r_isNr (q : Q (.bl false) H) : rIsNon (.ref a) .non H Q := ⟨rfl, q⟩
theorem r_isNn (q : Q (.bl true) H) : rIsNon .non .non H Q := ⟨rfl, q⟩
theorem r_notNi (q : Q (.bl true) H) : rNotNon (.int i) .non H Q := ⟨rfl, q⟩
theorem r_notNr (q : Q (.bl true) H) : rNotNon (.ref a) .non H Q := ⟨rfl, q⟩
theorem r_notNn (q : Q (.bl false) H) : rNotNon .non .non H Q := ⟨rfl, q⟩
end
theorem k_all (h : X.K = K) (hc : X.calm = true) : CallR X (.builtin "all") (rAll K) := h ▸ cr_all hc
theorem k_any (h : X.K = K) (hc : X.calm = true) : CallR X (.builtin "any") (rAny K) := h ▸ cr_any hc
theorem k_sum (h : X.K = K) (hc : X.calm = true) : CallR X (.builtin "sum") (rSum K) := h ▸ cr_sum hc
theorem k_min (h : X.K = K) (hc : X.calm = true) : CallR X (.builtin "min") (rMin K) := h ▸ cr_min hc
theorem k_max (h : X.K = K) (hc : X.calm = true) : CallR X (.builtin "max") (rMax K) := h ▸ cr_max hc
theorem k_in (h : X.K = K) : OpR X (compareOp .In) (rIn K false) := h ▸ op_in_seq
theorem k_notIn (h : X.K = K) : OpR X (compareOp .NotIn) (rIn K true) := h ▸ op_notIn_seq
theorem k_eqD (h : X.K = K) (hu : X.A.units + 64 < cLine) : OpR X (compareOp .Eq) (rEqD K) := h ▸ op_eqD hu
theorem k_neD (h : X.K = K) (hu : X.A.units + 64 < cLine) : OpR X (compareOp .NotEq) (rNeD K) := h ▸ op_neD hu
theorem k_isi (h : X.K = K) : CallR X (.builtin "isinstance") (rIsi K) := h ▸ call_isi
theorem k_isiT (h : X.K = K) : CallR X (.builtin "isinstance") (rIsiT K) := h ▸ call_isiT
theorem k_slL (h : X.K = K) : SlR X (rSlL K) := h ▸ sl_list
theorem k_piL (h : X.K = K) (hl : PE X l tl) : PI X tg l (iList K tl) := h ▸ pi_list hl
theorem k_piT (h : X.K = K) (hl : PE X l tl) : PI X tg l (iTup K tl) := h ▸ pi_tup hl
theorem k_piS (h : X.K = K) (hl : PE X l tl) : PI X tg l (iSeq K tl) := h ▸ pi_seq hl
theorem k_piE {p pos tpos : Pos} {elts : List Expr} {kk : Nat} (h : X.K = K) (hg : Gl X "enumerate") (hm : X.mg "enumerate" = none) (ha : PA X [e] ar) (hs : starEach [e] X.env = [(false, eval e X.env)] := by rfl) :
    PI X (.Tuple elts kk tpos) (.Call (.Name "enumerate" p) [e] [] pos) (iEnumS K ar) := h ▸ pi_enumS hg hm ha hs
theorem k_piZ {e2 : Expr} {p pos tpos : Pos} {elts : List Expr} {kk : Nat} (h : X.K = K) (hg : Gl X "zip") (hm : X.mg "zip" = none) (ha : PA X [e, e2] ar)
    (hs : starEach [e, e2] X.env = (false, eval e X.env) :: starEach [e2] X.env := by rfl) (hpl : (backTo pos (starEach [e2] X.env)).any (·.1) = false := by rfl) :
    PI X (.Tuple elts kk tpos) (.Call (.Name "zip" p) [e, e2] [] pos) (iZip K ar) := h ▸ pi_zip hg hm ha hs hpl
theorem k_fld {f : Str} {pos : Pos} (h : X.K = K) (he : PE X e te) (hb : attributeBase e f X.env (eval e X.env) = eval e X.env := by rfl) : PE X (.Attribute e f pos) (tFld K te f) := h ▸ pe_fld he hb
theorem k_sfld {o : Expr} {ta : TE} {f : Str} {pos pos' : Pos} (h : X.K = K) (ha : PE X o ta) (hv : PE X e te) (hs : swapsWith e (some (.Attribute o f pos')) pos.line X.env = pure false := by rfl) : PS X (.Assign [.Attribute o f pos'] e pos) (sFld K ta te f) := h ▸ ps_fld ha hv hs
theorem k_revL {k : Nat} {p1 p2 p3 pos : Pos} (h : X.K = K) (he : PE X e te) : PE X (.Subscript e (.Slice none none (some (.UnaryOp .USub (.Constant (.int 1) k p1) p2)) p3) pos) (tRevL K te) := h ▸ pe_revL he
theorem k_revT {k : Nat} {p1 p2 p3 pos : Pos} (h : X.K = K) (he : PE X e te) : PE X (.Subscript e (.Slice none none (some (.UnaryOp .USub (.Constant (.int 1) k p1) p2)) p3) pos) (tRevT K te) := h ▸ pe_revT he
theorem k_gtup {es : List Expr} {k : Nat} {t : TGs} {n : Nat} {pos : Pos} (h : X.K = K) (hc : X.calm = true) (hh : PGs X es t)
    (hn : (assignEach es X.env).length = n := by rfl) (hst : (assignEach es X.env).findIdx? (·.1) = none := by rfl) : PG X (.Tuple es k pos) (gTup K n t) := h ▸ pg_tup hc hh hn hst
theorem pe_bty {x : Str} {n : String} {pos : Pos} (hg : Gl X x) (hm : X.mg x = none) (hv : bootBuiltins x = some (.type n)) (hn : x ≠ "__name__" := by decide) (hd : (x == ("__debug__" : Str)) = false := by decide) : PE X (.Name x pos) (tC (.ty n)) := pe_bltn hg hm hv rfl hn hd
end
end Hn

/-! Clocks as objects. -/
namespace Hn
open PySem PySem.Spec PyProof.Rows L2 Evl
theorem at_cyc {ns : List Int} (h : 1 ≤ ns.length) (j : Int) : atI (ns.map V.int) (j % (ns.length : Int)) = some (.int (cyc ns j)) := by
  have hb := mod_bd h j
  rw [at_int hb.1 hb.2]
  rfl
/-- the fields of a clock -/
def clkF (a b : Addr) : List (Str × V) := putF "kept_widths" (.ref b) (putF "kept_stays" (.ref a) [])
theorem clkF_stays (a b : Addr) : (clkF a b).lookup ("kept_stays" : Str) = some (.ref a) := by
  unfold clkF
  rw [lookup_putF, if_neg (by decide +kernel), lookup_putF, if_pos rfl]
theorem clkF_widths (a b : Addr) : (clkF a b).lookup ("kept_widths" : Str) = some (.ref b) := by
  unfold clkF
  rw [lookup_putF, if_pos rfl]
theorem clkF_no (a b : Addr) {m : Str} (h1 : ¬ m = "kept_widths") (h2 : ¬ m = "kept_stays") : (clkF a b).lookup m = none := by
  unfold clkF
  rw [lookup_putF, if_neg h1, lookup_putF, if_neg h2]
  rfl
/-- a Clock of the stays s -/
def Clk (K : PySem.W.Frag) (C : Addr) (H : Hp) (v : V) (s : List Int) : Prop :=
  ∃ p dx a b, v = .ref p ∧ H p = some (.ins C dx (clkF a b)) ∧ SqT K H a (s.map V.int) ∧ SqT K H b ((wds s).map V.int) ∧ Good s
theorem Clk.mono {K : PySem.W.Frag} {C : Addr} {H H' : Hp} {v : V} {s : List Int} (e : Xl H H') (h : Clk K C H v s) : Clk K C H' v s :=
  let ⟨p, dx, a, b, h1, h2, h3, h4, h5⟩ := h
  ⟨p, dx, a, b, h1, e _ _ h2 rfl, tup_mono e h3, tup_mono e h4, h5⟩
theorem Clk.ex {K : PySem.W.Frag} {C : Addr} {H H' : Hp} {v : V} {s : List Int} (e : Ex H H') (h : Clk K C H v s) : Clk K C H' v s := h.mono (.of e)
theorem Clk.good {K : PySem.W.Frag} {C : Addr} {H : Hp} {v : V} {s : List Int} (h : Clk K C H v s) : Good s := let ⟨_, _, _, _, _, _, _, _, h5⟩ := h; h5
/-- what the making of a Clock asks: items that are good stays, and gives: the Clock -/
def MkClk (K : PySem.W.Frag) (C : Addr) (H : Hp) (v : V) (Q : Addr → Hp → Prop) : Prop := ∃ a s, v = .ref a ∧ Sq K H a (s.map V.int) ∧ Good s ∧ ∀ u H', Ex H H' → Clk K C H' (.ref u) s → Q u H'
/-- its __init__'s promise -/
def spClkInit (K : PySem.W.Frag) (C : Addr) : Sp := fun vs H Q _ => ∃ (H0 : Hp) (x dx a : Addr) (s : List Int), vs = [.ref x, .ref a] ∧ H = upd (upd H0 dx (.own x)) x (.ins C dx []) ∧ H0 x = none ∧ H0 dx = none ∧ dx ≠ x ∧ Sq K H0 a (s.map V.int) ∧ Good s ∧
  ∀ H', Ex H0 H' → Clk K C H' (.ref x) s → Q .non H'
theorem mkClk {K : PySem.W.Frag} {C : Addr} {H : Hp} {v : V} {Q : Addr → Hp → Prop} {E : XK} (h : MkClk K C H v Q) : ∀ x dx, H x = none → H dx = none → dx ≠ x → spClkInit K C (.ref x :: ([v] ++ [])) (upd (upd H dx (.own x)) x (.ins C dx [])) (fun v H2 => v = .non ∧ Q x H2) E := by
  intro x dx nx ndx ne
  obtain ⟨a, s, rfl, hS, g, k⟩ := h
  exact ⟨H, x, dx, a, s, rfl, rfl, nx, ndx, ne, hS, g, fun H' e c => ⟨rfl, k _ _ e c⟩⟩
/-- a method of a Clock is asked -/
theorem r_clkM {K : PySem.W.Frag} {C : Addr} {H : Hp} {v : V} {s : List Int} {m : Str} {p : Prop} (h : Clk K C H v s) (q : p) (h1 : ¬ m = "kept_widths" := by decide +kernel) (h2 : ¬ m = "kept_stays" := by decide +kernel) : ∃ a dx fs, v = .ref a ∧ H a = some (.ins C dx fs) ∧ fs.lookup m = none ∧ p :=
  let ⟨x, dx, a, b, e, hp, _⟩ := h
  ⟨x, dx, _, e, hp, clkF_no a b h1 h2, q⟩
theorem r_clkP {K : PySem.W.Frag} {C : Addr} {H : Hp} {v : V} {s : List Int} {p : Addr → Prop} (h : Clk K C H v s) (q : ∀ a, v = .ref a → p a) : ∃ a dx fs, v = .ref a ∧ H a = some (.ins C dx fs) ∧ p a :=
  let ⟨x, dx, _, _, e, hp, _⟩ := h
  ⟨x, dx, _, e, hp, q x e⟩
theorem r_clkG {K : PySem.W.Frag} {C : Addr} {H : Hp} {v : V} {s : List Int} {p : Prop} (h : Clk K C H v s) (q : p) : ∃ a dx fs, v = .ref a ∧ H a = some (.ins C dx fs) ∧ p :=
  let ⟨x, dx, _, _, e, hp, _⟩ := h
  ⟨x, dx, _, e, hp, q⟩
end Hn

/-! Clocks turned, mirrored; sums round about. -/
namespace Hn
/-- n items by their place -/
def rowOf (n : Nat) (f : Int → Int) : List Int := (List.range n).map fun (i : Nat) => f (i : Int)
theorem rowOf_length (n : Nat) (f : Int → Int) : (rowOf n f).length = n := by
  unfold rowOf
  rw [List.length_map, List.length_range]
theorem rowOf_getD {n : Nat} (f : Int → Int) {j : Nat} (h : j < n) : (rowOf n f).getD j 0 = f (j : Int) := by
  unfold rowOf
  rw [List.getD_eq_getElem?_getD, List.getElem?_map, List.getElem?_range h]
  rfl
theorem cyc_rowOf {n : Nat} (f : Int → Int) (h : 1 ≤ n) (i : Int) : cyc (rowOf n f) i = f (i % (n : Int)) := by
  have hb := mod_bd h i
  unfold cyc
  rw [rowOf_length, rowOf_getD f (by omega), show ((i % (n : Int)).toNat : Int) = i % (n : Int) by omega]
theorem rowOf_congr {n : Nat} {f g : Int → Int} (h : ∀ i : Int, 0 ≤ i → i < (n : Int) → f i = g i) : rowOf n f = rowOf n g := by
  unfold rowOf
  refine List.map_congr_left fun i hi => h _ (by omega) ?_
  have := List.mem_range.mp hi
  omega
theorem row_ext {s : List Int} {n : Nat} (f : Int → Int) (hl : s.length = n) (h : ∀ j : Nat, j < n → s.getD j 0 = f (j : Int)) : s = rowOf n f := by
  refine List.ext_getElem? fun i => ?_
  rcases Nat.lt_or_ge i n with q | q
  · have := h i q
    rw [List.getD_eq_getElem?_getD, List.getElem?_eq_getElem (by omega)] at this
    rw [List.getElem?_eq_getElem (by omega)]
    unfold rowOf
    rw [List.getElem?_map, List.getElem?_range q]
    exact congrArg some this
  · rw [List.getElem?_eq_none (by omega), List.getElem?_eq_none (by rw [rowOf_length]; omega)]
/-- a row is told by its items round about -/
theorem row_cyc (s : List Int) : s = rowOf s.length (cyc s) := row_ext _ rfl fun _ hj => (cyc_at hj).symm
theorem eq_of_cyc {s t : List Int} (hl : s.length = t.length) (h : ∀ i : Int, 0 ≤ i → i < (s.length : Int) → cyc s i = cyc t i) : s = t := by
  rw [row_cyc s, row_cyc t, ← hl]
  exact rowOf_congr h
theorem wds_row (s : List Int) : wds s = rowOf s.length (wd s) := rfl
/-! ### turned -/
def turnS (s : List Int) (b : Int) : List Int := rowOf s.length fun i => cyc s (i + b)
theorem turnS_length (s : List Int) (b : Int) : (turnS s b).length = s.length := rowOf_length _ _
theorem cyc_turn {s : List Int} (h : 1 ≤ s.length) (b i : Int) : cyc (turnS s b) i = cyc s (i + b) := by
  unfold turnS
  rw [cyc_rowOf _ h]
  exact cyc_congr (by rw [Int.emod_add_emod])
theorem Good.turn {s : List Int} (g : Good s) (b : Int) : Good (turnS s b) := by
  have hl := turnS_length s b
  refine ⟨by rw [hl]; exact g.ne, by rw [hl]; exact g.le, fun i => ?_, fun i => ?_, fun i => ?_⟩
  · rw [cyc_turn g.ne]
    exact g.lo _
  · rw [cyc_turn g.ne, hl]
    exact g.hi _
  · rw [cyc_turn g.ne, cyc_turn g.ne, show i + 1 + b = (i + b) + 1 by omega]
    exact g.od _
theorem wd_turn {s : List Int} (h : 1 ≤ s.length) (b i : Int) : wd (turnS s b) i = wd s (i + b) := by
  unfold wd
  rw [turnS_length]
  congr 2
  refine List.filter_congr fun c _ => ?_
  rw [cyc_turn h, show i - (c : Int) + b = i + b - c by omega]
/-! ### mirrored -/
theorem cyc_rev {s : List Int} (h : 1 ≤ s.length) (i : Int) : cyc s.reverse i = cyc s (-1 - i) := by
  have h1 := mod_bd h i
  have h2 := mod_bd h (-1 - i)
  have e : (-1 - i) % (s.length : Int) = (s.length : Int) - 1 - i % (s.length : Int) := by
    have e1 : (-1 - i) % (s.length : Int) = ((s.length : Int) - 1 - i % (s.length : Int)) % (s.length : Int) := by
      rw [show (s.length : Int) - 1 - i % (s.length : Int) = (-1 - i % (s.length : Int)) + (s.length : Int) by omega, Int.add_emod_right, Int.sub_emod_emod]
    rw [e1, Int.emod_eq_of_lt (by omega) (by omega)]
  unfold cyc
  rw [List.length_reverse, e, List.getD_eq_getElem?_getD, List.getD_eq_getElem?_getD, List.getElem?_reverse (by omega)]
  congr 2
  omega
def mirS (s : List Int) : List Int := (wds s).reverse
theorem mirS_length (s : List Int) : (mirS s).length = s.length := by
  unfold mirS
  rw [List.length_reverse, wds_length]
theorem cyc_mir {s : List Int} (h : 1 ≤ s.length) (i : Int) : cyc (mirS s) i = wd s (-1 - i) := by
  unfold mirS
  rw [cyc_rev (by rw [wds_length]; exact h), cyc_wds h]
theorem Good.mir {s : List Int} (g : Good s) : Good (mirS s) := by
  have hl := mirS_length s
  refine ⟨by rw [hl]; exact g.ne, by rw [hl]; exact g.le, fun i => ?_, fun i => ?_, fun i => ?_⟩
  · rw [cyc_mir g.ne]
    exact wd_pos g _
  · rw [cyc_mir g.ne, hl]
    exact wd_le _
  · rw [cyc_mir g.ne, cyc_mir g.ne, show (-1 - i : Int) = (-1 - (i + 1)) + 1 by omega]
    exact wd_step g _
theorem wd_mir {s : List Int} (g : Good s) (h : Int) : wd (mirS s) h = cyc s (-1 - h) := by
  have gm := g.mir
  have hl := mirS_length s
  have key : ∀ b : Nat, b < s.length → ((b : Int) < wd (mirS s) h ↔ (b : Int) < cyc s (-1 - h)) := fun b hb => by
    rw [wd_iff gm h (by rw [hl]; exact hb), cyc_mir g.ne, show (-1 - (h - (b : Int))) = (-1 - h) + b by omega, wd_iff g _ hb, show (-1 - h) + (b : Int) - b = -1 - h by omega]
  have a1 := wd_nn (s := mirS s) h
  have a2 := wd_le (s := mirS s) h
  have a3 := g.lo (-1 - h)
  have a4 := g.hi (-1 - h)
  rw [hl] at a2
  rcases Int.lt_trichotomy (wd (mirS s) h) (cyc s (-1 - h)) with q | q | q
  · have := (key (wd (mirS s) h).toNat (by omega)).mpr (by omega)
    omega
  · exact q
  · have := (key (cyc s (-1 - h)).toNat (by omega)).mp (by omega)
    omega
theorem mir_mir {s : List Int} (g : Good s) : mirS (mirS s) = s := by
  refine eq_of_cyc (by rw [mirS_length, mirS_length]) fun i _ _ => ?_
  rw [cyc_mir (by rw [mirS_length]; exact g.ne), wd_mir g, show (-1 - (-1 - i)) = i by omega]
/-! ### sums -/
def Sg : Nat → (Int → Int) → Int
  | 0, _ => 0
  | n + 1, f => Sg n f + f (n : Int)
theorem Sg_congr {n : Nat} {f g : Int → Int} (h : ∀ i : Int, 0 ≤ i → i < (n : Int) → f i = g i) : Sg n f = Sg n g := by
  induction n with
  | zero => rfl
  | succ n ih =>
    show Sg n f + f n = Sg n g + g n
    rw [ih fun i h0 h1 => h i h0 (by omega), h n (by omega) (by omega)]
theorem Sg_add {n : Nat} {f g : Int → Int} : Sg n (fun i => f i + g i) = Sg n f + Sg n g := by
  induction n with
  | zero => rfl
  | succ n ih =>
    show Sg n _ + (f n + g n) = (Sg n f + f n) + (Sg n g + g n)
    rw [ih]
    omega
theorem Sg_zero {n : Nat} : Sg n (fun _ => 0) = 0 := by
  induction n with
  | zero => rfl
  | succ n ih => show Sg n _ + 0 = 0; rw [ih]; rfl
theorem Sg_mul {n : Nat} (c : Int) (f : Int → Int) : Sg n (fun i => c * f i) = c * Sg n f := by
  induction n with
  | zero => exact (Int.mul_zero c).symm
  | succ n ih =>
    show Sg n _ + c * f n = c * (Sg n f + f n)
    rw [ih, Int.mul_add]
theorem Sg_swap {n m : Nat} (f : Int → Int → Int) : Sg n (fun i => Sg m (fun j => f i j)) = Sg m (fun j => Sg n (fun i => f i j)) := by
  induction n with
  | zero => exact Sg_zero.symm
  | succ n ih =>
    show Sg n _ + Sg m (fun j => f n j) = Sg m (fun j => Sg n (fun i => f i j) + f n j)
    rw [ih, Sg_add]
theorem Sg_first {n : Nat} (f : Int → Int) : Sg (n + 1) f = f 0 + Sg n (fun i => f (i + 1)) := by
  induction n with
  | zero => show 0 + f ((0 : Nat) : Int) = f 0 + 0; rw [Int.zero_add, Int.add_zero]; rfl
  | succ n ih =>
    show Sg (n + 1) f + f ((n + 1 : Nat) : Int) = f 0 + (Sg n _ + f ((n : Int) + 1))
    rw [ih, show ((n + 1 : Nat) : Int) = (n : Int) + 1 by omega]
    omega
/-- round about a sum may begin anywhere -/
theorem Sg_turn1 {n : Nat} {f : Int → Int} (p : ∀ i, f (i + (n : Int)) = f i) : Sg n (fun i => f (i + 1)) = Sg n f := by
  cases n with
  | zero => rfl
  | succ n =>
    rw [Sg_first (n := n) f]
    show Sg n (fun i => f (i + 1)) + f ((n : Int) + 1) = _
    have := p 0
    rw [show (0 : Int) + ((n + 1 : Nat) : Int) = (n : Int) + 1 by omega] at this
    rw [this]
    omega
theorem Sg_turnN {n : Nat} {f : Int → Int} (p : ∀ i, f (i + (n : Int)) = f i) : ∀ k : Nat, Sg n (fun i => f (i + (k : Int))) = Sg n f
  | 0 => Sg_congr fun i _ _ => by rw [show i + ((0 : Nat) : Int) = i by omega]
  | k + 1 => by
    rw [← Sg_turnN p k, ← Sg_turn1 (f := fun i => f (i + (k : Int))) (fun i => by rw [show i + (n : Int) + k = (i + k) + n by omega]; exact p _)]
    exact Sg_congr fun i _ _ => by rw [show i + ((k + 1 : Nat) : Int) = i + 1 + k by omega]
theorem Sg_turn {n : Nat} {f : Int → Int} (p : ∀ i, f (i + (n : Int)) = f i) (b : Int) : Sg n (fun i => f (i + b)) = Sg n f := by
  rcases Int.lt_or_le b 0 with h | h
  · have e := Sg_turnN (f := fun i => f (i + b)) (fun i => by rw [show i + (n : Int) + b = (i + b) + n by omega]; exact p _) (-b).toNat
    rw [← e]
    exact Sg_congr fun i _ _ => by rw [show i + ((-b).toNat : Int) + b = i by omega]
  · have e := Sg_turnN p b.toNat
    rw [← e]
    exact Sg_congr fun i _ _ => by rw [show i + (b.toNat : Int) = i + b by omega]
/-- .. and go the other way -/
theorem Sg_rev {n : Nat} (f : Int → Int) : Sg n (fun i => f ((n : Int) - 1 - i)) = Sg n f := by
  induction n with
  | zero => rfl
  | succ n ih =>
    rw [Sg_first]
    show f (((n + 1 : Nat) : Int) - 1 - 0) + _ = Sg n f + f n
    rw [← ih, show ((n + 1 : Nat) : Int) - 1 - 0 = n by omega, Int.add_comm]
    congr 1
    exact Sg_congr fun i _ _ => by rw [show ((n + 1 : Nat) : Int) - 1 - (i + 1) = (n : Int) - 1 - i by omega]
theorem sum_row (n : Nat) (f : Int → Int) : (rowOf n f).sum = Sg n f := by
  induction n with
  | zero => rfl
  | succ n ih =>
    show _ = Sg n f + f n
    rw [← ih]
    unfold rowOf
    rw [List.range_succ, List.map_append, List.sum_append]
    show _ + (f n + 0) = _
    rw [Int.add_zero]
theorem sum_cyc (s : List Int) : s.sum = Sg s.length (cyc s) := by
  have := sum_row s.length (cyc s)
  rw [← row_cyc s] at this
  exact this
theorem cyc_per (s : List Int) (i : Int) : cyc s (i + (s.length : Int)) = cyc s i := cyc_congr (by rw [Int.add_emod_right])
theorem wd_per (s : List Int) (i : Int) : wd s (i + (s.length : Int)) = wd s i := by
  rw [← wd_mod, Int.add_emod_right, wd_mod]
/-- how many pass, as a sum -/
theorem count_sum (p : Nat → Bool) (n : Nat) : (((List.range n).filter p).length : Int) = Sg n (fun i => if p i.toNat = true then 1 else 0) := by
  induction n with
  | zero => rfl
  | succ n ih =>
    show _ = Sg n _ + (if p ((n : Int)).toNat = true then 1 else 0)
    rw [← ih, List.range_succ, List.filter_append, List.length_append, Int.toNat_natCast, List.filter_cons]
    by_cases h : p n = true
    · rw [if_pos h, if_pos h]
      show ((_ + 1 : Nat) : Int) = _
      omega
    · rw [if_neg h, if_neg h]
      show ((_ + 0 : Nat) : Int) = _
      omega
theorem wd_sum (s : List Int) (h : Int) : wd s h = Sg s.length (fun b => if b < cyc s (h - b) then 1 else 0) := by
  unfold wd
  rw [count_sum]
  refine Sg_congr fun i h0 _ => ?_
  rw [show ((i.toNat : Nat) : Int) = i by omega]
  by_cases q : i < cyc s (h - i)
  · rw [if_pos (decide_eq_true q), if_pos q]
  · rw [if_neg (by rw [decide_eq_false q]; decide), if_neg q]
theorem cnt_below {n : Nat} {c : Int} : ∀ (_ : 0 ≤ c) (_ : c ≤ (n : Int)), Sg n (fun b => if b < c then 1 else 0) = c := by
  induction n generalizing c with
  | zero => intro h0 h1; show (0 : Int) = c; omega
  | succ n ih =>
    intro h0 h1
    show Sg n _ + (if (n : Int) < c then 1 else 0) = c
    by_cases q : (n : Int) < c
    · rw [if_pos q]
      have e : Sg n (fun b => if b < c then 1 else 0) = Sg n (fun b => if b < (n : Int) then 1 else 0) := Sg_congr fun i _ h => by rw [if_pos (by omega), if_pos h]
      rw [e, ih (c := (n : Int)) (by omega) (by omega)]
      omega
    · rw [if_neg q, ih h0 (by omega)]
      omega
/-- stays and widths have one sum -/
theorem wds_sum {s : List Int} (g : Good s) : (wds s).sum = s.sum := by
  rw [wds_row, sum_row, sum_cyc]
  have e1 : Sg s.length (wd s) = Sg s.length (fun h => Sg s.length (fun b => if b < cyc s (h - b) then 1 else 0)) := Sg_congr fun i _ _ => wd_sum s i
  rw [e1, Sg_swap]
  have e2 : Sg s.length (fun j => Sg s.length (fun i => if j < cyc s (i - j) then 1 else 0)) = Sg s.length (fun j => Sg s.length (fun i => if j < cyc s i then 1 else 0)) := Sg_congr fun j _ _ => by
    rw [← Sg_turn (f := fun i => if j < cyc s i then 1 else 0) (fun i => by rw [cyc_per]) (-j)]
    exact Sg_congr fun i _ _ => by rw [show i - j = i + -j by omega]
  rw [e2, Sg_swap]
  exact Sg_congr fun i _ _ => cnt_below (by have := g.lo i; omega) (g.hi i)
/-! ### rows of least sums are stays in order -/
/-- the least of the drawn ones ahead, each with the way to it -/
theorem Good.least {m : List Int} {n : Nat} {dr : List Int} {top : Int} (hn : 1 ≤ n) (hn2 : n ≤ 48) (hl : m.length = n) (hd : dr.length = n) (ht : top ≤ (n : Int)) (h1 : ∀ i, 1 ≤ cyc dr i ∧ cyc dr i ≤ top)
    (hm : ∀ j : Nat, j < n → (∃ a : Nat, a < n ∧ m.getD j 0 = cyc dr ((j : Int) + a) + a) ∧ ∀ a : Nat, a < n → m.getD j 0 ≤ cyc dr ((j : Int) + a) + a) : Good m := by
  have hc : ∀ i : Int, (∃ a : Nat, a < n ∧ cyc m i = cyc dr (i + a) + a) ∧ ∀ a : Nat, a < n → cyc m i ≤ cyc dr (i + a) + a := fun i => by
    have hb := mod_bd hn i
    have e : cyc m i = m.getD (i % (n : Int)).toNat 0 := by
      unfold cyc
      rw [hl]
    have er : ∀ a : Nat, cyc dr (((i % (n : Int)).toNat : Int) + a) = cyc dr (i + a) := fun a => cyc_congr (by
      rw [show ((i % (n : Int)).toNat : Int) = i % (n : Int) by omega, hd, Int.emod_add_emod])
    obtain ⟨⟨a, ha, e1⟩, e2⟩ := hm (i % (n : Int)).toNat (by omega)
    refine ⟨⟨a, ha, by rw [e, e1, er]⟩, fun a ha => ?_⟩
    have := e2 a ha
    rw [er] at this
    rw [e]
    exact this
  refine ⟨by omega, by omega, fun i => ?_, fun i => ?_, fun i => ?_⟩
  · obtain ⟨⟨a, ha, e⟩, _⟩ := hc i
    have := (h1 (i + a)).1
    omega
  · have e := (hc i).2 0 (by omega)
    have := (h1 (i + ((0 : Nat) : Int))).2
    omega
  · obtain ⟨⟨a, ha, e⟩, _⟩ := hc (i + 1)
    rcases Nat.lt_or_ge (a + 1) n with q | q
    · have := (hc i).2 (a + 1) q
      rw [show i + ((a + 1 : Nat) : Int) = i + 1 + a by omega] at this
      omega
    · have e0 := (hc i).2 0 (by omega)
      have e2 : cyc dr (i + 1 + (a : Int)) = cyc dr (i + ((0 : Nat) : Int)) := by
        rw [show i + 1 + (a : Int) = (i + ((0 : Nat) : Int)) + (dr.length : Int) by omega]
        exact cyc_per dr _
      omega
theorem Good.const {n : Nat} {c : Int} (hn : 1 ≤ n) (hn2 : n ≤ 48) (h0 : 1 ≤ c) (h1 : c ≤ (n : Int)) : Good (List.replicate n c) := by
  have e : ∀ i, cyc (List.replicate n c) i = c := fun i => by
    have hb := mod_bd hn i
    unfold cyc
    rw [List.length_replicate, List.getD_eq_getElem?_getD, List.getElem?_replicate, if_pos (by omega)]
    rfl
  refine ⟨by rw [List.length_replicate]; exact hn, by rw [List.length_replicate]; exact hn2, fun i => by rw [e]; exact h0, fun i => by rw [e, List.length_replicate]; exact h1, fun i => by rw [e, e]; omega⟩
/-! ### served and serving -/
/-- the hours that one serves who begins at h -/
def servedOf (s : List Int) (h : Int) : List Int := (List.range (cyc s h).toNat).map fun (k : Nat) => (h + (k : Int)) % (s.length : Int)
/-- the hours of the window of h -/
def servingOf (s : List Int) (h : Int) : List Int := (List.range (wd s h).toNat).map fun (k : Nat) => (h - wd s h + 1 + (k : Int)) % (s.length : Int)
theorem serv_rev (s : List Int) (h : Int) : servingOf s h = ((List.range (wd s h).toNat).map fun (k : Nat) => (h - (k : Int)) % (s.length : Int)).reverse := by
  unfold servingOf
  have h0 := wd_nn (s := s) h
  refine List.ext_getElem? fun i => ?_
  rcases Nat.lt_or_ge i (wd s h).toNat with q | q
  · rw [List.getElem?_reverse (by rw [List.length_map, List.length_range]; exact q), List.getElem?_map, List.getElem?_map, List.length_map, List.length_range, List.getElem?_range q, List.getElem?_range (by omega)]
    show some ((h - wd s h + 1 + (i : Int)) % (s.length : Int)) = some ((h - (((wd s h).toNat - 1 - i : Nat) : Int)) % (s.length : Int))
    rw [show h - wd s h + 1 + (i : Int) = h - (((wd s h).toNat - 1 - i : Nat) : Int) by omega]
  · rw [List.getElem?_eq_none (by rw [List.length_map, List.length_range]; exact q), List.getElem?_eq_none (by rw [List.length_reverse, List.length_map, List.length_range]; exact q)]
theorem mem_served {s : List Int} (g : Good s) {h b : Int} (h0 : 0 ≤ h) (h1 : h < (s.length : Int)) : h ∈ servedOf s b ↔ (h - b) % (s.length : Int) < cyc s b := by
  unfold servedOf
  rw [List.mem_map]
  have hm := mod_bd g.ne (h - b)
  have hl := g.lo b
  have hh := g.hi b
  constructor
  · rintro ⟨k, hk, e⟩
    rw [List.mem_range] at hk
    rw [← e, Int.emod_sub_emod, show b + (k : Int) - b = k by omega, Int.emod_eq_of_lt (by omega) (by omega)]
    omega
  · intro q
    refine ⟨((h - b) % (s.length : Int)).toNat, List.mem_range.mpr (by omega), ?_⟩
    rw [show ((((h - b) % (s.length : Int)).toNat : Nat) : Int) = (h - b) % (s.length : Int) by omega, Int.add_emod_emod, show b + (h - b) = h by omega, Int.emod_eq_of_lt h0 h1]
theorem mem_serving {s : List Int} (g : Good s) {h b : Int} (h0 : 0 ≤ b) (h1 : b < (s.length : Int)) : b ∈ servingOf s h ↔ (h - b) % (s.length : Int) < wd s h := by
  rw [serv_rev, List.mem_reverse, List.mem_map]
  have hm := mod_bd g.ne (h - b)
  have hl := wd_nn (s := s) h
  have hh := wd_le (s := s) h
  constructor
  · rintro ⟨k, hk, e⟩
    rw [List.mem_range] at hk
    rw [← e, Int.sub_emod_emod, show h - (h - (k : Int)) = k by omega, Int.emod_eq_of_lt (by omega) (by omega)]
    omega
  · intro q
    refine ⟨((h - b) % (s.length : Int)).toNat, List.mem_range.mpr (by omega), ?_⟩
    rw [show ((((h - b) % (s.length : Int)).toNat : Nat) : Int) = (h - b) % (s.length : Int) by omega, Int.sub_emod_emod, show h - (h - b) = b by omega, Int.emod_eq_of_lt h0 h1]
/-- an hour is served by a begin just if the begin is in its window -/
theorem served_iff {s : List Int} (g : Good s) {h b : Int} (h0 : 0 ≤ h) (h1 : h < (s.length : Int)) (b0 : 0 ≤ b) (b1 : b < (s.length : Int)) : h ∈ servedOf s b ↔ b ∈ servingOf s h := by
  rw [mem_served g h0 h1, mem_serving g b0 b1]
  have hm := mod_bd g.ne (h - b)
  have := wd_iff g h (b := ((h - b) % (s.length : Int)).toNat) (by omega)
  rw [show ((((h - b) % (s.length : Int)).toNat : Nat) : Int) = (h - b) % (s.length : Int) by omega] at this
  rw [this, cyc_congr (i := h - (h - b) % (s.length : Int)) (j := b) (by rw [Int.sub_emod_emod, show h - (h - b) = b by omega])]
theorem mod_flip {n : Nat} (h : 1 ≤ n) (x : Int) : (n : Int) - 1 - x % (n : Int) = ((n : Int) - 1 - x) % (n : Int) := by
  have hb := mod_bd h x
  have e : ((n : Int) - 1 - x) % (n : Int) = ((n : Int) - 1 - x % (n : Int)) % (n : Int) := (Int.sub_emod_emod ..).symm
  exact (e.trans (Int.emod_eq_of_lt (by omega) (by omega))).symm
theorem mir_served {s : List Int} (g : Good s) (h : Int) : servedOf (mirS s) ((s.length : Int) - 1 - h) = ((servingOf s h).map fun x => (s.length : Int) - 1 - x).reverse := by
  have e : cyc (mirS s) ((s.length : Int) - 1 - h) = wd s h := by
    rw [cyc_mir g.ne, show (-1 - ((s.length : Int) - 1 - h)) = h - (s.length : Int) by omega]
    have := wd_per s (h - (s.length : Int))
    rw [show h - (s.length : Int) + (s.length : Int) = h by omega] at this
    exact this.symm
  rw [serv_rev, List.map_reverse, List.reverse_reverse, List.map_map]
  unfold servedOf
  rw [e, mirS_length]
  refine List.map_congr_left fun k _ => ?_
  show _ = (s.length : Int) - 1 - (h - (k : Int)) % (s.length : Int)
  rw [mod_flip g.ne, show (s.length : Int) - 1 - (h - (k : Int)) = (s.length : Int) - 1 - h + k by omega]
theorem mir_serving {s : List Int} (g : Good s) (h : Int) : servingOf (mirS s) ((s.length : Int) - 1 - h) = ((servedOf s h).map fun x => (s.length : Int) - 1 - x).reverse := by
  have e : wd (mirS s) ((s.length : Int) - 1 - h) = cyc s h := by
    rw [wd_mir g, show (-1 - ((s.length : Int) - 1 - h)) = h - (s.length : Int) by omega]
    have := cyc_per s (h - (s.length : Int))
    rw [show h - (s.length : Int) + (s.length : Int) = h by omega] at this
    exact this.symm
  rw [serv_rev, e, mirS_length]
  unfold servedOf
  rw [List.map_map]
  congr 1
  refine List.map_congr_left fun k _ => ?_
  show _ = (s.length : Int) - 1 - (h + (k : Int)) % (s.length : Int)
  rw [mod_flip g.ne, show (s.length : Int) - 1 - (h + (k : Int)) = (s.length : Int) - 1 - h - k by omega]
/-! ### windows read off the stays -/
theorem filter_down (p : Nat → Bool) (hp : ∀ b, p (b + 1) = true → p b = true) : ∀ n : Nat, (List.range n).filter p = List.range ((List.range n).filter p).length := by
  have hp' : ∀ k b, p (b + k) = true → p b = true := fun k => by
    induction k with
    | zero => exact fun b h => h
    | succ k ih => exact fun b h => ih b (hp (b + k) h)
  intro n
  induction n with
  | zero => rfl
  | succ n ih =>
    rw [List.range_succ, List.filter_append, List.length_append, List.filter_cons]
    by_cases hn : p n = true
    · have e : (List.range n).filter p = List.range n := List.filter_eq_self.mpr fun a ha => hp' (n - a) a (by
        have := List.mem_range.mp ha
        rw [show a + (n - a) = n by omega]
        exact hn)
      rw [if_pos hn, e, List.length_range]
      simp only [List.filter_nil, List.length_cons, List.length_nil]
      exact (List.range_succ).symm
    · rw [if_neg hn]
      simp only [List.filter_nil, List.length_nil, Nat.add_zero, List.append_nil]
      exact ih
theorem serving_filter {s : List Int} (g : Good s) (h : Int) : (((List.range s.length).filter fun (b : Nat) => decide ((b : Int) < cyc s (h - (b : Int)))).map fun (b : Nat) => (h - (b : Int)) % (s.length : Int)).reverse = servingOf s h := by
  have e := filter_down (fun (b : Nat) => decide ((b : Int) < cyc s (h - (b : Int)))) (fun b q => by
    have q' := of_decide_eq_true q
    exact decide_eq_true (down g h b (by
      rw [show ((b + 1 : Nat) : Int) = (b : Int) + 1 by omega] at q'
      exact q'))) s.length
  rw [e, serv_rev]
  congr 3
theorem serving_len (s : List Int) (h : Int) : ((servingOf s h).length : Int) = wd s h := by
  unfold servingOf
  rw [List.length_map, List.length_range]
  have := wd_nn (s := s) h
  omega
/-! ### clocks there and back -/
theorem wds_turn {s : List Int} (g : Good s) (b : Int) : wds (turnS s b) = turnS (wds s) b := by
  have hl := turnS_length s b
  refine eq_of_cyc (by rw [wds_length, turnS_length, turnS_length, wds_length]) fun i _ _ => ?_
  rw [cyc_wds (by rw [hl]; exact g.ne), wd_turn g.ne, cyc_turn (by rw [wds_length]; exact g.ne), cyc_wds g.ne]
theorem wds_mir {s : List Int} (g : Good s) : wds (mirS s) = s.reverse := by
  have hl := mirS_length s
  refine eq_of_cyc (by rw [wds_length, mirS_length, List.length_reverse]) fun i _ _ => ?_
  rw [cyc_wds (by rw [hl]; exact g.ne), wd_mir g, cyc_rev g.ne]
theorem turn_turn {s : List Int} (h : 1 ≤ s.length) (a b : Int) : turnS (turnS s a) b = turnS s (a + b) := by
  refine eq_of_cyc (by rw [turnS_length, turnS_length, turnS_length]) fun i _ _ => ?_
  rw [cyc_turn (by rw [turnS_length]; exact h), cyc_turn h, cyc_turn h, show i + b + a = i + (a + b) by omega]
theorem turn_zero {s : List Int} (h : 1 ≤ s.length) : turnS s 0 = s := by
  refine eq_of_cyc (by rw [turnS_length]) fun i _ _ => ?_
  rw [cyc_turn h, Int.add_zero]
theorem turn_back {s : List Int} (h : 1 ≤ s.length) (b : Int) : turnS (turnS s b) (0 - b) = s := by
  rw [turn_turn h, show b + (0 - b) = 0 by omega, turn_zero h]
theorem turn_all {s : List Int} (h : 1 ≤ s.length) : turnS s (s.length : Int) = s := by
  refine eq_of_cyc (by rw [turnS_length]) fun i _ _ => ?_
  rw [cyc_turn h, cyc_per]
theorem mir_turn {s : List Int} (g : Good s) (b : Int) : mirS (turnS s b) = turnS (mirS s) (0 - b) := by
  have hl := turnS_length s b
  refine eq_of_cyc (by rw [mirS_length, turnS_length, turnS_length, mirS_length]) fun i _ _ => ?_
  rw [cyc_mir (by rw [hl]; exact g.ne), wd_turn g.ne, cyc_turn (by rw [mirS_length]; exact g.ne), cyc_mir g.ne, show -1 - i + b = -1 - (i + (0 - b)) by omega]
theorem cyc_rep {n : Nat} (h : 1 ≤ n) (c i : Int) : cyc (List.replicate n c) i = c := by
  have hb := mod_bd h i
  unfold cyc
  rw [List.length_replicate, List.getD_eq_getElem?_getD, List.getElem?_replicate, if_pos (by omega)]
  rfl
theorem turn_rep {n : Nat} (h : 1 ≤ n) (c b : Int) : turnS (List.replicate n c) b = List.replicate n c := by
  refine eq_of_cyc (by rw [turnS_length]) fun i _ _ => ?_
  rw [cyc_turn (by rw [List.length_replicate]; exact h), cyc_rep h, cyc_rep h]
theorem wd_rep {n : Nat} (h : 1 ≤ n) {c : Int} (h0 : 0 ≤ c) (h1 : c ≤ (n : Int)) (i : Int) : wd (List.replicate n c) i = c := by
  rw [wd_sum, List.length_replicate]
  rw [Sg_congr (g := fun b => if b < c then 1 else 0) fun j _ _ => by rw [cyc_rep h]]
  exact cnt_below h0 h1
theorem wds_rep {n : Nat} (h : 1 ≤ n) {c : Int} (h0 : 0 ≤ c) (h1 : c ≤ (n : Int)) : wds (List.replicate n c) = List.replicate n c := by
  have hl : 1 ≤ (List.replicate n c).length := by rw [List.length_replicate]; exact h
  refine eq_of_cyc (by rw [wds_length]) fun i _ _ => ?_
  rw [cyc_wds hl, wd_rep h h0 h1, cyc_rep h]
theorem mir_rep {n : Nat} (h : 1 ≤ n) {c : Int} (h0 : 0 ≤ c) (h1 : c ≤ (n : Int)) : mirS (List.replicate n c) = List.replicate n c := by
  unfold mirS
  rw [wds_rep h h0 h1, List.reverse_replicate]
end Hn

/-! Data told by a Lean value; a text a number of times. -/
namespace Hn
open PySem PySem.Spec PyProof.Rows L2 Evl
section
variable {α β : Type} [DecidableEq α] [PySem.W.Datum α] [DecidableEq β] [PySem.W.Datum β] {K : PySem.W.Frag} {H H' : Hp} {Q : VK} {x y : V} {a b : Addr} {vs : List V} {ns : List Int}
/-- the heap holds u at the value x -/
def Hd (K : PySem.W.Frag) (H : Hp) (x : V) (u : α) : Prop := Dp K H x (PySem.W.Datum.toD u)
def HdAll (K : PySem.W.Frag) (H : Hp) (vs : List V) (us : List α) : Prop := DpAll K H vs (us.map PySem.W.Datum.toD)
/-- data of this kind can be laid -/
def LayT (α : Type) [DecidableEq α] [PySem.W.Datum α] : Prop := ∀ u : α, PyData.canLay0 (PySem.W.Datum.toD u) = true
theorem lay_int : LayT Int := fun _ => rfl
theorem lay_bool : LayT Bool := fun _ => rfl
theorem lay_unit : LayT Unit := fun _ => rfl
theorem lay_all (h : LayT α) : ∀ us : List α, PyData.canLayAll0 (us.map PySem.W.Datum.toD) = true
  | [] => rfl
  | u :: us => by
    rw [List.map_cons, PyData.canLayAll0, h u, lay_all h us]
    rfl
theorem lay_list (h : LayT α) : LayT (List α) := fun us => by
  show PyData.canLay0 (.list _) = true
  rw [PyData.canLay0]
  exact lay_all h us
theorem lay_tup (h : LayT α) : LayT (PySem.W.Tup α) := fun us => by
  show PyData.canLay0 (.tuple _) = true
  rw [PyData.canLay0]
  exact lay_all h us.items
theorem lay_pair (h : LayT α) (h2 : LayT β) : LayT (α × β) := fun u => by
  show PyData.canLay0 (.tuple _) = true
  rw [PyData.canLay0, PyData.canLayAll0, PyData.canLayAll0, PyData.canLayAll0, h u.1, h2 u.2]
  rfl
theorem lay_sh (h : LayT α) (hd : PySem.W.Datum.depth α ≤ 64) (u : α) : SeqAt.shaped (PySem.W.Datum.toD u) = true := by
  unfold SeqAt.shaped
  rw [h u]
  exact decide_eq_true (Nat.le_trans (PySem.W.Datum.depth_le u) hd)
theorem r_eqH (l : LayT α) {u v : α} (hx : Hd K H x u) (hy : Hd K H y v) (q : Q (.bl (decide (u = v))) H) (hd : PySem.W.Datum.depth α ≤ 64 := by decide) : rEqD K x y H Q :=
  ⟨_, _, hx, hy, lay_sh l hd u, lay_sh l hd v, by rw [PySem.W.Datum.eqv]; exact q⟩
theorem r_neH (l : LayT α) {u v : α} (hx : Hd K H x u) (hy : Hd K H y v) (q : Q (.bl (!decide (u = v))) H) (hd : PySem.W.Datum.depth α ≤ 64 := by decide) : rNeD K x y H Q :=
  ⟨_, _, hx, hy, lay_sh l hd u, lay_sh l hd v, by rw [PySem.W.Datum.eqv]; exact q⟩
theorem hd_list {us : List α} (h : SqL K H a vs) (hv : HdAll K H vs us) : Hd K H (.ref a) us := .lst h hv
theorem hd_tup {us : List α} (h : SqT K H a vs) (hv : HdAll K H vs us) : Hd K H (.ref a) (PySem.W.Tup.mk us) := .tup h hv
theorem hda_ints : ∀ ns : List Int, HdAll K H (ns.map V.int) ns
  | [] => .nil
  | n :: ns => .cons (.int n) (hda_ints ns)
theorem hda_bools : ∀ bs : List Bool, HdAll K H (bs.map V.bl) bs
  | [] => .nil
  | n :: ns => .cons (.bl n) (hda_bools ns)
theorem hd_ints (h : SqL K H a (ns.map V.int)) : Hd K H (.ref a) ns := hd_list h (hda_ints ns)
theorem hd_intsT (h : SqT K H a (ns.map V.int)) : Hd K H (.ref a) (PySem.W.Tup.mk ns) := hd_tup h (hda_ints ns)
theorem hd_bools {bs : List Bool} (h : SqL K H a (bs.map V.bl)) : Hd K H (.ref a) bs := hd_list h (hda_bools bs)
theorem hda_ix : ∀ {vs : List V} {us : List α}, vs.length = us.length → (∀ (i : Nat) v u, vs[i]? = some v → us[i]? = some u → Hd K H v u) → HdAll K H vs us
  | [], [], _, _ => .nil
  | _ :: _, [], h, _ => by cases h
  | [], _ :: _, h, _ => by cases h
  | v :: vs, u :: us, h, f => .cons (f 0 v u rfl rfl) (hda_ix (by simpa using h) fun i v u h1 h2 => f (i + 1) v u (by simpa using h1) (by simpa using h2))
mutual
theorem dp_ex (e : Ex H H') : ∀ {x : V} {u : PyData}, Dp K H x u → Dp K H' x u
  | _, _, .non => .non
  | _, _, .bl b => .bl b
  | _, _, .int i => .int i
  | _, _, .str y => .str y
  | _, _, .lst a b => .lst (ex_l e a) (dpa_ex e b)
  | _, _, .tup a b => .tup (ex_t e a) (dpa_ex e b)
theorem dpa_ex (e : Ex H H') : ∀ {vs : List V} {us : List PyData}, DpAll K H vs us → DpAll K H' vs us
  | _, _, .nil => .nil
  | _, _, .cons a b => .cons (dp_ex e a) (dpa_ex e b)
end
theorem hd_ex {u : α} (e : Ex H H') (h : Hd K H x u) : Hd K H' x u := dp_ex e h
/-- lists of ints, one int after another alike -/
theorem r_eqL {ms : List Int} (h1 : SqL K H a (ns.map V.int)) (h2 : SqL K H b (ms.map V.int)) (q : Q (.bl (decide (ns = ms))) H) : rEqD K (.ref a) (.ref b) H Q := r_eqH (lay_list lay_int) (hd_ints h1) (hd_ints h2) q
theorem r_neL {ms : List Int} (h1 : SqL K H a (ns.map V.int)) (h2 : SqL K H b (ms.map V.int)) (q : Q (.bl (!decide (ns = ms))) H) : rNeD K (.ref a) (.ref b) H Q := r_neH (lay_list lay_int) (hd_ints h1) (hd_ints h2) q
theorem r_eqT {ms : List Int} (h1 : SqT K H a (ns.map V.int)) (h2 : SqT K H b (ms.map V.int)) (q : Q (.bl (decide (ns = ms))) H) : rEqD K (.ref a) (.ref b) H Q := r_eqH (lay_tup lay_int) (hd_intsT h1) (hd_intsT h2) (by
  rw [show decide (PySem.W.Tup.mk ns = PySem.W.Tup.mk ms) = decide (ns = ms) from decide_eq_decide.mpr ⟨fun e => by cases e; rfl, fun e => by rw [e]⟩]
  exact q)
theorem r_neT {ms : List Int} (h1 : SqT K H a (ns.map V.int)) (h2 : SqT K H b (ms.map V.int)) (q : Q (.bl (!decide (ns = ms))) H) : rNeD K (.ref a) (.ref b) H Q := r_neH (lay_tup lay_int) (hd_intsT h1) (hd_intsT h2) (by
  rw [show decide (PySem.W.Tup.mk ns = PySem.W.Tup.mk ms) = decide (ns = ms) from decide_eq_decide.mpr ⟨fun e => by cases e; rfl, fun e => by rw [e]⟩]
  exact q)
theorem inV_int (i : Int) : ∀ ns : List Int, inV (.int i) (ns.map V.int) = decide (i ∈ ns)
  | [] => rfl
  | n :: ns => by
    have ih := inV_int i ns
    unfold inV at ih ⊢
    rw [List.map_cons, List.any_cons, ih]
    have e : eqV (.int n) (.int i) = decide (n = i) := by
      show decide _ = _
      rfl
    rw [e, Bool.eq_iff_iff]
    simp only [Bool.or_eq_true, decide_eq_true_eq, List.mem_cons]
    exact ⟨fun h => h.elim (fun h => .inl h.symm) .inr, fun h => h.elim (fun h => .inl h.symm) .inr⟩
theorem flat_ints (ns : List Int) : (ns.map V.int).all flatV = true := by
  rw [List.all_map]
  exact List.all_eq_true.mpr fun _ _ => rfl
theorem r_inI {i : Int} (h : Sq K H a (ns.map V.int)) (q : Q (.bl (decide (i ∈ ns))) H) : rIn K false (.int i) (.ref a) H Q := ⟨a, _, rfl, h, rfl, flat_ints ns, by rw [inV_int]; exact q⟩
theorem r_notInI {i : Int} (h : Sq K H a (ns.map V.int)) (q : Q (.bl (!decide (i ∈ ns))) H) : rIn K true (.int i) (.ref a) H Q := ⟨a, _, rfl, h, rfl, flat_ints ns, by rw [inV_int]; exact q⟩
end
section
variable {X : Cx}
/-- a text, n times: n small -/
def rStrMul : R2 := fun x y H Q => ∃ (a : Str) (n : Int), x = .str a ∧ y = .int n ∧ 0 ≤ n ∧ n < 1000 ∧ a.length ≤ 10 ∧ Q (.str (Txt.mul a n)) H
theorem op_strmul : OpR X (binaryOp .Mult) rStrMul := by
  intro pins s σ H x y v u Q I rx ry h
  obtain ⟨a, n, rfl, rfl, h0, h1, h2, q⟩ := h
  obtain ⟨t, rfl⟩ := rx
  obtain ⟨t', rfl⟩ := ry
  refine SB.mul ⟨?_, fun h3 _ => ?_, fun h3 _ => ?_⟩ fun t'' k => ⟨.str _, H, I.tok _, ⟨_, rfl⟩, q⟩
  · rw [Bool.or_eq_false_iff]
    exact ⟨decide_eq_false (by omega), decide_eq_false (by omega)⟩
  · have e : (10 : Int) ≤ (2 ^ 63 - 1) / n := (Int.le_ediv_iff_mul_le (by omega)).mpr (by omega)
    have e2 : (a.length : Int) ≤ 10 := by omega
    omega
  · unfold Builtin.Str.tooLong
    refine decide_eq_false ?_
    have : a.length * n.toNat ≤ 10 * 1000 := Nat.mul_le_mul h2 (by omega)
    have e : (10 * 1000 : Nat) ≤ sizeLine := by decide
    omega
def rAddS : R2 := fun x y H Q => ∃ i j, x = .str i ∧ y = .str j ∧ i.length + j.length ≤ sizeLine ∧ Q (.str (i ++ j)) H
theorem k_addS : OpR X (binaryOp .Add) rAddS := op_add_str
def rIntS : List V → Hp → VK → Prop := fun xs H Q => ∃ a n, xs = [.str a] ∧ PySem.intText? a = some n ∧ a.length ≤ 640 ∧ Q (.int n) H
theorem k_intS : CallR X (.type "int") rIntS := call_int_str
/-- a one and k noughts: the number -/
theorem ten_text : ∀ k : Fin 40, ((PySem.intText? (Str.ofString "1" ++ Txt.mul (Str.ofString "0") (k.1 : Int))).isSome && decide ((Str.ofString "1" ++ Txt.mul (Str.ofString "0") (k.1 : Int)).length ≤ 640)) = true := by decide +kernel
end
/-- values that are ints, as a row -/
theorem ints_of {P : Int → Prop} : ∀ {vs : List V}, (∀ v ∈ vs, ∃ z : Int, P z ∧ v = .int z) → ∃ ns : List Int, (∀ z ∈ ns, P z) ∧ vs = ns.map V.int
  | [], _ => ⟨[], fun _ h => (nomatch h), rfl⟩
  | v :: vs, h => by
    obtain ⟨z, hz, rfl⟩ := h v (List.mem_cons_self ..)
    obtain ⟨ns, hns, rfl⟩ := ints_of (vs := vs) fun w hw => h w (List.mem_cons_of_mem _ hw)
    refine ⟨z :: ns, fun y hy => ?_, rfl⟩
    rcases List.mem_cons.mp hy with rfl | hy
    · exact hz
    · exact hns y hy
theorem flat_rep {α : Type} (x : α) : ∀ n : Nat, (List.replicate n [x]).flatten = List.replicate n x
  | 0 => rfl
  | n + 1 => by rw [List.replicate_succ, List.flatten_cons, flat_rep x n, List.replicate_succ]; rfl
/-- a list of new lists -/
def Rows (H : Hp) (D : Addr) (n : Nat) (f : Nat → List V) : Prop := ∃ ys, H D = some (.lst ys) ∧ ys.length = n ∧ ∀ (i : Nat) y, ys[i]? = some y → ∃ p, y = .ref p ∧ H p = some (.lst (f i))
theorem Rows.ex {H H' : Hp} {D : Addr} {n : Nat} {f : Nat → List V} (e : Ex H H') (h : Rows H D n f) : Rows H' D n f :=
  let ⟨ys, h1, h2, h3⟩ := h
  ⟨ys, e _ _ h1, h2, fun i y hy => let ⟨p, hp, q⟩ := h3 i y hy; ⟨p, hp, e _ _ q⟩⟩
theorem Rows.sq {K : PySem.W.Frag} {H : Hp} {D : Addr} {n : Nat} {f : Nat → List V} (h : Rows H D n f) {Q : VK} {i : Nat} (hi : i < n) (q : ∀ p, H p = some (.lst (f i)) → Q (.ref p) H) : rIxL K (.ref D) (.int (i : Int)) H Q := by
  obtain ⟨ys, h1, h2, h3⟩ := h
  have hy : ys[i]? = some ys[i] := List.getElem?_eq_getElem (by omega)
  obtain ⟨p, hp, hq⟩ := h3 i _ hy
  refine ⟨D, ys, i, .ref p, rfl, rfl, .inl (.inl h1), atI_nat ?_, q p hq⟩
  rw [hy, hp]
theorem Rows.hd {α : Type} [DecidableEq α] [PySem.W.Datum α] {K : PySem.W.Frag} {H : Hp} {D : Addr} {n : Nat} {f : Nat → List V} (h : Rows H D n f) (us : Nat → List α) (hu : ∀ i, i < n → HdAll K H (f i) (us i)) : Hd K H (.ref D) ((List.range n).map us) := by
  obtain ⟨ys, h1, h2, h3⟩ := h
  refine hd_list (.inl (.inl h1)) (hda_ix (by rw [List.length_map, List.length_range]; exact h2) fun i v u hv hu' => ?_)
  obtain ⟨p, rfl, hp⟩ := h3 i v hv
  have hi : i < n := by
    have := (List.getElem?_eq_some_iff.mp hv).1
    omega
  rw [List.getElem?_map, List.getElem?_range hi] at hu'
  cases hu'
  exact hd_list (.inl (.inl hp)) (hu i hi)
section
variable {J : It} {n : Nat} {G : Hp → Prop} {Y : Nat → Hp → V → Hp → Prop}
/-- each item a new list -/
theorem lc_rows (w : Walk J n G Y) {g : TG} {te : TE} {vs : List Nat} {σ : L2.St} {H1 : Hp} {Q : VK} (f : Nat → List V) (hG : ∀ H, Ex H1 H → G H) (hn : n ≤ 100000)
    (turn : ∀ i x H H', i < n → Ex H1 H → Y i H x H' → ∀ k : VK, RetN (f i) H k → g x (wipe σ vs) H' fun σ2 H2 => wipe σ2 vs = wipe σ vs ∧ te σ2 H2 k)
    (fin : ∀ D H, H1 D = none → Ex H1 H → Rows H D n f → Q (.ref D) H) : LcTail J H1 g tYes te vs σ Q :=
  lc_map w (fun D i v H => ∃ p, v = .ref p ∧ H p = some (.lst (f i)) ∧ p ≠ D) (fun _ _ H' e _ _ _ => hG H' e) (fun D i v H H' e ⟨p, h1, h2, h3⟩ => ⟨p, h1, e _ _ h2, h3⟩) (fun D i v H xs ys _ ⟨p, h1, h2, h3⟩ => ⟨p, h1, by rw [upd_ne h3]; exact h2, h3⟩) hn
    (fun D i x H H' hi e hD ⟨xs, hx⟩ y k h => turn i x H H' hi e y k fun p H4 np e4 hp => h _ _ e4 ⟨p, rfl, hp, fun z => by rw [z, hx] at np; cases np⟩)
    fun D H ys hD e hy hl hr => fin D H hD e ⟨ys, hy, hl, fun i y h => let ⟨p, h1, h2, _⟩ := hr i y h; ⟨p, h1, h2⟩⟩
end
/-- what a law asks and gives -/
def spLaw (K : PySem.W.Frag) : Sp := fun vs H Q _ => ∃ (a : Addr) (ns : List Int), vs = [.ref a] ∧ SqL K H a (ns.map V.int) ∧ ns.length ≤ 63 ∧ ∀ H', Q (.bl true) H'
/-- a list of new lists that are such and such -/
def RowsP (H : Hp) (D : Addr) (n : Nat) (P : Nat → List V → Prop) : Prop := ∃ ys, H D = some (.lst ys) ∧ ys.length = n ∧ ∀ (i : Nat) y, ys[i]? = some y → ∃ p xs, y = .ref p ∧ H p = some (.lst xs) ∧ P i xs
theorem RowsP.ex {H H' : Hp} {D : Addr} {n : Nat} {P : Nat → List V → Prop} (e : Ex H H') (h : RowsP H D n P) : RowsP H' D n P :=
  let ⟨ys, h1, h2, h3⟩ := h
  ⟨ys, e _ _ h1, h2, fun i y hy => let ⟨p, xs, hp, q, r⟩ := h3 i y hy; ⟨p, xs, hp, e _ _ q, r⟩⟩
theorem RowsP.sq {K : PySem.W.Frag} {H : Hp} {D : Addr} {n : Nat} {P : Nat → List V → Prop} (h : RowsP H D n P) {Q : VK} {i : Nat} (hi : i < n) (q : ∀ p xs, P i xs → H p = some (.lst xs) → Q (.ref p) H) : rIxL K (.ref D) (.int (i : Int)) H Q := by
  obtain ⟨ys, h1, h2, h3⟩ := h
  have hy : ys[i]? = some ys[i] := List.getElem?_eq_getElem (by omega)
  obtain ⟨p, xs, hp, hq, hr⟩ := h3 i _ hy
  refine ⟨D, ys, i, .ref p, rfl, rfl, .inl (.inl h1), atI_nat ?_, q p xs hr hq⟩
  rw [hy, hp]
section
variable {J : It} {n : Nat} {G : Hp → Prop} {Y : Nat → Hp → V → Hp → Prop}
theorem lc_rowsP (w : Walk J n G Y) {g : TG} {te : TE} {vs : List Nat} {σ : L2.St} {H1 : Hp} {Q : VK} (P : Nat → List V → Prop) (hG : ∀ H, Ex H1 H → G H) (hn : n ≤ 100000)
    (turn : ∀ i x H H', i < n → Ex H1 H → Y i H x H' → ∀ k : VK, (∀ xs, P i xs → RetN xs H k) → g x (wipe σ vs) H' fun σ2 H2 => wipe σ2 vs = wipe σ vs ∧ te σ2 H2 k)
    (fin : ∀ D H, H1 D = none → Ex H1 H → RowsP H D n P → Q (.ref D) H) : LcTail J H1 g tYes te vs σ Q :=
  lc_map w (fun D i v H => ∃ p xs, v = .ref p ∧ H p = some (.lst xs) ∧ P i xs ∧ p ≠ D) (fun _ _ H' e _ _ _ => hG H' e) (fun D i v H H' e ⟨p, xs, h1, h2, h3, h4⟩ => ⟨p, xs, h1, e _ _ h2, h3, h4⟩) (fun D i v H xs ys _ ⟨p, us, h1, h2, h3, h4⟩ => ⟨p, us, h1, by rw [upd_ne h4]; exact h2, h3, h4⟩) hn
    (fun D i x H H' hi e hD ⟨xs, hx⟩ y k h => turn i x H H' hi e y k fun us hP p H4 np e4 hp => h _ _ e4 ⟨p, us, rfl, hp, hP, fun z => by rw [z, hx] at np; cases np⟩)
    fun D H ys hD e hy hl hr => fin D H hD e ⟨ys, hy, hl, fun i y h => let ⟨p, xs, h1, h2, h3, _⟩ := hr i y h; ⟨p, xs, h1, h2, h3⟩⟩
end
end Hn

/-! list(zip(a, b)): each given tuple stays out. -/
namespace Hn
open PySem PySem.W PySem.Calls PySem.Spec PyProof.Rows L2 Evl
open Sem (wp)
theorem zip_nolen : typeLookup (.type "zip") "__len__" = pure none := by rw [typeLookup_type, builtinLookup_eq_fast]; kernel_rfl
theorem zip_nohint : typeLookup (.type "zip") "__length_hint__" = pure none := by rw [typeLookup_type, builtinLookup_eq_fast]; kernel_rfl
section
variable {prog : Program} {w : World} {A : Around} {E : Value → Shared → Prop} {s : Shared} {z TI TO T i1 i2 S : Addr} {fp1 fp2 : List Addr} {n i : Nat} {P1 P2 : Nat → Value → Prop} {St1 St2 : Nat → Heap → Prop} {f : Bool} {oT : Obj}
theorem zh_item {Q : Value → Shared → Prop} (D : ZipSep2 z TI TO i1 i2 fp1 fp2) (D1 : Draws prog w A i1 fp1 n P1 St1) (D2 : Draws prog w A i2 fp2 n P2 St2)
    (hz : IsZipHeld s.heap z TI TO T f) (hT : s.heap.get? T = some oT) (hTI : IsTupOf2 s.heap TI (.ref i1) (.ref i2)) (st1 : St1 i s.heap) (st2 : St2 i s.heap) (hi : i < n)
    (hQ : ∀ x1 x2 h' tk, P1 i x1 → P2 i x2 → IsZipHeld h' z TI TO T true → St1 (i + 1) h' → St2 (i + 1) h' → IsTupOf2 h' s.heap.objs.size x1 x2 → h'.objs.size = s.heap.objs.size + 1 →
      (∀ c o, c ≠ z → c ≠ i1 → c ≠ i2 → s.heap.get? c = some o → h'.get? c = some o) → Q (.ref s.heap.objs.size) { s with heap := h', toks := tk }) :
    wpAny (model prog w) A (Builtin.«zip.__next__» ⟨[.ref z], []⟩) (fun fin s' => ∃ v, fin = .done (.ret v) ∧ Q v s') E s := by
  obtain ⟨hp, g, d, tk0, os⟩ := s
  show wpAny _ _ (field (.ref z) 2 >>= _) _ _ _
  refine wpAny_bind (wpAny_field hz rfl (x := .bool false) rfl ?_)
  show wpAny _ _ (field (.ref z) 3 >>= _) _ _ _
  refine wpAny_bind (wpAny_field hz rfl (x := .ref TI) rfl ?_)
  refine wpAny_bind (wpAny_seqItems hTI rfl ?_)
  show wpAny _ _ (Builtin.SmallTypes.ownedTupleIsFree (.ref z) >>= _) _ _ _
  refine wpAny_bind (wpAny_tupleHeld_zip hz hT fun g0 hz0 hs0 => ?_)
  replace hs0 : Heap.SameBut z hp g0 := hs0
  simp only [Bool.false_eq_true, if_false]
  refine wpAny_bind ?_
  rw [← Array.forIn_toList]
  simp only [List.forIn_cons, List.forIn_nil]
  refine wpAny_bind (wpAny_bind (wpAny_holding ?_))
  show wpAny _ _ (Builtin.SmallTypes.nextOf (.ref i1) >>= _) _ _ ⟨g0, g, d, tk0, os⟩
  refine wpAny_bind (D1.item i _ _ _ hi (D1.over st1 hs0 D.zf1) fun x1 p1 tk1 hx1 sn1 hp1 => wpAny_pure ?_)
  replace hp1 : Heap.SameBut i1 g0 p1 := hp1
  refine wpAny_pure ?_
  refine wpAny_bind (wpAny_bind (wpAny_holding ?_))
  show wpAny _ _ (Builtin.SmallTypes.nextOf (.ref i2) >>= _) _ _ ⟨p1, g, d, tk1, os⟩
  refine wpAny_bind (D2.item i _ _ _ hi (D2.over (D2.over st2 hs0 D.zf2) hp1 D.sep1_2) fun x2 p2 tk2 hx2 sn2 hp2 => wpAny_pure ?_)
  replace hp2 : Heap.SameBut i2 p1 p2 := hp2
  refine wpAny_pure (wpAny_pure ?_)
  show wpAny _ _ (newTuple [x1, x2] >>= _) _ _ ⟨p2, g, d, tk2, os⟩
  refine wpAny_bind (wpAny_newTuple ?_)
  have hsz : p2.objs.size = hp.objs.size := by rw [hp2.1, hp1.1, hs0.1]
  have hzz : IsZipHeld p2 z TI TO T true := hp2.extBut _ _ D.zi2 (hp1.extBut _ _ D.zi1 hz0)
  have hkk : ∀ c o, c ≠ z → c ≠ i1 → c ≠ i2 → hp.get? c = some o → p2.get? c = some o := fun c o cz c1 c2 e => hp2.extBut _ _ c2 (hp1.extBut _ _ c1 (hs0.extBut _ _ cz e))
  have hj1 : St1 (i + 1) p2 := D1.over sn1 hp2 D.sep2_1
  have up : ∀ c o, p2.get? c = some o → (p2.push { cls := .type "tuple", data := .seq #[x1, x2] }).get? c = some o := fun c o e => Heap.get?_push_of_some _ e
  have hp3 : IsTupOf2 (p2.push { cls := .type "tuple", data := .seq #[x1, x2] }) p2.objs.size x1 x2 := Heap.get?_push_size _ rfl
  have hz4 : (p2.push { cls := .type "tuple", data := .seq #[x1, x2] }).objs.size = p2.objs.size + 1 := Heap.size_push ..
  refine wpAny_pure ⟨_, rfl, ?_⟩
  show Q (.ref p2.objs.size) ⟨p2.push { cls := .type "tuple", data := .seq #[x1, x2] }, g, d, tk2, os⟩
  rw [hsz] at hp3 hz4 ⊢
  exact hQ x1 x2 _ tk2 hx1 hx2 (up _ _ hzz) (D1.frame _ _ _ hj1 fun b _ o e => up b o e) (D2.frame _ _ _ sn2 fun b _ o e => up b o e) hp3 hz4 fun c o cz c1 c2 e => up c o (hkk c o cz c1 c2 e)
theorem zh_end {Q : Fin → Shared → Prop} (D : ZipSep2 z TI TO i1 i2 fp1 fp2) (D1 : Draws prog w A i1 fp1 n P1 St1)
    (hz : IsZipHeld s.heap z TI TO T f) (hT : s.heap.get? T = some oT) (hTI : IsTupOf2 s.heap TI (.ref i1) (.ref i2)) (st1 : St1 n s.heap)
    (hE : ∀ h' tk e, (∀ c o, c ≠ z → c ≠ i1 → c ≠ i2 → s.heap.get? c = some o → h'.get? c = some o) → (∃ o, h'.get? e = some o ∧ o.cls = .type "StopIteration") → E (.ref e) { s with heap := h', toks := tk }) :
    wpAny (model prog w) A (Builtin.«zip.__next__» ⟨[.ref z], []⟩) Q E s := by
  obtain ⟨hp, g, d, tk0, os⟩ := s
  show wpAny _ _ (field (.ref z) 2 >>= _) _ _ _
  refine wpAny_bind (wpAny_field hz rfl (x := .bool false) rfl ?_)
  show wpAny _ _ (field (.ref z) 3 >>= _) _ _ _
  refine wpAny_bind (wpAny_field hz rfl (x := .ref TI) rfl ?_)
  refine wpAny_bind (wpAny_seqItems hTI rfl ?_)
  show wpAny _ _ (Builtin.SmallTypes.ownedTupleIsFree (.ref z) >>= _) _ _ _
  refine wpAny_bind (wpAny_tupleHeld_zip hz hT fun g0 hz0 hs0 => ?_)
  replace hs0 : Heap.SameBut z hp g0 := hs0
  simp only [Bool.false_eq_true, if_false]
  refine wpAny_bind ?_
  rw [← Array.forIn_toList]
  simp only [List.forIn_cons, List.forIn_nil]
  refine wpAny_bind (wpAny_bind (wpAny_holding ?_))
  show wpAny _ _ (Builtin.SmallTypes.nextOf (.ref i1) >>= _) _ _ ⟨g0, g, d, tk0, os⟩
  refine wpAny_bind (D1.done ⟨g0, g, d, tk0, os⟩ _ _ (D1.over st1 hs0 D.zf1) fun q e hq he => ?_)
  replace hq : Heap.ExtBut i1 g0 q := hq
  exact hE q tk0 e (fun c o cz c1 _ x => hq _ _ c1 (hs0.extBut _ _ cz x)) he
theorem zn_held {Q : Option Value → Shared → Prop} (D : ZipSep2 z TI TO i1 i2 fp1 fp2) (D1 : Draws prog w A.in1 i1 fp1 n P1 St1) (D2 : Draws prog w A.in1 i2 fp2 n P2 St2)
    (hz : IsZipHeld s.heap z TI TO T f) (hT : s.heap.get? T = some oT) (hTI : IsTupOf2 s.heap TI (.ref i1) (.ref i2)) (st1 : St1 i s.heap) (st2 : St2 i s.heap) (hi : i < n)
    (hQ : ∀ x1 x2 h' tk, P1 i x1 → P2 i x2 → IsZipHeld h' z TI TO T true → St1 (i + 1) h' → St2 (i + 1) h' → IsTupOf2 h' s.heap.objs.size x1 x2 → h'.objs.size = s.heap.objs.size + 1 →
      (∀ c o, c ≠ z → c ≠ i1 → c ≠ i2 → s.heap.get? c = some o → h'.get? c = some o) → Q (some (.ref s.heap.objs.size)) { s with heap := h', toks := tk }) :
    wpAny (model prog w) A (pyNext (.ref z)) Q E s := by
  have hTy : s.TypeIs (.ref z) "zip" := ⟨_, hz, rfl⟩
  unfold pyNext
  exact wpAny_bind (wpAny_attempt (wpAny_callSpecial?_slot (name := Str.ofString "__next__") hTy F.slot_zip_next
    (wpAny_call_entry F.slot_zip_next hTy F.entry_zip_next
      (zh_item D D1 D2 hz hT hTI st1 st2 hi fun x1 x2 h' tk a1 a2 a3 a4 a5 a6 a7 a8 => wpAny_pure (hQ x1 x2 h' tk a1 a2 a3 a4 a5 a6 a7 a8)) (F.args_zip_next_1 _))))
theorem zn_first {Q : Option Value → Shared → Prop} {a1 a2 : Value} (D : ZipSep2 z TI TO i1 i2 fp1 fp2) (D1 : Draws prog w A.in1 i1 fp1 n P1 St1) (D2 : Draws prog w A.in1 i2 fp2 n P2 St2)
    (hz : IsZip s.heap z TI TO .none) (hTI : IsTupOf2 s.heap TI (.ref i1) (.ref i2)) (hTO : IsTupOf2 s.heap TO a1 a2) (st1 : St1 i s.heap) (st2 : St2 i s.heap) (hi : i < n)
    (hQ : ∀ x1 x2 h' tk, P1 i x1 → P2 i x2 → IsZip h' z TI TO (rawInt s.heap.objs.size) → St1 (i + 1) h' → St2 (i + 1) h' → IsTupOf2 h' s.heap.objs.size x1 x2 → h'.objs.size = s.heap.objs.size + 1 →
      (∀ c o, c ≠ z → c ≠ TO → c ≠ i1 → c ≠ i2 → s.heap.get? c = some o → h'.get? c = some o) → Q (some (.ref s.heap.objs.size)) { s with heap := h', toks := tk }) :
    wpAny (model prog w) A (pyNext (.ref z)) Q E s := by
  have hTy : s.TypeIs (.ref z) "zip" := ⟨_, hz, rfl⟩
  unfold pyNext
  exact wpAny_bind (wpAny_attempt (wpAny_callSpecial?_slot (name := Str.ofString "__next__") hTy F.slot_zip_next
    (wpAny_call_entry F.slot_zip_next hTy F.entry_zip_next
      (zipD2_next_item D D1 D2 hz hTI hTO st1 st2 hi hi fun x1 x2 h' tk a1 a2 a3 _ a4 a5 a6 a7 a8 => wpAny_pure (hQ x1 x2 h' tk a1 a2 a3 a4 a5 a6 a7 a8)) (F.args_zip_next_1 _))))
theorem zn_end {Q : Option Value → Shared → Prop} (D : ZipSep2 z TI TO i1 i2 fp1 fp2) (D1 : Draws prog w A.in1 i1 fp1 n P1 St1)
    (hz : IsZipHeld s.heap z TI TO T f) (hT : s.heap.get? T = some oT) (hTI : IsTupOf2 s.heap TI (.ref i1) (.ref i2)) (st1 : St1 n s.heap)
    (hQ : ∀ h' tk, (∀ c o, c ≠ z → c ≠ i1 → c ≠ i2 → s.heap.get? c = some o → h'.get? c = some o) → Q none { s with heap := h', toks := tk }) : wpAny (model prog w) A (pyNext (.ref z)) Q E s := by
  have hTy : s.TypeIs (.ref z) "zip" := ⟨_, hz, rfl⟩
  unfold pyNext
  refine wpAny_bind (wpAny_attempt (wpAny_callSpecial?_slot (name := Str.ofString "__next__") hTy F.slot_zip_next
    (wpAny_call_entry F.slot_zip_next hTy F.entry_zip_next (zh_end D D1 hz hT hTI st1 fun h' tk e hk he => ?_) (F.args_zip_next_1 _))))
  obtain ⟨o, ho, hc⟩ := he
  refine wpAny_bind (wpAny_isInstance (T := "StopIteration") (b := true) ⟨o, ho, hc⟩ isSubtype_stop ?_)
  exact wpAny_pure (hQ _ _ hk)
/-- where a zip stands while its tuples are kept in the list at S -/
structure ZS (z TI TO i1 i2 S : Addr) (St1 St2 : Nat → Heap → Prop) (i : Nat) (h : Heap) : Prop where
  ti : IsTupOf2 h TI (.ref i1) (.ref i2)
  s1 : St1 i h
  s2 : St2 i h
  zz : (i = 0 ∧ IsZip h z TI TO .none ∧ ∃ a b, IsTupOf2 h TO a b) ∨ (0 < i ∧ ∃ T f oT, IsZipHeld h z TI TO T f ∧ h.get? T = some oT ∧ T ≠ S ∧ T ≠ z ∧ T ≠ i1 ∧ T ≠ i2)
/-- the tuples given -/
structure ZG (P1 P2 : Nat → Value → Prop) (lo : Addr) (h : Heap) (as : List Addr) : Prop where
  rise : as.Pairwise (· < ·)
  above : ∀ a ∈ as, lo < a
  pairs : ∀ (j : Nat) (a : Addr), as[j]? = some a → ∃ x1 x2, P1 j x1 ∧ P2 j x2 ∧ IsTupOf2 h a x1 x2
theorem ZG.there {lo : Addr} {h : Heap} {as : List Addr} (g : ZG P1 P2 lo h as) {a : Addr} (ha : a ∈ as) : a < h.objs.size := by
  obtain ⟨j, hj⟩ := List.mem_iff_getElem?.mp ha
  obtain ⟨_, _, _, _, e⟩ := g.pairs j a hj
  exact Heap.lt_size e
end
/-- all iterators' cells lie below S -/
structure ZB (z TI TO i1 i2 S : Addr) (fp1 fp2 : List Addr) : Prop where
  z : z < S
  TI : TI < S
  TO : TO < S
  i1 : i1 < S
  i2 : i2 < S
  f1 : ∀ b ∈ fp1, b < S
  f2 : ∀ b ∈ fp2, b < S
section
variable {prog : Program} {w : World} {z TI TO i1 i2 S : Addr} {fp1 fp2 : List Addr} {n : Nat} {P1 P2 : Nat → Value → Prop} {St1 St2 : Nat → Heap → Prop}
theorem ZS.keep {A : Around} {i : Nat} {h h' : Heap} (B : ZB z TI TO i1 i2 S fp1 fp2) (D1 : Draws prog w A i1 fp1 n P1 St1) (D2 : Draws prog w A i2 fp2 n P2 St2) (x : ZS z TI TO i1 i2 S St1 St2 i h) (k : ∀ b o, b ≠ S → h.get? b = some o → h'.get? b = some o) : ZS z TI TO i1 i2 S St1 St2 i h' :=
  ⟨k _ _ (Nat.ne_of_lt B.TI) x.ti, D1.frame _ _ _ x.s1 fun b hb o e => k b o (Nat.ne_of_lt (B.f1 b hb)) e, D2.frame _ _ _ x.s2 fun b hb o e => k b o (Nat.ne_of_lt (B.f2 b hb)) e, by
    rcases x.zz with ⟨h0, h1, a, b, h2⟩ | ⟨h0, T, f, oT, h1, h2, h3, h4⟩
    · exact .inl ⟨h0, k _ _ (Nat.ne_of_lt B.z) h1, a, b, k _ _ (Nat.ne_of_lt B.TO) h2⟩
    · exact .inr ⟨h0, T, f, oT, k _ _ (Nat.ne_of_lt B.z) h1, k _ _ h3 h2, h3, h4⟩⟩
variable {A : Around} {E : Value → Shared → Prop} {s : Shared} {R : Result → Shared → Prop}
/-- the next one, wherever the zip stands -/
theorem zs_next {i : Nat} {Q : Option Value → Shared → Prop} (D : ZipSep2 z TI TO i1 i2 fp1 fp2) (B : ZB z TI TO i1 i2 S fp1 fp2) (D1 : Draws prog w A.in1 i1 fp1 n P1 St1) (D2 : Draws prog w A.in1 i2 fp2 n P2 St2) (hS : S < s.heap.objs.size)
    (x : ZS z TI TO i1 i2 S St1 St2 i s.heap) (hi : i < n)
    (hQ : ∀ x1 x2 h' tk, P1 i x1 → P2 i x2 → ZS z TI TO i1 i2 S St1 St2 (i + 1) h' → IsTupOf2 h' s.heap.objs.size x1 x2 → h'.objs.size = s.heap.objs.size + 1 →
      (∀ c o, c ≠ z → c ≠ TO → c ≠ i1 → c ≠ i2 → s.heap.get? c = some o → h'.get? c = some o) → Q (some (.ref s.heap.objs.size)) { s with heap := h', toks := tk }) :
    wpAny (model prog w) A (pyNext (.ref z)) Q E s := by
  have big : ∀ b, b < S → s.heap.objs.size ≠ b := fun b hb => Nat.ne_of_gt (Nat.lt_trans hb hS)
  rcases x.zz with ⟨h0, h1, a, b, h2⟩ | ⟨h0, T, f, oT, h1, h2, h3, h4, h5, h6⟩
  · refine zn_first D D1 D2 h1 x.ti h2 x.s1 x.s2 hi fun x1 x2 h' tk p1 p2 z' t1 t2 tp sz k => ?_
    exact hQ x1 x2 h' tk p1 p2 ⟨k _ _ D.TIz D.TITO D.TIi1 D.TIi2 x.ti, t1, t2, .inr ⟨Nat.succ_pos _, s.heap.objs.size, false, _, z', tp, Nat.ne_of_gt hS, big _ B.z, big _ B.i1, big _ B.i2⟩⟩ tp sz k
  · refine zn_held D D1 D2 h1 h2 x.ti x.s1 x.s2 hi fun x1 x2 h' tk p1 p2 z' t1 t2 tp sz k => ?_
    exact hQ x1 x2 h' tk p1 p2 ⟨k _ _ D.TIz D.TIi1 D.TIi2 x.ti, t1, t2, .inr ⟨Nat.succ_pos _, T, true, oT, z', k _ _ h4 h5 h6 h2, h3, h4, h5, h6⟩⟩ tp sz fun c o c1 _ c3 c4 e => k c o c1 c3 c4 e
theorem zl_loop (D : ZipSep2 z TI TO i1 i2 fp1 fp2) (B : ZB z TI TO i1 i2 S fp1 fp2) (D1 : Draws prog w A.in1.in1 i1 fp1 n P1 St1) (D2 : Draws prog w A.in1.in1 i2 fp2 n P2 St2) (hn : n ≤ sizeLine) (hn1 : 1 ≤ n) (res : Value) {h₁ : Heap}
    (hR : ∀ h' tk acc c as, (∀ b o, b ≠ S → b ≠ z → b ≠ TO → b ≠ i1 → b ≠ i2 → h₁.get? b = some o → h'.get? b = some o) → h'.get? S = some { cls := .type "list", dict := none, data := .seq acc c, slots := #[] } → as.length = n → ZG P1 P2 S h' as →
      acc.toList = as.map Value.ref → R (.ok (.ret res)) { s with heap := h', toks := tk }) :
    ∀ (k i : Nat) (h : Heap) (tk c : Nat) (acc : Array Value) (as : List Addr), n - i = k → i ≤ n → ZS z TI TO i1 i2 S St1 St2 i h → (∀ b o, b ≠ S → b ≠ z → b ≠ TO → b ≠ i1 → b ≠ i2 → h₁.get? b = some o → h.get? b = some o) →
      h.get? S = some { cls := .type "list", dict := none, data := .seq acc c, slots := #[] } → acc.toList = as.map Value.ref → as.length = i → ZG P1 P2 S h as →
      codeAny (model prog w) A (.builtin "list.extend.loop" ⟨[.ref S, .ref z, res], []⟩) R { s with heap := h, toks := tk } := by
  have ne : ∀ a, S < a → a ≠ z ∧ a ≠ TO ∧ a ≠ i1 ∧ a ≠ i2 := fun a ha => ⟨Nat.ne_of_gt (Nat.lt_trans B.z ha), Nat.ne_of_gt (Nat.lt_trans B.TO ha), Nat.ne_of_gt (Nat.lt_trans B.i1 ha), Nat.ne_of_gt (Nat.lt_trans B.i2 ha)⟩
  intro k
  induction k with
  | zero =>
    intro i h tk c acc as hk hi hst hkeep hS hacc hal hG
    obtain rfl : i = n := by omega
    refine codeAny_builtin PySem.F.entry_extend_loop ?_
    rw [Around.under_plainId PySem.F.plain_extend_loop _]
    show wpAny _ A.in1 (pyNext (.ref z) >>= _) _ _ _
    rcases hst.zz with ⟨h0, _⟩ | ⟨h0, T, f, oT, h1, h2, h3, h4, h5, h6⟩
    · omega
    · refine wpAny_bind (zn_end (s := { s with heap := h, toks := tk }) (A := A.in1) D D1 h1 h2 hst.ti hst.s1 fun h' tk' he => ?_)
      refine wpAny_pure (hR h' tk' acc c as (fun b o b1 b2 b3 b4 b5 e => he b o b2 b4 b5 (hkeep b o b1 b2 b3 b4 b5 e)) (he S _ (Nat.ne_of_gt B.z) (Nat.ne_of_gt B.i1) (Nat.ne_of_gt B.i2) hS) hal ⟨hG.rise, hG.above, fun j a hj => ?_⟩ hacc)
      obtain ⟨x1, x2, q1, q2, e3⟩ := hG.pairs j a hj
      obtain ⟨n1, n2, n3, n4⟩ := ne a (hG.above a (List.mem_of_getElem? hj))
      exact ⟨x1, x2, q1, q2, he a _ n1 n3 n4 e3⟩
  | succ k ih =>
    intro i h tk c acc as hk hi hst hkeep hS hacc hal hG
    have hlt : i < n := by omega
    have hsz : acc.size = i := by rw [← Array.length_toList, hacc, List.length_map, hal]
    have hSl : S < h.objs.size := Heap.lt_size hS
    refine codeAny_builtin PySem.F.entry_extend_loop ?_
    rw [Around.under_plainId PySem.F.plain_extend_loop _]
    show wpAny _ A.in1 (pyNext (.ref z) >>= _) _ _ _
    refine wpAny_bind (zs_next (s := { s with heap := h, toks := tk }) (A := A.in1) D B D1 D2 hSl hst hlt fun x1 x2 h' tk' p1 p2 hst' ht hz hkp => ?_)
    dsimp only at ht hz hkp ⊢
    have hS' := hkp S _ (Nat.ne_of_gt B.z) (Nat.ne_of_gt B.TO) (Nat.ne_of_gt B.i1) (Nat.ne_of_gt B.i2) hS
    have up : ∀ b o, b ≠ S → h'.get? b = some o → (h'.update S (Obj.mapSeq (·.push (Value.ref h.objs.size)))).get? b = some o := fun b o hb e => (Heap.get?_update_other _ _ (Ne.symm hb)).trans e
    show wpAny _ A.in1 (updateSeq S (·.push (Value.ref h.objs.size)) >>= _) _ _ _
    refine wpAny_bind ?_
    refine wpAny_updateSeq hS' rfl (wpAny_pure ⟨plainId_quiet PySem.F.plain_extend_loop _, ih (i + 1) _ tk' _ (acc.push (Value.ref h.objs.size)) (as ++ [h.objs.size]) (by omega) hlt (hst'.keep B D1 D2 up)
      (fun b o b1 b2 b3 b4 b5 e => up b o b1 (hkp b o b2 b3 b4 b5 (hkeep b o b1 b2 b3 b4 b5 e))) (Heap.get?_update_self _ hS' rfl) (by rw [Array.toList_push, hacc, List.map_append]; rfl) (by rw [List.length_append, hal]; rfl) ⟨?_, ?_, ?_⟩⟩) (by rw [hsz]; omega) (by show (acc.push (Value.ref h.objs.size)).size ≤ sizeLine + 1; rw [Array.size_push, hsz]; omega)
    · refine List.pairwise_append.mpr ⟨hG.rise, List.pairwise_singleton _ _, fun a ha b hb => ?_⟩
      rw [List.mem_singleton.mp hb]
      exact hG.there ha
    · intro a ha
      rcases List.mem_append.mp ha with ha | ha
      · exact hG.above a ha
      · rw [List.mem_singleton.mp ha]; exact hSl
    · intro j b hj
      rcases Nat.lt_trichotomy j as.length with h1 | h1 | h1
      · rw [List.getElem?_append_left h1] at hj
        obtain ⟨y1, y2, q1, q2, e3⟩ := hG.pairs j b hj
        have hb := hG.above b (List.mem_of_getElem? hj)
        obtain ⟨n1, n2, n3, n4⟩ := ne b hb
        exact ⟨y1, y2, q1, q2, up b _ (Nat.ne_of_gt hb) (hkp b _ n1 n2 n3 n4 e3)⟩
      · subst h1
        have hb : h.objs.size = b := by simpa using hj
        subst hb
        exact ⟨x1, x2, by rw [hal]; exact p1, by rw [hal]; exact p2, up _ _ (Nat.ne_of_gt hSl) ht⟩
      · have hnone : (as ++ [h.objs.size])[j]? = none := List.getElem?_eq_none (by rw [List.length_append, List.length_singleton]; omega)
        rw [hnone] at hj; cases hj
/-- list(z) of a zip that has given nothing yet -/
theorem zl_call {Q : Value → Shared → Prop} {a1 a2 : Value} (D : ZipSep2 z TI TO i1 i2 fp1 fp2) (B : ZB z TI TO i1 i2 s.heap.objs.size fp1 fp2) (D1 : ∀ A : Around, A.handled = none → Draws prog w A i1 fp1 n P1 St1) (D2 : ∀ A : Around, A.handled = none → Draws prog w A i2 fp2 n P2 St2) (hh : A.handled = none)
    (hz : IsZip s.heap z TI TO .none) (hTI : IsTupOf2 s.heap TI (.ref i1) (.ref i2)) (hTO : IsTupOf2 s.heap TO a1 a2) (st1 : St1 0 s.heap) (st2 : St2 0 s.heap) (hn : n ≤ sizeLine) (hn1 : 1 ≤ n)
    (hQ : ∀ h' tk acc c as, (∀ b o, b ≠ z → b ≠ TO → b ≠ i1 → b ≠ i2 → s.heap.get? b = some o → h'.get? b = some o) → h'.get? s.heap.objs.size = some { cls := .type "list", dict := none, data := .seq acc c, slots := #[] } → as.length = n → ZG P1 P2 s.heap.objs.size h' as →
      acc.toList = as.map Value.ref → Q (.ref s.heap.objs.size) { s with heap := h', toks := tk }) :
    wpAny (model prog w) A (call (.type "list") [.ref z]) Q E s := by
  refine callType_codes (Q₁ := fun obj s₁ => obj = .ref s.heap.objs.size ∧ s₁ = { s with heap := s.heap.push { cls := .type "list", data := .seq #[] } }) PySem.F.called_list (PySem.F.typeCall_list_1 _) PySem.F.entry_list_init
    (code_list_new _ ⟨rfl, rfl⟩) fun obj s₁ h₁ => ?_
  obtain ⟨rfl, rfl⟩ := h₁
  have hS : (s.heap.push { cls := .type "list", data := .seq #[] }).get? s.heap.objs.size = some { cls := .type "list", data := .seq #[] } := Heap.get?_push_size _ rfl
  have hzS : s.heap.objs.size ≠ z := Nat.ne_of_gt B.z
  refine ⟨⟨_, hS, rfl⟩, PySem.F.args_list_init_2 _ _, ?_⟩
  show wpAny _ _ (do let old ← Builtin.List.listItems (.ref s.heap.objs.size); Builtin.List.listUpdate (.ref s.heap.objs.size) (fun _ => #[]); letGo old.toList.reverse; Builtin.List.listExtendWith (.ref s.heap.objs.size) (.ref z) .none) _ _ _
  refine wpAny_bind ?_
  unfold Builtin.List.listItems
  refine wpAny_bind (wpAny_seqItems hS rfl (wpAny_pure ?_))
  show wpAny _ _ (updateSeq s.heap.objs.size (fun _ => #[]) >>= fun _ => letGo (#[] : Array Value).toList.reverse >>= fun _ => Builtin.List.listExtendWith (.ref s.heap.objs.size) (.ref z) .none) _ _ _
  refine wpAny_bind (wpAny_updateSeq hS rfl ?_)
  have hS₂ := Heap.get?_update_self (Obj.mapSeq (fun _ => (#[] : Array Value))) hS rfl
  have oth : ∀ b o, b ≠ s.heap.objs.size → (s.heap.push { cls := .type "list", data := .seq #[] }).get? b = some o → ((s.heap.push { cls := .type "list", data := .seq #[] }).update s.heap.objs.size (Obj.mapSeq (fun _ => (#[] : Array Value)))).get? b = some o :=
    fun b o hb e => (Heap.get?_update_other _ _ (Ne.symm hb)).trans e
  refine wpAny_bind (wpAny_letGo ?_)
  have kp : ∀ b o, s.heap.get? b = some o → ((s.heap.push { cls := .type "list", data := .seq #[] }).update s.heap.objs.size (Obj.mapSeq (fun _ => (#[] : Array Value)))).get? b = some o := fun b o e => oth b o (Nat.ne_of_lt (Heap.lt_size e)) (Heap.get?_push_of_some _ e)
  have hz2 := kp _ _ hz
  have hh1 : A.in1.in1.in1.handled = none := hh
  have d1 := D1 A.in1.in1.in1 hh1
  have d2 := D2 A.in1.in1.in1 hh1
  unfold Builtin.List.listExtendWith
  refine wpAny_bind (wpAny_typeOf (T := "zip") ⟨_, hz2, rfl⟩ ?_)
  have h1 : Builtin.List.listSameRef (.ref s.heap.objs.size) (.ref z) = false := by simp [Builtin.List.listSameRef, hzS]
  have h2 : (Value.type "zip" == Value.type "list") = false := by decide
  have h3 : (Value.type "zip" == Value.type "tuple") = false := by decide
  simp only [h1, h2, h3, Bool.or_false, Bool.false_eq_true, if_false]
  refine wpAny_bind (wpAny_pyIter_zip hz2 ?_)
  refine wpAny_bind (wpAny_holding ?_)
  unfold Builtin.List.listLengthHint
  refine wpAny_bind (wpAny_specialOf (T := "zip") ⟨_, hz2, rfl⟩ zip_nolen ?_)
  refine wpAny_bind (wpAny_specialOf (T := "zip") ⟨_, hz2, rfl⟩ zip_nohint ?_)
  refine wpAny_pure ?_
  rw [Bool.true_or, if_pos rfl]
  refine wpAny_bind (wpAny_rule ?_)
  refine wpAny_bind ?_
  show wpAny _ _ (updateSeq s.heap.objs.size (·.push .none) >>= fun _ => updateSeq s.heap.objs.size (·.pop)) _ _ _
  refine wpAny_bind (wpAny_updateSeq hS₂ rfl ?_)
  have hS₃ := Heap.get?_update_self (Obj.mapSeq (·.push Value.none)) hS₂ rfl
  refine wpAny_updateSeq (hz := by seq_fits) hS₃ rfl ?_
  have hS₄ := Heap.get?_update_self (Obj.mapSeq (·.pop)) hS₃ rfl
  have kp2 : ∀ b o, s.heap.get? b = some o → _ := fun b o e => (Heap.get?_update_other _ (Obj.mapSeq (·.pop)) (Ne.symm (Nat.ne_of_lt (Heap.lt_size e)))).trans ((Heap.get?_update_other _ (Obj.mapSeq (·.push Value.none)) (Ne.symm (Nat.ne_of_lt (Heap.lt_size e)))).trans (kp b o e))
  refine wpAny_pure ⟨plainId_quiet PySem.F.plain_extend_loop _, zl_loop (h₁ := s.heap) D B d1 d2 hn hn1 .none (fun h' tk acc c as hk hS' hl hG hacc => ?_) n 0 _ _ _ _ [] rfl (Nat.zero_le _)
    ⟨kp2 _ _ hTI, (D1 A hh).frame _ _ _ st1 fun b _ o e => kp2 b o e, (D2 A hh).frame _ _ _ st2 fun b _ o e => kp2 b o e, .inl ⟨rfl, kp2 _ _ hz, _, _, kp2 _ _ hTO⟩⟩ (fun b o _ _ _ _ _ e => kp2 b o e) hS₄ rfl rfl ⟨List.Pairwise.nil, (fun _ ha => nomatch ha), (fun j a hj => by simp at hj)⟩⟩
  exact ⟨rfl, hQ h' tk acc c as (fun b o b1 b2 b3 b4 e => hk b o (Nat.ne_of_lt (Heap.lt_size e)) b1 b2 b3 b4 e) hS' hl hG hacc⟩
end
/-! ### tracked -/
/-- the tuples tracked at their addresses -/
def putP : Hp → List Addr → List (V × V) → Hp
  | H, a :: as, p :: ps => putP (upd H a (.tup [p.1, p.2])) as ps
  | H, _, _ => H
theorem putP_off {b : Addr} : ∀ (as : List Addr) (ps : List (V × V)) (H : Hp), b ∉ as → putP H as ps b = H b
  | [], _, _, _ => rfl
  | _ :: _, [], _, _ => rfl
  | a :: as, p :: ps, H, h => by
    show putP (upd H a _) as ps b = H b
    rw [putP_off as ps _ (fun z => h (List.mem_cons_of_mem _ z)), upd_ne (fun z => h (by rw [z]; exact List.mem_cons_self))]
theorem putP_at : ∀ (as : List Addr) (ps : List (V × V)) (H : Hp), as.Nodup → ∀ (j : Nat) (a : Addr) (p : V × V), as[j]? = some a → ps[j]? = some p → putP H as ps a = some (.tup [p.1, p.2])
  | [], _, _, _, _, _, _, h, _ => by simp at h
  | _ :: _, [], _, _, _, _, _, _, h => by simp at h
  | a :: as, p :: ps, H, hn, j, b, q, h1, h2 => by
    have hn' := List.nodup_cons.mp hn
    show putP (upd H a _) as ps b = _
    cases j with
    | zero =>
      obtain rfl : a = b := by simpa using h1
      obtain rfl : p = q := by simpa using h2
      rw [putP_off as ps _ hn'.1, upd_same]
    | succ j => exact putP_at as ps _ hn'.2 j b q (by simpa using h1) (by simpa using h2)
section
variable {X : Cx}
theorem pairs_laid {pins : List (Addr × Obj)} {σ : L2.St} {H : Hp} {s : Shared} {h' : Heap} {tk : Nat} {zs : List (V × V)} {acc : Array Value} {c : Nat} {as : List Addr} {S : Addr} (I : Inv X pins σ H s) (hS0 : s.heap.objs.size ≤ S) (hz : zs.length ≤ sizeLine)
    (hk : ∀ b o, s.heap.get? b = some o → h'.get? b = some o) (hS : h'.get? S = some { cls := .type "list", dict := none, data := .seq acc c, slots := #[] }) (hl : as.length = zs.length) (rise : as.Pairwise (· < ·)) (above : ∀ a ∈ as, S < a)
    (pairs : ∀ (j : Nat) (a : Addr) (p : V × V), as[j]? = some a → zs[j]? = some p → ∃ x1 x2, RelV p.1 x1 ∧ RelV p.2 x2 ∧ IsTupOf2 h' a x1 x2) (hacc : acc.toList = as.map Value.ref) :
    ∃ H' : Hp, Ex H H' ∧ H S = none ∧ (∀ t ∈ as, H t = none) ∧ S ∉ as ∧ H' S = some (.lst (as.map V.ref)) ∧ (∀ (j : Nat) (a : Addr) (p : V × V), as[j]? = some a → zs[j]? = some p → H' a = some (.tup [p.1, p.2])) ∧ Inv X pins σ H' { s with heap := h', toks := tk } := by
  have hSn : S ∉ as := fun z => Nat.lt_irrefl _ (above _ z)
  have nd : as.Nodup := List.Pairwise.imp (fun {a b} (h : a < b) => Nat.ne_of_lt h) rise
  have new : ∀ t ∈ as, H t = none := fun t ht => I.hok.fresh (Nat.le_trans hS0 (Nat.le_of_lt (above t ht)))
  have newS : H S = none := I.hok.fresh hS0
  have atP := putP_at as zs (upd H S (.lst (as.map V.ref))) nd
  have off : ∀ b, b ∉ as → b ≠ S → putP (upd H S (.lst (as.map V.ref))) as zs b = H b := fun b h1 h2 => by rw [putP_off as zs _ h1, upd_ne h2]
  have low : ∀ b o, s.heap.get? b = some o → b ∉ as ∧ b ≠ S := fun b o e => ⟨fun z => absurd (Heap.lt_size e) (Nat.not_lt.mpr (Nat.le_trans hS0 (Nat.le_of_lt (above b z)))), fun z => absurd (Heap.lt_size e) (Nat.not_lt.mpr (z ▸ hS0))⟩
  have kp : ∀ b u, H b = some u → (putP (upd H S (.lst (as.map V.ref))) as zs) b = some u := fun b u e => by
    rw [off b (fun z => by rw [new b z] at e; cases e) (fun z => by rw [z, newS] at e; cases e)]
    exact e
  have eS : putP (upd H S (.lst (as.map V.ref))) as zs S = some (.lst (as.map V.ref)) := by rw [putP_off as zs _ hSn, upd_same]
  refine ⟨putP (upd H S (.lst (as.map V.ref))) as zs, kp, newS, new, hSn, eS, atP, ?_⟩
  refine I.call' (ch := []) rfl ⟨fun b o q _ _ _ => hk b o q, fun b o q _ _ _ => ⟨o.slots, hk b o q⟩, fun b o q n _ => ?_, fun b o q _ => ⟨o, hk b o q⟩, fun b xs q => kp b _ q, fun b o u q => kp b _ q, fun b ps q => ⟨#[], by rw [kp b _ q]; simp⟩⟩ (fun b u q => ?_) I.bare fun b z => by simp at z
  · obtain ⟨z1, z2⟩ := low b o q
    rw [off b z1 z2]
    exact n
  · by_cases hb : b ∈ as
    · obtain ⟨j, hj⟩ := List.mem_iff_getElem?.mp hb
      have hj2 : j < zs.length := by
        have := (List.getElem?_eq_some_iff.mp hj).1
        omega
      have e2 : zs[j]? = some zs[j] := List.getElem?_eq_getElem hj2
      rw [atP j b _ hj e2] at q
      cases q
      obtain ⟨x1, x2, f1, f2, f3⟩ := pairs j b _ hj e2
      exact ⟨by show 2 ≤ sizeLine; decide, [x1, x2], .cons f1 (.cons f2 .nil), ⟨_, f3, rfl, _, rfl⟩⟩
    · by_cases hb2 : b = S
      · rw [hb2] at q ⊢
        rw [eS] at q
        cases q
        refine ⟨by rw [List.length_map]; omega, acc.toList, c, by rw [hacc]; exact LiI.vals_refs as, ?_⟩
        rw [Array.toArray_toList]
        exact hS
      · rw [off b hb hb2] at q
        exact (I.hok b u q).stay (fun d v _ y => hk d v y) (fun d y => kp d _ y) fun d xs y => kp d _ y
/-- a list or a tuple as a source of an iterator at it -/
theorem sq_src {pins : List (Addr × Obj)} {σ : L2.St} {H : Hp} {s : Shared} {a : Addr} {xs : List V} (I : Inv X pins σ H s) (hq : Sq X.K H a xs) {it : Addr} (hit : s.heap.objs.size ≤ it) :
    ∃ (its : List Value) (o : Obj) (HH : Heap → Prop) (St : Nat → Heap → Prop), Vals xs its ∧ xs.length ≤ sizeLine ∧ Begins (.ref a) o HH ∧ HH s.heap ∧ a < s.heap.objs.size ∧
      (∀ A : Around, A.handled = none → Draws X.prog X.w A it [it, a] its.length (fun i v => its[i]? = some v) St) ∧ ∀ h', HH h' → h'.get? it = some o → St 0 h' := by
  rcases hq with hq | hq
  · obtain ⟨its, rv, p, hz⟩ := I.list hq
    have hlt : a < s.heap.objs.size := p.lt
    have hd : ∀ A : Around, A.handled = none → Draws X.prog X.w A it [it, a] its.toArray.size (fun i v => its.toArray[i]? = some v) (fun i h => h.IsListIter it a i ∧ h.IsList a its.toArray) := fun A hh => Draws.list hh it a (Nat.ne_of_lt (Nat.lt_of_lt_of_le hlt hit)) its.toArray
    simp only [List.size_toArray, List.getElem?_toArray] at hd
    exact ⟨its, _, _, _, rv, hz, begins_list a its.toArray, p.isList, hlt, hd, fun h' h1 h2 => ⟨⟨_, h2, rfl, rfl⟩, h1⟩⟩
  · obtain ⟨its, rv, p, hz⟩ := I.tuple hq
    have hlt : a < s.heap.objs.size := by obtain ⟨o, ho, _⟩ := id p; exact Heap.lt_size ho
    have hd : ∀ A : Around, A.handled = none → Draws X.prog X.w A it [it, a] its.toArray.size (fun i v => its.toArray[i]? = some v) (fun i h => h.IsTupleIter it a i ∧ h.IsTuple a its.toArray) := fun A hh => Draws.tuple hh it a (Nat.ne_of_lt (Nat.lt_of_lt_of_le hlt hit)) its.toArray
    simp only [List.size_toArray, List.getElem?_toArray] at hd
    exact ⟨its, _, _, _, rv, hz, begins_tuple a its.toArray, p, hlt, hd, fun h' h1 h2 => ⟨⟨_, h2, rfl, rfl⟩, h1⟩⟩
def rListZip (K : PySem.W.Frag) : List V → Hp → VK → Prop := fun vs H Q => ∃ a b xs ys, vs = [.ref a, .ref b] ∧ Sq K H a xs ∧ Sq K H b ys ∧ xs.length = ys.length ∧ 1 ≤ xs.length ∧
  ∀ (H' : Hp) (p : Addr) (ts : List Addr), Ex H H' → H p = none → (∀ t ∈ ts, H t = none) → p ∉ ts → H' p = some (.lst (ts.map V.ref)) → ts.length = xs.length →
    (∀ (j : Nat) t x y, ts[j]? = some t → xs[j]? = some x → ys[j]? = some y → H' t = some (.tup [x, y])) → Q (.ref p) H'
def tListZip (K : PySem.W.Frag) (ar : TA) : TE := fun σ H Q => ar σ H fun vs H1 => rListZip K vs H1 Q
theorem vals_get : ∀ {xs : List V} {us : List Value}, Vals xs us → ∀ {i : Nat} {u : Value}, us[i]? = some u → ∃ x, xs[i]? = some x ∧ RelV x u
  | _, _, .nil, _, _, h => by simp at h
  | _, _, .cons r t, 0, u, h => by
    obtain rfl := Option.some.inj h
    exact ⟨_, rfl, r⟩
  | _, _, .cons r t, i + 1, u, h => vals_get t h
theorem vals_len {xs : List V} {us : List Value} (h : Vals xs us) : xs.length = us.length := by
  induction h with
  | nil => rfl
  | cons _ _ ih => rw [List.length_cons, List.length_cons, ih]
/-- list(zip(a, b)) -/
theorem pe_listZip {e e2 : Expr} {ta : TA} {p p2 cpos pos : Pos} {K : PySem.W.Frag} (hKK : X.K = K) (hc : X.calm = true) (hg : Gl X "list") (hm : X.mg "list" = none) (hg2 : Gl X "zip") (hm2 : X.mg "zip" = none) (ha : PA X [e, e2] ta)
    (hs2 : starEach [e, e2] X.env = (false, eval e X.env) :: starEach [e2] X.env := by rfl) (hpl : (backTo cpos (starEach [e2] X.env)).any (·.1) = false := by rfl)
    (hs : starEach [.Call (.Name "zip" p2) [e, e2] [] cpos] X.env = (false, eval (.Call (.Name "zip" p2) [e, e2] [] cpos) X.env) :: starEach [] X.env := by rfl) :
    PE X (.Call (.Name "list" p) [.Call (.Name "zip" p2) [e, e2] [] cpos] [] pos) (tListZip K ta) := by
  subst hKK
  refine ⟨fun pins s σ H Q I hq => ?_⟩
  refine wpAny_Call_Name_kw (ld_blt I hg hm (show bootBuiltins "list" = some (.type "list") by decide +kernel) ?_)
  refine PyProof.Rows.callWith_type1 ?_ hs rfl
  rw [hs]
  show wpAny _ _ (spliced ((false, eval (.Call (.Name "zip" p2) [e, e2] [] cpos) X.env) :: backTo pos (starEach [] X.env))) _ _ s
  refine Calls.spliced_cons ?_
  refine Call_ (ld_blt I hg2 hm2 PyProof.Rows.boot_zip (PyProof.Rows.callWith_type1 (thn (ha.run cpos pins s σ H _ I hq) fun us s1 ⟨vs, H1, I1, r1, q1⟩ => ?_) hs2 hpl))
  obtain ⟨a, b, xs, ys, ex, hx, hy, hl, h1, q⟩ := q1
  subst ex
  cases r1 with
  | cons r rr =>
    cases rr with
    | cons r' rr =>
      cases rr
      cases r
      cases r'
      obtain ⟨its, o1, HH1, St1, rv1, hz1, B1, hh1, lt1, D1, S1⟩ := sq_src I1 hx (it := s1.heap.objs.size) (Nat.le_refl _)
      obtain ⟨its2, o2, HH2, St2, rv2, hz2, B2, hh2, lt2, D2, S2⟩ := sq_src I1 hy (it := s1.heap.objs.size + 1) (Nat.le_succ _)
      have ll : its2.length = its.length := by rw [← vals_len rv1, ← vals_len rv2, hl]
      rw [ll] at D2
      refine zip_begins2 B1 B2 hh1 hh2 fun h' hz hTI hTO g1 g2 hsz hk => ?_
      refine Calls.spliced_nil ?_
      have bnd : ∀ k : Nat, k < 5 → s1.heap.objs.size + k < h'.objs.size := fun k hk => by
        rw [hsz]
        exact Nat.add_lt_add_left hk _
      refine zl_call (s := { s1 with heap := h' }) (fp1 := [s1.heap.objs.size, a]) (fp2 := [s1.heap.objs.size + 1, b]) (zip_sep2 (fun c hc => by rw [List.mem_singleton.mp hc]; exact lt1) (fun c hc => by rw [List.mem_singleton.mp hc]; exact lt2))
        ⟨bnd 4 (by decide), bnd 2 (by decide), bnd 3 (by decide), bnd 0 (by decide), bnd 1 (by decide), fun c hc => ?_, fun c hc => ?_⟩ D1 D2 (I1.ok.hd hc) hz hTI hTO (S1 h' (B1.keeps _ _ hh1 hk) g1) (S2 h' (B2.keeps _ _ hh2 hk) g2) (by rw [← vals_len rv1]; exact hz1) (by rw [← vals_len rv1]; exact h1) fun h'' tk acc c as hk2 hS hlen hG hacc => ?_
      · rcases List.mem_cons.mp hc with rfl | hc
        · exact bnd 0 (by decide)
        · rw [List.mem_singleton.mp hc]
          exact Nat.lt_trans lt1 (bnd 0 (by decide))
      · rcases List.mem_cons.mp hc with rfl | hc
        · exact bnd 1 (by decide)
        · rw [List.mem_singleton.mp hc]
          exact Nat.lt_trans lt2 (bnd 0 (by decide))
      · have low : ∀ b o, s1.heap.get? b = some o → ∀ k : Nat, b ≠ s1.heap.objs.size + k := fun b o e k z => absurd (Heap.lt_size e) (Nat.not_lt.mpr (by rw [z]; exact Nat.le_add_right _ _))
        obtain ⟨H', k1, k2, k3, k4, k5, k6, J⟩ := pairs_laid (tk := tk) (zs := xs.zip ys) (S := h'.objs.size) I1 (by rw [hsz]; exact Nat.le_add_right _ _) (by rw [List.length_zip, hl, Nat.min_self, ← hl]; exact hz1) (fun b o e => hk2 b o (low b o e 4) (low b o e 3) (low b o e 0) (low b o e 1) (hk b o e)) hS (by rw [hlen, List.length_zip, hl, Nat.min_self, ← hl, vals_len rv1]) hG.rise hG.above (fun j t pr hj hp => by
          obtain ⟨x1, x2, p1, p2, p3⟩ := hG.pairs j t hj
          obtain ⟨v1, e1, f1⟩ := vals_get rv1 p1
          obtain ⟨v2, e2, f2⟩ := vals_get rv2 p2
          have : (xs.zip ys)[j]? = some (v1, v2) := by
            rw [List.getElem?_zip_eq_some]
            exact ⟨e1, e2⟩
          rw [this] at hp
          cases hp
          exact ⟨x1, x2, f1, f2, p3⟩) hacc
        exact ⟨.ref _, H', J, rfl, q H' _ as k1 k2 k3 k4 k5 (by rw [hlen, vals_len rv1]) fun j t x y e1 e2 e3 => k6 j t (x, y) e1 (by rw [List.getElem?_zip_eq_some]; exact ⟨e2, e3⟩)⟩
end
section
variable {K : PySem.W.Frag} {σ : L2.St} {H : Hp} {Q : VK} {ar : TA}
theorem r_listZip (h : ar σ H fun vs H1 => rListZip K vs H1 Q) : tListZip K ar σ H Q := h
end
end Hn

/-! sum of a tuple; len, * and the like of own classes. -/
namespace Hn
open PySem PySem.Spec PyProof.Rows L2 Evl
section
variable {X : Cx} {K : PySem.W.Frag} {k : Nat} {f C : Addr} {ps : List Str} {sp : Sp}
theorem sum_rawT {prog : Program} {w : World} {A : Around} {E : Value → Shared → Prop} {s : Shared} {l : Addr} {its : List Value} {ns : List Int} {Q : Value → Shared → Prop} (hh : A.handled = none) (hl : s.heap.IsTuple l its.toArray) (hi : IntsAre its ns)
    (h : ∀ h' tk t', (∀ b o, s.heap.get? b = some o → h'.get? b = some o) → Q (.int ns.sum t') { s with heap := h', toks := tk }) : wpAny (model prog w) A (call (.builtin "sum") [.ref l]) Q E s := by
  obtain ⟨xs, e⟩ := hi.allInts.items
  have hn : numsOf (intItems xs).toList = ns := by rw [← e]; exact hi.numsOf
  rw [nums_intItems] at hn
  rw [e] at hl
  refine PySem.W.ktm_sumG hh hl fun h' tk t' hk => ?_
  have := h h' tk t' hk
  rw [preSum_eq, List.take_of_length_le (by simp), hn]; exact this
def rSumS (K : PySem.W.Frag) : List V → Hp → VK → Prop := fun vs H Q => ∃ (a : Addr) (ns : List Int), vs = [V.ref a] ∧ Sq K H a (ns.map V.int) ∧ Q (.int ns.sum) H
theorem k_sumS (h : X.K = K) (hc : X.calm = true) : CallR X (.builtin "sum") (rSumS K) := by
  subst h
  intro pins s σ H vs us Q I r h
  obtain ⟨a, ns, rfl, hs, q⟩ := h
  rcases hs with hs | hs
  · exact cr_sum hc pins s σ H _ us Q I r ⟨a, ns, rfl, hs, q⟩
  · obtain ⟨its, rv, hl, _⟩ := I.tuple hs
    rw [Vals.ref1 r]
    exact sum_rawT (I.ok.hd hc) hl rv.ints fun h' tk t' hk => ⟨.int _, H, I.kept hk, ⟨_, rfl⟩, q⟩
theorem r_sumS {H : Hp} {Q : VK} {a : Addr} {ns : List Int} (h : Sq K H a (ns.map V.int)) (q : Q (.int ns.sum) H) : rSumS K [.ref a] H Q := ⟨a, ns, rfl, h, q⟩
/-- len(x) by the class's own __len__ -/
def rLenO (C : Addr) (sp : Sp) (E : XK) : List V → Hp → VK → Prop := fun vs H Q => ∃ a dx fs, vs = [.ref a] ∧ H a = some (.ins C dx fs) ∧ sp [.ref a] H (fun v H' => ∃ n : Int, v = .int n ∧ 0 ≤ n ∧ n < 2 ^ 63 ∧ Q (.int n) H') E
theorem k_lenO (G : Okf X.prog X.w X.K X.mg X.base k f ps sp) (hr : Room (k + 1) X.A) (hs : PySem.W.findIn X.K (.ref C) "__len__" = some (some (.ref f))) (hf : PySem.W.isFn X.K (.ref f) = true) : CallR X (.builtin "len") (rLenO C sp E0) := by
  obtain ⟨fd, F, hb⟩ := G
  intro pins s σ H vs us Q I r h
  obtain ⟨a, dx, fs, rfl, ha, q⟩ := h
  rw [Vals.ref1 r]
  obtain ⟨mA, J, _⟩ := ins_get I.hok ha
  obtain ⟨od, J, _⟩ := J.look
  obtain ⟨m, hF⟩ := I.fr
  refine PySem.W.len_K hF I.ok.mod.kin J hs hf ?_
  refine wpAny_mono (run_fn1 (us := [.ref a]) (vs := [.ref a]) F hr hb passL I (.cons rfl .nil) q) (fun v s' hv => ?_) fun _ _ e => e
  obtain ⟨z, H', I', rz, n, rfl, h0, h1, q'⟩ := hv
  obtain ⟨t, rfl⟩ := rz
  exact ⟨⟨h0, h1⟩, .int n, H', I'.tok _, ⟨_, rfl⟩, q'⟩
/-- an own operator with an int at its right -/
theorem k_ownI {op : Operator} (G : Okf X.prog X.w X.K X.mg X.base k f ps sp) (hr : Room k X.A)
    (hc : PySem.W.selfFirst X.K C = true) (hs : PySem.W.findIn X.K (.ref C) (PySem.dunder op.info.2) = some (some (.ref f))) (hf : PySem.W.isFn X.K (.ref f) = true)
    (hrc : ∃ rc, PySem.W.findIn X.K (.ref C) (dunderR op.info.2) = some rc ∧ (rc = none ∨ ∃ g : Addr, rc = some (.ref g)))
    (hi : (∃ fo, PySem.W.findIn X.K (.type "int") (PySem.dunder op.info.2) = some fo) ∧ ∃ ro, PySem.W.findIn X.K (.type "int") (dunderR op.info.2) = some ro) (hsub : PySem.W.subIn X.K (.type "int") (.ref C) = some false) :
    OpR X (binaryOp op) (rOwnI C sp E0) :=
  let ⟨_, a, b⟩ := G
  let ⟨_, h1, h2⟩ := hrc
  let ⟨⟨_, h3⟩, _, h4⟩ := hi
  op_ownI a hr b passL hc hs hf h1 h2 h3 h4 hsub
end
section
open PySem.W
variable {prog : Program} {w : World} {A : Around} {E : Value → Shared → Prop} {s : Shared} {K : Frag} {x C L f : Addr} {h₀ : Heap} {m : Str → Option Value} {ox : Obj} {od : Option Obj} {i : Int} {t : Tok}
/-- int.__mul__ knows nothing of own things -/
theorem mul_own_not {dx : Addr} {Q : Option Value → Shared → Prop} (hx : s.heap.get? x = some (PySem.W.instObj C dx)) (h : Q none s) : wpAny (model prog w) A (tryMethod (.int i t) "__mul__" (.ref x)) Q E s := by
  unfold tryMethod
  refine wpAny_bind (wpAny_callSpecial?_slot (name := Str.ofString "__mul__") (typeIs_int s i t) F.slot_int_mul (wpAny_call_entry F.slot_int_mul (typeIs_int s i t) F.entry_int_mul ?_ (F.args_int_mul_2 _ _)))
  unfold Builtin.«int.__mul__»
  unfold Builtin.Int.intBinary
  refine wpAny_bind (wpAny_of_eq (a := (Value.int i t, [Value.ref x])) (by first | rfl | kernel_rfl) ?_)
  refine wpAny_bind (wpAny_of_eq (a := i) (by first | rfl | kernel_rfl) ?_)
  show wpAny _ _ (asInt? (.ref x) >>= _) _ _ _
  refine wpAny_bind ?_
  unfold asInt?
  refine wpAny_bind (wpAny_load hx ?_)
  refine wpAny_pure ?_
  refine wpAny_bind (wpAny_rule ?_)
  exact wpAny_pure ⟨_, rfl, wpAny_pure h⟩
/-- an int times an own thing -/
theorem bin_rmul {dx fm : Addr} {Q : Value → Shared → Prop} (X : K.In s.heap) (I : InstAt s.heap x ox C od) (hx : s.heap.get? x = some (PySem.W.instObj C dx)) (hc : selfFirst K C = true) (hm : findIn K (.ref C) "__mul__" = some (some (.ref fm)))
    (hs : findIn K (.ref C) "__rmul__" = some (some (.ref f))) (hf : isFn K (.ref f) = true) (hsub : subIn K (.ref C) (.type "int") = some false)
    (h : wpAny (model prog w) A (call (.ref f) [.ref x, .int i t]) (PySem.W.CmpBack Q) E s) : wpAny (model prog w) A (binaryOp .Mult (.int i t) (.ref x)) Q E s := by
  obtain ⟨cd, rest, hcd, hmro⟩ := ksp_first hc
  have one := ksp_try (b := .int i t) X I hs hf h
  have no : ∀ {Q : Option Value → Shared → Prop}, Q none s → wpAny (model prog w) A (tryMethod (.int i t) (Str.ofString "__mul__") (.ref x)) Q E s := fun q => mul_own_not hx q
  obtain ⟨hh, g, d, tt, os⟩ := s
  have L1 : Looks (model prog w) hh (typeOf (.ref x)) (.ref C) := I.type
  have L2 : Looks (model prog w) hh (typeOf (.int i t)) (.type "int") := Looks.of_pure rfl
  have L3 : Looks (model prog w) hh (fillsNumberSlot (.ref C) "mul") true := fills_K X hcd hmro hm
  have L4 : Looks (model prog w) hh (fillsNumberSlot (.type "int") "mul") true := Looks.of_pure F.fills_int_mul
  have L5 : Looks (model prog w) hh (isSubtype (.ref C) (.type "int")) false := looks_subIn X hsub
  have L6 : Looks (model prog w) hh (numberSlotInPython (.type "int") "mul") false := Looks.of_pure rfl
  have hne : (Value.type "int" == Value.ref C) = false := Bool.eq_false_iff.mpr fun q => by cases beq_iff_eq.mp q
  have hi : Operator.info .Mult = ("*", "mul") := rfl
  simp only [binaryOp, hi]
  refine wpAny_holding (wpAny_bind ?_)
  unfold binaryOp1
  refine wpAny_bind (L2.at (wpAny_bind (L1.at (wpAny_bind (L4.at ?_)))))
  simp only [hne, Bool.false_eq_true, if_false]
  refine wpAny_bind (L3.at ?_)
  simp only [Bool.and_self, if_true]
  refine wpAny_bind (L5.at ?_)
  simp only [Bool.false_eq_true, if_false]
  repeat ((fail_if_success (with_reducible show wpAny _ _ (tryMethod _ _ _) _ _ _)); lk)
  refine no ?_
  repeat ((fail_if_success (with_reducible show wpAny _ _ (tryMethod _ _ _) _ _ _)); lk)
  refine wpAny_mono one (fun r s' hr' => ?_) fun _ _ e => e
  obtain ⟨v, rfl, hq⟩ := hr'
  repeat lk
  exact hq
end
section
variable {X : Cx} {k : Nat} {f C : Addr} {ps : List Str} {sp : Sp}
def rOwnR (C : Addr) (sp : Sp) (E : XK) : R2 := fun x y H Q => ∃ i a dx fs, x = .int i ∧ y = .ref a ∧ H a = some (.ins C dx fs) ∧ sp [.ref a, .int i] H Q E
theorem k_rmul (G : Okf X.prog X.w X.K X.mg X.base k f ps sp) (hr : Room k X.A) (hc : PySem.W.selfFirst X.K C = true) (hs : PySem.W.findIn X.K (.ref C) "__rmul__" = some (some (.ref f))) (hf : PySem.W.isFn X.K (.ref f) = true)
    (hm : ∃ fm : Addr, PySem.W.findIn X.K (.ref C) "__mul__" = some (some (.ref fm))) (hsub : PySem.W.subIn X.K (.ref C) (.type "int") = some false) : OpR X (binaryOp .Mult) (rOwnR C sp E0) := by
  obtain ⟨fd, F, hb⟩ := G
  obtain ⟨fm, hm⟩ := hm
  intro pins s σ H x y v u Q I rx ry h
  obtain ⟨i, a, dx, fs, rfl, rfl, ha, q⟩ := h
  cases ry
  obtain ⟨t, rfl⟩ := rx
  obtain ⟨mA, J0, _⟩ := ins_get I.hok ha
  obtain ⟨_, _, _, ho, _⟩ := (show ObjOk X.prog X.w H s.heap a (.ins C dx fs) from I.hok a _ ha)
  obtain ⟨od, J, _⟩ := J0.look
  refine bin_rmul I.kIn J ho hc hm hs hf hsub ?_
  exact wpAny_mono (run_fn (us := [.ref a, .int i t]) (vs := [.ref a, .int i]) F hr hb .nil passL I (.cons rfl (.cons ⟨t, rfl⟩ .nil)) q) (fun v s' hv => back_ne hv) fun _ _ e => e
end
end Hn

/-! Objects of one row of ints in one field (Needs, Plan); pairs; isinstance of own classes. -/
namespace Hn
open PySem PySem.Spec PyProof.Rows L2 Evl
/-- what isinstance(x, C) asks of a class C -/
structure IsC (K : PySem.W.Frag) (C : Addr) : Prop where
  cl : Cls K C
  ha : PySem.W.findIn K (.ref C) "__class__" = some (some (.builtin "object.__class__"))
  hn : PySem.W.specialIn K (.builtin "object.__class__") "__get__" = some (some (.builtin "getset_descriptor.__get__"))
  tk : PySem.W.takesIn K (.builtin "object.__class__") = some true
  mr : PySem.W.mroIn K C (.type "object") = some true
theorem r_isiOwn {K : PySem.W.Frag} {C a dx : Addr} {H : Hp} {fs : List (Str × V)} {Q : VK} (h : IsC K C) (ha : H a = some (.ins C dx fs)) (q : Q (.bl true) H) : rIsi K [.ref a, .ref C] H Q :=
  ⟨.ref a, .ref C, _, _, true, rfl, .own C, .base (.ins ha h.cl h.ha h.hn h.tk h.mr), by unfold PySem.W.kitOne; rw [if_pos (beq_self_eq_true _)], q⟩
/-- a row of needs or begins -/
structure GoodN (ns : List Int) : Prop where
  ne : 1 ≤ ns.length
  le : ns.length ≤ 48
  nn : ∀ i, 0 ≤ cyc ns i
theorem GoodN.mem {ns : List Int} (g : GoodN ns) : ∀ x ∈ ns, 0 ≤ x := fun x hx => by
  obtain ⟨j, hj, rfl⟩ := List.mem_iff_getElem.mp hx
  have := g.nn (j : Int)
  rw [cyc_at hj, List.getD_eq_getElem?_getD, List.getElem?_eq_getElem hj] at this
  exact this
theorem GoodN.of {ns : List Int} (h1 : 1 ≤ ns.length) (h2 : ns.length ≤ 48) (h : ∀ x ∈ ns, 0 ≤ x) : GoodN ns := ⟨h1, h2, fun i => h _ (cyc_mem h1 i)⟩
def okRow (ns : List Int) : Bool := decide (1 ≤ ns.length) && decide (ns.length ≤ 48) && ns.all fun x => decide (0 ≤ x)
theorem okRow_iff {s : List Int} : okRow s = true ↔ GoodN s := by
  unfold okRow
  simp only [Bool.and_eq_true, decide_eq_true_eq, List.all_eq_true]
  constructor
  · rintro ⟨⟨a, b⟩, c⟩
    exact GoodN.of a b c
  · intro g
    exact ⟨⟨g.ne, g.le⟩, g.mem⟩
def rwF (fld : Str) (a : Addr) : List (Str × V) := putF fld (.ref a) []
theorem rwF_at (fld : Str) (a : Addr) : (rwF fld a).lookup fld = some (.ref a) := by
  unfold rwF
  rw [lookup_putF, if_pos rfl]
theorem rwF_no {fld m : Str} (a : Addr) (h : ¬ m = fld) : (rwF fld a).lookup m = none := by
  unfold rwF
  rw [lookup_putF, if_neg h]
  rfl
/-- an object whose one field holds the row ns -/
def Rw (K : PySem.W.Frag) (C : Addr) (fld : Str) (H : Hp) (v : V) (ns : List Int) : Prop :=
  ∃ p dx a, v = .ref p ∧ H p = some (.ins C dx (rwF fld a)) ∧ SqT K H a (ns.map V.int) ∧ GoodN ns
section
variable {K : PySem.W.Frag} {C : Addr} {fld : Str} {H H' : Hp} {v : V} {ns : List Int}
theorem Rw.mono (e : Xl H H') (h : Rw K C fld H v ns) : Rw K C fld H' v ns :=
  let ⟨p, dx, a, h1, h2, h3, h4⟩ := h
  ⟨p, dx, a, h1, e _ _ h2 rfl, tup_mono e h3, h4⟩
theorem Rw.ex (e : Ex H H') (h : Rw K C fld H v ns) : Rw K C fld H' v ns := h.mono (.of e)
theorem Rw.good (h : Rw K C fld H v ns) : GoodN ns := let ⟨_, _, _, _, _, _, g⟩ := h; g
theorem r_rwM {m : Str} {p : Prop} (h : Rw K C fld H v ns) (hm : ¬ m = fld) (q : p) : ∃ a dx fs, v = .ref a ∧ H a = some (.ins C dx fs) ∧ fs.lookup m = none ∧ p :=
  let ⟨x, dx, a, e, hp, _⟩ := h
  ⟨x, dx, _, e, hp, rwF_no a hm, q⟩
theorem r_rwG {p : Prop} (h : Rw K C fld H v ns) (q : p) : ∃ a dx fs, v = .ref a ∧ H a = some (.ins C dx fs) ∧ p :=
  let ⟨x, dx, _, e, hp, _⟩ := h
  ⟨x, dx, _, e, hp, q⟩
theorem r_rwP {p : Addr → Prop} (h : Rw K C fld H v ns) (q : ∀ a, v = .ref a → p a) : ∃ a dx fs, v = .ref a ∧ H a = some (.ins C dx fs) ∧ p a :=
  let ⟨x, dx, _, e, hp, _⟩ := h
  ⟨x, dx, _, e, hp, q x e⟩
/-- its field -/
theorem r_rwF {p : V → Prop} (h : Rw K C fld H v ns) (cl : Cls K C) (na : NoAttr K C fld) (q : ∀ a, SqT K H a (ns.map V.int) → p (.ref a)) : ∃ a C dx fs u, v = .ref a ∧ H a = some (.ins C dx fs) ∧ Cls K C ∧ NoAttr K C fld ∧ fs.lookup fld = some u ∧ p u :=
  let ⟨x, dx, a, e, hp, ha, _⟩ := h
  ⟨x, C, dx, _, _, e, hp, cl, na, rwF_at fld a, q a ha⟩
/-- an own operator of two -/
theorem r_own2 {fld' : Str} {w : V} {ms : List Int} {sp : Sp} {E : XK} {Q : VK} (h : Rw K C fld H v ns) (h' : Rw K C fld' H w ms) (q : sp [v, w] H Q E) : rOwn C sp E v w H Q := by
  obtain ⟨x, dx, a, rfl, hp, _⟩ := h
  obtain ⟨y, dy, b, rfl, hq, _⟩ := h'
  exact ⟨x, y, dx, dy, _, _, rfl, rfl, hp, hq, q⟩
theorem r_own2N {fld' : Str} {w : V} {ms : List Int} {sp : Sp} {E : XK} {Q : VK} (h : Rw K C fld H v ns) (h' : Rw K C fld' H w ms) (q : sp [v, w] H (fun x H' => ∃ r, x = .bl r ∧ Q (.bl (!r)) H') E) : rOwnNe C sp E v w H Q := by
  obtain ⟨x, dx, a, rfl, hp, _⟩ := h
  obtain ⟨y, dy, b, rfl, hq, _⟩ := h'
  exact ⟨x, y, dx, dy, _, _, rfl, rfl, hp, hq, q⟩
theorem r_ownI {i : Int} {sp : Sp} {E : XK} {Q : VK} (h : Rw K C fld H v ns) (q : sp [v, .int i] H Q E) : rOwnI C sp E v (.int i) H Q := by
  obtain ⟨x, dx, a, rfl, hp, _⟩ := h
  exact ⟨x, i, dx, _, rfl, rfl, hp, q⟩
theorem r_ownR {i : Int} {sp : Sp} {E : XK} {Q : VK} (h : Rw K C fld H v ns) (q : sp [v, .int i] H Q E) : rOwnR C sp E (.int i) v H Q := by
  obtain ⟨x, dx, a, rfl, hp, _⟩ := h
  exact ⟨i, x, dx, _, rfl, rfl, hp, q⟩
theorem r_lenO {sp : Sp} {E : XK} {Q : VK} (h : Rw K C fld H v ns) (q : sp [v] H (fun x H' => ∃ n : Int, x = .int n ∧ 0 ≤ n ∧ n < 2 ^ 63 ∧ Q (.int n) H') E) : rLenO C sp E [v] H Q := by
  obtain ⟨x, dx, a, rfl, hp, _⟩ := h
  exact ⟨x, dx, _, rfl, hp, q⟩
end
def MkRw (K : PySem.W.Frag) (C : Addr) (fld : Str) (H : Hp) (v : V) (Q : Addr → Hp → Prop) : Prop := ∃ a s, v = .ref a ∧ Sq K H a (s.map V.int) ∧ GoodN s ∧ ∀ u H', Ex H H' → Rw K C fld H' (.ref u) s → Q u H'
def spRwInit (K : PySem.W.Frag) (C : Addr) (fld : Str) : Sp := fun vs H Q _ => ∃ (H0 : Hp) (x dx a : Addr) (s : List Int), vs = [.ref x, .ref a] ∧ H = upd (upd H0 dx (.own x)) x (.ins C dx []) ∧ H0 x = none ∧ H0 dx = none ∧ dx ≠ x ∧ Sq K H0 a (s.map V.int) ∧ GoodN s ∧
  ∀ H', Ex H0 H' → Rw K C fld H' (.ref x) s → Q .non H'
theorem mkRw {K : PySem.W.Frag} {C : Addr} {fld : Str} {H : Hp} {v : V} {Q : Addr → Hp → Prop} {E : XK} (h : MkRw K C fld H v Q) : ∀ x dx, H x = none → H dx = none → dx ≠ x → spRwInit K C fld (.ref x :: ([v] ++ [])) (upd (upd H dx (.own x)) x (.ins C dx [])) (fun v H2 => v = .non ∧ Q x H2) E := by
  intro x dx nx ndx ne
  obtain ⟨a, s, rfl, hS, g, k⟩ := h
  exact ⟨H, x, dx, a, s, rfl, rfl, nx, ndx, ne, hS, g, fun H' e c => ⟨rfl, k _ _ e c⟩⟩
/-! ### a list of pairs of ints -/
def Prs (H : Hp) (p : Addr) (ns ms : List Int) : Prop := ∃ ts : List Addr, H p = some (.lst (ts.map V.ref)) ∧ ts.length = ns.length ∧ ∀ (j : Nat) t, ts[j]? = some t → H t = some (.tup [.int (ns.getD j 0), .int (ms.getD j 0)])
theorem Prs.ex {H H' : Hp} {p : Addr} {ns ms : List Int} (e : Ex H H') (h : Prs H p ns ms) : Prs H' p ns ms :=
  let ⟨ts, h1, h2, h3⟩ := h
  ⟨ts, e _ _ h1, h2, fun j t ht => e _ _ (h3 j t ht)⟩
theorem r_pairT {K : PySem.W.Frag} {σ : L2.St} {H : Hp} {T : Addr} {x y : V} {n m : Nat} {q : L2.St → Hp → Prop} (hT : H T = some (.tup [x, y])) (h : q ((σ.set n (some x)).set m (some y)) H) : gTup K 2 (gCons (gName n) (gCons (gName m) gNil)) (.ref T) σ H q :=
  ⟨T, [x, y], rfl, .inl (.inl hT), rfl, x, [y], rfl, y, [], rfl, rfl, h⟩
/-- a comprehension over such pairs -/
theorem lc_prs {K : PySem.W.Frag} {g : TG} {te : TE} {vs : List Nat} {σ : L2.St} {H1 : Hp} {Q : VK} {p : Addr} {ns ms : List Int} (hP : Prs H1 p ns ms) (f : Nat → V) (hn : ns.length ≤ 100000)
    (turn : ∀ i T H, i < ns.length → Ex H1 H → H T = some (.tup [.int (ns.getD i 0), .int (ms.getD i 0)]) → ∀ k : VK, (∀ H4, Ex H H4 → k (f i) H4) → g (.ref T) (wipe σ vs) H fun σ2 H2 => wipe σ2 vs = wipe σ vs ∧ te σ2 H2 k)
    (fin : ∀ D H, H1 D = none → Ex H1 H → H D = some (.lst ((List.range ns.length).map f)) → Q (.ref D) H) : ∃ a, V.ref p = .ref a ∧ (∃ xs, SqL K H1 a xs) ∧ LcTail (Itl K a) H1 g tYes te vs σ Q := by
  obtain ⟨ts, h1, h2, h3⟩ := hP
  refine ⟨p, rfl, ⟨_, .inl (.inl h1)⟩, lc_fun (walk_list (xs := ts.map V.ref)) f (fun H e => .inl (.inl (e _ _ h1))) (by rw [List.length_map]; omega) ?_ ?_⟩
  · rintro i x H H' hi e ⟨rfl, hx⟩ k hk
    rw [List.length_map] at hi
    rw [List.getElem?_map] at hx
    cases ht : ts[i]? with
    | none => rw [ht] at hx; cases hx
    | some T =>
      rw [ht] at hx
      obtain rfl := Option.some.inj hx
      exact turn i T _ (by omega) e (e _ _ (h3 i T ht)) k hk
  · intro D H nD e hD
    rw [List.length_map, h2] at hD
    exact fin D H nD e hD
/-! ### rows reckoned -/
def zipR (f : Int → Int → Int) (s t : List Int) : List Int := rowOf s.length fun i => f (cyc s i) (cyc t i)
def mapR (f : Int → Int) (s : List Int) : List Int := rowOf s.length fun i => f (cyc s i)
theorem zipR_length (f : Int → Int → Int) (s t : List Int) : (zipR f s t).length = s.length := rowOf_length _ _
theorem mapR_length (f : Int → Int) (s : List Int) : (mapR f s).length = s.length := rowOf_length _ _
theorem cyc_zipR {f : Int → Int → Int} {s t : List Int} (h : 1 ≤ s.length) (hl : t.length = s.length) (i : Int) : cyc (zipR f s t) i = f (cyc s i) (cyc t i) := by
  unfold zipR
  rw [cyc_rowOf _ h, cyc_mod]
  rw [← hl, cyc_mod]
theorem cyc_mapR {f : Int → Int} {s : List Int} (h : 1 ≤ s.length) (i : Int) : cyc (mapR f s) i = f (cyc s i) := by
  unfold mapR
  rw [cyc_rowOf _ h, cyc_mod]
theorem GoodN.zip {f : Int → Int → Int} {s t : List Int} (g : GoodN s) (gt : GoodN t) (hl : t.length = s.length) (h : ∀ a b, 0 ≤ a → 0 ≤ b → 0 ≤ f a b) : GoodN (zipR f s t) := by
  refine ⟨by rw [zipR_length]; exact g.ne, by rw [zipR_length]; exact g.le, fun i => ?_⟩
  rw [cyc_zipR g.ne hl]
  exact h _ _ (g.nn i) (gt.nn i)
theorem GoodN.map {f : Int → Int} {s : List Int} (g : GoodN s) (h : ∀ a, 0 ≤ a → 0 ≤ f a) : GoodN (mapR f s) := by
  refine ⟨by rw [mapR_length]; exact g.ne, by rw [mapR_length]; exact g.le, fun i => ?_⟩
  rw [cyc_mapR g.ne]
  exact h _ (g.nn i)
theorem GoodN.turn {s : List Int} (g : GoodN s) (b : Int) : GoodN (turnS s b) := by
  refine ⟨by rw [turnS_length]; exact g.ne, by rw [turnS_length]; exact g.le, fun i => ?_⟩
  rw [cyc_turn g.ne]
  exact g.nn _
theorem GoodN.rev {s : List Int} (g : GoodN s) : GoodN s.reverse := by
  refine ⟨by rw [List.length_reverse]; exact g.ne, by rw [List.length_reverse]; exact g.le, fun i => ?_⟩
  rw [cyc_rev g.ne]
  exact g.nn _
theorem row_lit {n : Nat} (f : Int → Int) : (rowOf n f).map V.int = (List.range n).map fun (i : Nat) => V.int (f (i : Int)) := by
  unfold rowOf
  rw [List.map_map]
  rfl
theorem getD_cyc {s : List Int} {i : Nat} (h : i < s.length) : s.getD i 0 = cyc s (i : Int) := (cyc_at h).symm
/-! ### rows by their items -/
section
variable {n : Nat} {a b : Int → Int}
theorem rowOf_inj : rowOf n a = rowOf n b ↔ ∀ j : Nat, j < n → a (j : Int) = b (j : Int) := by
  refine ⟨fun h j hj => ?_, fun h => rowOf_congr fun i h0 h1 => ?_⟩
  · rw [← rowOf_getD a hj, ← rowOf_getD b hj, h]
  · have := h i.toNat (by omega)
    rw [show ((i.toNat : Nat) : Int) = i by omega] at this
    exact this
theorem row_ne (g : GoodN (rowOf n a)) : 1 ≤ n := by
  have := g.ne
  rw [rowOf_length] at this
  exact this
theorem cyc_row {i : Int} (h0 : 0 ≤ i) (h1 : i < (n : Int)) : cyc (rowOf n a) i = a i := by
  rw [cyc_rowOf a (by omega), Int.emod_eq_of_lt h0 h1]
theorem zipR_row (f : Int → Int → Int) : zipR f (rowOf n a) (rowOf n b) = rowOf n fun i => f (a i) (b i) := by
  unfold zipR
  rw [rowOf_length]
  exact rowOf_congr fun i h0 h1 => by rw [cyc_row h0 h1, cyc_row h0 h1]
theorem mapR_row (f : Int → Int) : mapR f (rowOf n a) = rowOf n fun i => f (a i) := by
  unfold mapR
  rw [rowOf_length]
  exact rowOf_congr fun i h0 h1 => by rw [cyc_row h0 h1]
theorem turnS_row (h : 1 ≤ n) (c : Int) : turnS (rowOf n a) c = rowOf n fun i => a ((i + c) % (n : Int)) := by
  unfold turnS
  rw [rowOf_length]
  exact rowOf_congr fun i _ _ => by rw [cyc_rowOf a h]
theorem rev_row : (rowOf n a).reverse = rowOf n fun i => a ((n : Int) - 1 - i) := by
  refine row_ext _ (by rw [List.length_reverse, rowOf_length]) fun j hj => ?_
  rw [List.getD_eq_getElem?_getD, List.getElem?_reverse (by rw [rowOf_length]; exact hj), ← List.getD_eq_getElem?_getD, rowOf_length, rowOf_getD a (by omega)]
  congr 1
  omega
def wthn (n : Nat) (a b : Int → Int) : Bool := (List.range n).all fun (j : Nat) => decide (a (j : Int) ≤ b (j : Int))
theorem wthn_iff : wthn n a b = true ↔ ∀ j : Nat, j < n → a (j : Int) ≤ b (j : Int) := by
  unfold wthn
  simp only [List.all_eq_true, List.mem_range, decide_eq_true_eq]
theorem all_row : ((List.range (rowOf n a).length).all fun i => decide ((rowOf n a).getD i 0 ≤ (rowOf n b).getD i 0)) = wthn n a b := by
  rw [rowOf_length]
  unfold wthn
  rw [Bool.eq_iff_iff, List.all_eq_true, List.all_eq_true]
  refine ⟨fun h j hj => ?_, fun h j hj => ?_⟩
  · have := h j hj
    rw [rowOf_getD a (List.mem_range.mp hj), rowOf_getD b (List.mem_range.mp hj)] at this
    exact this
  · rw [rowOf_getD a (List.mem_range.mp hj), rowOf_getD b (List.mem_range.mp hj)]
    exact h j hj
/-- by | and by & -/
theorem wthn_or : decide (rowOf n (fun i => if b i > a i then b i else a i) = rowOf n b) = wthn n a b := by
  rw [Bool.eq_iff_iff, decide_eq_true_eq, rowOf_inj, wthn_iff]
  refine ⟨fun h j hj => ?_, fun h j hj => ?_⟩
  · have := h j hj
    split at this <;> omega
  · have := h j hj
    split <;> omega
theorem wthn_and : decide (rowOf n (fun i => if b i < a i then b i else a i) = rowOf n b) = wthn n b a := by
  rw [Bool.eq_iff_iff, decide_eq_true_eq, rowOf_inj, wthn_iff]
  refine ⟨fun h j hj => ?_, fun h j hj => ?_⟩
  · have := h j hj
    split at this <;> omega
  · have := h j hj
    split <;> omega
end
theorem r_same {p : Prop} {A B : Prop} [Decidable p] (h : p) (q : B) : if (!decide p) = true then A else B := by
  rw [decide_eq_true h]
  exact iteF q
theorem r_sameB {x y : Bool} {A B : Prop} (h : x = y) (q : B) : if (!decide (x = y)) = true then A else B := r_same h q
theorem r_yesB {x : Bool} {A B : Prop} (h : x = true) (q : A) : if x = true then A else B := by
  rw [h]
  exact iteT q
theorem r_notB {x : Bool} {A B : Prop} (h : x = true) (q : B) : if (!x) = true then A else B := by
  rw [h]
  exact iteF q
theorem r_fin {Q : VK} {H : Hp} {b : Bool} (h : b = true) (q : Q (.bl true) H) : Q (.bl b) H := by
  rw [h]
  exact q
/-! ### rows cut and bumped; products -/
/-- the begins times the dues -/
def dot (n : Nat) (a b : Int → Int) : Int := Sg n fun i => a i * b i
theorem cut_take {xs : List V} {h : Int} (h0 : 0 ≤ h) (h1 : h ≤ (xs.length : Int)) : cutV xs none (some h) = xs.take h.toNat := by
  obtain ⟨k, rfl⟩ : ∃ k : Nat, h = (k : Int) := ⟨h.toNat, by omega⟩
  unfold cutV
  rw [HT.sIx_none, show HT.sIx xs.length xs.length (some (k : Int)) = min k xs.length from HT.sIx_nat xs.length xs.length k]
  rw [List.drop_zero, Nat.sub_zero, Int.toNat_natCast, Nat.min_eq_left (by omega)]
theorem cut_drop {xs : List V} {h : Int} (h0 : 0 ≤ h) (h1 : h ≤ (xs.length : Int)) : cutV xs (some h) none = xs.drop h.toNat := by
  obtain ⟨k, rfl⟩ : ∃ k : Nat, h = (k : Int) := ⟨h.toNat, by omega⟩
  unfold cutV
  rw [HT.sIx_none, show HT.sIx xs.length 0 (some (k : Int)) = min k xs.length from HT.sIx_nat xs.length 0 k]
  rw [Int.toNat_natCast, Nat.min_eq_left (by omega)]
  exact List.take_of_length_le (by rw [List.length_drop]; omega)
theorem set_row {n : Nat} {a : Int → Int} {h : Nat} (hh : h < n) (z : Int) : ((rowOf n a).take h ++ [z]) ++ (rowOf n a).drop (h + 1) = rowOf n fun i => if i = (h : Int) then z else a i := by
  have hl := rowOf_length n a
  refine row_ext _ (by simp only [List.length_append, List.length_take, List.length_drop, List.length_singleton, hl]; omega) fun j hj => ?_
  have hg : ∀ i, i < n → (rowOf n a)[i]? = some (a (i : Int)) := fun i hi => by
    have := rowOf_getD a hi
    rw [List.getD_eq_getElem?_getD, List.getElem?_eq_getElem (by omega)] at this
    rw [List.getElem?_eq_getElem (by omega)]
    exact congrArg some this
  rw [List.getD_eq_getElem?_getD]
  have tl : ((rowOf n a).take h).length = h := by rw [List.length_take]; omega
  rcases Nat.lt_trichotomy j h with q | q | q
  · rw [List.append_assoc, List.getElem?_append_left (by omega), List.getElem?_take_of_lt q, hg j hj]
    show a j = _
    rw [if_neg (by omega)]
  · subst q
    rw [List.append_assoc, List.getElem?_append_right (by omega), tl, Nat.sub_self, if_pos rfl]
    rfl
  · rw [List.getElem?_append_right (by rw [List.length_append, tl, List.length_singleton]; omega), List.length_append, tl, List.length_singleton, List.getElem?_drop, show h + 1 + (j - (h + 1)) = j by omega, hg j hj, if_neg (by omega)]
    rfl
theorem Sg_one {n : Nat} {h : Nat} (hh : h < n) (f : Int → Int) : Sg n (fun i => if i = (h : Int) then f i else 0) = f (h : Int) := by
  induction n with
  | zero => omega
  | succ n ih =>
    show Sg n _ + (if (n : Int) = (h : Int) then f n else 0) = _
    by_cases q : h = n
    · subst q
      rw [if_pos rfl]
      have e : Sg h (fun i => if i = (h : Int) then f i else 0) = Sg h (fun _ => 0) := Sg_congr fun i _ h1 => if_neg (by omega)
      rw [e, Sg_zero]
      omega
    · rw [if_neg (by omega), ih (by omega)]
      omega
end Hn

/-! Defs whose promise needs to know more of the place of the call; list(x) and tuple(x) of own classes that hand out a tuple's iterator. -/
namespace Hn
open PySem PySem.Spec PyProof.Rows L2 Evl
/-- the def at f keeps its promise wherever Pre stands -/
def OkP (Pre : Around → Shared → Prop) (P : Program) (w : World) (K : PySem.W.Frag) (mg : Str → Option Value) (base : Heap) (k : Nat) (f : Addr) (ps : List Str) (sp : Sp) : Prop :=
  ∃ fd, Binds K fd ps [] ∧ (∀ vs H Q E, sp vs H Q E → vs.length = ps.length) ∧ ∀ (A : Around) (out : List Env) (s : Shared) (H : Hp) (ag : Args) (us : List Value) (vs : List V) (Q : VK) (E : XK), Pre A s → Room k A → Env0 P w K mg base A out s H → BindsTo s fd ag (ps.zip us) → Vals vs us → sp vs H Q E →
    codeAny (model P w) A (.call (.ref f) ag) (CR CX0 out P w H s Q E) s
section
variable {P : Program} {w : World} {K : PySem.W.Frag} {mg : Str → Option Value} {base : Heap} {Pre : Around → Shared → Prop}
theorem okP_of {x qual : Str} {st : Stmt} {f : Addr} {N ps : List Str} {k : Nat} {sp : Sp} (D : Df K x qual st f ps) (S : FnScope N ps (defScope st)) (len : ∀ vs H Q E, sp vs H Q E → vs.length = ps.length)
    (hbody : ∀ (cdv : Value) (A : Around) (out : List Env) (s : Shared) (H : Hp) (vs : List V) (Q : VK) (E : XK), Pre A s → Room k (A.deeper (envOfC qual (defScope st) s.heap.objs.size f cdv)) → sp vs H Q E →
      ∃ t, PSs (cxOf CX0 P w K mg base N qual (defScope st) f cdv A out s H E).nox (defBody st) t ∧ t { nx := fun _ H' => Q .non H', rt := Q } (start N vs) H) : OkP Pre P w K mg base (k + 1) f ps sp := by
  obtain ⟨fd, F, bd⟩ := D
  refine ⟨fd, bd, len, ?_⟩
  obtain ⟨oc, od, kV, doc, pm, an, cdv, ct, osl, rfl, lk, hcd⟩ := F.ex
  intro A out s H ag us vs Q E pre room env bnd rel hsp
  have ll := len _ _ _ _ hsp
  have inK : K.In s.heap := env.mod.kin.keeps fun b o e => (env.bs b o e).1
  have nol : s.heap.NoLimit := env.mod.nolimit.keeps fun b o e => (env.bs b o e).1
  have kinds : ∀ y ∈ ps.zip us, (defScope st).names.lookup y.1 = some .local ∨ ((defScope st).names.lookup y.1 = some .cell ∧ ((cellsFrom (s.heap.objs.size + 1) (defScope st).names []).lookup y.1).isSome = true) := fun y hy => by
    rcases S.par y.1 (List.of_mem_zip (a := y.1) (b := y.2) hy).1 with z | z
    · exact Or.inl z
    · exact Or.inr ⟨z, PySem.W.cellsFrom_some _ _ _ (Or.inl z)⟩
  refine codeAny_call_function room.depth (inK _ _ lk) rfl S.co S.gen rfl (PySem.W.codeRec_of inK hcd) (bnd _ _ _ _ ?_)
  refine wpAny_newFunctionEnv_cells S.kind kinds fun env1 he s1 x1 => ?_
  subst he
  refine ⟨nol.keeps x1.toInCall.keep, codeAny_func ?_⟩
  obtain ⟨t, tt, qq⟩ := hbody cdv A out s H vs Q E pre (room.deeper _) hsp
  have J : Inv (cxOf CX0 P w K mg base N qual (defScope st) f cdv A out s H E) [] (start N vs) H s1 := inv_start S room.hd env ll rel x1
  refine wpAny_mono (tt.nox.run [] s1 (start N vs) H _ J qq) (fun fl s' hs => ?_) fun e s' hs => hs
  have done : ∀ {σ' : L2.St} {H' : Hp} {v : V} {u : Value}, Inv (cxOf CX0 P w K mg base N qual (defScope st) f cdv A out s H E) [] σ' H' s' → RelV v u → Q v H' → CE out P w H s Q u s' :=
    fun {σ' H' v u} J rv q => ⟨v, H', J.os, J.bare, J.base, J.hok, rv, q⟩
  cases fl with
  | ret u =>
    obtain ⟨v, σ', H', J', rv, q⟩ := hs
    exact done J' rv q
  | next =>
    obtain ⟨σ', H', J', q⟩ := hs
    exact done (v := V.non) (u := Value.none) J' rfl q
  | brk =>
    obtain ⟨_, _, _, z⟩ := hs
    exact z.elim
  | cont =>
    obtain ⟨_, _, _, z⟩ := hs
    exact z.elim
end
/-- a tuple's iterator that has given nothing yet -/
def ItT (l it : Addr) : HO := .ext fun h => h.get? it = some { cls := .type "tuple_iterator", data := .fields #[.ref l, .int 0 0] }
theorem itT_ok {P : Program} {w : World} {H : Hp} {h : Heap} {l it : Addr} (e : h.get? it = some { cls := .type "tuple_iterator", data := .fields #[.ref l, .int 0 0] }) : ObjOk P w H h it (ItT l it) := ⟨e, ⟨_, e⟩, fun _ _ q k => k _ q⟩
theorem call_iterT0 {prog : Program} {w : World} {A : Around} {E : Value → Shared → Prop} {s : Shared} {l : Addr} {items : Array Value} {Q : Value → Shared → Prop} (hl : s.heap.IsTuple l items)
    (h : Q (.ref s.heap.objs.size) { s with heap := s.heap.push { cls := .type "tuple_iterator", data := .fields #[.ref l, .int 0 0] } }) : wpAny (model prog w) A (call (.builtin "iter") [.ref l]) Q E s := by
  refine Calls.call_function_entry (by decide +kernel) (by decide +kernel) PySem.W.kdk_entry_iter (PySem.W.kdk_args_iter _) ?_
  unfold Builtin.«iter»
  refine wpAny_bind (m := someArgs "iter" 1 2 _) (wpAny_of_eq (a := [Value.ref l]) (by first | rfl | kernel_rfl!) ?_)
  exact wpAny_bind (wpAny_pyIter_tuple hl (wpAny_pure ⟨_, rfl, h⟩))
def rIterT (K : PySem.W.Frag) (n : Nat) : List V → Hp → VK → Prop := fun xs H Q => ∃ (l : Addr) (zs : List V), xs = [.ref l] ∧ SqT K H l zs ∧ ∀ it, H it = none → n ≤ it → Q (.ref it) (upd H it (ItT l it))
section
variable {X : Cx} {K : PySem.W.Frag} {n k : Nat}
theorem k_iterT (hK : X.K = K) (hn : n ≤ X.s_0.heap.objs.size) : CallR X (.builtin "iter") (rIterT K n) := by
  subst hK
  intro pins s σ H xs us Q I r h
  obtain ⟨l, zs, rfl, hq, q⟩ := h
  rw [Vals.ref1 r]
  obtain ⟨its, rv, pl, hz⟩ := I.tuple hq
  refine call_iterT0 (show s.heap.IsTuple l its.toArray from pl) ?_
  exact ⟨.ref s.heap.objs.size, _, I.laid (t' := s.toks) (fun b u e => Heap.get?_push_of_some _ e) (Nat.le_refl _) (itT_ok (Heap.get?_push_size _ rfl)), rfl, q _ (I.hok.fresh (Nat.le_refl _)) (Nat.le_trans hn I.sz)⟩
/-- the tuple's iterator fills the list at q -/
theorem tl_loop {pins : List (Addr × Obj)} {σ : L2.St} {H : Hp} {A : Around} {R : Result → Shared → Prop} {q it l : Addr} {xs : List V} (hc : A.handled = none) (hl : SqT X.K H l xs) (hq : H q = none) (hz : xs.length < sizeLine)
    (hR : ∀ s, Inv X pins σ (upd H q (.lst xs)) s → R (.ok (.ret .none)) s) :
    ∀ (k i : Nat) (s : Shared), xs.length - i = k → i ≤ xs.length → Inv X pins σ (upd H q (.lst (xs.take i))) s → FpOk X pins (upd H q (.lst (xs.take i))) it → s.heap.IsTupleIter it l i →
      codeAny (model X.prog X.w) A (.builtin "list.extend.loop" ⟨[.ref q, .ref it, .none], []⟩) R s := by
  have hl' : ∀ ys, SqT X.K (upd H q (.lst ys)) l xs := fun ys => ex_t (Ex.new hq) hl
  intro k
  induction k with
  | zero =>
    intro i s hk hi I fp st
    obtain rfl : i = xs.length := by omega
    rw [List.take_length] at I fp
    obtain ⟨its, rv, p, _⟩ := I.tuple (hl' xs)
    obtain ⟨f0, f1, f2, f3, f4, f5⟩ := id fp
    have ln := rv.length
    refine codeAny_builtin PySem.F.entry_extend_loop ?_
    rw [Around.under_plainId PySem.F.plain_extend_loop _]
    show wpAny _ A.in1 (pyNext (.ref it) >>= _) _ _ _
    refine wpAny_bind (wpAny_pyNext_tuple_end (A := A.in1) hc st (show s.heap.IsTuple l its.toArray from p) (by simp; omega) fun h' eb => ?_)
    exact wpAny_pure (hR _ (I.turned (t' := s.toks) (fun b o hb e => eb b o hb e) f0 f1 f3 f4 f5))
  | succ k ih =>
    intro i s hk hi I fp st
    have hlt : i < xs.length := by omega
    obtain ⟨its, rv, p, _⟩ := I.tuple (hl' (xs.take i))
    have hx : xs[i]? = some xs[i] := List.getElem?_eq_getElem hlt
    obtain ⟨u, hu, ru⟩ := rv.get hx
    obtain ⟨f0, f1, f2, f3, f4, f5⟩ := id fp
    refine codeAny_builtin PySem.F.entry_extend_loop ?_
    rw [Around.under_plainId PySem.F.plain_extend_loop _]
    show wpAny _ A.in1 (pyNext (.ref it) >>= _) _ _ _
    refine wpAny_bind (wpAny_pyNext_tuple_item st (show s.heap.IsTuple l its.toArray from p) (x := u) (by simpa using hu) fun h' st' sb => ?_)
    have I1 : Inv X pins σ (upd H q (.lst (xs.take i))) { s with heap := h' } := I.turned (t' := s.toks) (fun b o hb e => (sb.2 b hb).trans e) f0 f1 f3 f4 f5
    show wpAny _ A.in1 (updateSeq q (·.push u) >>= _) _ _ _
    obtain ⟨z, its2, n2, r2, l2, e2⟩ := I1.lstM upd_same
    have tl : (xs.take i).length = i := by rw [List.length_take]; omega
    have nq : it ≠ q := fun z => by rw [z, upd_same] at f0; cases f0
    have I2 := I1.lset (f := (·.push u)) (its' := its2 ++ [u]) (ys := xs.take i ++ [xs[i]]) (t' := s.toks) upd_same e2 (by simp) (r2.append (.cons ru .nil)) (by rw [List.length_append, List.length_singleton]; omega)
    rw [upd_upd] at I2
    have tk : xs.take i ++ [xs[i]] = xs.take (i + 1) := by rw [List.take_succ, hx]; rfl
    rw [tk] at I2
    refine wpAny_bind (wpAny_updateSeq e2 rfl (wpAny_pure ⟨plainId_quiet PySem.F.plain_extend_loop _, ih (i + 1) _ (by omega) hlt I2 ⟨by rw [upd_ne nq]; rw [upd_ne nq] at f0; exact f0, f1, f2, f3, f4, f5⟩ ?_⟩) (by rw [List.size_toArray]; omega) (by show (its2.toArray.push u).size ≤ sizeLine + 1; rw [Array.size_push, List.size_toArray]; omega))
    exact st'.at fun o e => (Heap.get?_update_other _ _ (Ne.symm nq)).trans e
end
/-! ### list(x) -/
/-- what list(x) asks: __iter__ hands out an iterator of a tuple of xs, __len__ some int, the heap stays -/
def rListO (K : PySem.W.Frag) (C : Addr) (spI : Nat → Sp) (spL : Sp) : List V → Hp → VK → Prop := fun vs H Q => ∃ a dx fs xs, vs = [.ref a] ∧ H a = some (.ins C dx fs) ∧ xs.length ≤ 1000 ∧
  (∀ n H' Q', Ex H H' → (∀ l it, SqT K H' l xs → H' it = none → n ≤ it → Q' (.ref it) (upd H' it (ItT l it))) → spI n [.ref a] H' Q' E0) ∧
  (∀ H' Q', Ex H H' → (∀ m : Int, 0 ≤ m → m ≤ 1000 → Q' (.int m) H') → spL [.ref a] H' Q' E0) ∧ ∀ q, H q = none → Q (.ref q) (upd H q (.lst xs))
/-- what a class needs for list(x) -/
structure ItK (K : PySem.W.Frag) (C fi fl : Addr) : Prop where
  it : PySem.W.findIn K (.ref C) "__iter__" = some (some (.ref fi))
  itF : PySem.W.isFn K (.ref fi) = true
  ln : PySem.W.findIn K (.ref C) "__len__" = some (some (.ref fl))
  lnF : PySem.W.isFn K (.ref fl) = true
section
variable {X : Cx} {k : Nat} {C fi fl : Addr} {psI psL : List Str} {spI : Nat → Sp} {spL : Sp}
/-- an own def run at a deeper place, Pre known -/
theorem run_pre {EE : Value → Shared → Prop} {Pre : Around → Shared → Prop} {pins : List (Addr × Obj)} {σ : L2.St} {H : Hp} {s : Shared} {Q : VK} {f : Addr} {ps : List Str} {sp : Sp} {A1 : Around} {us : List Value} {vs : List V} (G : OkP Pre X.prog X.w X.K X.mg X.base k f ps sp) (sb : Sub X k A1) (pre : Pre A1 s)
    (I : Inv X pins σ H s) (r : Vals vs us) (h : sp vs H Q E0) : wpAny (model X.prog X.w) A1 (call (.ref f) us) (EP X pins σ Q) EE s := by
  obtain ⟨fd, hb, hlen, run⟩ := G
  have e0 : Env0 X.prog X.w X.K X.mg X.base A1 X.stack s H := by
    have e := I.env0
    exact ⟨by rw [sb.fr]; exact e.frames, e.mod, e.bs, e.bsz, e.funs, e.frf, e.hok, e.bare⟩
  have hl : (us ++ []).length = ps.length := by
    rw [List.append_nil, ← r.length]
    exact hlen _ _ _ _ h
  have hb' := hb s us I.kIn hl
  rw [List.append_nil] at hb'
  refine wpAny_call (codeAny_mono (run A1 X.stack s H ⟨us, []⟩ us vs Q E0 pre sb.room e0 hb' r h) fun rr s' hq => ?_)
  cases rr with
  | error e => exact False.elim hq
  | ok fl =>
    cases fl with
    | ret u => exact I.after hq
    | next => exact False.elim hq
    | brk => exact False.elim hq
    | cont => exact False.elim hq
/-- the same for a def without a Pre; nothing is let out -/
theorem run_sub {EE : Value → Shared → Prop} {pins : List (Addr × Obj)} {σ : L2.St} {H : Hp} {s : Shared} {Q : VK} {f : Addr} {ps : List Str} {sp : Sp} {A1 : Around} {us : List Value} {vs : List V} (G : Okf X.prog X.w X.K X.mg X.base k f ps sp) (sb : Sub X k A1)
    (I : Inv X pins σ H s) (r : Vals vs us) (h : sp vs H Q E0) : wpAny (model X.prog X.w) A1 (call (.ref f) us) (EP X pins σ Q) EE s := by
  obtain ⟨fd, F, hb⟩ := G
  have e0 : Env0 X.prog X.w X.K X.mg X.base A1 X.stack s H := by
    have e := I.env0
    exact ⟨by rw [sb.fr]; exact e.frames, e.mod, e.bs, e.bsz, e.funs, e.frf, e.hok, e.bare⟩
  have hl : (us ++ []).length = ps.length := by
    rw [List.append_nil, ← r.length]
    exact F.len _ _ _ _ h
  have hb' := hb s us I.kIn hl
  rw [List.append_nil] at hb'
  refine wpAny_call (codeAny_mono (F.run A1 X.stack s H ⟨us, []⟩ us vs Q E0 sb.room e0 hb' r h) fun rr s' hq => ?_)
  cases rr with
  | error e =>
    obtain ⟨_, _, _, _, _, _, _, _, _, _, _, _, z⟩ := hq
    exact z.elim
  | ok fl =>
    cases fl with
    | ret u => exact I.after hq
    | next => exact False.elim hq
    | brk => exact False.elim hq
    | cont => exact False.elim hq
theorem own_lenHint {EE : Value → Shared → Prop} {pins : List (Addr × Obj)} {σ : L2.St} {H : Hp} {s : Shared} {A1 : Around} {a dx : Addr} {fs : List (Str × V)} {R : Bool → Shared → Prop} (c : ItK X.K C fi fl) (GL : Okf X.prog X.w X.K X.mg X.base k fl psL spL) (sb : Sub X k A1.in1) (I : Inv X pins σ H s) (ha : H a = some (.ins C dx fs))
    (hL : ∀ Q', (∀ m : Int, 0 ≤ m → m ≤ 1000 → Q' (.int m) H) → spL [.ref a] H Q' E0) (h : ∀ b s', Inv X pins σ H s' → R b s') : wpAny (model X.prog X.w) A1 (Builtin.List.listLengthHint (.ref a)) R EE s := by
  obtain ⟨mA, J, _⟩ := ins_get I.hok ha
  obtain ⟨od, J, _⟩ := J.look
  obtain ⟨m, hF⟩ := I.fr
  unfold Builtin.List.listLengthHint
  refine wpAny_bind (wpAny_bind (J.type.here ((PySem.W.looks_findIn I.kIn c.ln).here ?_)))
  refine PySem.W.KFB.if_not rfl ?_
  rw [if_pos (show (some (Value.ref fl)).isSome = true from rfl)]
  refine wpAny_bind (wpAny_rule ?_)
  refine wpAny_bind (wpAny_attempt (PySem.W.len_K hF I.ok.mod.kin J c.ln c.lnF (wpAny_mono (run_sub (us := [.ref a]) (vs := [.ref a]) (Q := fun v H' => (∃ m : Int, v = .int m ∧ 0 ≤ m ∧ m ≤ 1000) ∧ H' = H) GL sb I (.cons rfl .nil) (hL _ fun m h0 h1 => ⟨⟨m, rfl, h0, h1⟩, rfl⟩)) (fun v s' hv => ?_) fun e s' he => he)))
  obtain ⟨z, H', I', rz, ⟨n, rfl, h0, h1⟩, rfl⟩ := hv
  obtain ⟨t, rfl⟩ := rz
  refine ⟨⟨h0, by omega⟩, ?_⟩
  refine wpAny_bind (m := asInt? (.int n s'.toks)) (wpAny_pure ?_)
  refine PySem.W.KFB.if_not (notLongL (by have : (1000 : Nat) ≤ sizeLine := (by decide); omega)) ?_
  exact wpAny_pure (h _ _ (I'.tok _))
theorem k_listO {K : PySem.W.Frag} (hK : X.K = K) (hc : X.calm = true) (c : ItK X.K C fi fl) (GI : ∀ n, OkP (fun _ s => n ≤ s.heap.objs.size) X.prog X.w X.K X.mg X.base k fi psI (spI n)) (GL : Okf X.prog X.w X.K X.mg X.base k fl psL spL) (hr : Room (k + 3) X.A) :
    CallR X (.type "list") (rListO K C spI spL) := by
  subst hK
  intro pins s σ H xs us Q I rv h
  obtain ⟨a, dx, fs, zs, rfl, ha, hz, hI, hL, q⟩ := h
  obtain ⟨u, rfl, ru⟩ := rv.one
  cases ru
  have sb3 : Sub X (k + 1) X.A.in1.in1 := (Sub.in1 (Sub.in1 (⟨hr, rfl⟩ : Sub X (k + 3) X.A)))
  have sb2 : Sub X k X.A.in1.in1 := sb3.mono (Nat.le_succ _)
  have line : (1000 : Nat) < sizeLine := by decide
  refine callType_codes (Q₁ := fun obj s₁ => obj = .ref s.heap.objs.size ∧ s₁ = { s with heap := s.heap.push { cls := .type "list", data := .seq #[] } }) PySem.F.called_list (PySem.F.typeCall_list_1 _) PySem.F.entry_list_init
    (code_list_new _ ⟨rfl, rfl⟩) fun obj s₁ h₁ => ?_
  obtain ⟨rfl, rfl⟩ := h₁
  have hS : (s.heap.push { cls := .type "list", data := .seq #[] }).get? s.heap.objs.size = some { cls := .type "list", data := .seq #[] } := Heap.get?_push_size _ rfl
  refine ⟨⟨_, hS, rfl⟩, PySem.F.args_list_init_2 _ _, ?_⟩
  have fr : H s.heap.objs.size = none := I.hok.fresh (Nat.le_refl _)
  have I1 : Inv X pins σ (upd H s.heap.objs.size (.lst [])) { s with heap := s.heap.push { cls := .type "list", data := .seq #[] } } := I.lnew (its := []) (t' := s.toks) .nil (Nat.zero_le _)
  show wpAny _ _ (do let old ← Builtin.List.listItems (.ref s.heap.objs.size); Builtin.List.listUpdate (.ref s.heap.objs.size) (fun _ => #[]); letGo old.toList.reverse; Builtin.List.listExtendWith (.ref s.heap.objs.size) (.ref a) .none) _ _ _
  refine wpAny_bind ?_
  unfold Builtin.List.listItems
  refine wpAny_bind (wpAny_seqItems hS rfl (wpAny_pure ?_))
  show wpAny _ _ (updateSeq s.heap.objs.size (fun _ => #[]) >>= fun _ => letGo (#[] : Array Value).toList.reverse >>= fun _ => Builtin.List.listExtendWith (.ref s.heap.objs.size) (.ref a) .none) _ _ _
  refine wpAny_bind (wpAny_updateSeq hS rfl ?_)
  have I2 := I1.lset (f := fun _ => #[]) (its := []) (its' := []) (ys := []) (t' := s.toks) upd_same hS rfl .nil (Nat.zero_le _)
  rw [upd_upd] at I2
  refine wpAny_bind (wpAny_letGo ?_)
  have eq0 : Ex H (upd H s.heap.objs.size (.lst [])) := Ex.new fr
  have hs2 : s.heap.objs.size ≤ ((s.heap.push { cls := .type "list", data := .seq #[] }).update s.heap.objs.size (Obj.mapSeq (fun _ => (#[] : Array Value)))).objs.size := by
    have e := Heap.get?_update_self (Obj.mapSeq (fun _ => (#[] : Array Value))) hS rfl
    exact Nat.le_of_lt (Heap.lt_size e)
  have ha2 : upd H s.heap.objs.size (.lst []) a = some (.ins C dx fs) := eq0 _ _ ha
  generalize hQ0 : s.heap.objs.size = p at *
  have hne : p ≠ a := ne_of (upd_same (H := H) (a := p) (o := .lst [])) ha2 (fun z => nomatch z)
  obtain ⟨mA, J, _⟩ := ins_get I2.hok ha2
  obtain ⟨od, J, _⟩ := J.look
  obtain ⟨m0, hF⟩ := I2.fr
  unfold Builtin.List.listExtendWith
  refine wpAny_bind (J.type.here ?_)
  have h1 : Builtin.List.listSameRef (.ref p) (.ref a) = false := by simp [Builtin.List.listSameRef, hne]
  have h2 : (Value.ref C == Value.type "list") = false := rfl
  have h3 : (Value.ref C == Value.type "tuple") = false := rfl
  simp only [h1, h2, h3, Bool.or_false, Bool.false_eq_true, if_false]
  refine wpAny_bind (PySem.W.owit_iter hF I2.ok.mod.kin J c.it c.itF ?_)
  refine wpAny_mono (run_pre (us := [.ref a]) (vs := [.ref a]) (Q := fun v H' => ∃ l it, v = .ref it ∧ SqT X.K (upd H p (.lst [])) l zs ∧ upd H p (.lst []) it = none ∧ X.s_0.heap.objs.size ≤ it ∧ H' = upd (upd H p (.lst [])) it (ItT l it)) (GI X.s_0.heap.objs.size) sb2 (I2.sz) I2 (.cons rfl .nil) (hI _ _ _ eq0 fun l it a1 a2 a3 => ⟨l, it, rfl, a1, a2, a3, rfl⟩)) (fun v s3 hv => ?_) fun e s' he => he
  obtain ⟨v', H3, I3, rv3, l, it, rfl, hl, hit, hn, rfl⟩ := hv
  cases rv3
  obtain ⟨hobj, _⟩ := (show ObjOk X.prog X.w _ s3.heap it (ItT l it) from I3.hok it _ upd_same)
  have hobj' : s3.heap.get? it = some { cls := .type "tuple_iterator", data := .fields #[.ref l, .int 0 0] } := hobj
  show wpAny _ _ (specialOf (.ref it) "__next__") _ _ _
  refine wpAny_specialOf (T := "tuple_iterator") ⟨_, hobj', rfl⟩ PySem.F.slot_tuple_iterator_next.lookup ?_
  have e3 : Ex H (upd (upd H p (.lst [])) it (ItT l it)) := eq0.trans (Ex.new hit)
  refine wpAny_bind (wpAny_holding (own_lenHint c GL (Sub.in1 sb3) I3 (e3 _ _ ha) (fun Q' hq' => hL _ _ e3 hq') fun b s4 I4 => ?_))
  have fp4 := ItX.inv_fp I4 upd_same hn
  have I5 := ItX.inv_drop I4 (a := it) (φ := fun h => h.get? it = some { cls := .type "tuple_iterator", data := .fields #[.ref l, .int 0 0] }) upd_same
  rw [ItX.dropH_upd hit] at I5 fp4
  obtain ⟨hobj4, _⟩ := (show ObjOk X.prog X.w _ s4.heap it (ItT l it) from I4.hok it _ upd_same)
  have st4 : s4.heap.IsTupleIter it l 0 := ⟨_, hobj4, rfl, rfl⟩
  have lq : p ≠ it := fun z => by rw [← z, upd_same] at hit; cases hit
  have fin : ∀ s5, Inv X pins σ (upd H p (.lst [])) s5 → s5.heap.IsTupleIter it l 0 → codeAny (model X.prog X.w) X.A.in1 (.builtin "list.extend.loop" ⟨[.ref p, .ref it, .none], []⟩) (wants (fun r s₂ => r = .none ∧ EP X pins σ Q (.ref p) s₂) X.xe) s5 := fun s5 J5 t5 => by
    have hl0 : SqT X.K H l zs := by
      rcases hl with (z | ⟨o, z⟩) | z
      · exact .inl (.inl (by rw [upd_ne (ne_of z upd_same (fun z => nomatch z))] at z; exact z))
      · exact .inl (.inr ⟨o, by rw [upd_ne (ne_of z upd_same (fun z => nomatch z))] at z; exact z⟩)
      · exact .inr z
    exact tl_loop (A := X.A.in1) (I.ok.hd hc) hl0 fr (by omega) (fun s6 J6 => ⟨rfl, .ref p, _, J6, rfl, q p fr⟩) zs.length 0 s5 rfl (Nat.zero_le _) J5 fp4 t5
  obtain ⟨z6, its6, k6, r6, hl6, e6⟩ := I5.lstM upd_same
  cases r6
  refine wpAny_ite_split (fun _ => ?_) (fun _ => wpAny_pure ⟨plainId_quiet PySem.F.plain_extend_loop _, fin s4 I5 st4⟩)
  refine wpAny_bind (wpAny_rule ?_)
  refine wpAny_bind ?_
  show wpAny _ _ (updateSeq p (·.push .none) >>= fun _ => updateSeq p (·.pop)) _ _ _
  refine wpAny_bind (wpAny_updateSeq e6 rfl ?_)
  have I7 := I5.lset (f := (·.push Value.none)) (its' := [Value.none]) (ys := [.non]) (t' := s4.toks) upd_same e6 (by simp) (.cons rfl .nil) (by rw [List.length_singleton, sizeLine_eq]; decide)
  obtain ⟨z8, its8, k8, r8, hl8, e8⟩ := I7.lstM upd_same
  obtain ⟨u8, rfl, ru8⟩ := r8.one
  refine wpAny_updateSeq e8 rfl ?_ (by show 1 ≤ sizeLine; rw [sizeLine_eq]; decide) (by show 0 ≤ sizeLine + 1; exact Nat.zero_le _)
  have I9 := I7.lset (f := (·.pop)) (its := [u8]) (its' := []) (ys := []) (t' := s4.toks) upd_same e8 (by rfl) .nil (Nat.zero_le _)
  rw [upd_upd, upd_upd] at I9
  refine wpAny_pure ⟨plainId_quiet PySem.F.plain_extend_loop _, fin _ I9 ?_⟩
  exact st4.at fun o e => (Heap.get?_update_other _ _ lq).trans ((Heap.get?_update_other _ _ lq).trans e)
end
end Hn

/-! repr of data: where no guard stands around; the law's head for such defs. -/
namespace Hn
open PySem PySem.Spec PyProof.Rows L2 Evl
/-- no guard stands around -/
def NoG (A : Around) (_ : Shared) : Prop := A.guards = some []
/-- data that is shown in few signs: made of ints of at most 40 digits -/
structure Fine (d : PyData) (w : Nat) : Prop where
  sh : d.showable = true
  nd : d.hasDict = false
  ls : d.leavesShort 41 = true
  wt : d.weight ≤ w
theorem Fine.mono {d : PyData} {w v : Nat} (h : Fine d w) (e : w ≤ v) : Fine d v := ⟨h.sh, h.nd, h.ls, Nat.le_trans h.wt e⟩
theorem log_40 {i : Int} (h : i.natAbs < 10 ^ 40) : i.natAbs.log2 < 140 := by
  by_cases z : i.natAbs = 0
  · rw [z]
    decide
  · exact (Nat.log2_lt z).mpr (Nat.lt_trans h (by decide))
theorem fine_int {i : Int} (h : i.natAbs < 10 ^ 40) : Fine (.int i) 200 := by
  have hl := log_40 h
  refine ⟨?_, ?_, ?_, ?_⟩
  · simp only [PyData.showable]
    exact decide_eq_true (by omega)
  · simp only [PyData.hasDict]
  · simp only [PyData.leavesShort]
    have e := int_text_length_le10 (k := 40) (by decide) h
    refine decide_eq_true ?_
    show (Str.ofString (toString i)).length ≤ 41
    rw [PySem.ofString_length]
    exact e
  · simp only [PyData.weight]
    split <;> omega
theorem fine_small {i : Int} (h : i.natAbs < 1000) : Fine (.int i) 11 := by
  have f := fine_int (i := i) (Nat.lt_trans h (by decide))
  refine ⟨f.sh, f.nd, f.ls, ?_⟩
  simp only [PyData.weight]
  split
  · omega
  · by_cases z : i.natAbs = 0
    · rw [z]
      decide
    · have : i.natAbs.log2 < 10 := (Nat.log2_lt z).mpr (Nat.lt_trans h (by decide))
      omega
theorem fine_bool (b : Bool) : Fine (.bool b) 0 := ⟨rfl, rfl, rfl, Nat.le_refl _⟩
theorem fine_none : Fine .none 0 := ⟨rfl, rfl, rfl, Nat.le_refl _⟩
theorem fine_all {w : Nat} : ∀ {ds : List PyData}, (∀ d ∈ ds, Fine d w) → PyData.showableAll ds = true ∧ PyData.hasDictAll ds = false ∧ PyData.leavesShortAll 41 ds = true ∧ PyData.weightAll ds ≤ ds.length * (w + 1)
  | [], _ => ⟨rfl, rfl, rfl, Nat.zero_le _⟩
  | d :: ds, h => by
    have hd := h d List.mem_cons_self
    obtain ⟨a, b, c, e⟩ := fine_all (ds := ds) fun x hx => h x (List.mem_cons_of_mem _ hx)
    refine ⟨?_, ?_, ?_, ?_⟩
    · simp only [PyData.showableAll, hd.sh, a, Bool.and_self]
    · simp only [PyData.hasDictAll, hd.nd, b, Bool.or_self]
    · simp only [PyData.leavesShortAll, hd.ls, c, Bool.and_self]
    · simp only [PyData.weightAll, List.length_cons]
      have := hd.wt
      rw [Nat.add_mul, Nat.one_mul]
      omega
theorem fine_list {w n : Nat} {ds : List PyData} (h : ∀ d ∈ ds, Fine d w) (hn : ds.length ≤ n) : Fine (.list ds) (n * (w + 1)) := by
  obtain ⟨a, b, c, e⟩ := fine_all h
  refine ⟨by simp only [PyData.showable]; exact a, by simp only [PyData.hasDict]; exact b, by simp only [PyData.leavesShort]; exact c, ?_⟩
  simp only [PyData.weight]
  exact Nat.le_trans e (Nat.mul_le_mul_right _ hn)
theorem fine_tuple {w n : Nat} {ds : List PyData} (h : ∀ d ∈ ds, Fine d w) (hn : ds.length ≤ n) : Fine (.tuple ds) (n * (w + 1)) := by
  obtain ⟨a, b, c, e⟩ := fine_all h
  refine ⟨by simp only [PyData.showable]; exact a, by simp only [PyData.hasDict]; exact b, by simp only [PyData.leavesShort]; exact c, ?_⟩
  simp only [PyData.weight]
  exact Nat.le_trans e (Nat.mul_le_mul_right _ hn)
theorem fine_ints {ns : List Int} {n : Nat} (h : ∀ z ∈ ns, z.natAbs < 10 ^ 40) (hn : ns.length ≤ n) : Fine (PySem.W.Datum.toD ns) (n * 201) :=
  fine_list (fun d hd => by
    obtain ⟨z, hz, rfl⟩ := List.mem_map.mp hd
    exact fine_int (h z hz)) (by rw [List.length_map]; exact hn)
theorem fine_smalls {ns : List Int} {n : Nat} (h : ∀ z ∈ ns, z.natAbs < 1000) (hn : ns.length ≤ n) : Fine (PySem.W.Datum.toD ns) (n * 12) :=
  fine_list (fun d hd => by
    obtain ⟨z, hz, rfl⟩ := List.mem_map.mp hd
    exact fine_small (h z hz)) (by rw [List.length_map]; exact hn)
/-- rows of small ints, one behind another -/
theorem fine_rows {rs : List (List Int)} {n m : Nat} (h : ∀ r ∈ rs, (∀ z ∈ r, z.natAbs < 1000) ∧ r.length ≤ n) (hm : rs.length ≤ m) : Fine (PySem.W.Datum.toD rs) (m * (n * 12 + 1)) :=
  fine_list (fun d hd => by
    obtain ⟨r, hr, rfl⟩ := List.mem_map.mp hd
    exact fine_smalls (h r hr).1 (h r hr).2) (by rw [List.length_map]; exact hm)
theorem Fine.len {d : PyData} {w : Nat} (h : Fine d w) (hw : w ≤ 300000) : d.shown.length ≤ 12900041 := by
  have e := PyData.shown_le 41 (by decide) d h.ls
  have := h.wt
  omega
def rRepr (K : PySem.W.Frag) : List V → Hp → VK → Prop := fun vs H Q => ∃ x d, vs = [x] ∧ Dp K H x d ∧ d.showable = true ∧ d.hasDict = false ∧ d.depth ≤ 64 ∧ d.shown.length ≤ 12900041 ∧ Q (.str d.shown) H
section
variable {X : Cx} {K : PySem.W.Frag} {k : Nat}
theorem k_repr (hK : X.K = K) (hg : X.A.guards = some []) (hr : Room k X.A) : CallR X (.builtin "repr") (rRepr K) := by
  subst hK
  intro pins s σ H vs us Q I r h
  obtain ⟨x, d, rfl, hd, hs, hn, hdp, hz, q⟩ := h
  obtain ⟨u, rfl, ru⟩ := r.one
  obtain ⟨as, rd⟩ := Dp.reads I d x u hd ru
  have un := hr.un
  have line : (12900041 : Nat) ≤ sizeLine := by decide
  have go : ∀ h' t' tk, (∀ b o, s.heap.get? b = some o → h'.get? b = some o) → EP X pins σ Q (.str d.shown t') { s with heap := h', toks := tk } := fun h' t' tk hk => ⟨.str d.shown, H, I.kept hk, ⟨_, rfl⟩, q⟩
  cases hd with
  | non => cases ru; exact PySem.P.repr_of_none (go s.heap _ _ fun _ _ e => e)
  | bl b =>
    cases ru
    refine PySem.P.repr_of_bool ?_
    have := go s.heap s.toks (s.toks + 1) fun _ _ e => e
    simp only [PyData.shown] at this
    cases b <;> exact this
  | int i =>
    obtain ⟨t, rfl⟩ := ru
    simp only [PyData.showable, decide_eq_true_eq] at hs
    refine PySem.P.repr_of_int hs ?_
    have := go s.heap s.toks (s.toks + 1) fun _ _ e => e
    simp only [PyData.shown] at this
    exact this
  | str y =>
    obtain ⟨t, rfl⟩ := ru
    simp only [PyData.shown] at go hz
    exact PySem.P.repr_of_str (go s.heap _ _ fun _ _ e => e) (by omega)
  | lst a b =>
    cases ru
    exact repr_of_reads' rd hs (PyData.noDict_hsm hn) hg (by omega) (fun _ _ e => e) go (by omega)
  | tup a b =>
    cases ru
    exact repr_of_reads' rd hs (PyData.noDict_hsm hn) hg (by omega) (fun _ _ e => e) go (by omega)
theorem r_repr {H : Hp} {Q : VK} {x : V} {d : PyData} {w : Nat} (h : Dp K H x d) (f : Fine d w) (hw : w ≤ 300000) (hd : d.depth ≤ 64) (q : Q (.str d.shown) H) : rRepr K [x] H Q := ⟨x, d, rfl, h, f.sh, f.nd, hd, f.len hw, q⟩
theorem r_reprH {α : Type} [DecidableEq α] [PySem.W.Datum α] {H : Hp} {Q : VK} {x : V} {u : α} {w : Nat} (h : Hd K H x u) (f : Fine (PySem.W.Datum.toD u) w) (hw : w ≤ 300000) (q : Q (.str (PySem.W.Datum.toD u).shown) H) (hd : PySem.W.Datum.depth α ≤ 64 := by decide) : rRepr K [x] H Q :=
  r_repr h f hw (Nat.le_trans (PySem.W.Datum.depth_le u) hd) q
theorem r_eqS {H : Hp} {Q : VK} {a b : Str} (q : Q (.bl (decide (a = b))) H) : rEq (.str a) (.str b) H Q := by
  refine ⟨rfl, ?_⟩
  have e : decide (V.str a = V.str b) = decide (a = b) := by rw [Bool.eq_iff_iff]; simp
  rw [e]
  exact q
theorem r_neS {H : Hp} {Q : VK} {a b : Str} (q : Q (.bl (!decide (a = b))) H) : rNe (.str a) (.str b) H Q := by
  refine ⟨rfl, ?_⟩
  have e : decide (V.str a = V.str b) = decide (a = b) := by rw [Bool.eq_iff_iff]; simp
  rw [e]
  exact q
end
section
variable {X : Cx} {k : Nat} {f C : Addr} {ps : List Str} {sp : Sp} {x m : Str} {p pos apos : Pos} {e o : Expr} {es : List Expr} {ta : TE} {t : TA} {Pre : Around → Shared → Prop}
/-- a call of a def that asks for Pre -/
theorem pg_call (G : OkP Pre X.prog X.w X.K X.mg X.base k f ps sp) (hp : ∀ s, Pre X.A s) (hr : Room k X.A) (hg : Gl X x) (hm : X.mg x = some (.ref f)) (hk : PySem.W.keepIn X.K (.ref f) = true)
    (ha : PA X (e :: es) t) (hdb : (x == ("__debug__" : Str)) = false := by decide) (he : starEach (e :: es) X.env = (false, eval e X.env) :: starEach es X.env := by rfl) (hpl : (backTo pos (starEach es X.env)).any (·.1) = false := by rfl) :
    PE X (.Call (.Name x p) (e :: es) [] pos) (tCall sp [] E0 t) := by
  refine ⟨fun pins s σ H Q I h => ?_⟩
  refine wpAny_Call_Name_kw (ld_glob I hg hm ?_ hdb)
  refine PySem.W.callWith_K (h₀ := X.base) I.ok.mod.kin hk (thn (ha.run pos pins s σ H _ I h) fun us s1 ⟨vs, H1, I1, r, q⟩ => ⟨I1.kIn, ?_⟩) he hpl
  replace q : sp (vs ++ []) H1 Q E0 := q
  rw [List.append_nil] at q
  exact run_pre G ⟨hr, rfl⟩ (hp s1) I1 r q
end
/-! ### the head of such a law -/
section
variable {P : Program} {w : World} {K : PySem.W.Frag} {mg mb : Str → Option Value} {k : Nat} {fa a : Addr} {x : Str} {sp : Sp} {st : Shared} {vs : List Value} {ns : List Int}
/-- behind the top, with nothing tracked but the script (or nothing at all) -/
theorem head_at (kin : K.In st.heap) (gl : st.heap.Ns mainGlobals mg) (bl : st.heap.Ns builtinsNs mb) (bb : ∀ y : Str, y ≠ "__name__" → mb y = bootBuiltins y) (lim : st.heap.NoLimit) (gens : st.gens = #[])
    (obj : st.heap.get? a = some { cls := .type "list", data := .seq vs.toArray }) (room : Room k callerA) (F : ∀ base : Heap, K.In base → base.Ns mainGlobals mg → OkP NoG P w K mg base k fa [x] sp)
    (H : Hp) (only : Only H) (hsp : sp [.ref a] H (fun v _ => v = .bl true) E0) (ok : HOk P w H st.heap) (one : ∀ b, H b ≠ none → b = a) (own : H a ≠ none → K.lookup a = none) :
    codeAny (model P w) callerA (.call (.ref fa) ⟨[.ref a], []⟩) (fun r s' => r = .ok (.ret (.bool true)) ∧ OldK st.heap s'.heap ∧ s'.os = st.os ∧ AllBare s'.gens) st := by
  have below : ∀ {b : Addr} {ob : Obj}, st.heap.get? b = some ob → H b = none → (hidT st.heap H).get? b = some ob := fun g n => hidT_get g n
  have plain : ∀ {b : Addr} {ob : Obj} {es : Array DictEntry} {ep : Nat}, st.heap.get? b = some ob → ob.data = .dict es ep → H b = none := by
    intro b ob es ep g hd
    by_cases hb : H b = none
    · exact hb
    · obtain rfl := one b hb
      rw [obj] at g
      cases g
      exact absurd (show Data.seq vs.toArray _ = Data.dict es ep from hd) (fun z => by cases z)
  have names : ∀ {b : Addr} {m : Str → Option Value}, st.heap.Ns b m → (hidT st.heap H).Ns b m := fun {b m} ⟨ob, es, ep, g, hd, r⟩ => ⟨ob, es, ep, below g (plain g hd), hd, r⟩
  have kinB : K.In (hidT st.heap H) := fun b ob g => below (kin b ob g) (by
    by_cases hb : H b = none
    · exact hb
    · obtain rfl := one b hb
      rw [own hb] at g
      cases g)
  have md : Mod K mg (hidT st.heap H) := ⟨kinB, names gl, ⟨mb, names bl, bb⟩, let ⟨mc, h1, h2⟩ := lim; ⟨mc, names h1, h2⟩⟩
  have env : Env0 P w K mg (hidT st.heap H) callerA [] st H := ⟨rfl, md, fun b ob g => of_hidT g, Nat.le_of_eq (hidT_size _ _), trivial, fun b hb => absurd (show b ∈ ([] : List Addr) from hb) (by simp), ok, .of_eq gens⟩
  obtain ⟨fd, bd, _, run⟩ := F _ kinB (names gl)
  have bnd := bd st [.ref a] kin rfl
  refine codeAny_mono (run callerA [] st H ⟨[.ref a], []⟩ [.ref a] [.ref a] _ _ rfl room env bnd (.cons rfl .nil) hsp) fun r s' h => ?_
  cases r with
  | error e => exact False.elim h
  | ok fl =>
    cases fl with
    | next => exact False.elim h
    | brk => exact False.elim h
    | cont => exact False.elim h
    | ret u =>
      obtain ⟨v, H', os, bare, un, ok', rel, rfl⟩ := h
      obtain rfl : u = Value.bool true := rel
      refine ⟨rfl, OldK.of_keep fun b ob g => ?_, os, bare⟩
      rcases only b with z | ⟨o2, zs, z⟩
      · exact un.keep b ob g z (by intro y; exact absurd (show b ∈ ([] : List Addr) from y) (by simp)) (by simp)
      · obtain ⟨g1, _⟩ := ok b _ z
        obtain ⟨g2, _⟩ := ok' b _ (un.frzs b o2 _ z)
        rw [g] at g1
        cases g1
        exact g2
theorem head_law (kin : K.In st.heap) (gl : st.heap.Ns mainGlobals mg) (bl : st.heap.Ns builtinsNs mb) (bb : ∀ y : Str, y ≠ "__name__" → mb y = bootBuiltins y) (lim : st.heap.NoLimit) (gens : st.gens = #[])
    (obj : st.heap.get? a = some { cls := .type "list", data := .seq vs.toArray }) (inn : IntsAre vs ns) (ln : ns.length ≤ sizeLine) (room : Room k callerA) (F : ∀ base : Heap, K.In base → base.Ns mainGlobals mg → OkP NoG P w K mg base k fa [x] sp)
    (hsp : ∀ H : Hp, SqL K H a (ns.map V.int) → sp [.ref a] H (fun v _ => v = .bl true) E0) :
    codeAny (model P w) callerA (.call (.ref fa) ⟨[.ref a], []⟩) (fun r s' => r = .ok (.ret (.bool true)) ∧ OldK st.heap s'.heap ∧ s'.os = st.os ∧ AllBare s'.gens) st := by
  have rel := vals_ints inn
  have sz := inn.length
  cases hk : K.lookup a with
  | some ob =>
    have g := kin a ob hk
    rw [obj] at g
    cases g
    refine head_at kin gl bl bb lim gens obj room F (fun _ => none) (fun _ => .inl rfl) (hsp _ (.inr ⟨_, vs.toArray, _, hk, rfl, rfl, rfl, by rw [List.size_toArray, sz]; exact ln, by simpa using rel⟩)) (fun b u z => ?_) (fun b z => absurd rfl z) fun z => absurd rfl z
    exact absurd (show (none : Option HO) = some u from z) (by simp)
  | none =>
    have e : ∀ b, (upd (fun _ => none) a (.frz { cls := .type "list", data := .seq vs.toArray } (.lst (ns.map V.int)))) b = if b = a then some (.frz { cls := .type "list", data := .seq vs.toArray } (.lst (ns.map V.int))) else none := fun b => by
      by_cases hb : b = a
      · rw [if_pos hb, hb, upd_same]
      · rw [if_neg hb, upd_ne hb]
    refine head_at kin gl bl bb lim gens obj room F (upd (fun _ => none) a (.frz { cls := .type "list", data := .seq vs.toArray } (.lst (ns.map V.int)))) (fun b => ?_) (hsp _ (.inl (.inr ⟨_, upd_same⟩))) (fun b u z => ?_) (fun b z => ?_) fun _ => hk
    · by_cases hb : b = a
      · exact .inr ⟨_, _, by rw [hb, upd_same]⟩
      · exact .inl (by rw [upd_ne hb])
    · by_cases hb : b = a
      · subst hb
        rw [upd_same] at z
        cases z
        exact ⟨obj, by rw [List.length_map]; exact ln, vs, _, rel, obj⟩
      · rw [upd_ne hb] at z
        cases z
    · by_cases hb : b = a
      · exact hb
      · exact absurd (by rw [upd_ne hb]) z
end
theorem walkG {l : PySem.W.OpenLaw} {n k : Nat} {q : Program} {loose : List Str} {XP : (Str → Option Value) → Heap → Prop} {YP : World → Heap → Prop} {d : DefRec} {K : Params → PySem.W.Frag} {x : Str} {sp : World → Sp}
    (most : l.most = some n) (line : n ≤ sizeLine) (nodf : d.params.defaults = []) (room : Room k callerA) (kin : ∀ (w : World) (h : Heap), YP w h → (K w.params).In h)
    (F : ∀ (w : World) (mg : Str → Option Value) (fa : Addr) (h : Heap), (K w.params).In h → h.Ns mainGlobals mg → mg d.name = some (.ref fa) → ∀ base : Heap, (K w.params).In base → base.Ns mainGlobals mg → OkP NoG l.prog w (K w.params) mg base k fa [x] (sp w))
    (hsp : ∀ (w : World) (H : Hp) (a : Addr) (ns : List Int), ns.length ≤ n → SqL (K w.params) H a (ns.map V.int) → sp w [.ref a] H (fun v _ => v = .bl true) E0) : PySem.W.WalkO q loose XP YP l.row.toRowW d [] (fun f vs => PySem.call f vs) := by
  refine Att.attach_call most nodf fun w s₀ s₁ mg mb fa o pm cd doc a vs ns G Y _ _ _ hmg obj inn len gens => ?_
  have kX := kin w _ Y
  exact head_law kX G.T.g G.T.b G.T.builtins G.T.nolimit gens obj inn (Nat.le_trans len line) room (F w mg fa _ kX G.T.g hmg) fun H hS => hsp w H a ns len hS
end Hn

/-! Static methods by the class; list(range(n)); clocks compared. -/
namespace Hn
open PySem PySem.Spec PyProof.Rows L2 Evl
/-- C.m is a staticmethod: its record at p, its def at g -/
structure SMet (K : PySem.W.Frag) (C : Addr) (mc : Value) (m : Str) (p g : Addr) : Prop where
  rd : PySem.W.readsIn K C mc = true
  ga : PySem.W.specialIn K (.ref C) "__getattribute__" = some (some (.builtin "type.__getattribute__"))
  at_ : PySem.W.findCls K (.ref C) mc m = some (.get (.builtin "staticmethod.__get__") (.ref p) .none (.ref C))
  rc : ∃ rest, PySem.W.recIn K p "staticmethod" = some (.ref g :: rest)
def tSMeth (C : Addr) (sp : Sp) (ta : TE) (t : TA) : TE := fun σ H Q => ta σ H fun x H1 => x = .ref C ∧ t σ H1 fun vs H2 => sp vs H2 Q E0
section
variable {X : Cx} {k : Nat} {C p g : Addr} {mc : Value} {ps : List Str} {sp : Sp} {o e : Expr} {es : List Expr} {m : Str} {pos apos : Pos} {ta : TE} {t : TA} {pl : Sem Bool}
theorem pe_static (he : PE X o ta) (c : SMet X.K C mc m p g) (hk : PySem.W.keepIn X.K (.ref g) = true) (G : Okf X.prog X.w X.K X.mg X.base k g ps sp) (hr : Room k X.A) (ha : PA X (e :: es) t)
    (hst : starEach (e :: es) X.env = (false, eval e X.env) :: starEach es X.env := by rfl) (hpl : (backTo pos (starEach es X.env)).any (·.1) = false := by rfl)
    (ht : eval (.Call (.Attribute o m apos) (e :: es) [] pos) X.env = (do
      let ov ← eval o X.env
      standAt apos.atName
      let (f, first) ← holding [ov] (getMethod ov m pl)
      callWith pos f first (backTo pos (starEach (e :: es) X.env)) (backToKw pos (keywordEach [] X.env))) := by rfl) :
    PE X (.Call (.Attribute o m apos) (e :: es) [] pos) (tSMeth C sp ta t) := by
  refine ⟨fun pins s σ H Q I h => ?_⟩
  refine PySem.W.methodCall_KW (pl := pl) (thn (he.run pins s σ H _ I h) fun u s1 ⟨x, H1, I1, rx, ex, q⟩ => ?_) ht
  subst ex
  obtain rfl : u = Value.ref C := rx
  obtain ⟨rest, hp⟩ := c.rc
  refine PySem.W.method_cls I1.kIn c.ga (PySem.W.cls_bind I1.kIn c.rd c.at_ (wpAny_call (PySem.W.sm_get (s := { s1 with toks := s1.toks + 1 }) I1.kIn hp (PySem.W.handed_on rfl ?_))))
  have I2 : Inv X pins σ H1 { s1 with toks := s1.toks + 1 } := I1.tok _
  refine PySem.W.callWith_K (h₀ := X.base) I2.ok.mod.kin hk (thn (ha.run pos pins _ σ H1 _ I2 q) fun us s3 ⟨vs, H2, I3, rv, q2⟩ => ⟨I3.kIn, ?_⟩) hst hpl
  exact run_sub G ⟨hr, rfl⟩ I3 rv q2
end
section
variable {σ : L2.St} {H : Hp} {Q : VK} {C : Addr} {sp : Sp} {ta : TE} {ar : TA} {x : V}
theorem r_smeth (h : ta σ H fun x H1 => x = .ref C ∧ ar σ H1 fun vs H2 => sp vs H2 Q E0) : tSMeth C sp ta ar σ H Q := h
theorem r_isC {p : Prop} (h : p) : V.ref C = .ref C ∧ p := ⟨rfl, h⟩
theorem r_lstRg {te : L2.St → Hp → (Int → Int → Hp → Prop) → Prop} (h : te σ H fun a b H1 => RgOk a b ∧ ∀ q, H1 q = none → Q (.ref q) (upd H1 q (.lst (rgV a b)))) : tLstRg te σ H Q := h
theorem r_rg1 {q : Int → Int → Hp → Prop} (h : ta σ H fun x H1 => ∃ n, x = .int n ∧ q 0 n H1) : tRg1 ta σ H q := h
theorem rgV0 (n : Nat) : rgV 0 (n : Int) = ((List.range n).map fun (i : Nat) => ((i : Nat) : Int)).map V.int := by
  unfold rgV
  rw [Int.sub_zero, Int.toNat_natCast, List.map_map]
  refine List.map_congr_left fun i _ => ?_
  show V.int (0 + (i : Int)) = V.int (i : Int)
  rw [Int.zero_add]
end
section
variable {K : PySem.W.Frag} {C : Addr} {H : Hp} {v w : V} {s t : List Int} {sp : Sp} {E : XK} {Q : VK}
theorem r_clk2 (h : Clk K C H v s) (h' : Clk K C H w t) (q : sp [v, w] H Q E) : rOwn C sp E v w H Q := by
  obtain ⟨x, dx, a, b, rfl, hp, _⟩ := h
  obtain ⟨y, dy, a', b', rfl, hq, _⟩ := h'
  exact ⟨x, y, dx, dy, _, _, rfl, rfl, hp, hq, q⟩
theorem r_clk2N (h : Clk K C H v s) (h' : Clk K C H w t) (q : sp [v, w] H (fun x H' => ∃ r, x = .bl r ∧ Q (.bl (!r)) H') E) : rOwnNe C sp E v w H Q := by
  obtain ⟨x, dx, a, b, rfl, hp, _⟩ := h
  obtain ⟨y, dy, a', b', rfl, hq, _⟩ := h'
  exact ⟨x, y, dx, dy, _, _, rfl, rfl, hp, hq, q⟩
theorem r_clkL (h : Clk K C H v s) (q : sp [v] H (fun x H' => ∃ n : Int, x = .int n ∧ 0 ≤ n ∧ n < 2 ^ 63 ∧ Q (.int n) H') E) : rLenO C sp E [v] H Q := by
  obtain ⟨x, dx, a, b, rfl, hp, _⟩ := h
  exact ⟨x, dx, _, rfl, hp, q⟩
end
end Hn

/-! for x in own; own == anything. -/
namespace Hn
open PySem PySem.Spec PyProof.Rows L2 Evl
/-- an own thing walked: __iter__ hands out an iterator of a tuple of xs -/
def iOwn (K : PySem.W.Frag) (C : Addr) (spI : Nat → Sp) (tl : TE) : TI := fun σ H R => tl σ H fun x H1 => ∃ a dx fs xs, x = .ref a ∧ H1 a = some (.ins C dx fs) ∧
  (∀ n Q', (∀ l it, SqT K H1 l xs → H1 it = none → n ≤ it → Q' (.ref it) (upd H1 it (ItT l it))) → spI n [.ref a] H1 Q' E0) ∧ ∀ l, SqT K H1 l xs → R (Itt K l) H1
section
variable {X : Cx} {K : PySem.W.Frag} {k : Nat} {C fi : Addr} {psI : List Str} {spI : Nat → Sp} {tg l : Expr} {tl : TE}
theorem k_piO (hK : X.K = K) (GI : ∀ n, OkP (fun _ s => n ≤ s.heap.objs.size) X.prog X.w X.K X.mg X.base k fi psI (spI n)) (hr : Room k X.A) (hit : PySem.W.findIn X.K (.ref C) "__iter__" = some (some (.ref fi))) (hF : PySem.W.isFn X.K (.ref fi) = true) (hl : PE X l tl) :
    PI X tg l (iOwn K C spI tl) := by
  subst hK
  refine ⟨fun pins s σ H R I h => ?_⟩
  refine thn (hl.run pins s σ H _ I h) fun v s1 ⟨x, H1, I1, r1, a, dx, fs, xs, ex, ha, hI, q⟩ => ?_
  subst ex
  cases r1
  obtain ⟨mA, J, _⟩ := ins_get I1.hok ha
  obtain ⟨od, J, _⟩ := J.look
  obtain ⟨m0, fr⟩ := I1.fr
  refine PySem.W.owit_iter fr I1.ok.mod.kin J hit hF ?_
  refine wpAny_mono (run_pre (us := [.ref a]) (vs := [.ref a]) (Q := fun v H' => ∃ l it, v = .ref it ∧ SqT X.K H1 l xs ∧ H1 it = none ∧ X.s_0.heap.objs.size ≤ it ∧ H' = upd H1 it (ItT l it)) (GI X.s_0.heap.objs.size) ⟨hr, rfl⟩ I1.sz I1 (.cons rfl .nil) (hI _ _ fun l it a1 a2 a3 => ⟨l, it, rfl, a1, a2, a3, rfl⟩)) (fun v s3 hv => ?_) fun e s' he => he
  obtain ⟨v', H3, I3, rv3, tp, it, rfl, hl', hn', hge, rfl⟩ := hv
  cases rv3
  obtain ⟨hobj, _⟩ := (show ObjOk X.prog X.w _ s3.heap it (ItT tp it) from I3.hok it _ upd_same)
  have hobj' : s3.heap.get? it = some { cls := .type "tuple_iterator", data := .fields #[.ref tp, .int 0 0] } := hobj
  show wpAny _ _ (specialOf (.ref it) "__next__") _ _ _
  refine wpAny_specialOf (T := "tuple_iterator") ⟨_, hobj', rfl⟩ PySem.F.slot_tuple_iterator_next.lookup ?_
  have fp4 := ItX.inv_fp I3 upd_same hge
  have I5 := ItX.inv_drop I3 (a := it) (φ := fun h => h.get? it = some { cls := .type "tuple_iterator", data := .fields #[.ref tp, .int 0 0] }) upd_same
  rw [ItX.dropH_upd hn'] at I5 fp4
  exact ⟨it, [it], _, _, H1, rfl, I5, turn_tuple tp it, ⟨_, hobj', rfl, rfl⟩, fun b hb => by rw [List.mem_singleton.mp hb]; exact fp4, q tp hl'⟩
end
section
variable {K : PySem.W.Frag} {C : Addr} {spI : Nat → Sp} {σ : L2.St} {H : Hp} {te : TE} {R : It → Hp → Prop}
theorem r_iOwn (h : te σ H fun x H1 => ∃ a dx fs xs, x = .ref a ∧ H1 a = some (.ins C dx fs) ∧ (∀ n Q', (∀ l it, SqT K H1 l xs → H1 it = none → n ≤ it → Q' (.ref it) (upd H1 it (ItT l it))) → spI n [.ref a] H1 Q' E0) ∧ ∀ l, SqT K H1 l xs → R (Itt K l) H1) : iOwn K C spI te σ H R := h
end
/-! ### own == anything whose kind is known -/
def rOwnA (K : PySem.W.Frag) (C : Addr) (sp : Sp) : R2 := fun x y H Q => ∃ a dx fs t, x = .ref a ∧ H a = some (.ins C dx fs) ∧ TyX K H y t ∧ PySem.W.notFirst K C t = true ∧ sp [x, y] H Q E0
section
variable {X : Cx} {K : PySem.W.Frag} {k : Nat} {C f : Addr} {ps : List Str} {sp : Sp}
theorem k_eqA (hK : X.K = K) (G : Okf X.prog X.w X.K X.mg X.base k f ps sp) (hr : Room k X.A) (hs : PySem.W.findIn X.K (.ref C) "__eq__" = some (some (.ref f))) (hf : PySem.W.isFn X.K (.ref f) = true) : OpR X (compareOp .Eq) (rOwnA K C sp) := by
  subst hK
  intro pins s σ H x y v u Q I rx ry h
  obtain ⟨a, dx, fs, t, rfl, ha, ty, nf, q⟩ := h
  cases rx
  obtain ⟨P, kt, hp, _⟩ := kit_of I ry ty
  obtain ⟨mA, J, _⟩ := ins_get I.hok ha
  obtain ⟨od, J, _⟩ := J.look
  obtain ⟨m, hF⟩ := I.fr
  refine PySem.W.cmp_K (op := .Eq) (tb := t) hr.units0 hF I.ok.mod.kin J (kt.ty _ _ I.kIn hp) nf hs hf ?_
  exact wpAny_mono (run_sub (us := [.ref a, u]) (vs := [.ref a, y]) G ⟨hr, rfl⟩ I (.cons rfl (.cons ry .nil)) q) (fun v s' hv => back_ne hv) fun _ _ e => e
end
theorem nf_of {K : PySem.W.Frag} {C : Addr} {t : Value} (h : PySem.W.subIn K t (.ref C) = some false) : PySem.W.notFirst K C t = true := by
  unfold PySem.W.notFirst
  rw [h, Bool.or_eq_true]
  exact .inr rfl
theorem nf_same {K : PySem.W.Frag} {C : Addr} : PySem.W.notFirst K C (.ref C) = true := by
  unfold PySem.W.notFirst
  rw [Bool.or_eq_true]
  exact .inl (beq_self_eq_true _)
theorem r_break {D : Ends} {σ : L2.St} {H : Hp} (h : D.bk σ H) : tBreak D σ H := h
theorem r_cont {D : Ends} {σ : L2.St} {H : Hp} (h : D.ct σ H) : tCont D σ H := h
theorem fine_30 {i : Int} (h : i.natAbs < 10 ^ 31) : Fine (.int i) 105 := by
  have f := fine_int (i := i) (Nat.lt_trans h (by decide))
  refine ⟨f.sh, f.nd, f.ls, ?_⟩
  simp only [PyData.weight]
  split
  · omega
  · by_cases z : i.natAbs = 0
    · rw [z]
      decide
    · have : i.natAbs.log2 < 104 := (Nat.log2_lt z).mpr (Nat.lt_trans h (by decide))
      omega
theorem fine_30s {ns : List Int} {n : Nat} (h : ∀ z ∈ ns, z.natAbs < 10 ^ 31) (hn : ns.length ≤ n) : Fine (PySem.W.Datum.toD ns) (n * 106) :=
  fine_list (fun d hd => by
    obtain ⟨z, hz, rfl⟩ := List.mem_map.mp hd
    exact fine_30 (h z hz)) (by rw [List.length_map]; exact hn)
theorem fine_30r {rs : List (List Int)} {n m : Nat} (h : ∀ r ∈ rs, (∀ z ∈ r, z.natAbs < 10 ^ 31) ∧ r.length ≤ n) (hm : rs.length ≤ m) : Fine (PySem.W.Datum.toD rs) (m * (n * 106 + 1)) :=
  fine_list (fun d hd => by
    obtain ⟨r, hr, rfl⟩ := List.mem_map.mp hd
    exact fine_30s (h r hr).1 (h r hr).2) (by rw [List.length_map]; exact hm)
theorem fine_bools (bs : List Bool) : Fine (PySem.W.Datum.toD bs) (bs.length * 1) :=
  fine_list (w := 0) (fun d hd => by
    obtain ⟨z, hz, rfl⟩ := List.mem_map.mp hd
    exact fine_bool z) (by rw [List.length_map]; exact Nat.le_refl _)
theorem sq_new {K : PySem.W.Frag} {H : Hp} {p : Addr} (np : H p = none) (xs : List V) : SqL K (upd H p (.lst xs)) p xs := .inl (.inl upd_same)
end Hn

/-! What is known, moved on to a later heap; piles of new lists. -/
namespace Hn
open PySem PySem.Spec PyProof.Rows L2 Evl
section
variable {K : PySem.W.Frag} {C : Addr} {fld : Str} {H H' : Hp} {v : V} {s : List Int} {a b : Addr} {xs : List V} {o : HO}
theorem mv_bag (h : Bag H b) (e : Xl H H') : Bag H' b := h.mono e
theorem mv_clk (h : Clk K C H v s) (e : Xl H H') : Clk K C H' v s := h.mono e
theorem mv_rw (h : Rw K C fld H v s) (e : Xl H H') : Rw K C fld H' v s := h.mono e
theorem mv_at (h : H a = some o) (e : Ex H H') : H' a = some o := e _ _ h
theorem mv_sqL (h : SqL K H a xs) (e : Ex H H') : SqL K H' a xs := ex_l e h
theorem mv_sqT (h : SqT K H a xs) (e : Ex H H') : SqT K H' a xs := ex_t e h
theorem at_sqL (h : H a = some (.lst xs)) : SqL K H a xs := .inl (.inl h)
theorem at_sqT (h : H a = some (.tup xs)) : SqT K H a xs := .inl (.inl h)
theorem sqL_sq (h : SqL K H a xs) : Sq K H a xs := .inl h
theorem sqT_sq (h : SqT K H a xs) : Sq K H a xs := .inr h
end
/-- a list of new lists, none of them the list itself -/
def Pile (H : Hp) (D : Addr) (rs : List (List V)) : Prop := ∃ ys : List V, H D = some (.lst ys) ∧ ys.length = rs.length ∧ ∀ (i : Nat) y, ys[i]? = some y → ∃ p, y = .ref p ∧ p ≠ D ∧ H p = some (.lst (rs.getD i []))
theorem Pile.nil {H : Hp} {D : Addr} (h : H D = some (.lst [])) : Pile H D [] := ⟨[], h, rfl, fun i y z => by simp at z⟩
theorem Pile.ex {H H' : Hp} {D : Addr} {rs : List (List V)} (e : Ex H H') (h : Pile H D rs) : Pile H' D rs :=
  let ⟨ys, h1, h2, h3⟩ := h
  ⟨ys, e _ _ h1, h2, fun i y hy => let ⟨p, hp, n, q⟩ := h3 i y hy; ⟨p, hp, n, e _ _ q⟩⟩
theorem Pile.push {H : Hp} {D q : Addr} {rs : List (List V)} {ys xs : List V} (h : Pile H D rs) (hD : H D = some (.lst ys)) (hq : H q = some (.lst xs)) (hn : q ≠ D) : Pile (upd H D (.lst (ys ++ [.ref q]))) D (rs ++ [xs]) := by
  obtain ⟨zs, h1, h2, h3⟩ := h
  rw [hD] at h1
  cases h1
  refine ⟨_, upd_same, by rw [List.length_append, List.length_append, h2]; rfl, fun i y hy => ?_⟩
  by_cases hi : i < ys.length
  · rw [List.getElem?_append_left hi] at hy
    obtain ⟨p, hp, n, e⟩ := h3 i y hy
    refine ⟨p, hp, n, ?_⟩
    rw [upd_ne n, e, List.getD_eq_getElem?_getD, List.getD_eq_getElem?_getD, List.getElem?_append_left (by omega)]
  · have hi2 : i = ys.length := by
      have := (List.getElem?_eq_some_iff.mp hy).1
      rw [List.length_append, List.length_singleton] at this
      omega
    subst hi2
    rw [List.getElem?_append_right (Nat.le_refl _), Nat.sub_self] at hy
    cases hy
    refine ⟨q, rfl, hn, ?_⟩
    rw [upd_ne hn, hq, List.getD_eq_getElem?_getD, List.getElem?_append_right (by omega), h2, Nat.sub_self]
    rfl
theorem Pile.hd {K : PySem.W.Frag} {H : Hp} {D : Addr} {us : List (List Int)} (h : Pile H D (us.map fun r => r.map V.int)) : Hd K H (.ref D) us := by
  obtain ⟨ys, h1, h2, h3⟩ := h
  rw [List.length_map] at h2
  refine hd_list (.inl (.inl h1)) (hda_ix h2 fun i v u hv hu => ?_)
  obtain ⟨p, rfl, _, hp⟩ := h3 i v hv
  rw [List.getD_eq_getElem?_getD, List.getElem?_map, hu] at hp
  exact hd_ints (.inl (.inl hp))
/-! ### a conditional expression whose two ways meet again -/
def tIfJ : TT → TE → TE → TE := tIf
theorem pe_ifJ {X : Cx} {tA : TT} {ta tb : TE} {pos : Pos} {a b c : Expr} (hc : PT X c tA) (ha : PE X a ta) (hb : PE X b tb) : PE X (.IfExp c a b pos) (tIfJ tA ta tb) := pe_ifExp hc ha hb
theorem r_ifJ {tt : TT} {ta tb : TE} {σ : L2.St} {H : Hp} {Q : VK} (P : V → Hp → Prop) (h : ∀ Q' : VK, (∀ v H', P v H' → Q' v H') → tIf tt ta tb σ H Q') (q : ∀ v H', P v H' → Q v H') : tIfJ tt ta tb σ H Q := h Q q
section
variable {K : PySem.W.Frag} {C : Addr} {fld : Str} {H H' : Hp} {v w : V} {s : List Int} {a b : Addr} {xs : List V} {Q : VK} {sp : Sp}
theorem r_ownA {t : Value} (h : Rw K C fld H v s) (ty : TyX K H w t) (nf : PySem.W.subIn K t (.ref C) = some false) (q : sp [v, w] H Q E0) : rOwnA K C sp v w H Q := by
  obtain ⟨x, dx, a, rfl, hp, _⟩ := h
  exact ⟨x, dx, _, _, rfl, hp, ty, nf_of nf, q⟩
theorem r_clkA {t : Value} (h : Clk K C H v s) (ty : TyX K H w t) (nf : PySem.W.subIn K t (.ref C) = some false) (q : sp [v, w] H Q E0) : rOwnA K C sp v w H Q := by
  obtain ⟨x, dx, fs, rfl, hp, _⟩ := r_clkG (p := True) h trivial
  exact ⟨x, dx, _, _, rfl, hp, ty, nf_of nf, q⟩
theorem ty_sqL (h : SqL K H a xs) : TyX K H (.ref a) (.type "list") := by
  rcases h with (h | ⟨o, h⟩) | ⟨o, its, n, h1, h2, _⟩
  · exact .base (.lst h)
  · exact .base (.frz h)
  · exact .kList h1 h2
theorem ty_sqT (h : SqT K H a xs) : TyX K H (.ref a) (.type "tuple") := by
  rcases h with (h | ⟨o, h⟩) | ⟨o, its, n, h1, h2, _⟩
  · exact .base (.tup h)
  · exact .fTuple h
  · exact .kTuple h1 h2
theorem ty_rw (i : IsC K C) (h : Rw K C fld H v s) : TyX K H v (.ref C) := by
  obtain ⟨x, dx, a, rfl, hp, _⟩ := h
  exact .base (.ins hp i.cl i.ha i.hn i.tk i.mr)
theorem ty_clk (i : IsC K C) (h : Clk K C H v s) : TyX K H v (.ref C) := by
  obtain ⟨x, dx, fs, rfl, hp, _⟩ := r_clkG (p := True) h trivial
  exact .base (.ins hp i.cl i.ha i.hn i.tk i.mr)
end
theorem at_row {n : Nat} {f : Int → Int} {h : Nat} (hh : h < n) : atI ((rowOf n f).map V.int) (h : Int) = some (.int (f (h : Int))) := by
  have e := at_int (ns := rowOf n f) (i := (h : Int)) (by omega) (by rw [rowOf_length]; omega)
  rw [Int.toNat_natCast, rowOf_getD _ hh] at e
  exact e
theorem row_all {n : Nat} {f : Int → Int} {P : Int → Prop} (h : ∀ j : Nat, j < n → P (f j)) : ∀ z ∈ rowOf n f, P z := fun z hz => by
  unfold rowOf at hz
  obtain ⟨j, hj, rfl⟩ := List.mem_map.mp hz
  exact h j (List.mem_range.mp hj)
theorem row_same {n h : Nat} {f : Int → Int} {z : Int} (hh : h < n) : (rowOf n f = rowOf n fun i => if i = (h : Int) then z else f i) ↔ f (h : Int) = z := by
  rw [rowOf_inj]
  constructor
  · intro e
    have := e h hh
    simp only [if_true] at this
    exact this
  · intro e j hj
    show f j = if (j : Int) = (h : Int) then z else f j
    split
    · rename_i q
      rw [q, e]
    · rfl
theorem dec_set {n h : Nat} {f : Int → Int} {z : Int} (hh : h < n) : decide (rowOf n f = rowOf n fun i => if i = (h : Int) then z else f i) = decide (f (h : Int) = z) := decide_eq_decide.mpr (row_same hh)
theorem dec_set' {n h : Nat} {f : Int → Int} {z : Int} (hh : h < n) : decide ((rowOf n fun i => if i = (h : Int) then z else f i) = rowOf n f) = decide (f (h : Int) = z) := by
  rw [← dec_set hh]
  exact decide_eq_decide.mpr ⟨Eq.symm, Eq.symm⟩
/-- row[:h] + [z] + row[h + 1:] -/
theorem set_lst {n h : Nat} {f : Int → Int} {z : Int} (hh : h < n) : ((rowOf n f).map V.int).take h ++ [.int z] ++ ((rowOf n f).map V.int).drop (h + 1) = (rowOf n fun i => if i = (h : Int) then z else f i).map V.int := by
  rw [← set_row hh, List.map_append, List.map_append, List.map_take, List.map_drop]
  rfl
theorem len_ne {α : Type} {s t : List α} (h : s.length ≠ t.length) : ¬ s = t := fun e => h (by rw [e])
theorem line_le {n : Nat} (h : n ≤ 1000) : n ≤ sizeLine := by
  have : (1000 : Nat) ≤ sizeLine := by decide
  omega
theorem sqT_back {K : PySem.W.Frag} {H : Hp} {p l : Addr} {xs ys : List V} (np : H p = none) (h : SqT K (upd H p (.lst ys)) l xs) : SqT K H l xs := by
  rcases h with (z | ⟨o, z⟩) | z
  · exact .inl (.inl (by rw [upd_ne (ne_of z upd_same (fun z => nomatch z))] at z; exact z))
  · exact .inl (.inr ⟨o, by rw [upd_ne (ne_of z upd_same (fun z => nomatch z))] at z; exact z⟩)
  · exact .inr z
theorem getD_mem' {s : List Int} {j : Nat} (h : j < s.length) : s.getD j 0 ∈ s := by
  rw [List.getD_eq_getElem?_getD, List.getElem?_eq_getElem h]
  exact List.getElem_mem h
theorem hda_rep {α : Type} [DecidableEq α] [PySem.W.Datum α] {K : PySem.W.Frag} {H : Hp} {x : V} {u : α} (h : Hd K H x u) : ∀ n : Nat, HdAll K H (List.replicate n x) (List.replicate n u)
  | 0 => .nil
  | n + 1 => .cons h (hda_rep h n)
theorem r_yesD {p A B : Prop} [Decidable p] (h : p) (q : A) : if decide p = true then A else B := by
  rw [decide_eq_true h]
  exact iteT q
theorem r_noD {p A B : Prop} [Decidable p] (h : ¬ p) (q : B) : if decide p = true then A else B := by
  rw [decide_eq_false h]
  exact iteF q
theorem r_reprB {K : PySem.W.Frag} {H : Hp} {Q : VK} {a : Addr} (bs : List Bool) (h : SqL K H a (bs.map V.bl)) (q : Q (.str (PySem.W.Datum.toD bs).shown) H) (hn : Nat.ble bs.length 1000 = true := by rfl) : rRepr K [.ref a] H Q :=
  r_reprH (hd_bools h) (fine_bools bs) (by have := Nat.le_of_ble_eq_true hn; omega) q
theorem r_repr30 {K : PySem.W.Frag} {H : Hp} {Q : VK} {a : Addr} {s : List Int} (h : SqL K H a (s.map V.int)) (hz : ∀ z ∈ s, z.natAbs < 10 ^ 31) (hl : s.length ≤ 48) (q : Q (.str (PySem.W.Datum.toD s).shown) H) : rRepr K [.ref a] H Q :=
  r_reprH (hd_ints h) (fine_30s (n := 48) hz hl) (by decide) q
theorem mv_sq {K : PySem.W.Frag} {H H' : Hp} {a : Addr} {xs : List V} (h : Sq K H a xs) (e : Ex H H') : Sq K H' a xs := h.mono e
theorem at_last_row {n : Nat} {f : Int → Int} : atI ((rowOf (n + 1) f).map V.int) (-1) = some (.int (f (n : Int))) := by
  unfold rowOf
  rw [List.range_succ, List.map_append, List.map_append]
  exact atI_last _ _
/-- a statement that changes no name, then the rest, shown once -/
theorem r_cutE {t u : TS} {D : Ends} {σ : L2.St} {H : Hp} (h1 : t { D with nx := fun σ' H' => σ' = σ ∧ Ex H H' } σ H) (h2 : ∀ H', Ex H H' → u D σ H') : tCut t u D σ H := ⟨_, h1, fun _ H' z => z.1.symm ▸ h2 H' z.2⟩
theorem r_cat {H : Hp} {Q : VK} {l b : Addr} {xs zs : List V} (h1 : H l = some (.lst xs)) (h2 : H b = some (.lst zs)) (hn : xs.length + zs.length ≤ 1000) (q : ∀ p, H p = none → Q (.ref p) (upd H p (.lst (xs ++ zs)))) : rCat (.ref l) (.ref b) H Q := ⟨l, b, xs, zs, rfl, rfl, h1, h2, line_le hn, q⟩
end Hn

/-! Slices and zips of lists or tuples; sums of begins. -/
namespace Hn
open PySem PySem.Spec PyProof.Rows L2 Evl RZ
def rSlQ (K : PySem.W.Frag) : V → Option Int → Option Int → Hp → VK → Prop := fun x lo hi H Q => ∃ a xs, x = .ref a ∧ ((SqL K H a xs ∧ ∀ p, H p = none → Q (.ref p) (upd H p (.lst (cutV xs lo hi)))) ∨
  (SqT K H a xs ∧ ¬ (HT.sIx xs.length 0 lo = 0 ∧ HT.sIx xs.length xs.length hi = xs.length) ∧ ∀ p, H p = none → Q (.ref p) (upd H p (.tup (cutV xs lo hi)))))
section
variable {X : Cx} {K : PySem.W.Frag}
theorem k_slQ (h : X.K = K) : SlR X (rSlQ K) := by
  subst h
  intro pins s σ H x v vl vu lo hi sl Q I rx hs pl pu h
  obtain ⟨a, xs, rfl, ⟨h1, q⟩ | ⟨h1, h2, q⟩⟩ := h
  · exact sl_list pins s σ H _ v vl vu lo hi sl Q I rx hs pl pu ⟨a, xs, rfl, h1, q⟩
  · exact sl_tup pins s σ H _ v vl vu lo hi sl Q I rx hs pl pu ⟨a, xs, rfl, h1, h2, q⟩
theorem k_slT (h : X.K = K) : SlR X (rSlT K) := h ▸ sl_tup
theorem k_piZA {e e2 : Expr} {ar : TA} {p pos tpos : Pos} {elts : List Expr} {kk : Nat} (h : X.K = K) (hg : Gl X "zip") (hm : X.mg "zip" = none) (ha : PA X [e, e2] ar)
    (hs : starEach [e, e2] X.env = (false, eval e X.env) :: starEach [e2] X.env := by rfl) (hpl : (backTo pos (starEach [e2] X.env)).any (·.1) = false := by rfl) :
    PI X (.Tuple elts kk tpos) (.Call (.Name "zip" p) [e, e2] [] pos) (iZipA K ar) := h ▸ pi_zipA hg hm ha hs hpl
end
theorem r_iZipA {K : PySem.W.Frag} {ar : TA} {σ : L2.St} {H : Hp} {R : It → Hp → Prop} (h : ar σ H fun vs H1 => ∃ a b xs ys, vs = [.ref a, .ref b] ∧ ((SqL K H1 a xs ∧ SqL K H1 b ys ∧ R (Itz K a b) H1) ∨ (SqT K H1 a xs ∧ SqT K H1 b ys ∧ R (ItzT K a b) H1))) : iZipA K ar σ H R := h
theorem walk_zipT {K : PySem.W.Frag} {a b : Addr} {xs ys : List V} {n : Nat} (hn : n = min xs.length ys.length) : Walk (ItzT K a b) n (fun H => SqT K H a xs ∧ SqT K H b ys) (YPair (fun i => xs[i]?) (fun i => ys[i]?)) := by
  subst hn
  refine ⟨fun i _ hi q => ?_, fun _ q => ⟨xs, ys, q.1, q.2, by omega⟩, fun i H v H' _ q y => ?_⟩
  · have h1 : i < xs.length := by omega
    have h2 : i < ys.length := by omega
    exact ⟨xs, ys, xs[i], ys[i], q.1, q.2, by simp [h1], by simp [h2]⟩
  · obtain ⟨T, x, z, h1, h2, h3, h4, h5⟩ := y
    exact ⟨T, x, z, h1, h2, h3, h4 xs q.1, h5 ys q.2⟩
/-! ### sums -/
theorem rowOf_succ (n : Nat) (f : Int → Int) : rowOf (n + 1) f = rowOf n f ++ [f (n : Int)] := by
  unfold rowOf
  rw [List.range_succ, List.map_append]
  rfl
/-- 0, the first, the first two .. -/
def sumsR (s : List Int) : List Int := rowOf (s.length + 1) fun k => (s.take k.toNat).sum
theorem sumsR_length (s : List Int) : (sumsR s).length = s.length + 1 := rowOf_length _ _
theorem take_sum {s : List Int} {j : Nat} (h : j < s.length) : (s.take (j + 1)).sum = (s.take j).sum + s.getD j 0 := by
  rw [List.take_succ, List.sum_append, List.getElem?_eq_getElem h, List.getD_eq_getElem?_getD, List.getElem?_eq_getElem h]
  simp
theorem sumsR_getD {s : List Int} {j : Nat} (h : j ≤ s.length) : (sumsR s).getD j 0 = (s.take j).sum := by
  unfold sumsR
  rw [rowOf_getD _ (by omega)]
  rfl
theorem take_row {n : Nat} {f : Int → Int} : ∀ {k : Nat}, k ≤ n → (rowOf n f).take k = rowOf k f := fun {k} h => by
  unfold rowOf
  rw [← List.map_take, List.take_range, Nat.min_eq_left h]
theorem sumsR_row (n : Nat) (f : Int → Int) : sumsR (rowOf n f) = rowOf (n + 1) fun k => Sg k.toNat f := by
  unfold sumsR
  rw [rowOf_length]
  refine rowOf_congr fun i h0 h1 => ?_
  show ((rowOf n f).take i.toNat).sum = Sg i.toNat f
  rw [take_row (by omega), sum_row]
/-- what lies between -/
def diffR (t : List Int) : List Int := rowOf (t.length - 1) fun i => t.getD (i.toNat + 1) 0 - t.getD i.toNat 0
theorem diffR_length (t : List Int) : (diffR t).length = t.length - 1 := rowOf_length _ _
theorem diff_sums (s : List Int) : diffR (sumsR s) = s := by
  unfold diffR
  rw [sumsR_length, Nat.add_sub_cancel]
  refine (row_ext _ rfl fun j hj => ?_).symm
  show s.getD j 0 = (sumsR s).getD (j + 1) 0 - (sumsR s).getD j 0
  rw [sumsR_getD (by omega), sumsR_getD (by omega), take_sum hj]
  omega
theorem diffR_row (n : Nat) (f : Int → Int) : diffR (rowOf (n + 1) f) = rowOf n fun i => f (i + 1) - f i := by
  unfold diffR
  rw [rowOf_length, Nat.add_sub_cancel]
  refine rowOf_congr fun i h0 h1 => ?_
  show (rowOf (n + 1) f).getD (i.toNat + 1) 0 - (rowOf (n + 1) f).getD i.toNat 0 = f (i + 1) - f i
  rw [rowOf_getD _ (by omega), rowOf_getD _ (by omega), show ((i.toNat + 1 : Nat) : Int) = i + 1 by omega, show ((i.toNat : Nat) : Int) = i by omega]
theorem Sg_succ (n : Nat) (f : Int → Int) : Sg (n + 1) f = Sg n f + f (n : Int) := rfl
theorem Sg_diff (n : Nat) (f : Int → Int) : Sg n (fun i => f (i + 1) - f i) = f (n : Int) - f 0 := by
  induction n with
  | zero => show (0 : Int) = f 0 - f 0; omega
  | succ n ih =>
    rw [Sg_succ, ih]
    show f n - f 0 + (f ((n : Int) + 1) - f n) = f ((n + 1 : Nat) : Int) - f 0
    rw [show ((n + 1 : Nat) : Int) = (n : Int) + 1 by omega]
    omega
/-- the sums of a row of ints that begins with 0 and never falls -/
theorem sums_diff {n : Nat} {f : Int → Int} (h0 : f 0 = 0) : sumsR (diffR (rowOf (n + 1) f)) = rowOf (n + 1) f := by
  rw [diffR_row, sumsR_row]
  refine rowOf_congr fun i i0 i1 => ?_
  show Sg i.toNat (fun i => f (i + 1) - f i) = f i
  rw [Sg_diff, h0, show ((i.toNat : Nat) : Int) = i by omega]
  omega
def okSums (t : List Int) : Bool := decide (2 ≤ t.length) && decide (t.length ≤ 49) && (t.all fun x => decide (0 ≤ x)) && decide (t.getD 0 0 = 0) && ((List.range (t.length - 1)).all fun i => decide (t.getD i 0 ≤ t.getD (i + 1) 0))
theorem Sg_nn {n : Nat} {f : Int → Int} (h : ∀ j : Nat, j < n → 0 ≤ f j) : 0 ≤ Sg n f := by
  induction n with
  | zero => exact Int.le_refl _
  | succ n ih =>
    rw [Sg_succ]
    have := ih fun j hj => h j (by omega)
    have := h n (by omega)
    omega
theorem ok_sumsR {s : List Int} (g : GoodN s) : okSums (sumsR s) = true := by
  have h1 := g.ne
  have h2 := g.le
  obtain ⟨n, hn⟩ : ∃ n, n = s.length := ⟨_, rfl⟩
  obtain ⟨f, hf⟩ : ∃ f, s = rowOf n f := ⟨cyc s, by rw [hn]; exact row_cyc s⟩
  have nn : ∀ j : Nat, j < n → 0 ≤ f j := fun j hj => by
    have := g.mem _ (getD_mem' (s := s) (j := j) (by omega))
    rw [hf, rowOf_getD f hj] at this
    exact this
  unfold okSums
  simp only [Bool.and_eq_true, List.all_eq_true, decide_eq_true_eq, sumsR_length, List.mem_range]
  refine ⟨⟨⟨⟨by omega, by omega⟩, ?_⟩, ?_⟩, ?_⟩
  · intro x hx
    rw [hf, sumsR_row] at hx
    exact row_all (P := fun z => 0 ≤ z) (fun j hj => by
      show 0 ≤ Sg (j : Int).toNat f
      exact Sg_nn fun i hi => nn i (by omega)) x hx
  · rw [sumsR_getD (by omega)]
    rfl
  · intro i hi
    rw [sumsR_getD (by omega), sumsR_getD (by omega), take_sum (by omega)]
    have := g.mem _ (getD_mem' (s := s) (j := i) (by omega))
    omega
theorem good_diff {t : List Int} (h : okSums t = true) : GoodN (diffR t) := by
  unfold okSums at h
  simp only [Bool.and_eq_true, List.all_eq_true, decide_eq_true_eq, List.mem_range] at h
  obtain ⟨⟨⟨⟨h1, h2⟩, h3⟩, h4⟩, h5⟩ := h
  refine GoodN.of (by rw [diffR_length]; omega) (by rw [diffR_length]; omega) ?_
  unfold diffR
  refine row_all (P := fun z => 0 ≤ z) fun j hj => ?_
  show 0 ≤ t.getD ((j : Int).toNat + 1) 0 - t.getD (j : Int).toNat 0
  have := h5 j hj
  rw [Int.toNat_natCast]
  omega
/-! ### one moved -/
def moveF (f : Int → Int) (h g : Int) : Int → Int := fun i => f i - (if i = h then 1 else 0) + (if i = g then 1 else 0)
theorem row_put {n h : Nat} {f : Int → Int} {z : Int} (hh : h < n) : ((rowOf n f).map V.int).set h (.int z) = (rowOf n fun i => if i = (h : Int) then z else f i).map V.int := by
  rw [← List.map_set]
  congr 1
  refine row_ext _ (by rw [List.length_set, rowOf_length]) fun j hj => ?_
  rw [List.getD_eq_getElem?_getD, List.getElem?_set]
  by_cases q : h = j
  · subst q
    rw [if_pos rfl, if_pos (by rw [rowOf_length]; exact hh)]
    show z = if (h : Int) = (h : Int) then z else f h
    rw [if_pos rfl]
  · rw [if_neg q, ← List.getD_eq_getElem?_getD, rowOf_getD f hj]
    show f j = if (j : Int) = (h : Int) then z else f j
    rw [if_neg (by omega)]
theorem ixN_nat {n j : Nat} (h : j < n) : ixN n (j : Int) = some j := by
  unfold ixN
  rw [if_pos (by omega)]
  simp [h]
theorem moved_row {n h g : Nat} {f : Int → Int} : (rowOf n fun i => if i = (g : Int) then (if (g : Int) = (h : Int) then f h - 1 else f g) + 1 else if i = (h : Int) then f h - 1 else f i) = rowOf n (moveF f h g) := by
  refine rowOf_congr fun i _ _ => ?_
  show (if i = (g : Int) then (if (g : Int) = (h : Int) then f h - 1 else f g) + 1 else if i = (h : Int) then f h - 1 else f i) = f i - (if i = (h : Int) then 1 else 0) + (if i = (g : Int) then 1 else 0)
  by_cases q1 : i = (g : Int)
  · by_cases q2 : i = (h : Int)
    · rw [if_pos q1, if_pos (by omega), if_pos q2, if_pos q1, q2]
    · rw [if_pos q1, if_neg (by omega), if_neg q2, if_pos q1, q1]
      omega
  · by_cases q2 : i = (h : Int)
    · rw [if_neg q1, if_pos q2, if_pos q2, if_neg q1, q2]
      omega
    · rw [if_neg q1, if_neg q2, if_neg q2, if_neg q1]
      omega
theorem cut_part {n : Nat} (h : 1 ≤ n) : ¬ (HT.sIx n 0 (some 1) = 0 ∧ HT.sIx n n none = n) := fun z => by
  have e : HT.sIx n 0 (some ((1 : Nat) : Int)) = min 1 n := HT.sIx_nat n 0 1
  have := z.1
  rw [show (some (1 : Int)) = some ((1 : Nat) : Int) from rfl, e] at this
  omega
theorem at_rowI {n : Nat} {f : Int → Int} {i : Int} (h0 : 0 ≤ i) (h1 : i < (n : Int)) : atI ((rowOf n f).map V.int) i = some (.int (f i)) := by
  obtain ⟨j, rfl⟩ : ∃ j : Nat, i = (j : Int) := ⟨i.toNat, by omega⟩
  exact at_row (by omega)
theorem cut_init {xs : List V} (h : 1 ≤ xs.length) : cutV xs none (some (-1)) = xs.take (xs.length - 1) := by
  unfold cutV
  have e : HT.sIx xs.length xs.length (some (-1)) = xs.length - 1 := by
    unfold HT.sIx
    simp only [Option.elim]
    first
      | omega
      | (simp; omega)
  rw [HT.sIx_none, e, List.drop_zero, Nat.sub_zero]
theorem put_last {m : Nat} {f : Int → Int} {z : Int} : ((rowOf (m + 1) f).map V.int).take m ++ [.int z] = (rowOf (m + 1) fun i => if i = (m : Int) then z else f i).map V.int := by
  have e := set_lst (n := m + 1) (h := m) (f := f) (z := z) (by omega)
  rw [← e, List.drop_of_length_le (by rw [List.length_map, rowOf_length]; omega), List.append_nil]
end Hn

/-! Plans by their sums: the lesser, the greater, both. -/
namespace Hn
open PySem PySem.Spec PyProof.Rows L2 Evl
/-- a row by its sums -/
def byS (n : Nat) (A : Int → Int) : List Int := rowOf n fun i => A (i + 1) - A i
theorem byS_length (n : Nat) (A : Int → Int) : (byS n A).length = n := rowOf_length _ _
theorem byS_diff (n : Nat) (A : Int → Int) : diffR (rowOf (n + 1) A) = byS n A := diffR_row n A
theorem sums_byS {n : Nat} {A : Int → Int} (h0 : A 0 = 0) : sumsR (byS n A) = rowOf (n + 1) A := by
  rw [← byS_diff]
  exact sums_diff h0
theorem byS_sum (n : Nat) (A : Int → Int) : (byS n A).sum = A (n : Int) - A 0 := by
  unfold byS
  rw [sum_row, Sg_diff]
theorem row_byS (n : Nat) (f : Int → Int) : rowOf n f = byS n fun k => Sg k.toNat f := by
  refine rowOf_congr fun i h0 _ => ?_
  show f i = Sg (i + 1).toNat f - Sg i.toNat f
  rw [show (i + 1).toNat = i.toNat + 1 by omega, Sg_succ, Int.toNat_of_nonneg h0]
  omega
theorem byS_inj {n : Nat} {A B : Int → Int} (ha : A 0 = 0) (hb : B 0 = 0) : byS n A = byS n B ↔ ∀ k : Nat, k ≤ n → A k = B k := by
  constructor
  · intro e k hk
    have e2 := congrArg sumsR e
    rw [sums_byS ha, sums_byS hb, rowOf_inj] at e2
    exact e2 k (by omega)
  · intro e
    refine rowOf_congr fun i h0 h1 => ?_
    have e1 := e i.toNat (by omega)
    have e2 := e (i.toNat + 1) (by omega)
    rw [show ((i.toNat + 1 : Nat) : Int) = i + 1 by omega] at e2
    rw [show ((i.toNat : Nat) : Int) = i by omega] at e1
    show A (i + 1) - A i = B (i + 1) - B i
    rw [e1, e2]
def mono (n : Nat) (A : Int → Int) : Prop := ∀ j : Nat, j < n → A j ≤ A ((j : Int) + 1)
theorem good_byS {n : Nat} {A : Int → Int} (h1 : 1 ≤ n) (h2 : n ≤ 48) (m : mono n A) : GoodN (byS n A) :=
  GoodN.of (by rw [byS_length]; exact h1) (by rw [byS_length]; exact h2) (row_all (P := fun z => 0 ≤ z) fun j hj => by
    have := m j hj
    show 0 ≤ A ((j : Int) + 1) - A j
    omega)
theorem mono_of {n : Nat} {A : Int → Int} (g : GoodN (byS n A)) : mono n A := fun j hj => by
  have := g.mem _ (getD_mem' (s := byS n A) (j := j) (by rw [byS_length]; exact hj))
  unfold byS at this
  rw [rowOf_getD _ hj] at this
  show A j ≤ A ((j : Int) + 1)
  have h : 0 ≤ A ((j : Int) + 1) - A j := this
  omega
theorem mono_le {n : Nat} {A : Int → Int} (m : mono n A) : ∀ {i j : Nat}, i ≤ j → j ≤ n → A i ≤ A j := fun {i j} h => by
  induction h with
  | refl => intro _; exact Int.le_refl _
  | step h ih =>
    intro hj
    rename_i k
    have h1 := ih (by omega)
    have h2 := m k (by omega)
    rw [show ((k + 1 : Nat) : Int) = (k : Int) + 1 by omega]
    omega
def mnF (A B : Int → Int) : Int → Int := fun k => if B k < A k then B k else A k
def mxF (A B : Int → Int) : Int → Int := fun k => if B k > A k then B k else A k
theorem mn_at {A B : Int → Int} (k : Int) : mnF A B k ≤ A k ∧ mnF A B k ≤ B k ∧ (mnF A B k = A k ∨ mnF A B k = B k) := by
  show (if B k < A k then B k else A k) ≤ A k ∧ (if B k < A k then B k else A k) ≤ B k ∧ ((if B k < A k then B k else A k) = A k ∨ (if B k < A k then B k else A k) = B k)
  split <;> omega
theorem mx_at {A B : Int → Int} (k : Int) : A k ≤ mxF A B k ∧ B k ≤ mxF A B k ∧ (mxF A B k = A k ∨ mxF A B k = B k) := by
  show A k ≤ (if B k > A k then B k else A k) ∧ B k ≤ (if B k > A k then B k else A k) ∧ ((if B k > A k then B k else A k) = A k ∨ (if B k > A k then B k else A k) = B k)
  split <;> omega
theorem mono_mn {n : Nat} {A B : Int → Int} (a : mono n A) (b : mono n B) : mono n (mnF A B) := fun j hj => by
  have := a j hj
  have := b j hj
  have := mn_at (A := A) (B := B) j
  have := mn_at (A := A) (B := B) ((j : Int) + 1)
  omega
theorem mono_mx {n : Nat} {A B : Int → Int} (a : mono n A) (b : mono n B) : mono n (mxF A B) := fun j hj => by
  have := a j hj
  have := b j hj
  have := mx_at (A := A) (B := B) j
  have := mx_at (A := A) (B := B) ((j : Int) + 1)
  omega
/-- a plan of P people, by its sums -/
def Ps (K : PySem.W.Frag) (C : Addr) (H : Hp) (v : V) (n : Nat) (P : Int) (A : Int → Int) : Prop := Rw K C "kept_begins" H v (byS n A) ∧ A 0 = 0 ∧ A (n : Int) = P
section
variable {K : PySem.W.Frag} {C : Addr} {H H' : Hp} {v w : V} {n : Nat} {P : Int} {A B : Int → Int}
theorem mv_ps (h : Ps K C H v n P A) (e : Xl H H') : Ps K C H' v n P A := ⟨h.1.mono e, h.2⟩
theorem Ps.good (h : Ps K C H v n P A) : GoodN (byS n A) := h.1.good
theorem Ps.mono (h : Ps K C H v n P A) : mono n A := mono_of h.1.good
theorem Ps.ne (h : Ps K C H v n P A) : 1 ≤ n := by
  have := h.1.good.ne
  rw [byS_length] at this
  exact this
theorem Ps.le (h : Ps K C H v n P A) : n ≤ 48 := by
  have := h.1.good.le
  rw [byS_length] at this
  exact this
theorem Ps.mn0 (h : Ps K C H v n P A) (h' : Ps K C H w n P B) : mnF A B 0 = 0 ∧ mnF A B (n : Int) = P := by
  have := mn_at (A := A) (B := B) 0
  have := mn_at (A := A) (B := B) n
  have := h.2
  have := h'.2
  omega
theorem Ps.mx0 (h : Ps K C H v n P A) (h' : Ps K C H w n P B) : mxF A B 0 = 0 ∧ mxF A B (n : Int) = P := by
  have := mx_at (A := A) (B := B) 0
  have := mx_at (A := A) (B := B) n
  have := h.2
  have := h'.2
  omega
theorem Ps.people (h : Ps K C H v n P A) : (byS n A).sum = P := by
  rw [byS_sum]
  have := h.2
  omega
end
def leS (n : Nat) (A B : Int → Int) : Bool := (List.range (n + 1)).all fun k => decide (A (k : Int) ≤ B (k : Int))
theorem leS_iff {n : Nat} {A B : Int → Int} : leS n A B = true ↔ ∀ k : Nat, k ≤ n → A k ≤ B k := by
  unfold leS
  rw [List.all_eq_true]
  constructor
  · intro h k hk
    exact of_decide_eq_true (h k (List.mem_range.mpr (by omega)))
  · intro h k hk
    exact decide_eq_true (h k (by have := List.mem_range.mp hk; omega))
theorem at_lastL {α : Type} {xs : List α} {n : Nat} {v : α} (h : xs[n]? = some v) (hl : xs.length = n + 1) : atI xs (-1) = some v := by
  have e : xs = xs.take n ++ [v] := by
    have := List.take_append_drop n xs
    conv => lhs; rw [← this]
    congr 1
    rw [List.drop_eq_getElem_cons (by omega), List.drop_of_length_le (by omega)]
    rw [List.getElem?_eq_getElem (by omega)] at h
    rw [Option.some.inj h]
  rw [e]
  exact atI_last _ _
/-- sums that are drawn and put in order -/
theorem sums_drawn {c : List Int} {P : Int} (hs : c.Pairwise (· ≤ ·)) (hc : ∀ z ∈ c, 0 ≤ z ∧ z ≤ P) (hP : 0 ≤ P) : ∃ A : Int → Int, (0 :: (c ++ [P])) = rowOf (c.length + 2) A ∧ A 0 = 0 ∧ A ((c.length + 1 : Nat) : Int) = P ∧ mono (c.length + 1) A := by
  obtain ⟨L, hL⟩ : ∃ L, L = 0 :: (c ++ [P]) := ⟨_, rfl⟩
  have hl : L.length = c.length + 2 := by rw [hL, List.length_cons, List.length_append]; rfl
  have pw : L.Pairwise (· ≤ ·) := by
    rw [hL, List.pairwise_cons]
    refine ⟨fun z hz => ?_, ?_⟩
    · rcases List.mem_append.mp hz with h | h
      · exact (hc z h).1
      · rw [List.mem_singleton.mp h]; exact hP
    · rw [List.pairwise_append]
      refine ⟨hs, List.pairwise_singleton _ _, fun a ha b hb => ?_⟩
      rw [List.mem_singleton.mp hb]
      exact (hc a ha).2
  refine ⟨fun k => L.getD k.toNat 0, ?_, ?_, ?_, ?_⟩
  · rw [← hL, ← hl]
    exact row_ext _ rfl fun j hj => rfl
  · show L.getD 0 0 = 0
    rw [hL]
    rfl
  · show L.getD (((c.length + 1 : Nat) : Int)).toNat 0 = P
    rw [Int.toNat_natCast, hL, List.getD_cons_succ, List.getD_eq_getElem?_getD, List.getElem?_append_right (Nat.le_refl _), Nat.sub_self]
    rfl
  · intro j hj
    show L.getD (j : Int).toNat 0 ≤ L.getD ((j : Int) + 1).toNat 0
    rw [Int.toNat_natCast, show ((j : Int) + 1).toNat = j + 1 by omega, List.getD_eq_getElem?_getD, List.getD_eq_getElem?_getD, List.getElem?_eq_getElem (by omega), List.getElem?_eq_getElem (by omega)]
    exact List.pairwise_iff_getElem.mp pw j (j + 1) (by omega) (by omega) (by omega)
theorem part_bd {P t p : Int} (hP : 0 ≤ P) (h0 : 0 ≤ t) (h1 : t ≤ p) (hp : 0 < p) : 0 ≤ P * t / p ∧ P * t / p ≤ P := by
  refine ⟨Int.ediv_nonneg (Int.mul_nonneg hP h0) (by omega), ?_⟩
  refine Int.ediv_le_of_le_mul hp ?_
  exact Int.mul_le_mul_of_nonneg_left h1 hP
theorem ps_rw {K : PySem.W.Frag} {C : Addr} {H : Hp} {v : V} {n : Nat} {P : Int} {A : Int → Int} (h : Ps K C H v n P A) : Rw K C "kept_begins" H v (byS n A) := h.1
theorem k_sorted {X : Cx} {K : PySem.W.Frag} (h : X.K = K) : CallR X (.builtin "sorted") (rSorted K) := h ▸ cr_sorted
/-! ### pairs made, pairs gone through with a test -/
section
variable {J : It} {n : Nat} {G : Hp → Prop} {Y : Nat → Hp → V → Hp → Prop}
theorem lc_prsN (w : Walk J n G Y) {g : TG} {te : TE} {vs : List Nat} {σ : L2.St} {H1 : Hp} {Q : VK} (ns ms : List Int) (hl : ns.length = n) (hG : ∀ H, Ex H1 H → G H) (hn : n ≤ 100000)
    (turn : ∀ i x H H', i < n → Ex H1 H → Y i H x H' → ∀ k : VK, (∀ T H4, Ex H H4 → H4 T = some (.tup [.int (ns.getD i 0), .int (ms.getD i 0)]) → k (.ref T) H4) → g x (wipe σ vs) H' fun σ2 H2 => wipe σ2 vs = wipe σ vs ∧ te σ2 H2 k)
    (fin : ∀ D H, H1 D = none → Ex H1 H → Prs H D ns ms → Q (.ref D) H) : LcTail J H1 g tYes te vs σ Q :=
  lc_map w (fun D i v H => ∃ T, v = .ref T ∧ H T = some (.tup [.int (ns.getD i 0), .int (ms.getD i 0)])) (fun _ _ H' e _ _ _ => hG H' e) (fun D i v H H' e ⟨T, h1, h2⟩ => ⟨T, h1, e _ _ h2⟩)
    (fun D i v H xs ys hD ⟨T, h1, h2⟩ => ⟨T, h1, by rw [upd_ne (ne_of h2 hD (fun z => nomatch z))]; exact h2⟩) hn
    (fun D i x H H' hi e hD _ y k h => turn i x H H' hi e y k fun T H4 e4 hT => h _ _ e4 ⟨T, rfl, hT⟩)
    fun D H ys hD e hy hyl hr => by
      have ex : ∃ ts : List Addr, ys = ts.map V.ref := by
        have : ∀ zs : List V, (∀ z ∈ zs, ∃ T, z = V.ref T) → ∃ ts : List Addr, zs = ts.map V.ref := fun zs => by
          induction zs with
          | nil => exact fun _ => ⟨[], rfl⟩
          | cons z zs ih =>
            intro h
            obtain ⟨T, rfl⟩ := h z List.mem_cons_self
            obtain ⟨ts, rfl⟩ := ih fun y hy => h y (List.mem_cons_of_mem _ hy)
            exact ⟨T :: ts, rfl⟩
        refine this ys fun z hz => ?_
        obtain ⟨i, hi, rfl⟩ := List.mem_iff_getElem.mp hz
        obtain ⟨T, hT, _⟩ := hr i _ (List.getElem?_eq_getElem hi)
        exact ⟨T, hT⟩
      obtain ⟨ts, rfl⟩ := ex
      rw [List.length_map] at hyl
      refine fin D H hD e ⟨ts, hy, by omega, fun j t ht => ?_⟩
      obtain ⟨T, hT, h2⟩ := hr j (.ref t) (by rw [List.getElem?_map, ht]; rfl)
      cases hT
      exact h2
end
theorem lc_prsF {K : PySem.W.Frag} {g : TG} {tt : TT} {te : TE} {vs : List Nat} {σ : L2.St} {H1 : Hp} {Q : VK} {p : Addr} {ns ms : List Int} (hP : Prs H1 p ns ms) (t : Nat → Bool) (f : Nat → V) (hn : ns.length ≤ 100000)
    (turn : ∀ i T H, i < ns.length → Ex H1 H → H T = some (.tup [.int (ns.getD i 0), .int (ms.getD i 0)]) → ∀ k : Bool → Hp → Prop, ∀ kk : VK, (∀ H4, t i = true → Ex H H4 → kk (f i) H4) → (∀ H3, t i = false → Ex H H3 → k false H3) →
      g (.ref T) (wipe σ vs) H fun σ2 H2 => wipe σ2 vs = wipe σ vs ∧ tt σ2 H2 fun b H3 => if b = true then te σ2 H3 kk else k false H3)
    (fin : ∀ D H, H1 D = none → Ex H1 H → H D = some (.lst (((List.range ns.length).filter t).map f)) → Q (.ref D) H) : ∃ a, V.ref p = .ref a ∧ (∃ xs, SqL K H1 a xs) ∧ LcTail (Itl K a) H1 g tt te vs σ Q := by
  obtain ⟨ts, h1, h2, h3⟩ := hP
  refine ⟨p, rfl, ⟨_, .inl (.inl h1)⟩, lc_filf (walk_list (xs := ts.map V.ref)) t f (fun H e => .inl (.inl (e _ _ h1))) (by rw [List.length_map]; omega) ?_ ?_⟩
  · rintro i x H H' hi e ⟨rfl, hx⟩ k kk hk hk2
    rw [List.length_map] at hi
    rw [List.getElem?_map] at hx
    cases ht : ts[i]? with
    | none => rw [ht] at hx; cases hx
    | some T =>
      rw [ht] at hx
      obtain rfl := Option.some.inj hx
      exact turn i T _ (by omega) e (e _ _ (h3 i T ht)) k kk hk hk2
  · intro D H hD e hd
    rw [List.length_map, h2] at hd
    exact fin D H hD e hd
/-! ### one moved, its sums -/
theorem Sg_sub {n : Nat} {f g : Int → Int} : Sg n (fun i => f i - g i) = Sg n f - Sg n g := by
  induction n with
  | zero => rfl
  | succ n ih => rw [Sg_succ, Sg_succ, Sg_succ, ih]; omega
theorem Sg_move {n h g : Nat} {f : Int → Int} (hh : h < n) (hg : g < n) : Sg n (moveF f h g) = Sg n f := by
  have e : Sg n (moveF f h g) = Sg n (fun i => f i - (if i = (h : Int) then 1 else 0)) + Sg n (fun i => if i = (g : Int) then 1 else 0) := Sg_add
  rw [e, Sg_sub, Sg_one hh (fun _ => 1), Sg_one hg (fun _ => 1)]
  omega
theorem nn_move {n h g : Nat} {f : Int → Int} (nn : ∀ j : Nat, j < n → 0 ≤ f j) (h0 : 1 ≤ f h) : ∀ j : Nat, j < n → 0 ≤ moveF f h g j := fun j hj => by
  have := nn j hj
  show 0 ≤ f j - (if (j : Int) = (h : Int) then 1 else 0) + (if (j : Int) = (g : Int) then 1 else 0)
  by_cases q1 : (j : Int) = (h : Int)
  · rw [if_pos q1, q1]
    split <;> omega
  · rw [if_neg q1]
    split <;> omega
theorem mono_Sg {n : Nat} {f : Int → Int} (nn : ∀ j : Nat, j < n → 0 ≤ f j) : mono n fun k => Sg k.toNat f := fun j hj => by
  show Sg (j : Int).toNat f ≤ Sg ((j : Int) + 1).toNat f
  rw [Int.toNat_natCast, show ((j : Int) + 1).toNat = j + 1 by omega, Sg_succ]
  have := nn j hj
  omega
theorem step_of {n : Nat} {A : Int → Int} (m : mono n A) (h : A 0 < A (n : Int)) : ∃ j : Nat, j < n ∧ 0 < A ((j : Int) + 1) - A j := by
  induction n with
  | zero => exact absurd h (by show ¬ A 0 < A 0; omega)
  | succ n ih =>
    by_cases q : A 0 < A (n : Int)
    · obtain ⟨j, hj, e⟩ := ih (fun j hj => m j (by omega)) q
      exact ⟨j, by omega, e⟩
    · refine ⟨n, by omega, ?_⟩
      rw [show ((n + 1 : Nat) : Int) = (n : Int) + 1 by omega] at h
      have := mono_le m (i := 0) (j := n) (by omega) (by omega)
      have h0 : ((0 : Nat) : Int) = 0 := rfl
      rw [h0] at this
      omega
theorem fil_nil {n : Nat} {t : Nat → Bool} : ((List.range n).filter t = []) ↔ ∀ i, i < n → t i = false := by
  rw [List.filter_eq_nil_iff]
  constructor
  · intro h i hi
    exact Bool.eq_false_iff.mpr (h i (List.mem_range.mpr hi))
  · intro h i hi
    exact Bool.eq_false_iff.mp (h i (List.mem_range.mp hi))
theorem mn_comm {A B : Int → Int} : mnF B A = mnF A B := funext fun k => by
  show (if A k < B k then A k else B k) = if B k < A k then B k else A k
  split <;> split <;> omega
theorem mx_comm {A B : Int → Int} : mxF B A = mxF A B := funext fun k => by
  show (if A k > B k then A k else B k) = if B k > A k then B k else A k
  split <;> split <;> omega
theorem dep2 (s : List Int) (P : Int) : (PyData.list [PySem.W.Datum.toD s, .int P]).depth ≤ 64 := by
  have h : (PySem.W.Datum.toD s).depth ≤ PySem.W.Datum.depth (List Int) := PySem.W.Datum.depth_le s
  have h2 : PySem.W.Datum.depth (List Int) ≤ 10 := by decide
  simp only [PyData.depth, PyData.depthAll]
  omega
end Hn

/-! Who is there. -/
namespace Hn
open PySem PySem.Spec PyProof.Rows L2 Evl
/-- how many of F are there at h -/
def thF (n : Nat) (s : List Int) (F : Int → Int) (h : Int) : Int := Sg n (fun b => if b < cyc s (h - b) then F (h - b) else 0)
theorem fil_sum (p : Nat → Bool) (f : Int → Int) (n : Nat) : (((List.range n).filter p).map fun (i : Nat) => f (i : Int)).sum = Sg n (fun i => if p i.toNat = true then f i else 0) := by
  induction n with
  | zero => rfl
  | succ n ih =>
    rw [List.range_succ, List.filter_append, List.map_append, List.sum_append, ih, Sg_succ, Int.toNat_natCast]
    congr 1
    by_cases q : p n = true
    · rw [List.filter_cons, if_pos q, if_pos q]
      simp
    · rw [List.filter_cons, if_neg q, if_neg q]
      rfl
theorem sum_rev (l : List Int) : l.reverse.sum = l.sum := by
  induction l with
  | nil => rfl
  | cons x l ih => rw [List.reverse_cons, List.sum_append, ih, List.sum_cons]; simp; omega
theorem serving_sum {s : List Int} (g : Good s) {F : Int → Int} (hF : ∀ i, F (i % (s.length : Int)) = F i) (h : Int) : ((servingOf s h).map F).sum = thF s.length s F h := by
  rw [← serving_filter g h, List.map_reverse, sum_rev, List.map_map]
  have e := fil_sum (fun (b : Nat) => decide ((b : Int) < cyc s (h - (b : Int)))) (fun b => F (h - b)) s.length
  have e2 : (F ∘ fun (b : Nat) => (h - (b : Int)) % (s.length : Int)) = fun (b : Nat) => F (h - (b : Int)) := funext fun b => hF _
  rw [e2, e]
  refine Sg_congr fun i h0 _ => ?_
  rw [show ((i.toNat : Nat) : Int) = i by omega]
  by_cases q : i < cyc s (h - i)
  · rw [if_pos (decide_eq_true q), if_pos q]
  · rw [if_neg (by rw [decide_eq_false q]; decide), if_neg q]
theorem th_congr {n : Nat} {s : List Int} {F G : Int → Int} (h : ∀ i, F i = G i) (t : Int) : thF n s F t = thF n s G t := by
  rw [show F = G from funext h]
theorem th_add {n : Nat} {s : List Int} {F G : Int → Int} (t : Int) : thF n s (fun i => F i + G i) t = thF n s F t + thF n s G t := by
  unfold thF
  rw [← Sg_add]
  refine Sg_congr fun i _ _ => ?_
  show (if i < cyc s (t - i) then F (t - i) + G (t - i) else 0) = (if i < cyc s (t - i) then F (t - i) else 0) + (if i < cyc s (t - i) then G (t - i) else 0)
  split <;> omega
theorem th_sub {n : Nat} {s : List Int} {F G : Int → Int} (t : Int) : thF n s (fun i => F i - G i) t = thF n s F t - thF n s G t := by
  unfold thF
  rw [← Sg_sub]
  refine Sg_congr fun i _ _ => ?_
  show (if i < cyc s (t - i) then F (t - i) - G (t - i) else 0) = (if i < cyc s (t - i) then F (t - i) else 0) - (if i < cyc s (t - i) then G (t - i) else 0)
  split <;> omega
theorem th_nn {n : Nat} {s : List Int} {F : Int → Int} (h : ∀ i, 0 ≤ F i) (t : Int) : 0 ≤ thF n s F t := Sg_nn fun j _ => by
  show 0 ≤ if (j : Int) < cyc s (t - j) then F (t - j) else 0
  split
  · exact h _
  · omega
theorem th_per {s : List Int} {F : Int → Int} (p : ∀ i, F (i + (s.length : Int)) = F i) (t : Int) : thF s.length s F (t + (s.length : Int)) = thF s.length s F t := by
  unfold thF
  refine Sg_congr fun i _ _ => ?_
  rw [show t + (s.length : Int) - i = t - i + (s.length : Int) by omega, cyc_per, p]
theorem th_turn {s : List Int} (hn : 1 ≤ s.length) {F : Int → Int} (c t : Int) : thF s.length (turnS s c) (fun i => F (i + c)) t = thF s.length s F (t + c) := by
  unfold thF
  refine Sg_congr fun i _ _ => ?_
  show (if i < cyc (turnS s c) (t - i) then F (t - i + c) else 0) = _
  rw [cyc_turn hn, show t - i + c = t + c - i by omega]
theorem th_sum {s : List Int} (g : Good s) {F : Int → Int} (p : ∀ i, F (i + (s.length : Int)) = F i) : Sg s.length (thF s.length s F) = Sg s.length (fun i => F i * cyc s i) := by
  unfold thF
  rw [Sg_swap]
  have e : ∀ b : Int, Sg s.length (fun h => if b < cyc s (h - b) then F (h - b) else 0) = Sg s.length (fun i => if b < cyc s i then F i else 0) := fun b => by
    have := Sg_turn (n := s.length) (f := fun i => if b < cyc s i then F i else 0) (fun i => by rw [cyc_per, p]) (-b)
    rw [← this]
    refine Sg_congr fun i _ _ => ?_
    rw [show i + -b = i - b by omega]
  rw [show (fun b => Sg s.length (fun h => if b < cyc s (h - b) then F (h - b) else 0)) = fun b => Sg s.length (fun i => if b < cyc s i then F i else 0) from funext e, Sg_swap]
  refine Sg_congr fun i _ _ => ?_
  have c := cnt_below (n := s.length) (c := cyc s i) (by have := g.lo i; omega) (g.hi i)
  have m := Sg_mul (n := s.length) (F i) (fun b => if b < cyc s i then 1 else 0)
  rw [c] at m
  rw [← m]
  refine Sg_congr fun b _ _ => ?_
  split <;> omega
theorem th_all {n : Nat} {F : Int → Int} (hn : 1 ≤ n) (p : ∀ i, F (i + (n : Int)) = F i) (t : Int) : thF n (List.replicate n (n : Int)) F t = Sg n F := by
  unfold thF
  have e : Sg n (fun b => if b < cyc (List.replicate n (n : Int)) (t - b) then F (t - b) else 0) = Sg n (fun b => F (t - b)) := Sg_congr fun b _ h1 => by
    rw [cyc_rep hn, if_pos h1]
  rw [e]
  have r := Sg_rev (n := n) (fun b => F (t - b))
  rw [← r]
  have q := Sg_turn (n := n) (f := F) p (t - n + 1)
  rw [← q]
  refine Sg_congr fun i _ _ => ?_
  rw [show t - ((n : Int) - 1 - i) = i + (t - n + 1) by omega]
theorem th_one {n : Nat} {F : Int → Int} (hn : 1 ≤ n) (t : Int) : thF n (List.replicate n 1) F t = F t := by
  unfold thF
  obtain ⟨m, rfl⟩ : ∃ m, n = m + 1 := ⟨n - 1, by omega⟩
  rw [Sg_first]
  have e : Sg m (fun i => if i + 1 < cyc (List.replicate (m + 1) 1) (t - (i + 1)) then F (t - (i + 1)) else 0) = Sg m (fun _ => 0) := Sg_congr fun i h0 _ => by
    rw [cyc_rep hn, if_neg (by omega)]
  rw [e, Sg_zero, cyc_rep hn, if_pos (by omega), show t - 0 = t by omega]
  omega
/-- one who begins at h -/
theorem th_delta {s : List Int} (g : Good s) {h : Nat} (hh : h < s.length) (t : Int) : thF s.length s (fun i => if i % (s.length : Int) = (h : Int) then 1 else 0) t = if (t - (h : Int)) % (s.length : Int) < cyc s (h : Int) then 1 else 0 := by
  unfold thF
  have hm := mod_bd g.ne (t - (h : Int))
  obtain ⟨c, hc⟩ : ∃ c : Nat, (t - (h : Int)) % (s.length : Int) = (c : Int) := ⟨((t - (h : Int)) % (s.length : Int)).toNat, (Int.toNat_of_nonneg hm.1).symm⟩
  have e : Sg s.length (fun b => if b < cyc s (t - b) then (if (t - b) % (s.length : Int) = (h : Int) then 1 else 0) else 0) = Sg s.length (fun b => if b = (c : Int) then (if b < cyc s (t - b) then 1 else 0) else 0) := Sg_congr fun b b0 b1 => by
    have iff : (t - b) % (s.length : Int) = (h : Int) ↔ b = (c : Int) := by
      constructor
      · intro q
        rw [← hc, ← q, Int.sub_emod_emod, show t - (t - b) = b by omega, Int.emod_eq_of_lt b0 b1]
      · intro q
        rw [q, ← hc, Int.sub_emod_emod, show t - (t - (h : Int)) = h by omega, Int.emod_eq_of_lt (by omega) (by omega)]
    by_cases q1 : b = (c : Int)
    · rw [if_pos q1, if_pos (iff.mpr q1)]
    · rw [if_neg q1, if_neg (fun z => q1 (iff.mp z))]
      split <;> rfl
  rw [e, Sg_one (by omega) (fun b => if b < cyc s (t - b) then 1 else 0), hc]
  have ec : cyc s (t - (c : Int)) = cyc s (h : Int) := cyc_congr (by rw [← hc, Int.sub_emod_emod, show t - (t - (h : Int)) = h by omega])
  rw [ec]
theorem per_mod {n : Nat} (hn : 1 ≤ n) {F : Int → Int} (p : ∀ i, F (i + (n : Int)) = F i) (i : Int) : F (i % (n : Int)) = F i := by
  have up : ∀ (k : Nat) (x : Int), F (x + (k : Int) * (n : Int)) = F x := fun k => by
    induction k with
    | zero => intro x; simp
    | succ k ih =>
      intro x
      rw [show x + ((k + 1 : Nat) : Int) * (n : Int) = x + (k : Int) * (n : Int) + (n : Int) by rw [show ((k + 1 : Nat) : Int) = (k : Int) + 1 by omega, Int.add_mul]; omega, p, ih]
  have e := Int.emod_add_mul_ediv i (n : Int)
  rcases Int.le_total 0 (i / (n : Int)) with q | q
  · have := up (i / (n : Int)).toNat (i % (n : Int))
    rw [Int.toNat_of_nonneg q, Int.mul_comm, e] at this
    exact this.symm
  · have := up (-(i / (n : Int))).toNat i
    rw [Int.toNat_of_nonneg (by omega)] at this
    rw [← this]
    congr 1
    rw [Int.neg_mul, Int.mul_comm]
    omega
def thR (s t : List Int) : List Int := rowOf s.length (thF s.length s (cyc t))
theorem thR_length (s t : List Int) : (thR s t).length = s.length := rowOf_length _ _
/-- the hours at which there are too few -/
def lackL (n : Nat) (a b : Int → Int) : List Int := ((List.range n).filter fun (h : Nat) => decide (a (h : Int) < b (h : Int))).map fun (h : Nat) => (h : Int)
def enough (n : Nat) (a b : Int → Int) : Bool := (List.range n).all fun (h : Nat) => decide (b (h : Int) ≤ a (h : Int))
theorem enough_iff {n : Nat} {a b : Int → Int} : enough n a b = true ↔ ∀ h : Nat, h < n → b h ≤ a h := by
  unfold enough
  rw [List.all_eq_true]
  exact ⟨fun q h hh => of_decide_eq_true (q h (List.mem_range.mpr hh)), fun q h hh => decide_eq_true (q h (List.mem_range.mp hh))⟩
theorem lack_nil {n : Nat} {a b : Int → Int} : decide (lackL n a b = []) = enough n a b := by
  rw [Bool.eq_iff_iff, decide_eq_true_iff, enough_iff]
  unfold lackL
  rw [List.map_eq_nil_iff, fil_nil]
  constructor
  · intro q h hh
    have := of_decide_eq_false (q h hh)
    omega
  · intro q h hh
    have := q h hh
    exact decide_eq_false (by omega)
theorem mem_lack {n : Nat} {a b : Int → Int} {h : Int} : h ∈ lackL n a b ↔ 0 ≤ h ∧ h < (n : Int) ∧ a h < b h := by
  unfold lackL
  rw [List.mem_map]
  constructor
  · rintro ⟨j, hj, rfl⟩
    obtain ⟨h1, h2⟩ := List.mem_filter.mp hj
    exact ⟨by omega, by have := List.mem_range.mp h1; omega, of_decide_eq_true h2⟩
  · rintro ⟨h0, h1, h2⟩
    refine ⟨h.toNat, List.mem_filter.mpr ⟨List.mem_range.mpr (by omega), ?_⟩, by omega⟩
    rw [Int.toNat_of_nonneg h0]
    exact decide_eq_true h2
/-! ### hour, (x, y) -/
theorem r_pairP {K : PySem.W.Frag} {σ : L2.St} {H : Hp} {T t : Addr} {x y z : V} {n m l : Nat} {q : L2.St → Hp → Prop} (ht : (upd H T (.tup [x, .ref t])) t = some (.tup [y, z])) (h : q (((σ.set n (some x)).set m (some y)).set l (some z)) (upd H T (.tup [x, .ref t]))) :
    gTup K 2 (gCons (gName n) (gCons (gTup K 2 (gCons (gName m) (gCons (gName l) gNil))) gNil)) (.ref T) σ (upd H T (.tup [x, .ref t])) q :=
  ⟨T, [x, .ref t], rfl, .inl (.inl upd_same), rfl, x, [.ref t], rfl, .ref t, [], rfl, t, [y, z], rfl, .inl (.inl ht), rfl, y, [z], rfl, z, [], rfl, rfl, rfl, h⟩
/-- list(zip(a, b)) of ints -/
theorem r_zipI {K : PySem.W.Frag} {H : Hp} {Q : VK} {a b : Addr} {ns ms : List Int} (hA : Sq K H a (ns.map V.int)) (hB : Sq K H b (ms.map V.int)) (hl : ms.length = ns.length) (h1 : 1 ≤ ns.length) (k : ∀ p H', H p = none → Ex H H' → Prs H' p ns ms → Q (.ref p) H') : rListZip K [.ref a, .ref b] H Q := by
  refine ⟨a, b, _, _, rfl, hA, hB, by rw [List.length_map, List.length_map, hl], by rw [List.length_map]; exact h1, fun H' p ts e np nt npt hp tl ht => ?_⟩
  refine k p H' np e ⟨ts, hp, by rw [tl, List.length_map], fun j t hj => ?_⟩
  have hj' : j < ns.length := by
    have := (List.getElem?_eq_some_iff.mp hj).1
    rw [tl, List.length_map] at this
    exact this
  refine ht j t _ _ hj ?_ ?_
  · rw [List.getElem?_map, List.getElem?_eq_getElem hj', List.getD_eq_getElem?_getD, List.getElem?_eq_getElem hj']
    rfl
  · rw [List.getElem?_map, List.getElem?_eq_getElem (by omega), List.getD_eq_getElem?_getD, List.getElem?_eq_getElem (by omega)]
    rfl
theorem fil_ix (l : List Int) (p : Int → Bool) : ((List.range l.length).filter (fun j => p (l.getD j 0))).map (fun j => l.getD j 0) = l.filter p := by
  have e : (List.range l.length).map (fun j => l.getD j 0) = l := by
    have := map_range_int l V.int
    refine List.ext_getElem? fun i => ?_
    rcases Nat.lt_or_ge i l.length with h | h
    · rw [List.getElem?_map, List.getElem?_range h, List.getElem?_eq_getElem h]
      show some (l.getD i 0) = _
      rw [List.getD_eq_getElem?_getD, List.getElem?_eq_getElem h]
      rfl
    · rw [List.getElem?_eq_none (by rw [List.length_map, List.length_range]; exact h), List.getElem?_eq_none h]
  conv => rhs; rw [← e]
  rw [List.filter_map]
  rfl
theorem thR_add {s t1 t2 : List Int} (h1 : t1.length = s.length) (h2 : t2.length = s.length) (hn : 1 ≤ s.length) : thR s (zipR (fun a b => a + b) t1 t2) = rowOf s.length fun h => thF s.length s (cyc t1) h + thF s.length s (cyc t2) h := by
  unfold thR
  refine rowOf_congr fun i _ _ => ?_
  rw [← th_add]
  exact th_congr (fun i => cyc_zipR (by omega) (by omega) i) _
theorem lack_or {n : Nat} {a b c m : Int → Int} (hm : ∀ h : Nat, h < n → (a h < m h ↔ (a h < b h ∨ a h < c h))) : ((List.range n).filter fun (h : Nat) => decide ((h : Int) ∈ lackL n a b ++ lackL n a c)).map (fun (h : Nat) => (h : Int)) = lackL n a m := by
  unfold lackL
  congr 1
  refine List.filter_congr fun h hh => ?_
  have h1 := List.mem_range.mp hh
  refine decide_eq_decide.mpr ?_
  rw [List.mem_append, hm h h1]
  have e1 := mem_lack (n := n) (a := a) (b := b) (h := (h : Int))
  have e2 := mem_lack (n := n) (a := a) (b := c) (h := (h : Int))
  unfold lackL at e1 e2
  rw [e1, e2]
  omega
theorem lack_and {n : Nat} {a b c m : Int → Int} (hm : ∀ h : Nat, h < n → (a h < m h ↔ (a h < b h ∧ a h < c h))) : (lackL n a b).filter (fun h => decide (h ∈ lackL n a c)) = lackL n a m := by
  have e2 : ∀ h : Int, h ∈ lackL n a c ↔ 0 ≤ h ∧ h < (n : Int) ∧ a h < c h := fun h => mem_lack
  rw [show (fun h => decide (h ∈ lackL n a c)) = fun h => decide (0 ≤ h ∧ h < (n : Int) ∧ a h < c h) from funext fun h => decide_eq_decide.mpr (e2 h)]
  unfold lackL
  rw [List.filter_map]
  congr 1
  rw [List.filter_filter]
  refine List.filter_congr fun h hh => ?_
  have h1 := List.mem_range.mp hh
  rw [Bool.eq_iff_iff, Bool.and_eq_true, decide_eq_true_iff, decide_eq_true_iff, hm h h1]
  show decide (0 ≤ (h : Int) ∧ (h : Int) < (n : Int) ∧ a (h : Int) < c (h : Int)) = true ∧ a (h : Int) < b (h : Int) ↔ _
  rw [decide_eq_true_iff]
  omega
theorem cat_nil {n : Nat} {a b c m : Int → Int} (hm : ∀ h : Nat, h < n → (a h < m h ↔ (a h < b h ∨ a h < c h))) : decide (lackL n a b ++ lackL n a c = []) = enough n a m := by
  rw [← lack_nil, ← lack_or hm]
  refine decide_eq_decide.mpr ?_
  rw [List.map_eq_nil_iff, fil_nil]
  constructor
  · intro e i hi
    rw [e]
    exact decide_eq_false (by simp)
  · intro e
    refine List.eq_nil_iff_forall_not_mem.mpr fun x hx => ?_
    have hb : 0 ≤ x ∧ x < (n : Int) := by
      rcases List.mem_append.mp hx with q | q
      · have := mem_lack.mp q; omega
      · have := mem_lack.mp q; omega
    have := of_decide_eq_false (e x.toNat (by omega))
    rw [Int.toNat_of_nonneg hb.1] at this
    exact this hx
theorem good_thR {s t : List Int} (g : Good s) (gt : GoodN t) (hl : t.length = s.length) : GoodN (thR s t) :=
  GoodN.of (by rw [thR_length]; exact g.ne) (by rw [thR_length, ← hl]; exact gt.le) (row_all (P := fun z => 0 ≤ z) fun j _ => th_nn (fun i => gt.nn i) _)
theorem cyc_thR {s t : List Int} {h : Nat} (hh : h < s.length) : cyc (thR s t) (h : Int) = thF s.length s (cyc t) (h : Int) := by
  rw [cyc_at (by rw [thR_length]; exact hh)]
  unfold thR
  rw [rowOf_getD _ hh]
theorem per_cyc {s t : List Int} (hl : t.length = s.length) (i : Int) : cyc t (i + (s.length : Int)) = cyc t i := by rw [← hl]; exact cyc_per t i
theorem thR_turn {s t : List Int} (g : Good s) (hl : t.length = s.length) (c : Int) : thR (turnS s c) (turnS t c) = turnS (thR s t) c := by
  have hn := g.ne
  unfold thR
  rw [turnS_length]
  conv => rhs; unfold turnS
  rw [rowOf_length]
  refine rowOf_congr fun i _ _ => ?_
  rw [cyc_rowOf _ hn]
  have e : thF s.length (turnS s c) (cyc (turnS t c)) i = thF s.length (turnS s c) (fun j => cyc t (j + c)) i := th_congr (fun j => cyc_turn (by omega) c j) _
  rw [e, th_turn hn]
  have per := fun x => th_per (s := s) (F := cyc t) (per_cyc hl) x
  exact (per_mod hn per _).symm
theorem lack_dom {n : Nat} {a : Int → Int} {r1 r2 : List Int} (h1 : 1 ≤ r1.length) (hl : r2.length = r1.length) :
    (∀ h : Nat, h < n → (a h < cyc (zipR (fun a b => if b > a then b else a) r1 r2) h ↔ (a h < cyc r1 h ∨ a h < cyc r2 h))) ∧ (∀ h : Nat, h < n → (a h < cyc (zipR (fun a b => if b < a then b else a) r1 r2) h ↔ (a h < cyc r1 h ∧ a h < cyc r2 h))) := by
  refine ⟨fun h _ => ?_, fun h _ => ?_⟩
  · rw [cyc_zipR h1 hl]
    show a h < (if cyc r2 h > cyc r1 h then cyc r2 h else cyc r1 h) ↔ _
    split <;> omega
  · rw [cyc_zipR h1 hl]
    show a h < (if cyc r2 h < cyc r1 h then cyc r2 h else cyc r1 h) ↔ _
    split <;> omega
theorem sum_turn {t : List Int} (h1 : 1 ≤ t.length) (c : Int) : (turnS t c).sum = t.sum := by
  unfold turnS
  rw [sum_row, Sg_turn (fun i => cyc_per t i), ← sum_cyc]
theorem enough_turn {s t r : List Int} (g : Good s) (hl : t.length = s.length) (hr : r.length = s.length) (c : Int) :
    enough s.length (thF s.length (turnS s c) (cyc (turnS t c))) (cyc (turnS r c)) = enough s.length (thF s.length s (cyc t)) (cyc r) := by
  have hn := g.ne
  have e : ∀ i, thF s.length (turnS s c) (cyc (turnS t c)) i = thF s.length s (cyc t) (i + c) := fun i => by
    rw [← th_turn hn]
    exact th_congr (fun j => cyc_turn (by omega) c j) _
  have per : ∀ i, thF s.length s (cyc t) (i + (s.length : Int)) = thF s.length s (cyc t) i := fun i => th_per (per_cyc hl) i
  have perr : ∀ i, cyc r (i + (s.length : Int)) = cyc r i := per_cyc hr
  rw [Bool.eq_iff_iff, enough_iff, enough_iff]
  constructor
  · intro q h hh
    have hm := mod_bd hn ((h : Int) - c)
    have := q ((((h : Int) - c) % (s.length : Int)).toNat) (by omega)
    rw [Int.toNat_of_nonneg hm.1, e, cyc_turn (by omega)] at this
    have e1 := per_mod hn per (((h : Int) - c) % (s.length : Int) + c)
    have e2 := per_mod hn perr (((h : Int) - c) % (s.length : Int) + c)
    rw [Int.emod_add_emod, show (h : Int) - c + c = h by omega, Int.emod_eq_of_lt (by omega) (by omega)] at e1 e2
    rw [← e1, ← e2] at this
    exact this
  · intro q h hh
    have hm := mod_bd hn ((h : Int) + c)
    have := q ((((h : Int) + c) % (s.length : Int)).toNat) (by omega)
    rw [Int.toNat_of_nonneg hm.1, per_mod hn per, per_mod hn perr] at this
    rw [e, cyc_turn (by omega)]
    exact this
/-- one moved, who is there -/
theorem th_move {s : List Int} (g : Good s) {n h k : Nat} {f : Int → Int} (hn : n = s.length) (hh : h < n) (hk : k < n) (t : Int) : thF s.length s (cyc (rowOf n (moveF f h k))) t = thF s.length s (cyc (rowOf n f)) t - (if (t - (h : Int)) % (s.length : Int) < cyc s (h : Int) then 1 else 0) + (if (t - (k : Int)) % (s.length : Int) < cyc s (k : Int) then 1 else 0) := by
  rw [← th_delta g (by omega : h < s.length), ← th_delta g (by omega : k < s.length), ← th_sub, ← th_add]
  refine th_congr (fun i => ?_) t
  rw [cyc_rowOf _ (by omega), cyc_rowOf _ (by omega), hn]
  rfl
theorem move_back {n h k : Nat} {f : Int → Int} : moveF (moveF f h k) k h = f := funext fun i => by
  show f i - (if i = (h : Int) then 1 else 0) + (if i = (k : Int) then 1 else 0) - (if i = (k : Int) then 1 else 0) + (if i = (h : Int) then 1 else 0) = f i
  omega
theorem thR_all {n : Nat} {t : List Int} (hn : 1 ≤ n) (hl : t.length = n) : thR (List.replicate n (n : Int)) t = List.replicate n t.sum := by
  unfold thR
  rw [List.length_replicate]
  have e : rowOf n (thF n (List.replicate n (n : Int)) (cyc t)) = rowOf n fun _ => t.sum := rowOf_congr fun i _ _ => by
    rw [th_all hn (fun i => by rw [← hl]; exact cyc_per t i), sum_cyc, hl]
  rw [e]
  unfold rowOf
  rw [List.map_const', List.length_range]
theorem thR_one {n : Nat} {t : List Int} (hn : 1 ≤ n) (hl : t.length = n) : thR (List.replicate n 1) t = t := by
  unfold thR
  rw [List.length_replicate]
  have e : rowOf n (thF n (List.replicate n 1) (cyc t)) = rowOf n (cyc t) := rowOf_congr fun i _ _ => th_one hn i
  rw [e, ← hl]
  exact (row_cyc t).symm
theorem two_of {α : Type} {l : List α} (h : l.length = 2) : ∃ a b, l = [a, b] := by
  match l, h with
  | [a, b], _ => exact ⟨a, b, rfl⟩
theorem RowsP.two {H : Hp} {D : Addr} {P : Nat → List V → Prop} (h : RowsP H D 2 P) : ∃ p q xs ys, H D = some (.lst [.ref p, .ref q]) ∧ H p = some (.lst xs) ∧ H q = some (.lst ys) ∧ P 0 xs ∧ P 1 ys := by
  obtain ⟨zs, h1, h2, h3⟩ := h
  obtain ⟨a, b, rfl⟩ := two_of h2
  obtain ⟨p, xs, rfl, hp, px⟩ := h3 0 a rfl
  obtain ⟨q, ys, rfl, hq, py⟩ := h3 1 b rfl
  exact ⟨p, q, xs, ys, h1, hp, hq, px, py⟩
end Hn

/-! Windows by sums: plans that are enough, closed. -/
namespace Hn
open PySem PySem.Spec PyProof.Rows L2 Evl
/-- sums that go on over the days -/
def ext (n : Nat) (P : Int) (A : Int → Int) (k : Int) : Int := A (k % (n : Int)) + k / (n : Int) * P
theorem ext_step {n : Nat} {P : Int} {A : Int → Int} (hn : 1 ≤ n) (h0 : A 0 = 0) (hP : A (n : Int) = P) (i : Int) : cyc (byS n A) i = ext n P A (i + 1) - ext n P A i := by
  unfold byS ext
  rw [cyc_rowOf _ hn]
  show A (i % (n : Int) + 1) - A (i % (n : Int)) = _
  have hm := mod_bd hn i
  have e := Int.emod_add_mul_ediv i (n : Int)
  generalize hq : i / (n : Int) = q at e
  generalize hr : i % (n : Int) = r at e hm
  by_cases c : r + 1 = (n : Int)
  · have e1 : i + 1 = (n : Int) * (q + 1) := by rw [Int.mul_add, Int.mul_one]; omega
    have e2 : (i + 1) % (n : Int) = 0 := by rw [e1]; exact Int.mul_emod_right _ _
    have e3 : (i + 1) / (n : Int) = q + 1 := by rw [e1]; exact Int.mul_ediv_cancel_left _ (by omega)
    rw [e2, e3, h0, c, hP, Int.add_mul, Int.one_mul]
    omega
  · have e1 : i + 1 = r + 1 + (n : Int) * q := by omega
    have e2 : (i + 1) % (n : Int) = r + 1 := by rw [e1, Int.add_mul_emod_self_left, Int.emod_eq_of_lt (by omega) (by omega)]
    have e3 : (i + 1) / (n : Int) = q := by rw [e1, Int.add_mul_ediv_left _ _ (by omega), Int.ediv_eq_zero_of_lt (by omega) (by omega)]; omega
    rw [e2, e3]
    omega
theorem Sg_cut {n : Nat} {f : Int → Int} : ∀ {w : Nat}, w ≤ n → Sg n (fun b => if b < (w : Int) then f b else 0) = Sg w f := by
  induction n with
  | zero => intro w h; obtain rfl : w = 0 := by omega
            rfl
  | succ n ih =>
    intro w h
    rw [Sg_succ]
    by_cases q : w = n + 1
    · subst q
      rw [if_pos (by omega), Sg_succ]
      congr 1
      exact Sg_congr fun i _ h1 => if_pos (by omega)
    · rw [ih (by omega), if_neg (by omega)]
      omega
theorem th_win {s : List Int} (g : Good s) {P : Int} {A : Int → Int} (h0 : A 0 = 0) (hP : A (s.length : Int) = P) (h : Int) : thF s.length s (cyc (byS s.length A)) h = ext s.length P A (h + 1) - ext s.length P A (h + 1 - wd s h) := by
  have hw0 := wd_nn (s := s) h
  have hw1 := wd_le (s := s) h
  obtain ⟨w, hw⟩ : ∃ w : Nat, wd s h = (w : Int) := ⟨(wd s h).toNat, (Int.toNat_of_nonneg hw0).symm⟩
  unfold thF
  have e : Sg s.length (fun b => if b < cyc s (h - b) then cyc (byS s.length A) (h - b) else 0) = Sg s.length (fun b => if b < (w : Int) then cyc (byS s.length A) (h - b) else 0) := Sg_congr fun b b0 b1 => by
    have := wd_iff g h (b := b.toNat) (by omega)
    rw [show ((b.toNat : Nat) : Int) = b by omega, hw] at this
    by_cases q : b < cyc s (h - b)
    · rw [if_pos q, if_pos (this.mpr q)]
    · rw [if_neg q, if_neg (fun z => q (this.mp z))]
  rw [e, Sg_cut (by omega)]
  have d := Sg_diff w (fun b => -ext s.length P A (h - b + 1))
  have e2 : Sg w (fun b => cyc (byS s.length A) (h - b)) = Sg w (fun i => -ext s.length P A (h - (i + 1) + 1) - -ext s.length P A (h - i + 1)) := Sg_congr fun i _ _ => by
    rw [ext_step g.ne h0 hP, show h - (i + 1) + 1 = h - i by omega]
    omega
  rw [e2, d, hw, show h - 0 + 1 = h + 1 by omega, show h - (w : Int) + 1 = h + 1 - w by omega]
  omega
theorem ext_mn {n : Nat} {P : Int} {A B : Int → Int} (k : Int) : ext n P (mnF A B) k ≤ ext n P A k ∧ ext n P (mnF A B) k ≤ ext n P B k ∧ (ext n P (mnF A B) k = ext n P A k ∨ ext n P (mnF A B) k = ext n P B k) := by
  have := mn_at (A := A) (B := B) (k % (n : Int))
  unfold ext
  omega
theorem ext_mx {n : Nat} {P : Int} {A B : Int → Int} (k : Int) : ext n P A k ≤ ext n P (mxF A B) k ∧ ext n P B k ≤ ext n P (mxF A B) k ∧ (ext n P (mxF A B) k = ext n P A k ∨ ext n P (mxF A B) k = ext n P B k) := by
  have := mx_at (A := A) (B := B) (k % (n : Int))
  unfold ext
  omega
section
variable {s : List Int} {P : Int} {A B : Int → Int} {r : Int → Int}
theorem enough_mn (g : Good s) (a0 : A 0 = 0) (aP : A (s.length : Int) = P) (b0 : B 0 = 0) (bP : B (s.length : Int) = P) (h1 : enough s.length (thF s.length s (cyc (byS s.length A))) r = true) (h2 : enough s.length (thF s.length s (cyc (byS s.length B))) r = true) :
    enough s.length (thF s.length s (cyc (byS s.length (mnF A B)))) r = true := by
  rw [enough_iff] at h1 h2 ⊢
  intro h hh
  have q1 := h1 h hh
  have q2 := h2 h hh
  have m0 := mn_at (A := A) (B := B) 0
  have mn := mn_at (A := A) (B := B) (s.length : Int)
  rw [th_win g a0 aP] at q1
  rw [th_win g b0 bP] at q2
  rw [th_win (P := P) g (by omega) (by omega)]
  have x1 := ext_mn (n := s.length) (P := P) (A := A) (B := B) ((h : Int) + 1)
  have x2 := ext_mn (n := s.length) (P := P) (A := A) (B := B) ((h : Int) + 1 - wd s h)
  omega
theorem enough_mx (g : Good s) (a0 : A 0 = 0) (aP : A (s.length : Int) = P) (b0 : B 0 = 0) (bP : B (s.length : Int) = P) (h1 : enough s.length (thF s.length s (cyc (byS s.length A))) r = true) (h2 : enough s.length (thF s.length s (cyc (byS s.length B))) r = true) :
    enough s.length (thF s.length s (cyc (byS s.length (mxF A B)))) r = true := by
  rw [enough_iff] at h1 h2 ⊢
  intro h hh
  have q1 := h1 h hh
  have q2 := h2 h hh
  have m0 := mx_at (A := A) (B := B) 0
  have mn := mx_at (A := A) (B := B) (s.length : Int)
  rw [th_win g a0 aP] at q1
  rw [th_win g b0 bP] at q2
  rw [th_win (P := P) g (by omega) (by omega)]
  have x1 := ext_mx (n := s.length) (P := P) (A := A) (B := B) ((h : Int) + 1)
  have x2 := ext_mx (n := s.length) (P := P) (A := A) (B := B) ((h : Int) + 1 - wd s h)
  omega
end
theorem byS_congr {n : Nat} {A B : Int → Int} (h : ∀ k : Int, A k = B k) : byS n A = byS n B := by rw [show A = B from funext h]
theorem byS_eq {n : Nat} {A B : Int → Int} (h : ∀ k : Nat, k ≤ n → A k = B k) (a : A 0 = 0) (b : B 0 = 0) : byS n A = byS n B := (byS_inj a b).mpr h
theorem zip_byS {n : Nat} {A B : Int → Int} : zipR (fun a b => a + b) (byS n A) (byS n B) = byS n (fun k => A k + B k) := by
  unfold byS
  rw [zipR_row]
  refine rowOf_congr fun i _ _ => ?_
  show A (i + 1) - A i + (B (i + 1) - B i) = A (i + 1) + B (i + 1) - (A i + B i)
  omega
theorem leS_all {n : Nat} {A B : Int → Int} (h : ∀ k : Int, A k ≤ B k) : leS n A B = true := leS_iff.mpr fun k _ => h k
theorem leS_dec {n : Nat} {A B X Y : Int → Int} (hx : X 0 = 0) (hy : Y 0 = 0) (h : ∀ k : Int, A k ≤ B k ↔ X k = Y k) : leS n A B = decide (byS n X = byS n Y) := by
  rw [Bool.eq_iff_iff, leS_iff, decide_eq_true_iff, byS_inj hx hy]
  exact ⟨fun q k hk => (h k).mp (q k hk), fun q k hk => (h k).mpr (q k hk)⟩
/-! ### a list taken apart -/
theorem k_glst {X : Cx} {K : PySem.W.Frag} {es : List Expr} {k : Nat} {t : TGs} {n : Nat} {pos : Pos} (h : X.K = K) (hc : X.calm = true) (hh : PGs X es t)
    (hn : (assignEach es X.env).length = n := by rfl) (hst : (assignEach es X.env).findIdx? (·.1) = none := by rfl) : PG X (.Tuple es k pos) (gLst K n t) := h ▸ pg_lst hc hh hn hst
theorem r_lst3 {K : PySem.W.Frag} {σ : L2.St} {H : Hp} {D : Addr} {x y z : V} {n m l : Nat} {q : L2.St → Hp → Prop} (hD : SqL K H D [x, y, z]) (h : q (((σ.set n (some x)).set m (some y)).set l (some z)) H) : gLst K 3 (gCons (gName n) (gCons (gName m) (gCons (gName l) gNil))) (.ref D) σ H q :=
  ⟨D, [x, y, z], rfl, hD, rfl, x, [y, z], rfl, y, [z], rfl, z, [], rfl, rfl, h⟩
theorem three_of {α : Type} {l : List α} (h : l.length = 3) : ∃ a b c, l = [a, b, c] := by
  match l, h with
  | [a, b, c], _ => exact ⟨a, b, c, rfl⟩
end Hn

/-! Texts: rows shown, joined. -/
namespace Hn
open PySem PySem.Spec PyProof.Rows L2 Evl
/-- the text of an int -/
def txI (i : Int) : Str := Str.ofString (toString i)
/-- a text of at most n signs, each of them small -/
def Sml (x : Str) (n : Nat) : Prop := x.length ≤ n ∧ ∀ c ∈ x.cps.toList, c < 1114112
theorem Sml.mono {x : Str} {n m : Nat} (h : Sml x n) (e : n ≤ m) : Sml x m := ⟨Nat.le_trans h.1 e, h.2⟩
theorem sml_of (s : String) : ∀ c ∈ (Str.ofString s).cps.toList, c < 1114112 := fun c hc => by
  rw [Str.ofString_eq_toList] at hc
  obtain ⟨z, _, rfl⟩ := List.mem_map.mp hc
  have h : z.val.toNat < 0xd800 ∨ (0xdfff < z.val.toNat ∧ z.val.toNat < 0x110000) := z.valid
  show z.val.toNat < 1114112
  omega
theorem sml_str (s : String) {n : Nat} (h : (Str.ofString s).length ≤ n) : Sml (Str.ofString s) n := ⟨h, sml_of s⟩
theorem sml_int {i : Int} (h : i.natAbs < 10 ^ 40) : Sml (txI i) 41 := by
  refine ⟨?_, sml_of _⟩
  unfold txI
  rw [PySem.ofString_length]
  exact int_text_length_le10 (k := 40) (by decide) h
theorem sml_app {x y : Str} {n m : Nat} (a : Sml x n) (b : Sml y m) : Sml (x ++ y) (n + m) := by
  refine ⟨by rw [strLen_append]; exact Nat.add_le_add a.1 b.1, fun c hc => ?_⟩
  have e : (x ++ y).cps.toList = x.cps.toList ++ y.cps.toList := by
    show (x.cps ++ y.cps).toList = _
    exact Array.toList_append
  rw [e] at hc
  rcases List.mem_append.mp hc with h | h
  · exact a.2 c h
  · exact b.2 c h
theorem join_cons (y a : Str) (r : List Str) (h : r ≠ []) : Str.join y (a :: r) = a ++ y ++ Str.join y r := by
  cases r with
  | nil => exact absurd rfl h
  | cons b r => rfl
theorem sml_join {y : Str} {n L : Nat} (hy : Sml y L) : ∀ (ys : List Str), (∀ x ∈ ys, Sml x n) → Sml (Txt.join y ys) (ys.length * (n + L)) := fun ys => by
  rw [TL.join_eq]
  induction ys with
  | nil => exact fun _ => ⟨Nat.zero_le _, fun c hc => by exact absurd hc (List.not_mem_nil)⟩
  | cons a r ih =>
    intro h
    by_cases q : r = []
    · subst q
      refine (h a List.mem_cons_self).mono ?_
      show n ≤ 1 * (n + L)
      omega
    · rw [join_cons _ _ _ q]
      refine (sml_app (sml_app (h a List.mem_cons_self) hy) (ih fun x hx => h x (List.mem_cons_of_mem _ hx))).mono ?_
      rw [List.length_cons, Nat.add_mul, Nat.one_mul]
      omega
theorem sum_len {n : Nat} : ∀ (ys : List Str), (∀ x ∈ ys, Sml x n) → (ys.map (·.length)).sum ≤ ys.length * n
  | [], _ => Nat.zero_le _
  | a :: r, h => by
    have := sum_len r fun x hx => h x (List.mem_cons_of_mem _ hx)
    have := (h a List.mem_cons_self).1
    rw [List.map_cons, List.sum_cons, List.length_cons, Nat.add_mul, Nat.one_mul]
    omega
theorem app_assoc (x y z : Str) : x ++ y ++ z = x ++ (y ++ z) := by
  show (⟨x.cps ++ y.cps ++ z.cps⟩ : Str) = ⟨x.cps ++ (y.cps ++ z.cps)⟩
  rw [Array.append_assoc]
theorem app_nil (x : Str) : x ++ Str.empty = x := Str.append_right_empty rfl
/-- joined by a sign: each behind that sign -/
theorem join_each (y w : Str) : ∀ ys : List Str, Txt.join y (w :: ys) = w ++ Txt.join Str.empty (ys.map fun x => y ++ x) := fun ys => by
  rw [TL.join_eq, TL.join_eq]
  induction ys generalizing w with
  | nil => show w = w ++ Str.empty; rw [app_nil]
  | cons a r ih =>
    rw [join_cons _ _ _ (by simp), ih a]
    cases r with
    | nil =>
      show w ++ y ++ (a ++ Str.empty) = w ++ (y ++ a)
      rw [app_nil, app_assoc]
    | cons b r =>
      show w ++ y ++ (a ++ Str.join Str.empty ((b :: r).map fun x => y ++ x)) = w ++ Str.join Str.empty ((y ++ a) :: ((b :: r).map fun x => y ++ x))
      rw [join_cons (Str.empty) (y ++ a) _ (by simp), app_nil, app_assoc, app_assoc]
/-! ### repr of texts -/
theorem fine_txt {x : Str} {n : Nat} (h : Sml x n) : Fine (.str x) n :=
  ⟨rfl, rfl, by simp only [PyData.leavesShort]; exact List.all_eq_true.mpr fun c hc => decide_eq_true (Nat.lt_of_lt_of_le (h.2 c hc) (by decide)), by simp only [PyData.weight]; exact h.1⟩
theorem dpa_strs {K : PySem.W.Frag} {H : Hp} : ∀ ys : List Str, DpAll K H (ys.map V.str) (ys.map PyData.str)
  | [] => .nil
  | y :: ys => .cons (.str y) (dpa_strs ys)
theorem strs_of {P : Str → Prop} : ∀ {vs : List V}, (∀ v ∈ vs, ∃ z : Str, P z ∧ v = .str z) → ∃ ns : List Str, (∀ z ∈ ns, P z) ∧ vs = ns.map V.str
  | [], _ => ⟨[], fun _ h => (nomatch h), rfl⟩
  | v :: vs, h => by
    obtain ⟨z, hz, rfl⟩ := h v (List.mem_cons_self ..)
    obtain ⟨ns, hns, rfl⟩ := strs_of (vs := vs) fun w hw => h w (List.mem_cons_of_mem _ hw)
    refine ⟨z :: ns, fun y hy => ?_, rfl⟩
    rcases List.mem_cons.mp hy with rfl | hy
    · exact hz
    · exact hns y hy
def rJoin (K : PySem.W.Frag) : V → List V → Hp → VK → Prop := fun x xs H Q => ∃ a p, ∃ ys : List Str, x = .str a ∧ xs = [.ref p] ∧ (SqL K H p (ys.map V.str) ∨ SqT K H p (ys.map V.str)) ∧ (ys.map (·.length)).sum + ys.length * a.length ≤ 16777216 ∧ Q (.str (Txt.join a ys)) H
theorem k_join {X : Cx} {K : PySem.W.Frag} {o e : Expr} {to te : TE} {apos pos : Pos} (h : X.K = K) (ho : PE X o to) (he : PE X e te) (hs : starEach [e] X.env = [(false, eval e X.env)] := by rfl) (hbase : attributeBase o "join" X.env (eval o X.env) = eval o X.env := by rfl) (hline : (apos.endLine == pos.line) = true := by rfl) :
    PE X (.Call (.Attribute o "join" apos) [e] [] pos) (tM1 (rJoin K) to te) := h ▸ pe_join ho he hs hbase hline
theorem r_m1 {r : V → List V → Hp → VK → Prop} {to te : TE} {σ : L2.St} {H : Hp} {Q : VK} (h : to σ H fun x H1 => (∃ a, x = .str a) ∧ te σ H1 fun y H2 => r x [y] H2 Q) : tM1 r to te σ H Q := h
theorem r_isS {a : Str} {p : Prop} (h : p) : (∃ b, V.str a = .str b) ∧ p := ⟨⟨a, rfl⟩, h⟩
theorem r_join {K : PySem.W.Frag} {H : Hp} {Q : VK} {a : Str} {p : Addr} {n : Nat} (ys : List Str) (hp : SqL K H p (ys.map V.str)) (hs : ∀ y ∈ ys, Sml y n) (ha : a.length ≤ 10) (hn : n ≤ 1000) (hl : ys.length ≤ 1000) (q : Q (.str (Txt.join a ys)) H) : rJoin K (.str a) [.ref p] H Q := by
  refine ⟨a, p, ys, rfl, rfl, .inl hp, ?_, q⟩
  have h1 := sum_len ys hs
  have h2 : ys.length * n ≤ 1000 * 1000 := Nat.mul_le_mul hl hn
  have h3 : ys.length * a.length ≤ 1000 * 10 := Nat.mul_le_mul hl ha
  omega
def rStrI : List V → Hp → VK → Prop := fun xs H Q => ∃ i, xs = [.int i] ∧ i.natAbs.log2 < 1920 ∧ Q (.str (txI i)) H
theorem k_strI {X : Cx} : CallR X (.type "str") rStrI := call_str_int
theorem r_strI {H : Hp} {Q : VK} {i : Int} (h : i.natAbs < 10 ^ 40) (q : Q (.str (txI i)) H) : rStrI [.int i] H Q := ⟨i, rfl, by have := log_40 h; omega, q⟩
theorem r_addS {H : Hp} {Q : VK} {a b : Str} (h : a.length + b.length ≤ 100000) (q : Q (.str (a ++ b)) H) : rAddS (.str a) (.str b) H Q := ⟨a, b, rfl, rfl, by have : (100000 : Nat) ≤ sizeLine := (by decide); omega, q⟩
theorem pe_gstr {X : Cx} {x : Str} {i : Str} {pos : Pos} (hg : Gl X x) (hm : ∃ t : Tok, X.mg x = some (.str i t)) (hd : (x == ("__debug__" : Str)) = false := by decide) : PE X (.Name x pos) (tC (.str i)) :=
  let ⟨t, h⟩ := hm
  pe_glob hg h ⟨t, rfl⟩ hd
/-- a row, shown -/
def shw (w : Str) (ns : List Int) : Str := Txt.join (Str.ofString " ") (w :: ns.map txI)
theorem shw_each (w : Str) (ns : List Int) : w ++ Txt.join Str.empty (ns.map fun i => Str.ofString " " ++ txI i) = shw w ns := by
  unfold shw
  rw [join_each, List.map_map]
  rfl
theorem sml_shw {w : Str} {ns : List Int} (hw : Sml w 10) (hn : ns.length ≤ 48) (h : ∀ z ∈ ns, z.natAbs < 10 ^ 40) : Sml (shw w ns) (49 * 42) := by
  refine (sml_join (n := 41) (L := 1) (sml_str " " (by decide)) (w :: ns.map txI) fun x hx => ?_).mono ?_
  · rcases List.mem_cons.mp hx with rfl | hx
    · exact hw.mono (by decide)
    · obtain ⟨z, hz, rfl⟩ := List.mem_map.mp hx
      exact sml_int (h z hz)
  · rw [List.length_cons, List.length_map]
    exact Nat.mul_le_mul (by omega) (Nat.le_refl 42)
/-- steps: words and hours -/
def Wy (H : Hp) (l : Addr) (ws : List (Str × Int)) : Prop := ∃ ts : List Addr, H l = some (.lst (ts.map V.ref)) ∧ ts.length = ws.length ∧ ∀ (j : Nat) t, ts[j]? = some t → ∃ w, ws[j]? = some w ∧ H t = some (.tup [.str w.1, .int w.2])
theorem Wy.ex {H H' : Hp} {l : Addr} {ws : List (Str × Int)} (e : Ex H H') (h : Wy H l ws) : Wy H' l ws :=
  let ⟨ts, h1, h2, h3⟩ := h
  ⟨ts, e _ _ h1, h2, fun j t ht => let ⟨w, a, b⟩ := h3 j t ht; ⟨w, a, e _ _ b⟩⟩
def stpT (w : Str × Int) : Str := w.1 ++ Str.ofString " " ++ txI w.2
def wayT (ws : List (Str × Int)) : Str := Txt.join (Str.ofString ", ") (ws.map stpT)
def Okw (ws : List (Str × Int)) : Prop := ws.length ≤ 60 ∧ ∀ p ∈ ws, Sml p.1 4 ∧ 0 ≤ p.2 ∧ p.2 < 48
theorem sml_stp {w : Str × Int} (h : Sml w.1 4 ∧ 0 ≤ w.2 ∧ w.2 < 48) : Sml (stpT w) 46 := sml_app (sml_app h.1 (sml_str " " (n := 1) (by decide))) (sml_int (by omega))
theorem sml_way {ws : List (Str × Int)} (h : Okw ws) : Sml (wayT ws) (60 * 48) := by
  refine (sml_join (n := 46) (L := 2) (sml_str ", " (by decide)) (ws.map stpT) fun x hx => ?_).mono ?_
  · obtain ⟨z, hz, rfl⟩ := List.mem_map.mp hx
    exact sml_stp (h.2 z hz)
  · rw [List.length_map]
    exact Nat.mul_le_mul h.1 (Nat.le_refl 48)
/-- a comprehension over steps -/
theorem lc_way {K : PySem.W.Frag} {g : TG} {te : TE} {vs : List Nat} {σ : L2.St} {H1 : Hp} {Q : VK} {p : Addr} {ws : List (Str × Int)} (hP : Wy H1 p ws) (f : Str × Int → Str) (hn : ws.length ≤ 1000)
    (turn : ∀ T w H, w ∈ ws → Ex H1 H → H T = some (.tup [.str w.1, .int w.2]) → ∀ k : VK, (∀ H4, Ex H H4 → k (.str (f w)) H4) → g (.ref T) (wipe σ vs) H fun σ2 H2 => wipe σ2 vs = wipe σ vs ∧ te σ2 H2 k)
    (fin : ∀ D H, H1 D = none → Ex H1 H → H D = some (.lst ((ws.map f).map V.str)) → Q (.ref D) H) : ∃ a, V.ref p = .ref a ∧ (∃ xs, SqL K H1 a xs) ∧ LcTail (Itl K a) H1 g tYes te vs σ Q := by
  obtain ⟨ts, h1, h2, h3⟩ := hP
  refine ⟨p, rfl, ⟨_, .inl (.inl h1)⟩, lc_fun (walk_list (xs := ts.map V.ref)) (fun i => .str (f (ws.getD i (Str.empty, 0)))) (fun H e => .inl (.inl (e _ _ h1))) (by rw [List.length_map]; omega) ?_ ?_⟩
  · rintro i x H H' hi e ⟨rfl, hx⟩ k hk
    rw [List.length_map] at hi
    rw [List.getElem?_map, List.getElem?_eq_getElem hi] at hx
    cases hx
    obtain ⟨w, hw, ht⟩ := h3 i _ (List.getElem?_eq_getElem hi)
    rw [List.getD_eq_getElem?_getD, hw] at hk
    exact turn _ w _ (List.mem_of_getElem? hw) e (e _ _ ht) k hk
  · intro D H hD e hd
    refine fin D H hD e ?_
    rw [hd, List.length_map, h2, List.map_map]
    congr 2
    refine List.ext_getElem? fun i => ?_
    rcases Nat.lt_or_ge i ws.length with h | h
    · rw [List.getElem?_map, List.getElem?_map, List.getElem?_range h, List.getElem?_eq_getElem h]
      show some (V.str (f (ws.getD i (Str.empty, 0)))) = some (V.str (f ws[i]))
      rw [List.getD_eq_getElem?_getD, List.getElem?_eq_getElem h]
      rfl
    · rw [List.getElem?_eq_none (by rw [List.length_map, List.length_range]; exact h), List.getElem?_eq_none (by rw [List.length_map]; exact h)]
def wayD (ws : List (Str × Int)) : PyData := .list (ws.map fun w => .tuple [.str w.1, .int w.2])
theorem dp_way {K : PySem.W.Frag} {H : Hp} {l : Addr} {ws : List (Str × Int)} (h : Wy H l ws) : Dp K H (.ref l) (wayD ws) := by
  obtain ⟨ts, h1, h2, h3⟩ := h
  refine .lst (.inl (.inl h1)) ?_
  clear h1
  induction ts generalizing ws with
  | nil =>
    obtain rfl : ws = [] := List.eq_nil_of_length_eq_zero h2.symm
    exact .nil
  | cons t ts ih =>
    match ws, h2 with
    | w :: ws, h2 =>
      obtain ⟨w', e, ht⟩ := h3 0 t rfl
      cases e
      exact .cons (.tup (.inl (.inl ht)) (.cons (.str _) (.cons (.int _) .nil))) (ih (by simpa using h2) fun j t' hj => h3 (j + 1) t' hj)
theorem fine_way {ws : List (Str × Int)} (h : Okw ws) : Fine (wayD ws) (60 * (2 * 201 + 1)) :=
  fine_list (fun d hd => by
    obtain ⟨w, hw, rfl⟩ := List.mem_map.mp hd
    have := h.2 w hw
    exact fine_tuple (n := 2) (w := 200) (fun x hx => by
      simp only [List.mem_cons, List.not_mem_nil, or_false] at hx
      rcases hx with rfl | rfl
      · exact (fine_txt this.1).mono (by decide)
      · exact fine_int (by omega)) (Nat.le_refl 2)) (by rw [List.length_map]; exact h.1)
theorem stay_mem {s : List Int} (g : Good s) {z : Int} (h : z ∈ s) : 1 ≤ z ∧ z ≤ (s.length : Int) := by
  obtain ⟨j, hj, rfl⟩ := List.mem_iff_getElem.mp h
  have e : cyc s (j : Int) = s[j] := by rw [cyc_at hj, List.getD_eq_getElem?_getD, List.getElem?_eq_getElem hj]; rfl
  rw [← e]
  exact ⟨g.lo _, g.hi _⟩
theorem str_nil : Str.ofString "" = Str.empty := by decide +kernel
theorem dep_all {n : Nat} : ∀ {ds : List PyData}, (∀ d ∈ ds, d.depth ≤ n) → PyData.depthAll ds ≤ n
  | [], _ => Nat.zero_le _
  | d :: ds, h => by
    have h1 := h d List.mem_cons_self
    have h2 := dep_all (ds := ds) fun x hx => h x (List.mem_cons_of_mem _ hx)
    simp only [PyData.depthAll]
    omega
theorem dep_way (x y : Int) (ws : List (Str × Int)) : (PyData.list [.tuple [.int x, .int y], wayD ws]).depth ≤ 64 := by
  have h : (wayD ws).depth ≤ 10 := by
    unfold wayD
    simp only [PyData.depth]
    have := dep_all (n := 5) (ds := ws.map fun w => PyData.tuple [.str w.1, .int w.2]) fun d hd => by
      obtain ⟨w, _, rfl⟩ := List.mem_map.mp hd
      simp only [PyData.depth, PyData.depthAll]
      omega
    omega
  simp only [PyData.depth, PyData.depthAll] at h ⊢
  omega
theorem shaped_strs {n : Nat} {ys : List Str} (h : ∀ y ∈ ys, Sml y n) : SeqAt.shaped (.list (ys.map PyData.str)) = true := by
  have h1 : ∀ ys : List Str, (∀ y ∈ ys, Sml y n) → PyData.canLayAll0 (ys.map PyData.str) = true := fun ys => by
    induction ys with
    | nil => exact fun _ => rfl
    | cons y ys ih =>
      intro h
      simp only [List.map_cons, PyData.canLayAll0, Bool.and_eq_true]
      refine ⟨?_, ih fun z hz => h z (List.mem_cons_of_mem _ hz)⟩
      simp only [PyData.canLay0, PyData.strOk]
      rw [Array.all_eq_true]
      intro i hi
      exact decide_eq_true ((h y List.mem_cons_self).2 _ (by rw [Array.mem_toList_iff]; exact Array.getElem_mem hi))
  unfold SeqAt.shaped
  rw [Bool.and_eq_true]
  refine ⟨by simp only [PyData.canLay0]; exact h1 ys h, decide_eq_true ?_⟩
  simp only [PyData.depth]
  have := dep_all (n := 5) (ds := ys.map PyData.str) fun d hd => by
    obtain ⟨w, _, rfl⟩ := List.mem_map.mp hd
    simp only [PyData.depth]
    omega
  omega
end Hn

/-! Lists of drawn integers. -/
namespace Hn
open PySem PySem.Spec PyProof.Rows L2 Evl
section
variable {J : It} {n : Nat} {G : Hp → Prop} {Y : Nat → Hp → V → Hp → Prop}
/-- a comprehension of integers, each of which is as P tells -/
theorem lc_ints (w : Walk J n G Y) {g : TG} {te : TE} {vs : List Nat} {σ : L2.St} {H1 : Hp} {Q : VK} (P : Int → Prop) (hG : ∀ H, Ex H1 H → G H) (hn : n ≤ 100000)
    (turn : ∀ i x H H', i < n → Ex H1 H → Y i H x H' → ∀ k : VK, (∀ z H4, Ex H H4 → P z → k (.int z) H4) → g x (wipe σ vs) H' fun σ2 H2 => wipe σ2 vs = wipe σ vs ∧ te σ2 H2 k)
    (fin : ∀ D H (ns : List Int), H1 D = none → Ex H1 H → H D = some (.lst (ns.map V.int)) → ns.length = n → (∀ z ∈ ns, P z) → Q (.ref D) H) : LcTail J H1 g tYes te vs σ Q :=
  lc_val w (fun _ v => ∃ z : Int, P z ∧ v = .int z) hG hn (fun i x H H' hi e y k h => turn i x H H' hi e y k fun z H4 e4 pz => h _ _ e4 ⟨z, pz, rfl⟩) fun D H ys hD e hy hl hr => by
    obtain ⟨ms, hm, rfl⟩ : ∃ ms : List Int, (∀ z ∈ ms, P z) ∧ ys = ms.map V.int := ints_of fun v hv => by
      obtain ⟨i, hi, rfl⟩ := List.mem_iff_getElem.mp hv
      exact hr i _ (List.getElem?_eq_getElem hi)
    rw [List.length_map] at hl
    exact fin D H ms hD e hy hl hm
end
theorem good_of_mem {s : List Int} {n : Nat} (hl : s.length = n) (h1 : 1 ≤ n) (h8 : n ≤ 48) (h : ∀ z ∈ s, 0 ≤ z ∧ z < 10 ^ 30) : GoodN s :=
  ⟨by omega, by omega, fun i => (h _ (cyc_mem (by omega) i)).1⟩
theorem rep_map {n : Nat} {c : Int} : List.replicate n (V.int c) = (List.replicate n c).map V.int := by rw [List.map_replicate]
theorem rep_flat1 {x : V} : ∀ n : Nat, (List.replicate n [x]).flatten = List.replicate n x
  | 0 => rfl
  | n + 1 => by
    rw [List.replicate_succ, List.flatten_cons, rep_flat1 n, List.replicate_succ]
    rfl
theorem rep_in {n : Nat} {c : Int} {P : Int → Prop} (h : P c) : ∀ z ∈ List.replicate n c, P z := fun z hz => by
  rw [List.eq_of_mem_replicate hz]
  exact h
theorem div_in {z w : Int} (h0 : 0 ≤ z) (h1 : z < 10 ^ 30) (w1 : 1 ≤ w) : 0 ≤ z / w ∧ z / w < 10 ^ 30 := by
  have a := Int.ediv_nonneg h0 (by omega : 0 ≤ w)
  have b := Int.ediv_le_self w h0
  omega
theorem mul_in {a b : Int} (a0 : 0 ≤ a) (a1 : a < 9) (b0 : 0 ≤ b) (b1 : b < 2) : 0 ≤ a * b ∧ a * b < 10 ^ 30 := by
  have c0 := Int.mul_nonneg a0 b0
  have : a * b ≤ a * 2 := Int.mul_le_mul_of_nonneg_left (by omega) a0
  omega
theorem r_trip {K : PySem.W.Frag} {σ : L2.St} {H : Hp} {x y z : V} {T : Addr} {n m l : Nat} {q : L2.St → Hp → Prop} (h : q (((σ.set n (some x)).set m (some y)).set l (some z)) (upd H T (.tup [x, y, z]))) : gTup K 3 (gCons (gName n) (gCons (gName m) (gCons (gName l) gNil))) (.ref T) σ (upd H T (.tup [x, y, z])) q :=
  ⟨T, [x, y, z], rfl, .inl (.inl upd_same), rfl, x, [y, z], rfl, y, [z], rfl, z, [], rfl, rfl, h⟩
theorem r_tup3 {K : PySem.W.Frag} {σ : L2.St} {H : Hp} {x y z : V} {T : Addr} {n m l : Nat} {q : L2.St → Hp → Prop} (hT : SqT K H T [x, y, z]) (h : q (((σ.set n (some x)).set m (some y)).set l (some z)) H) : gTup K 3 (gCons (gName n) (gCons (gName m) (gCons (gName l) gNil))) (.ref T) σ H q :=
  ⟨T, [x, y, z], rfl, hT, rfl, x, [y, z], rfl, y, [z], rfl, z, [], rfl, rfl, h⟩
theorem r_tup5 {K : PySem.W.Frag} {σ : L2.St} {H : Hp} {x1 x2 x3 x4 x5 : V} {T : Addr} {n1 n2 n3 n4 n5 : Nat} {q : L2.St → Hp → Prop} (hT : SqT K H T [x1, x2, x3, x4, x5]) (h : q (((((σ.set n1 (some x1)).set n2 (some x2)).set n3 (some x3)).set n4 (some x4)).set n5 (some x5)) H) :
    gTup K 5 (gCons (gName n1) (gCons (gName n2) (gCons (gName n3) (gCons (gName n4) (gCons (gName n5) gNil))))) (.ref T) σ H q :=
  ⟨T, [x1, x2, x3, x4, x5], rfl, hT, rfl, x1, _, rfl, x2, _, rfl, x3, _, rfl, x4, _, rfl, x5, _, rfl, rfl, h⟩
end Hn

/-! Walks along edges, plainly: what is reached, pass by pass; closed walks that gain. -/
namespace Hn
/-- an edge: from mark f to mark l, t days later, of value v; s is its step -/
structure Ed (S : Type) where
  f : Nat
  l : Nat
  t : Int
  v : Int
  s : S
section
variable {S : Type}
def gn (pa pb : Int) (e : Ed S) : Int := pb * e.v - pa * e.t
def upF {α : Type} (g : Nat → α) (i : Nat) (x : α) : Nat → α := fun j => if j = i then x else g j
theorem upF_same {α : Type} {g : Nat → α} {i : Nat} {x : α} : upF g i x i = x := if_pos rfl
theorem upF_ne {α : Type} {g : Nat → α} {i j : Nat} {x : α} (h : j ≠ i) : upF g i x j = g j := if_neg h
/-- what is reached at each mark, by which edge, and the mark bettered last -/
structure Sta (S : Type) where
  r : Nat → Option Int
  c : Nat → Option (Ed S)
  ch : Option Nat
def better (x : Int) : Option Int → Bool
  | none => true
  | some y => decide (x > y)
def relax (pa pb : Int) (q : Sta S) (e : Ed S) : Sta S :=
  match q.r e.f with
  | none => q
  | some x => if better (x + gn pa pb e) (q.r e.l) = true then ⟨upF q.r e.l (some (x + gn pa pb e)), upF q.c e.l (some e), some e.l⟩ else q
def pass (pa pb : Int) (es : List (Ed S)) (r : Nat → Option Int) (c : Nat → Option (Ed S)) : Sta S := es.foldl (relax pa pb) ⟨r, c, none⟩

theorem relax_none {pa pb : Int} {q : Sta S} {e : Ed S} (h : q.r e.f = none) : relax pa pb q e = q := by
  unfold relax
  rw [h]
theorem relax_some {pa pb : Int} {q : Sta S} {e : Ed S} {x : Int} (h : q.r e.f = some x) : relax pa pb q e = if better (x + gn pa pb e) (q.r e.l) = true then ⟨upF q.r e.l (some (x + gn pa pb e)), upF q.c e.l (some e), some e.l⟩ else q := by
  unfold relax
  rw [h]
/-- a mark once changed stays told -/
theorem fold_ch {pa pb : Int} : ∀ (es : List (Ed S)) (q : Sta S), q.ch ≠ none → (es.foldl (relax pa pb) q).ch ≠ none
  | [], q, h => h
  | e :: es, q, h => by
    refine fold_ch es _ ?_
    unfold relax
    split
    · exact h
    · split
      · intro z
        cases z
      · exact h
/-- no change: all stays, and no edge betters -/
theorem fold_none {pa pb : Int} : ∀ (es : List (Ed S)) (q : Sta S), (es.foldl (relax pa pb) q).ch = none → es.foldl (relax pa pb) q = q ∧ ∀ e ∈ es, ∀ x, q.r e.f = some x → better (x + gn pa pb e) (q.r e.l) = false
  | [], q, _ => ⟨rfl, fun e h => nomatch h⟩
  | e :: es, q, h => by
    have hq : (relax pa pb q e).ch = none := by
      cases z : (relax pa pb q e).ch with
      | none => rfl
      | some m => exact absurd h (fold_ch es _ (by rw [z]; intro z; cases z))
    have he : relax pa pb q e = q ∧ ∀ x, q.r e.f = some x → better (x + gn pa pb e) (q.r e.l) = false := by
      cases z : q.r e.f with
      | none => exact ⟨relax_none z, fun x hx => nomatch hx⟩
      | some x =>
        rw [relax_some z] at hq ⊢
        cases zb : better (x + gn pa pb e) (q.r e.l) with
        | true =>
          rw [zb, if_pos rfl] at hq
          cases hq
        | false => exact ⟨if_neg (by intro z; cases z), fun x' hx => by cases hx; exact zb⟩
    rw [List.foldl_cons, he.1] at h ⊢
    obtain ⟨h1, h2⟩ := fold_none es q h
    refine ⟨h1, fun e' he' => ?_⟩
    rcases List.mem_cons.mp he' with rfl | he'
    · exact he.2
    · exact h2 e' he'
end

/-! ### all marks reached -/
section
variable {S : Type}
/-- the mark from which a mark was reached -/
def prd (c : Nat → Option (Ed S)) (m : Nat) : Nat := match c m with
  | some e => e.f
  | none => m
def prdN (c : Nat → Option (Ed S)) : Nat → Nat → Nat
  | 0, m => m
  | k + 1, m => prd c (prdN c k m)
theorem prdN_add (c : Nat → Option (Ed S)) (j : Nat) (m : Nat) : ∀ k, prdN c (k + j) m = prdN c k (prdN c j m)
  | 0 => by rw [Nat.zero_add]; rfl
  | k + 1 => by
    rw [show k + 1 + j = (k + j) + 1 by omega]
    unfold prdN
    rw [prdN_add c j m k]
structure Inv (pa pb : Int) (es : List (Ed S)) (k i now : Nat) (R : Nat → Int) (c : Nat → Option (Ed S)) (tau lp : Nat → Nat) : Prop where
  i1 : ∀ v e, c v = some e → e ∈ es ∧ e.l = v ∧ R v ≤ R e.f + gn pa pb e ∧ (tau v ≤ tau e.f → R v < R e.f + gn pa pb e)
  i2 : ∀ v, 1 ≤ lp v → ∃ e, c v = some e
  i3 : ∀ v e, c v = some e → lp v ≤ lp e.f + 1
  i4 : ∀ e ∈ es, R e.l < R e.f + gn pa pb e → k ≤ lp e.f + 1
  i4' : ∀ e ∈ es.take i, R e.l < R e.f + gn pa pb e → k ≤ lp e.f
  i5 : ∀ v, lp v ≤ k ∧ tau v ≤ now
/-- one more edge -/
theorem Inv.step {pa pb : Int} {es : List (Ed S)} {k i now : Nat} {R : Nat → Int} {c : Nat → Option (Ed S)} {tau lp : Nat → Nat} (I : Inv pa pb es k i now R c tau lp) {e : Ed S} (he : es[i]? = some e) :
    (R e.f + gn pa pb e > R e.l → Inv pa pb es k (i + 1) (now + 1) (upF R e.l (R e.f + gn pa pb e)) (upF c e.l (some e)) (upF tau e.l (now + 1)) (upF lp e.l k)) ∧ (¬ R e.f + gn pa pb e > R e.l → Inv pa pb es k (i + 1) now R c tau lp) := by
  have hm : e ∈ es := List.mem_of_getElem? he
  have ht : es.take (i + 1) = es.take i ++ [e] := by
    rw [List.take_add_one, he]
    rfl
  refine ⟨fun hb => ?_, fun hb => ?_⟩
  · have hl4 := I.i4 e hm (by omega)
    refine ⟨fun v e' hv => ?_, fun v hv => ?_, fun v e' hv => ?_, fun e' he' hv => ?_, fun e' he' hv => ?_, fun v => ?_⟩
    · by_cases q : v = e.l
      · subst q
        rw [upF_same] at hv
        cases hv
        refine ⟨hm, rfl, ?_, ?_⟩
        · rw [upF_same]
          by_cases z : e.f = e.l
          · rw [z, upF_same]
            rw [z] at hb
            omega
          · rw [upF_ne z]
            omega
        · intro hle
          rw [upF_same]
          by_cases z : e.f = e.l
          · rw [z, upF_same]
            rw [z] at hb
            omega
          · rw [upF_same, upF_ne z] at hle
            have := (I.i5 e.f).2
            omega
      · rw [upF_ne q] at hv
        obtain ⟨h1, h2, h3, h4⟩ := I.i1 v e' hv
        refine ⟨h1, h2, ?_, ?_⟩
        · rw [upF_ne q]
          by_cases z : e'.f = e.l
          · rw [z, upF_same]
            rw [z] at h3
            omega
          · rw [upF_ne z]
            exact h3
        · rw [upF_ne q, upF_ne q]
          by_cases z : e'.f = e.l
          · intro _
            rw [z, upF_same]
            rw [z] at h3
            omega
          · rw [upF_ne z, upF_ne z]
            exact h4
    · by_cases q : v = e.l
      · subst q
        exact ⟨e, upF_same⟩
      · rw [upF_ne q] at hv ⊢
        exact I.i2 v hv
    · by_cases q : v = e.l
      · subst q
        rw [upF_same] at hv ⊢
        cases hv
        by_cases z : e.f = e.l
        · rw [z, upF_same]
          omega
        · rw [upF_ne z]
          omega
      · rw [upF_ne q] at hv ⊢
        have h3 := I.i3 v e' hv
        by_cases z : e'.f = e.l
        · rw [z, upF_same]
          have := (I.i5 v).1
          omega
        · rw [upF_ne z]
          exact h3
    · by_cases z : e'.f = e.l
      · rw [z, upF_same]
        omega
      · rw [upF_ne z] at hv ⊢
        refine I.i4 e' he' ?_
        by_cases q : e'.l = e.l
        · rw [q, upF_same] at hv
          rw [q]
          omega
        · rw [upF_ne q] at hv
          exact hv
    · by_cases z : e'.f = e.l
      · rw [z, upF_same]
        omega
      · rw [upF_ne z] at hv ⊢
        rw [ht] at he'
        rcases List.mem_append.mp he' with he' | he'
        · refine I.i4' e' he' ?_
          by_cases q : e'.l = e.l
          · rw [q, upF_same] at hv
            rw [q]
            omega
          · rw [upF_ne q] at hv
            exact hv
        · rw [List.mem_singleton.mp he', upF_same] at hv
          omega
    · by_cases q : v = e.l
      · subst q
        rw [upF_same, upF_same]
        omega
      · rw [upF_ne q, upF_ne q]
        have := I.i5 v
        omega
  · refine ⟨I.i1, I.i2, I.i3, I.i4, fun e' he' hv => ?_, I.i5⟩
    rw [ht] at he'
    rcases List.mem_append.mp he' with he' | he'
    · exact I.i4' e' he' hv
    · rw [List.mem_singleton.mp he'] at hv
      omega
/-- all edges from the i-th one on -/
theorem Inv.fold {pa pb : Int} {es : List (Ed S)} {k : Nat} : ∀ (fs : List (Ed S)) (i now : Nat) (R : Nat → Int) (c : Nat → Option (Ed S)) (tau lp : Nat → Nat) (ch : Option Nat), es.drop i = fs → Inv pa pb es k i now R c tau lp → (∀ m, ch = some m → lp m = k) →
    ∃ now' R' c' tau' lp' ch', fs.foldl (relax pa pb) ⟨fun v => some (R v), c, ch⟩ = ⟨fun v => some (R' v), c', ch'⟩ ∧ Inv pa pb es k es.length now' R' c' tau' lp' ∧ ∀ m, ch' = some m → lp' m = k
  | [], i, now, R, c, tau, lp, ch, hd, I, hc => by
    have hi : es.length ≤ i := List.drop_eq_nil_iff.mp hd
    have : es.take es.length = es.take i := by rw [List.take_of_length_le hi, List.take_length]
    exact ⟨now, R, c, tau, lp, ch, rfl, ⟨I.i1, I.i2, I.i3, I.i4, by rw [this]; exact I.i4', I.i5⟩, hc⟩
  | e :: fs, i, now, R, c, tau, lp, ch, hd, I, hc => by
    have he : es[i]? = some e := by
      have := congrArg (fun l => l[0]?) hd
      simpa using this
    have hd' : es.drop (i + 1) = fs := by
      rw [← List.tail_drop, hd]
      rfl
    have st := I.step he
    rw [List.foldl_cons, relax_some (x := R e.f) rfl]
    by_cases hb : R e.f + gn pa pb e > R e.l
    · rw [if_pos (by show decide _ = true; exact decide_eq_true hb)]
      have hq : (upF (fun v => some (R v)) e.l (some (R e.f + gn pa pb e)) : Nat → Option Int) = fun v => some (upF R e.l (R e.f + gn pa pb e) v) := by
        funext v
        unfold upF
        split <;> rfl
      show ∃ now' R' c' tau' lp' ch', fs.foldl (relax pa pb) ⟨upF (fun v => some (R v)) e.l (some (R e.f + gn pa pb e)), upF c e.l (some e), some e.l⟩ = _ ∧ _
      rw [hq]
      refine Inv.fold fs (i + 1) (now + 1) _ _ _ _ _ hd' (st.1 hb) fun m hm => ?_
      cases hm
      exact upF_same
    · rw [if_neg (by show ¬ decide _ = true; rw [decide_eq_false hb]; intro z; cases z)]
      exact Inv.fold fs (i + 1) now _ _ _ _ _ hd' (st.2 hb) hc
/-- a whole pass -/
theorem Inv.pass {pa pb : Int} {es : List (Ed S)} {k now : Nat} {R : Nat → Int} {c : Nat → Option (Ed S)} {tau lp : Nat → Nat} (I : Inv pa pb es k es.length now R c tau lp) :
    ∃ now' R' c' tau' lp' ch', Hn.pass pa pb es (fun v => some (R v)) c = ⟨fun v => some (R' v), c', ch'⟩ ∧ Inv pa pb es (k + 1) es.length now' R' c' tau' lp' ∧ ∀ m, ch' = some m → lp' m = k + 1 :=
  Inv.fold es 0 now R c tau lp none rfl ⟨I.i1, I.i2, I.i3, fun e he h => by
    have := I.i4' e (by rw [List.take_length]; exact he) h
    omega, (fun e he => nomatch he), fun v => by have := I.i5 v; omega⟩ fun _ h => nomatch h
theorem Inv.start {pa pb : Int} {es : List (Ed S)} : Inv pa pb es 0 es.length 0 (fun _ => 0) (fun _ => none) (fun _ => 0) (fun _ => 0) :=
  ⟨(fun _ _ h => nomatch h), fun _ h => absurd h (by omega), (fun _ _ h => nomatch h), fun _ _ _ => by omega, fun _ _ _ => by omega, fun _ => by omega⟩
/-- a walk along edges from a mark to a mark -/
def Wk : Nat → List (Ed S) → Nat → Prop
  | a, [], b => a = b
  | a, e :: w, b => e.f = a ∧ Wk e.l w b
theorem Wk.append : ∀ {u w : List (Ed S)} {a b c : Nat}, Wk a u b → Wk b w c → Wk a (u ++ w) c
  | [], w, a, b, c, h, h' => by
    have h : a = b := h
    rw [h]
    exact h'
  | e :: u, w, a, b, c, h, h' => ⟨h.1, Wk.append h.2 h'⟩
theorem Wk.tele (X : Nat → Int) : ∀ {w : List (Ed S)} {a b : Nat}, Wk a w b → (w.map fun e => X e.l - X e.f).sum = X b - X a
  | [], a, b, h => by
    have h : a = b := h
    rw [h]
    show (0 : Int) = X b - X b
    omega
  | e :: w, a, b, h => by
    rw [List.map_cons, List.sum_cons, Wk.tele X h.2, h.1]
    omega
def tn (w : List (Ed S)) : Int := (w.map (·.t)).sum
def wo (w : List (Ed S)) : Int := (w.map (·.v)).sum
theorem gn_sum (pa pb : Int) : ∀ w : List (Ed S), (w.map (gn pa pb)).sum = pb * wo w - pa * tn w
  | [] => by
    show (0 : Int) = pb * 0 - pa * 0
    rw [Int.mul_zero, Int.mul_zero]
    rfl
  | e :: w => by
    have := gn_sum pa pb w
    unfold wo tn at *
    rw [List.map_cons, List.sum_cons, this, List.map_cons, List.sum_cons, List.map_cons, List.sum_cons, Int.mul_add, Int.mul_add]
    unfold gn
    omega
/-- at a pace at which no edge gains more than a difference, no closed walk gains -/
theorem pot_sum {pa pb : Int} {X : Nat → Int} : ∀ {w : List (Ed S)} {a b : Nat}, Wk a w b → (∀ e ∈ w, X e.f + gn pa pb e ≤ X e.l) → (w.map (gn pa pb)).sum ≤ X b - X a
  | [], a, b, h, _ => by
    have h : a = b := h
    rw [h]
    show (0 : Int) ≤ X b - X b
    omega
  | e :: w, a, b, h, hp => by
    have h1 := pot_sum h.2 fun e' he' => hp e' (List.mem_cons_of_mem _ he')
    have h2 := hp e List.mem_cons_self
    have h3 := h.1
    rw [List.map_cons, List.sum_cons, ← h3]
    omega
/-- the edges of a closed walk that gains -/
structure Loop (pa pb : Int) (es : List (Ed S)) (n : Nat) (w : List (Ed S)) : Prop where
  ne : w ≠ []
  mem : ∀ e ∈ w, e ∈ es
  len : w.length ≤ n
  wk : ∃ a, Wk a w a
  gain : 0 < (w.map (gn pa pb)).sum
theorem pigeon : ∀ (n : Nat) (g : Nat → Nat), (∀ i, i ≤ n → g i < n) → ∃ i j, i < j ∧ j ≤ n ∧ g i = g j
  | 0, g, h => absurd (h 0 (Nat.le_refl 0)) (Nat.not_lt_zero _)
  | n + 1, g, h => by
    by_cases q : ∃ i, i ≤ n ∧ g i = g (n + 1)
    · obtain ⟨i, hi, e⟩ := q
      exact ⟨i, n + 1, by omega, Nat.le_refl _, e⟩
    · have q' : ∀ i, i ≤ n → g i ≠ g (n + 1) := fun i hi e => q ⟨i, hi, e⟩
      obtain ⟨i, j, h1, h2, h3⟩ := pigeon n (fun i => if g i = n then g (n + 1) else g i) fun i hi => by
        have a := h i (by omega)
        have b := h (n + 1) (Nat.le_refl _)
        have d := q' i hi
        show (if g i = n then g (n + 1) else g i) < n
        split <;> omega
      have a := q' i (by omega)
      have b := q' j (by omega)
      refine ⟨i, j, h1, by omega, ?_⟩
      have h3 : (if g i = n then g (n + 1) else g i) = (if g j = n then g (n + 1) else g j) := h3
      split at h3 <;> split at h3 <;> omega
/-- the edges come again behind n marks -/
structure Ring (c : Nat → Option (Ed S)) (n m : Nat) : Prop where
  al : ∀ i, ∃ e, c (prdN c i m) = some e ∧ prdN c i m < n
  ag : ∃ p, 1 ≤ p ∧ p ≤ n ∧ prdN c (n + p) m = prdN c n m ∧ ∀ q, 1 ≤ q → q < p → prdN c (n + q) m ≠ prdN c n m
theorem least_of {P : Nat → Prop} : ∀ n, P n → ∃ k, k ≤ n ∧ P k ∧ ∀ j, j < k → ¬ P j := by
  intro n
  induction n using Nat.strongRecOn with
  | ind n ih =>
    intro h
    by_cases q : ∃ j, j < n ∧ P j
    · obtain ⟨j, hj, pj⟩ := q
      obtain ⟨k, a, b, d⟩ := ih j hj pj
      exact ⟨k, by omega, b, d⟩
    · exact ⟨n, Nat.le_refl n, h, fun j hj pj => q ⟨j, hj, pj⟩⟩
theorem Inv.ring {pa pb : Int} {es : List (Ed S)} {n now m : Nat} {R : Nat → Int} {c : Nat → Option (Ed S)} {tau lp : Nat → Nat} (I : Inv pa pb es (n + 1) es.length now R c tau lp) (hm : lp m = n + 1) (hes : ∀ e ∈ es, e.f < n ∧ e.l < n) : Ring c n m := by
  have a1 : ∀ i, i ≤ n → n + 1 ≤ lp (prdN c i m) + i := by
    intro i
    induction i with
    | zero => intro _; show n + 1 ≤ lp m + 0; omega
    | succ i ih =>
      intro hi
      have h := ih (by omega)
      obtain ⟨e, he⟩ := I.i2 (prdN c i m) (by omega)
      have h3 := I.i3 _ _ he
      have : prdN c (i + 1) m = e.f := by
        show prd c (prdN c i m) = e.f
        unfold prd
        rw [he]
      rw [this]
      omega
  have a2 : ∀ i, i ≤ n → ∃ e, c (prdN c i m) = some e ∧ prdN c i m < n := fun i hi => by
    have := a1 i hi
    obtain ⟨e, he⟩ := I.i2 (prdN c i m) (by omega)
    obtain ⟨h1, h2, _⟩ := I.i1 _ _ he
    exact ⟨e, he, h2 ▸ (hes e h1).2⟩
  obtain ⟨i, j, h1, h2, h3⟩ := pigeon n (fun i => prdN c i m) fun i hi => by
    obtain ⟨e, _, h⟩ := a2 i hi
    exact h
  have h3 : prdN c i m = prdN c j m := h3
  have per : ∀ a, i ≤ a → prdN c (a + (j - i)) m = prdN c a m := fun a ha => by
    obtain ⟨b, rfl⟩ : ∃ b, a = b + i := ⟨a - i, by omega⟩
    rw [show b + i + (j - i) = b + j by omega, prdN_add, prdN_add, h3]
  have al : ∀ i, ∃ e, c (prdN c i m) = some e ∧ prdN c i m < n := by
    intro k
    induction k using Nat.strongRecOn with
    | ind k ih =>
      by_cases q : k ≤ n
      · exact a2 k q
      · have := per (k - (j - i)) (by omega)
        rw [show k - (j - i) + (j - i) = k by omega] at this
        rw [this]
        exact ih _ (by omega)
  refine ⟨al, ?_⟩
  obtain ⟨k, b1, b2, b3⟩ := least_of (P := fun q => prdN c (n + (q + 1)) m = prdN c n m) (j - i - 1) (by
    show prdN c (n + (j - i - 1 + 1)) m = prdN c n m
    rw [show j - i - 1 + 1 = j - i by omega]
    exact per n (by omega))
  refine ⟨k + 1, by omega, by omega, b2, fun q q1 q2 => ?_⟩
  have := b3 (q - 1) (by omega)
  rw [show n + (q - 1 + 1) = n + q by omega] at this
  exact this
/-- the edges of the ring, the last one first -/
def edAt (d : Ed S) (c : Nat → Option (Ed S)) (m : Nat) : Ed S := (c m).getD d
theorem Inv.loop {pa pb : Int} {es : List (Ed S)} {n now m p : Nat} {R : Nat → Int} {c : Nat → Option (Ed S)} {tau lp : Nat → Nat} {k i : Nat} (I : Inv pa pb es k i now R c tau lp) (al : ∀ i, ∃ e, c (prdN c i m) = some e) (p1 : 1 ≤ p) (pn : p ≤ n) (ag : prdN c p m = m) {w : List (Ed S)}
    (hl : w.length = p) (hw : ∀ i, i < p → w[i]? = c (prdN c i m)) : Loop pa pb es n w.reverse := by
  have stp : ∀ i e, c (prdN c i m) = some e → e.f = prdN c (i + 1) m := fun i e he => by
    show e.f = prd c (prdN c i m)
    unfold prd
    rw [he]
  have g : ∀ k, k ≤ p → (R m - R (prdN c k m) < ((w.take k).map (gn pa pb)).sum) ∨ (R m - R (prdN c k m) ≤ ((w.take k).map (gn pa pb)).sum ∧ (k = 0 ∨ tau (prdN c k m) < tau m)) := by
    intro k
    induction k with
    | zero =>
      intro _
      refine .inr ⟨?_, .inl rfl⟩
      show R m - R m ≤ 0
      omega
    | succ k ih =>
      intro hk
      obtain ⟨e, he⟩ := al k
      have hs := stp k e he
      obtain ⟨_, h2, h3, h4⟩ := I.i1 _ _ he
      have hsum : ((w.take (k + 1)).map (gn pa pb)).sum = ((w.take k).map (gn pa pb)).sum + gn pa pb e := by
        rw [List.take_add_one, hw k (by omega), he]
        simp
      rw [hsum, ← hs]
      rcases ih (by omega) with h | ⟨h, h0⟩
      · left; omega
      · by_cases z : tau (prdN c k m) ≤ tau e.f
        · have := h4 z
          left; omega
        · right
          refine ⟨by omega, .inr ?_⟩
          rcases h0 with rfl | h0
          · have : prdN c 0 m = m := rfl
            rw [this] at z
            omega
          · omega
  have gg := g p (Nat.le_refl p)
  rw [ag, ← hl, List.take_length] at gg
  have key : ∀ i, i < p → ∃ e, w[i]? = some e ∧ e ∈ es ∧ e.l = prdN c i m ∧ e.f = prdN c (i + 1) m := fun i hi => by
    obtain ⟨e, he⟩ := al i
    have := I.i1 _ _ he
    exact ⟨e, by rw [hw i hi, he], this.1, this.2.1, stp i e he⟩
  refine ⟨?_, ?_, ?_, ?_, ?_⟩
  · intro z
    have := congrArg List.length z
    rw [List.length_reverse] at this
    simp at this
    subst this
    simp at hl
    omega
  · intro e he
    rw [List.mem_reverse] at he
    obtain ⟨i, hi, rfl⟩ := List.mem_iff_getElem.mp he
    obtain ⟨e, h1, h2, _⟩ := key i (by omega)
    rw [List.getElem?_eq_getElem hi] at h1
    cases h1
    exact h2
  · rw [List.length_reverse]
    omega
  · have wk : ∀ k, k ≤ p → Wk (prdN c k m) (w.take k).reverse m := by
      intro k
      induction k with
      | zero =>
        intro _
        show m = m
        rfl
      | succ k ih =>
        intro hk
        obtain ⟨e, h1, h2, h3, h4⟩ := key k (by omega)
        rw [List.take_add_one, h1]
        show Wk _ (List.take k w ++ [e]).reverse m
        rw [List.reverse_append]
        refine ⟨h4, ?_⟩
        rw [h3]
        exact ih (by omega)
    have := wk p (Nat.le_refl p)
    rw [ag, ← hl, List.take_length] at this
    exact ⟨m, this⟩
  · rw [List.map_reverse, List.sum_reverse]
    rcases gg with h | ⟨h, h0 | h0⟩
    · omega
    · omega
    · omega
end

/-! ### settled -/
section
variable {S : Type}
theorem fold_keep {pa pb : Int} {I : (Nat → Option Int) → Prop} {es : List (Ed S)} (h : ∀ r e x, e ∈ es → I r → r e.f = some x → better (x + gn pa pb e) (r e.l) = true → I (upF r e.l (some (x + gn pa pb e)))) :
    ∀ (fs : List (Ed S)) (q : Sta S), (∀ e ∈ fs, e ∈ es) → I q.r → I (fs.foldl (relax pa pb) q).r
  | [], q, _, hq => hq
  | e :: fs, q, hm, hq => by
    rw [List.foldl_cons]
    refine fold_keep h fs _ (fun e' he' => hm e' (List.mem_cons_of_mem _ he')) ?_
    cases z : q.r e.f with
    | none => rw [relax_none z]; exact hq
    | some x =>
      rw [relax_some z]
      cases zb : better (x + gn pa pb e) (q.r e.l) with
      | true => exact h q.r e x (hm e List.mem_cons_self) hq z zb
      | false => exact hq
theorem fold_mu {pa pb : Int} {I : (Nat → Option Int) → Prop} {mu : (Nat → Option Int) → Nat} {es : List (Ed S)} (h : ∀ r e x, e ∈ es → I r → r e.f = some x → better (x + gn pa pb e) (r e.l) = true → I (upF r e.l (some (x + gn pa pb e))) ∧ mu (upF r e.l (some (x + gn pa pb e))) < mu r) :
    ∀ (fs : List (Ed S)) (q : Sta S), (∀ e ∈ fs, e ∈ es) → I q.r → mu (fs.foldl (relax pa pb) q).r ≤ mu q.r ∧ (q.ch = none → (fs.foldl (relax pa pb) q).ch ≠ none → mu (fs.foldl (relax pa pb) q).r < mu q.r)
  | [], q, _, hq => ⟨Nat.le_refl _, fun a b => absurd a b⟩
  | e :: fs, q, hm, hq => by
    rw [List.foldl_cons]
    have hm' := fun e' he' => hm e' (List.mem_cons_of_mem _ he')
    cases z : q.r e.f with
    | none => rw [relax_none z]; exact fold_mu h fs q hm' hq
    | some x =>
      rw [relax_some z]
      cases zb : better (x + gn pa pb e) (q.r e.l) with
      | true =>
        rw [if_pos rfl]
        obtain ⟨h1, h2⟩ := h q.r e x (hm e List.mem_cons_self) hq z zb
        have h3 := (fold_mu h fs ⟨upF q.r e.l (some (x + gn pa pb e)), upF q.c e.l (some e), some e.l⟩ hm' h1).1
        exact ⟨Nat.le_of_lt (Nat.lt_of_le_of_lt h3 h2), fun _ _ => Nat.lt_of_le_of_lt h3 h2⟩
      | false =>
        rw [if_neg (by intro z; cases z)]
        exact fold_mu h fs q hm' hq
def sumN : Nat → (Nat → Nat) → Nat
  | 0, _ => 0
  | n + 1, f => sumN n f + f n
theorem sumN_le {f g : Nat → Nat} : ∀ n, (∀ v, v < n → f v ≤ g v) → sumN n f ≤ sumN n g
  | 0, _ => Nat.le_refl _
  | n + 1, h => Nat.add_le_add (sumN_le n fun v hv => h v (by omega)) (h n (by omega))
theorem sumN_lt {f g : Nat → Nat} : ∀ n u, u < n → (∀ v, v < n → f v ≤ g v) → f u < g u → sumN n f < sumN n g
  | 0, u, hu, _, _ => absurd hu (Nat.not_lt_zero _)
  | n + 1, u, hu, h, hl => by
    by_cases q : u = n
    · subst q
      exact Nat.add_lt_add_of_le_of_lt (sumN_le u fun v hv => h v (by omega)) hl
    · exact Nat.add_lt_add_of_lt_of_le (sumN_lt n u (by omega) (fun v hv => h v (by omega)) hl) (h n (by omega))
/-- how many marks are reached -/
def cnt (n : Nat) (r : Nat → Option Int) : Nat := sumN n fun v => if (r v).isSome = true then 1 else 0
theorem cnt_le (n : Nat) (r : Nat → Option Int) : cnt n r ≤ n := by
  have : ∀ n, sumN n (fun v => if (r v).isSome = true then 1 else 0) ≤ n := by
    intro n
    induction n with
    | zero => exact Nat.le_refl _
    | succ n ih =>
      show sumN n _ + (if (r n).isSome = true then 1 else 0) ≤ n + 1
      split <;> omega
  exact this n
/-- what is reached is what some walk gains -/
def Att (pa pb : Int) (es : List (Ed S)) (r0 r : Nat → Option Int) : Prop := ∀ v x, r v = some x → ∃ u x0 w, r0 u = some x0 ∧ Wk u w v ∧ (∀ e ∈ w, e ∈ es) ∧ x = x0 + (w.map (gn pa pb)).sum
def Lo (n : Nat) (G : Int) (r : Nat → Option Int) : Prop := ∀ v x, r v = some x → -((cnt n r : Nat) * G) ≤ x
def Up (X : Nat → Int) (C : Int) (r : Nat → Option Int) : Prop := ∀ v x, r v = some x → x ≤ X v + C
def Ge (r0 r : Nat → Option Int) : Prop := ∀ v x, r0 v = some x → ∃ y, r v = some y ∧ x ≤ y
structure Set0 (pa pb : Int) (es : List (Ed S)) (n : Nat) (X : Nat → Int) (C G : Int) (r0 r : Nat → Option Int) : Prop where
  at_ : Att pa pb es r0 r
  lo : Lo n G r
  up : Up X C r
  ge : Ge r0 r
def mu0 (n : Nat) (X : Nat → Int) (C G : Int) (r : Nat → Option Int) : Nat := sumN n fun v => match r v with
  | none => (X v + C + n * G + 1).toNat
  | some x => (X v + C - x).toNat
theorem Set0.step {pa pb : Int} {es : List (Ed S)} {n : Nat} {X : Nat → Int} {C G : Int} {r0 r : Nat → Option Int} (hX : ∀ e ∈ es, X e.f + gn pa pb e ≤ X e.l) (hn : ∀ e ∈ es, e.l < n) (hG : ∀ e ∈ es, -G ≤ gn pa pb e) (hG0 : 0 ≤ G) {e : Ed S} {x : Int} (he : e ∈ es) (I : Set0 pa pb es n X C G r0 r) (hx : r e.f = some x) (hb : better (x + gn pa pb e) (r e.l) = true) :
    Set0 pa pb es n X C G r0 (upF r e.l (some (x + gn pa pb e))) ∧ mu0 n X C G (upF r e.l (some (x + gn pa pb e))) < mu0 n X C G r := by
  have hXe := hX e he
  have hln := hn e he
  have hGe := hG e he
  have hup := I.up e.f x hx
  have hlo := I.lo e.f x hx
  have hcn : cnt n r ≤ cnt n (upF r e.l (some (x + gn pa pb e))) := sumN_le n fun v _ => by
    show (if (r v).isSome = true then 1 else 0) ≤ (if (upF r e.l (some (x + gn pa pb e)) v).isSome = true then 1 else 0)
    by_cases q : v = e.l
    · rw [q, upF_same]
      show (if (r e.l).isSome = true then 1 else 0) ≤ 1
      split <;> omega
    · rw [upF_ne q]
      exact Nat.le_refl _
  have hlow : -((cnt n (upF r e.l (some (x + gn pa pb e))) : Nat) * G) ≤ x + gn pa pb e ∧ ∀ v y, r v = some y → -((cnt n (upF r e.l (some (x + gn pa pb e))) : Nat) * G) ≤ y := by
    have h2 : ∀ v y, r v = some y → -((cnt n (upF r e.l (some (x + gn pa pb e))) : Nat) * G) ≤ y := fun v y hy => by
      have a := I.lo v y hy
      have b : (cnt n r : Int) * G ≤ (cnt n (upF r e.l (some (x + gn pa pb e))) : Int) * G := Int.mul_le_mul_of_nonneg_right (by omega) hG0
      omega
    refine ⟨?_, h2⟩
    cases z : r e.l with
    | none =>
      have hc1 : cnt n r < cnt n (upF r e.l (some (x + gn pa pb e))) := sumN_lt n e.l hln (fun v _ => by
        show (if (r v).isSome = true then 1 else 0) ≤ (if (upF r e.l (some (x + gn pa pb e)) v).isSome = true then 1 else 0)
        by_cases q : v = e.l
        · rw [q, upF_same]
          show (if (r e.l).isSome = true then 1 else 0) ≤ 1
          split <;> omega
        · rw [upF_ne q]
          exact Nat.le_refl _) (by
        show (if (r e.l).isSome = true then 1 else 0) < (if (upF r e.l (some (x + gn pa pb e)) e.l).isSome = true then 1 else 0)
        rw [upF_same, z]
        show 0 < 1
        omega)
      have b : ((cnt n r : Int) + 1) * G ≤ (cnt n (upF r e.l (some (x + gn pa pb e))) : Int) * G := Int.mul_le_mul_of_nonneg_right (by omega) hG0
      rw [Int.add_mul] at b
      omega
    | some y =>
      rw [z] at hb
      have := h2 e.l y z
      have hb : x + gn pa pb e > y := of_decide_eq_true hb
      omega
  refine ⟨⟨fun v y hy => ?_, fun v y hy => ?_, fun v y hy => ?_, fun v y hy => ?_⟩, ?_⟩
  · by_cases q : v = e.l
    · subst q
      rw [upF_same] at hy
      cases hy
      obtain ⟨u, x0, w, h1, h2, h3, h4⟩ := I.at_ e.f x hx
      refine ⟨u, x0, w ++ [e], h1, h2.append ⟨rfl, rfl⟩, fun e' he' => ?_, ?_⟩
      · rcases List.mem_append.mp he' with q | q
        · exact h3 e' q
        · rw [List.mem_singleton.mp q]; exact he
      · rw [List.map_append, List.sum_append, h4]
        simp
        omega
    · rw [upF_ne q] at hy
      exact I.at_ v y hy
  · by_cases q : v = e.l
    · subst q
      rw [upF_same] at hy
      cases hy
      exact hlow.1
    · rw [upF_ne q] at hy
      exact hlow.2 v y hy
  · by_cases q : v = e.l
    · subst q
      rw [upF_same] at hy
      cases hy
      omega
    · rw [upF_ne q] at hy
      exact I.up v y hy
  · obtain ⟨z, hz, hyz⟩ := I.ge v y hy
    by_cases q : v = e.l
    · subst q
      rw [upF_same]
      refine ⟨_, rfl, ?_⟩
      rw [hz] at hb
      have hb : x + gn pa pb e > z := of_decide_eq_true hb
      omega
    · rw [upF_ne q]
      exact ⟨z, hz, hyz⟩
  · refine sumN_lt n e.l hln (fun v _ => ?_) ?_
    · by_cases q : v = e.l
      · subst q
        rw [upF_same]
        cases z : r e.l with
        | none =>
          have c1 := cnt_le n (upF r e.l (some (x + gn pa pb e)))
          have c2 : ((cnt n (upF r e.l (some (x + gn pa pb e))) : Nat) : Int) * G ≤ (n : Int) * G := Int.mul_le_mul_of_nonneg_right (by omega) hG0
          have c3 := hlow.1
          show (X e.l + C - (x + gn pa pb e)).toNat ≤ (X e.l + C + n * G + 1).toNat
          omega
        | some y =>
          rw [z] at hb
          have hb : x + gn pa pb e > y := of_decide_eq_true hb
          show (X e.l + C - (x + gn pa pb e)).toNat ≤ (X e.l + C - y).toNat
          omega
      · rw [upF_ne q]
        exact Nat.le_refl _
    · show (match upF r e.l (some (x + gn pa pb e)) e.l with | none => (X e.l + C + n * G + 1).toNat | some x => (X e.l + C - x).toNat) < (match r e.l with | none => (X e.l + C + n * G + 1).toNat | some x => (X e.l + C - x).toNat)
      rw [upF_same]
      cases z : r e.l with
      | none =>
        have c1 := cnt_le n (upF r e.l (some (x + gn pa pb e)))
        have c2 : ((cnt n (upF r e.l (some (x + gn pa pb e))) : Nat) : Int) * G ≤ (n : Int) * G := Int.mul_le_mul_of_nonneg_right (by omega) hG0
        have c3 := hlow.1
        show (X e.l + C - (x + gn pa pb e)).toNat < (X e.l + C + n * G + 1).toNat
        omega
      | some y =>
        rw [z] at hb
        have hb : x + gn pa pb e > y := of_decide_eq_true hb
        have := I.up e.l y z
        show (X e.l + C - (x + gn pa pb e)).toNat < (X e.l + C - y).toNat
        omega
/-- a whole pass -/
theorem Set0.pass {pa pb : Int} {es : List (Ed S)} {n : Nat} {X : Nat → Int} {C G : Int} {r0 r : Nat → Option Int} {c : Nat → Option (Ed S)} (hX : ∀ e ∈ es, X e.f + gn pa pb e ≤ X e.l) (hn : ∀ e ∈ es, e.l < n) (hG : ∀ e ∈ es, -G ≤ gn pa pb e) (hG0 : 0 ≤ G) (I : Set0 pa pb es n X C G r0 r) :
    Set0 pa pb es n X C G r0 (Hn.pass pa pb es r c).r ∧ ((Hn.pass pa pb es r c).ch ≠ none → mu0 n X C G (Hn.pass pa pb es r c).r < mu0 n X C G r) :=
  ⟨fold_keep (I := Set0 pa pb es n X C G r0) (fun r e x he I hx hb => (I.step hX hn hG hG0 he hx hb).1) es ⟨r, c, none⟩ (fun _ h => h) I,
   (fold_mu (I := Set0 pa pb es n X C G r0) (mu := mu0 n X C G) (fun r e x he I hx hb => I.step hX hn hG hG0 he hx hb) es ⟨r, c, none⟩ (fun _ h => h) I).2 rfl⟩
/-- no edge leads further -/
def Stab (pa pb : Int) (es : List (Ed S)) (r : Nat → Option Int) : Prop := ∀ e ∈ es, ∀ x, r e.f = some x → ∃ y, r e.l = some y ∧ x + gn pa pb e ≤ y
theorem pass_stab {pa pb : Int} {es : List (Ed S)} {r : Nat → Option Int} {c : Nat → Option (Ed S)} (h : (Hn.pass pa pb es r c).ch = none) : Hn.pass pa pb es r c = ⟨r, c, none⟩ ∧ Stab pa pb es r := by
  obtain ⟨h1, h2⟩ := fold_none es ⟨r, c, none⟩ h
  refine ⟨h1, fun e he x hx => ?_⟩
  have := h2 e he x hx
  cases z : r e.l with
  | none =>
    have this : better (x + gn pa pb e) (r e.l) = false := this
    rw [z] at this
    cases this
  | some y =>
    have this : better (x + gn pa pb e) (r e.l) = false := this
    rw [z] at this
    have := of_decide_eq_false this
    exact ⟨y, rfl, by omega⟩
/-- lower bound of all gains -/
theorem gain_bd (pa pb : Int) : ∀ es : List (Ed S), ∃ G, 0 ≤ G ∧ ∀ e ∈ es, -G ≤ gn pa pb e
  | [] => ⟨0, Int.le_refl 0, fun _ h => nomatch h⟩
  | e :: es => by
    obtain ⟨G, h0, h⟩ := gain_bd pa pb es
    refine ⟨G + (if gn pa pb e < 0 then -gn pa pb e else 0), by split <;> omega, fun e' he' => ?_⟩
    rcases List.mem_cons.mp he' with rfl | he'
    · split <;> omega
    · have := h e' he'
      split <;> omega
end

/-! ### gaining, as a function -/
section
variable {S : Type}
/-- the state behind k passes, each of which betters some mark; none if one doesn't -/
def runs (pa pb : Int) (es : List (Ed S)) : Nat → Option (Sta S)
  | 0 => some ⟨fun _ => some 0, fun _ => none, none⟩
  | k + 1 => match runs pa pb es k with
    | none => none
    | some q => match (pass pa pb es q.r q.c).ch with
      | none => none
      | some _ => some (pass pa pb es q.r q.c)
/-- behind how many edges the mark comes again -/
def per (c : Nat → Option (Ed S)) (n m : Nat) : Nat := (((List.range n).find? fun q => decide (prdN c (n + (q + 1)) m = prdN c n m)).getD 0) + 1
/-- the edges of the closed walk, the last one first -/
def clos (c : Nat → Option (Ed S)) (n m : Nat) : List (Ed S) := (List.range (per c n m)).filterMap fun i => c (prdN c (n + i) m)
def gaining (n : Nat) (es : List (Ed S)) (pa pb : Int) : Option (List (Ed S)) := match runs pa pb es (n + 1) with
  | none => none
  | some q => some (clos q.c n (q.ch.getD 0)).reverse
theorem runs_inv {pa pb : Int} {es : List (Ed S)} : ∀ {k : Nat} {q : Sta S}, runs pa pb es k = some q → ∃ now R tau lp, q.r = (fun v => some (R v)) ∧ Inv pa pb es k es.length now R q.c tau lp ∧ (1 ≤ k → ∃ m, q.ch = some m ∧ lp m = k)
  | 0, q, h => by
    cases h
    exact ⟨0, fun _ => 0, fun _ => 0, fun _ => 0, rfl, Inv.start, fun h => absurd h (by omega)⟩
  | k + 1, q, h => by
    unfold runs at h
    cases z : runs pa pb es k with
    | none => rw [z] at h; cases h
    | some q0 =>
      rw [z] at h
      replace h : (match (pass pa pb es q0.r q0.c).ch with | none => none | some _ => some (pass pa pb es q0.r q0.c)) = some q := h
      obtain ⟨now, R, tau, lp, hr, I, _⟩ := runs_inv z
      obtain ⟨now', R', c', tau', lp', ch', hp, I', hc⟩ := I.pass
      rw [hr, hp] at h
      cases ch' with
      | none => cases h
      | some m =>
        cases h
        exact ⟨now', R', tau', lp', rfl, I', fun _ => ⟨m, rfl, hc m rfl⟩⟩
/-- a run that ends ahead: at the marks reached no edge gains -/
theorem runs_none {pa pb : Int} {es : List (Ed S)} : ∀ {k : Nat}, runs pa pb es k = none → ∃ R : Nat → Int, ∀ e ∈ es, R e.f + gn pa pb e ≤ R e.l
  | 0, h => by cases h
  | k + 1, h => by
    unfold runs at h
    cases z : runs pa pb es k with
    | none => exact runs_none z
    | some q0 =>
      rw [z] at h
      replace h : (match (pass pa pb es q0.r q0.c).ch with | none => none | some _ => some (pass pa pb es q0.r q0.c)) = none := h
      obtain ⟨now, R, tau, lp, hr, I, _⟩ := runs_inv z
      cases zc : (pass pa pb es q0.r q0.c).ch with
      | some m =>
        rw [zc] at h
        cases h
      | none =>
        obtain ⟨_, h2⟩ := pass_stab zc
        refine ⟨R, fun e he => ?_⟩
        obtain ⟨y, h3, h4⟩ := h2 e he (R e.f) (by rw [hr])
        rw [hr] at h3
        cases h3
        exact h4
theorem runs_stop {pa pb : Int} {es : List (Ed S)} {k : Nat} (h : runs pa pb es k = none) : ∀ j, runs pa pb es (k + j) = none
  | 0 => h
  | j + 1 => by
    show (match runs pa pb es (k + j) with | none => none | some q => match (pass pa pb es q.r q.c).ch with | none => none | some _ => some (pass pa pb es q.r q.c)) = none
    rw [runs_stop h j]
theorem runs_next {pa pb : Int} {es : List (Ed S)} {k : Nat} {q : Sta S} (h : runs pa pb es k = some q) : runs pa pb es (k + 1) = match (pass pa pb es q.r q.c).ch with | none => none | some _ => some (pass pa pb es q.r q.c) := by
  show (match runs pa pb es k with | none => none | some q => match (pass pa pb es q.r q.c).ch with | none => none | some _ => some (pass pa pb es q.r q.c)) = _
  rw [h]
theorem gaining_stop {pa pb : Int} {es : List (Ed S)} {n k : Nat} (h : runs pa pb es k = none) (hk : k ≤ n + 1) : gaining n es pa pb = none := by
  have := runs_stop h (n + 1 - k)
  rw [show k + (n + 1 - k) = n + 1 by omega] at this
  unfold gaining
  rw [this]
theorem gaining_end {pa pb : Int} {es : List (Ed S)} {n m : Nat} {q : Sta S} (h : runs pa pb es (n + 1) = some q) (hm : q.ch = some m) : gaining n es pa pb = some (clos q.c n m).reverse := by
  unfold gaining
  rw [h]
  show some (clos q.c n (q.ch.getD 0)).reverse = _
  rw [hm]
  rfl
theorem per_spec {c : Nat → Option (Ed S)} {n m : Nat} (h : Ring c n m) : 1 ≤ per c n m ∧ per c n m ≤ n ∧ prdN c (n + per c n m) m = prdN c n m ∧ ∀ q, 1 ≤ q → q < per c n m → prdN c (n + q) m ≠ prdN c n m := by
  obtain ⟨p, p1, pn, pe, pl⟩ := h.ag
  have : (List.range n).find? (fun q => decide (prdN c (n + (q + 1)) m = prdN c n m)) = some (p - 1) := by
    rw [List.find?_range_eq_some]
    refine ⟨?_, ?_, fun j hj => ?_⟩
    · rw [show n + (p - 1 + 1) = n + p by omega]
      exact decide_eq_true pe
    · rw [List.mem_range]; omega
    · have := pl (j + 1) (by omega) (by omega)
      rw [decide_eq_false this]
      rfl
  unfold per
  rw [this]
  show 1 ≤ p - 1 + 1 ∧ p - 1 + 1 ≤ n ∧ prdN c (n + (p - 1 + 1)) m = prdN c n m ∧ ∀ q, 1 ≤ q → q < p - 1 + 1 → prdN c (n + q) m ≠ prdN c n m
  rw [show p - 1 + 1 = p by omega]
  exact ⟨p1, pn, pe, pl⟩
theorem fm_all {α β : Type} {f : α → Option β} : ∀ (xs : List α), (∀ x ∈ xs, ∃ y, f x = some y) → (xs.filterMap f).length = xs.length ∧ ∀ i : Nat, (xs.filterMap f)[i]? = (xs[i]?).bind f
  | [], _ => ⟨rfl, fun i => by simp⟩
  | x :: xs, h => by
    obtain ⟨y, hy⟩ := h x List.mem_cons_self
    obtain ⟨h1, h2⟩ := fm_all xs fun z hz => h z (List.mem_cons_of_mem _ hz)
    rw [List.filterMap_cons_some hy]
    refine ⟨by rw [List.length_cons, List.length_cons, h1], fun i => ?_⟩
    cases i with
    | zero => show some y = f x; rw [hy]
    | succ i => exact h2 i
theorem clos_at {c : Nat → Option (Ed S)} {n m : Nat} (h : Ring c n m) : (clos c n m).length = per c n m ∧ ∀ i, i < per c n m → (clos c n m)[i]? = c (prdN c (n + i) m) := by
  obtain ⟨h1, h2⟩ := fm_all (f := fun i => c (prdN c (n + i) m)) (List.range (per c n m)) fun i _ => by
    obtain ⟨e, he, _⟩ := h.al (n + i)
    exact ⟨e, he⟩
  rw [List.length_range] at h1
  refine ⟨h1, fun i hi => ?_⟩
  show ((List.range (per c n m)).filterMap _)[i]? = _
  rw [h2, List.getElem?_range hi]
  rfl
theorem runs_ring {pa pb : Int} {es : List (Ed S)} {n : Nat} {q : Sta S} (h : runs pa pb es (n + 1) = some q) (hes : ∀ e ∈ es, e.f < n ∧ e.l < n) : ∃ m, q.ch = some m ∧ Ring q.c n m := by
  obtain ⟨now, R, tau, lp, _, I, hm⟩ := runs_inv h
  obtain ⟨m, h1, h2⟩ := hm (by omega)
  exact ⟨m, h1, I.ring h2 hes⟩
theorem gaining_some {pa pb : Int} {es : List (Ed S)} {n : Nat} {w : List (Ed S)} (h : gaining n es pa pb = some w) (hes : ∀ e ∈ es, e.f < n ∧ e.l < n) : Loop pa pb es n w := by
  unfold gaining at h
  cases z : runs pa pb es (n + 1) with
  | none => rw [z] at h; cases h
  | some q =>
    rw [z] at h
    cases h
    obtain ⟨m, h1, hR⟩ := runs_ring z hes
    obtain ⟨now, R, tau, lp, _, I, _⟩ := runs_inv z
    obtain ⟨p1, pn, pe, _⟩ := per_spec hR
    obtain ⟨c1, c2⟩ := clos_at hR
    rw [h1]
    refine I.loop (n := n) (m := prdN q.c n m) (p := per q.c n m) (fun i => ?_) p1 pn ?_ c1 fun i hi => ?_
    · obtain ⟨e, he, _⟩ := hR.al (i + n)
      rw [prdN_add] at he
      exact ⟨e, he⟩
    · rw [← prdN_add, Nat.add_comm]
      exact pe
    · rw [← prdN_add, Nat.add_comm]
      exact c2 i hi
theorem gaining_none {pa pb : Int} {es : List (Ed S)} {n : Nat} (h : gaining n es pa pb = none) : ∃ R : Nat → Int, ∀ e ∈ es, R e.f + gn pa pb e ≤ R e.l := by
  unfold gaining at h
  cases z : runs pa pb es (n + 1) with
  | none => exact runs_none z
  | some q => rw [z] at h; cases h
end
end Hn

/-! Edges of a clock, rings, plans: plainly. -/
namespace Hn
open PySem
abbrev Stp := Option (Str × Int)
def mdN (n : Nat) (x : Int) : Nat := (x % (n : Int)).toNat
theorem mdN_int {n : Nat} (h : 1 ≤ n) (x : Int) : ((mdN n x : Nat) : Int) = x % (n : Int) := Int.toNat_of_nonneg (mod_bd h x).1
theorem mdN_lt {n : Nat} (h : 1 ≤ n) (x : Int) : mdN n x < n := by
  have := mod_bd h x
  have := mdN_int h x
  omega
/-- the edge that leads from the mark x on by len hours -/
def mkE (n : Nat) (x len v : Int) (s : Stp) : Ed Stp := ⟨mdN n x, mdN n (x + len), ((mdN n x : Nat) + len) / (n : Int), v, s⟩
theorem mkE_len {n : Nat} (h : 1 ≤ n) (x len v : Int) (s : Stp) : (((mkE n x len v s).f : Nat) : Int) + len = ((mkE n x len v s).l : Nat) + n * (mkE n x len v s).t := by
  show ((mdN n x : Nat) : Int) + len = ((mdN n (x + len) : Nat) : Int) + n * (((mdN n x : Nat) + len) / (n : Int))
  rw [mdN_int h, mdN_int h]
  have e : (x + len) % (n : Int) = (x % (n : Int) + len) % (n : Int) := by rw [Int.emod_add_emod]
  rw [e]
  have := Int.emod_add_mul_ediv (x % (n : Int) + len) n
  omega
theorem ext_per {n : Nat} {P : Int} {A : Int → Int} (h : 1 ≤ n) (k q : Int) : ext n P A (k + n * q) = ext n P A k + q * P := by
  unfold ext
  rw [Int.add_mul_emod_self_left, Int.add_mul_ediv_left _ _ (by omega : (n : Int) ≠ 0), Int.add_mul]
  omega
theorem ext_in {n : Nat} {P : Int} {A : Int → Int} {k : Int} (h0 : 0 ≤ k) (h1 : k < (n : Int)) : ext n P A k = A k := by
  unfold ext
  rw [Int.emod_eq_of_lt h0 h1, Int.ediv_eq_zero_of_lt h0 h1]
  omega
theorem mod_split {n : Nat} (x : Int) : x = x % (n : Int) + n * (x / (n : Int)) := by
  have := Int.emod_add_mul_ediv x n
  omega
/-- an edge is kept just if so many lie between its marks -/
theorem mkE_sat {n : Nat} {P : Int} {A : Int → Int} (h : 1 ≤ n) (x len v : Int) (s : Stp) : A ((mkE n x len v s).f : Nat) + gn P 1 (mkE n x len v s) ≤ A ((mkE n x len v s).l : Nat) ↔ v ≤ ext n P A (x + len) - ext n P A x := by
  have e1 : ext n P A x = A (x % (n : Int)) + x / (n : Int) * P := rfl
  have e2 : ext n P A (x + len) = A ((x + len) % (n : Int)) + (x % (n : Int) + len) / (n : Int) * P + x / (n : Int) * P := by
    have e3 : x + len = (x % (n : Int) + len) + n * (x / (n : Int)) := by
      have := mod_split (n := n) x
      omega
    rw [e3, ext_per h]
    unfold ext
    rw [Int.add_mul_emod_self_left]
  show A ((mdN n x : Nat) : Int) + (1 * v - P * (((mdN n x : Nat) + len) / (n : Int))) ≤ A ((mdN n (x + len) : Nat) : Int) ↔ _
  rw [mdN_int h, mdN_int h, e1, e2, Int.mul_comm P]
  omega
def upI (a b : Int) : Int := -((-a) / b)
theorem upI_le {a b k : Int} (hb : 0 < b) : upI a b ≤ k ↔ a ≤ k * b := by
  unfold upI
  have := Int.le_ediv_iff_mul_le (a := -k) (b := -a) hb
  rw [Int.neg_mul] at this
  omega
theorem upI_ge {a b : Int} (hb : 0 < b) : a ≤ upI a b * b := (upI_le hb).mp (Int.le_refl _)
theorem upI_lt {a b k : Int} (hb : 0 < b) : k < upI a b ↔ k * b < a := by
  have := upI_le (a := a) (k := k) hb
  omega
theorem upI_mono {a a' b : Int} (hb : 0 < b) (h : a ≤ a') : upI a b ≤ upI a' b := (upI_le hb).mpr (Int.le_trans h (upI_ge hb))
theorem upI_add {a b : Int} (hb : 0 < b) (k : Int) : upI (a + k * b) b = upI a b + k := by
  unfold upI
  rw [show -(a + k * b) = -a + (-k) * b by rw [Int.neg_mul]; omega, Int.add_mul_ediv_right _ _ (by omega)]
  omega
theorem upI_nn {a b : Int} (hb : 0 < b) (h : 0 ≤ a) : 0 ≤ upI a b := by
  have := (upI_lt (a := a) (b := b) (k := -1) hb).mpr (by omega)
  omega

/-! ### the edges of needs alone -/
def nE (s d : List Int) (h : Int) : Ed Stp := mkE s.length (h - wd s h + 1) (wd s h) (cyc d h) (some ("need", h))
def kE (n : Nat) (v h : Int) : Ed Stp := mkE n h 1 v (some ("keep", h))
def needEs (s d : List Int) : List (Ed Stp) := (List.range s.length).flatMap fun (h : Nat) => [nE s d h, kE s.length 0 h]
theorem mem_needEs {s d : List Int} {e : Ed Stp} : e ∈ needEs s d ↔ ∃ h : Nat, h < s.length ∧ (e = nE s d h ∨ e = kE s.length 0 h) := by
  unfold needEs
  rw [List.mem_flatMap]
  constructor
  · rintro ⟨h, h1, h2⟩
    refine ⟨h, List.mem_range.mp h1, ?_⟩
    simpa using h2
  · rintro ⟨h, h1, h2⟩
    refine ⟨h, List.mem_range.mpr h1, ?_⟩
    simpa using h2
/-- what is known of each such edge -/
structure NeE (s d : List Int) (e : Ed Stp) (len : Int) : Prop where
  fl : e.f < s.length ∧ e.l < s.length
  ln : (e.f : Int) + len = e.l + s.length * e.t
  l1 : 1 ≤ len
  t0 : 0 ≤ e.t
  t1 : e.t ≤ 1
theorem needE_of {s d : List Int} (g : Good s) {e : Ed Stp} (he : e ∈ needEs s d) : ∃ len, NeE s d e len := by
  obtain ⟨h, hh, q⟩ := mem_needEs.mp he
  have hn := g.ne
  have key : ∀ x len v st, 1 ≤ len → len ≤ (s.length : Int) → NeE s d (mkE s.length x len v st) len := fun x len v st l1 l2 => by
    have a := mkE_len hn x len v st
    have b : (mkE s.length x len v st).f < s.length := mdN_lt hn _
    have c : (mkE s.length x len v st).l < s.length := mdN_lt hn _
    have tt : (mkE s.length x len v st).t = (((mkE s.length x len v st).f : Nat) + len) / (s.length : Int) := rfl
    refine ⟨⟨b, c⟩, a, l1, ?_, ?_⟩
    · rw [tt]
      exact Int.ediv_nonneg (by omega) (by omega)
    · rw [tt]
      have : (((mkE s.length x len v st).f : Nat) + len) / (s.length : Int) < 2 := Int.ediv_lt_of_lt_mul (by omega) (by omega)
      omega
  rcases q with rfl | rfl
  · exact ⟨wd s h, key _ _ _ _ (wd_pos g _) (wd_le _)⟩
  · exact ⟨1, key _ _ _ _ (by omega) (by omega)⟩
theorem need_fl {s d : List Int} (g : Good s) : ∀ e ∈ needEs s d, e.f < s.length ∧ e.l < s.length := fun e he => let ⟨_, h⟩ := needE_of g he; h.fl
/-- a closed walk leads on by a day at least, by one a step at most -/
theorem need_turn {s d : List Int} (g : Good s) {w : List (Ed Stp)} (hw : ∀ e ∈ w, e ∈ needEs s d) : ∀ {a b : Nat}, Wk a w b → (w.length : Int) ≤ (b : Int) - a + s.length * tn w ∧ tn w ≤ w.length ∧ 0 ≤ tn w := by
  induction w with
  | nil =>
    intro a b h
    have h : a = b := h
    subst h
    unfold tn
    simp
  | cons e w ih =>
    intro a b h
    obtain ⟨len, q⟩ := needE_of g (hw e List.mem_cons_self)
    obtain ⟨h1, h2, h3⟩ := ih (fun e he => hw e (List.mem_cons_of_mem _ he)) h.2
    have ht : tn (e :: w) = e.t + tn w := by
      unfold tn
      rw [List.map_cons, List.sum_cons]
    have a1 := q.ln
    have a2 := q.l1
    have a3 := q.t0
    have a4 := q.t1
    have a5 := h.1
    rw [ht, List.length_cons, Int.mul_add]
    omega
/-- begins by their sums: enough for needs -/
def Enf (s d : List Int) (P : Int) (A : Int → Int) : Prop := A 0 = 0 ∧ A (s.length : Int) = P ∧ mono s.length A ∧ enough s.length (thF s.length s (cyc (byS s.length A))) (cyc d) = true
theorem enuf_iff {n : Nat} {a b : Int → Int} : enough n a b = true ↔ ∀ h : Nat, h < n → b h ≤ a h := by
  unfold enough
  rw [List.all_eq_true]
  constructor
  · intro q h hh
    exact of_decide_eq_true (q h (List.mem_range.mpr hh))
  · intro q h hh
    exact decide_eq_true (q h (List.mem_range.mp hh))
/-- sums that go on round about never fall -/
theorem ext_mono {n : Nat} {P : Int} {A : Int → Int} (hn : 1 ≤ n) (h0 : A 0 = 0) (hP : A (n : Int) = P) (m : mono n A) (x : Int) : ext n P A x ≤ ext n P A (x + 1) := by
  have := ext_step hn h0 hP x
  have hb := mod_bd hn x
  have e : cyc (byS n A) x = A (x % (n : Int) + 1) - A (x % (n : Int)) := cyc_rowOf _ hn x
  have hm := m (x % (n : Int)).toNat (by omega)
  rw [Int.toNat_of_nonneg hb.1] at hm
  omega
theorem ext_mono' {n : Nat} {P : Int} {A : Int → Int} (hn : 1 ≤ n) (h0 : A 0 = 0) (hP : A (n : Int) = P) (m : mono n A) (x : Int) : ∀ k : Nat, ext n P A x ≤ ext n P A (x + k)
  | 0 => by
    rw [show x + ((0 : Nat) : Int) = x by omega]
    exact Int.le_refl _
  | k + 1 => by
    have a := ext_mono' hn h0 hP m x k
    have b := ext_mono hn h0 hP m (x + k)
    rw [show x + ((k + 1 : Nat) : Int) = x + (k : Int) + 1 by omega]
    omega
theorem ext_le {n : Nat} {P : Int} {A : Int → Int} (hn : 1 ≤ n) (h0 : A 0 = 0) (hP : A (n : Int) = P) (m : mono n A) {x y : Int} (h : x ≤ y) : ext n P A x ≤ ext n P A y := by
  have := ext_mono' hn h0 hP m x (y - x).toNat
  rw [show x + (((y - x).toNat : Nat) : Int) = y by omega] at this
  exact this
/-- what is there at an hour, for any way to write it -/
theorem enf_at {s d : List Int} {P : Int} {A : Int → Int} (g : Good s) (E : Enf s d P A) (h : Int) : cyc d (h % (s.length : Int)) ≤ ext s.length P A (h + 1) - ext s.length P A (h + 1 - wd s h) := by
  have hb := mod_bd g.ne h
  have q := enuf_iff.mp E.2.2.2 (h % (s.length : Int)).toNat (by omega)
  rw [Int.toNat_of_nonneg hb.1, th_win g E.1 E.2.1, wd_mod] at q
  have e1 := ext_per (n := s.length) (P := P) (A := A) g.ne (h % (s.length : Int) + 1) (h / (s.length : Int))
  have e2 := ext_per (n := s.length) (P := P) (A := A) g.ne (h % (s.length : Int) + 1 - wd s h) (h / (s.length : Int))
  have e3 := mod_split (n := s.length) h
  rw [show h % (s.length : Int) + 1 + s.length * (h / (s.length : Int)) = h + 1 by omega] at e1
  rw [show h % (s.length : Int) + 1 - wd s h + s.length * (h / (s.length : Int)) = h + 1 - wd s h by omega] at e2
  omega
/-- enough just if all edges are kept -/
theorem enf_iff {s d : List Int} {P : Int} {A : Int → Int} (g : Good s) (h0 : A 0 = 0) (hP : A (s.length : Int) = P) : Enf s d P A ↔ ∀ e ∈ needEs s d, A (e.f : Int) + gn P 1 e ≤ A (e.l : Int) := by
  have hn := g.ne
  constructor
  · intro E e he
    obtain ⟨h, hh, q⟩ := mem_needEs.mp he
    rcases q with rfl | rfl
    · refine (mkE_sat hn _ _ _ _).mpr ?_
      have := enf_at g E h
      rw [Int.emod_eq_of_lt (by omega) (by omega)] at this
      rw [show (h : Int) - wd s h + 1 + wd s h = h + 1 by omega, show (h : Int) - wd s h + 1 = h + 1 - wd s h by omega]
      exact this
    · refine (mkE_sat hn _ _ _ _).mpr ?_
      have := ext_mono hn E.1 E.2.1 E.2.2.1 h
      omega
  · intro q
    refine ⟨h0, hP, fun j hj => ?_, enuf_iff.mpr fun h hh => ?_⟩
    · have := (mkE_sat hn _ _ _ _).mp (q (kE s.length 0 j) (mem_needEs.mpr ⟨j, hj, .inr rfl⟩))
      have e := ext_step hn h0 hP j
      have e' : cyc (byS s.length A) (j : Int) = A ((j : Int) % (s.length : Int) + 1) - A ((j : Int) % (s.length : Int)) := cyc_rowOf _ hn _
      rw [Int.emod_eq_of_lt (by omega) (by omega)] at e'
      omega
    · have := (mkE_sat hn _ _ _ _).mp (q (nE s d h) (mem_needEs.mpr ⟨h, hh, .inl rfl⟩))
      rw [th_win g h0 hP]
      rw [show (h : Int) - wd s h + 1 + wd s h = h + 1 by omega, show (h : Int) - wd s h + 1 = h + 1 - wd s h by omega] at this
      exact this
/-- the sums whose differences are those of what is reached -/
def potA (n : Nat) (P : Int) (R : Nat → Int) : Int → Int := fun k => if k = (n : Int) then P else R k.toNat - R 0
theorem potA_0 {n : Nat} {P : Int} {R : Nat → Int} (h : 1 ≤ n) : potA n P R 0 = 0 := by
  unfold potA
  rw [if_neg (by omega)]
  show R 0 - R 0 = 0
  omega
theorem potA_n {n : Nat} {P : Int} {R : Nat → Int} : potA n P R (n : Int) = P := if_pos rfl
theorem potA_at {n : Nat} {P : Int} {R : Nat → Int} {k : Nat} (h : k < n) : potA n P R (k : Int) = R k - R 0 := by
  unfold potA
  rw [if_neg (by omega), Int.toNat_natCast]
theorem pot_enf {s d : List Int} {P : Int} {R : Nat → Int} (g : Good s) (h : ∀ e ∈ needEs s d, R e.f + gn P 1 e ≤ R e.l) : Enf s d P (potA s.length P R) := by
  refine (enf_iff g (potA_0 g.ne) potA_n).mpr fun e he => ?_
  obtain ⟨h1, h2⟩ := need_fl g e he
  rw [potA_at h1, potA_at h2]
  have := h e he
  omega
/-- a pace at which nothing gains: so many people, rounded up, are enough -/
theorem pace_enf {s d : List Int} {pa pb P : Int} {R : Nat → Int} (g : Good s) (hb : 0 < pb) (hP : pa ≤ P * pb) (h : ∀ e ∈ needEs s d, R e.f + gn pa pb e ≤ R e.l) : ∃ A, Enf s d P A := by
  refine ⟨_, pot_enf (R := fun m => upI (R m) pb) g fun e he => ?_⟩
  obtain ⟨len, q⟩ := needE_of g he
  have a := h e he
  unfold gn at a ⊢
  show upI (R e.f) pb + (1 * e.v - P * e.t) ≤ upI (R e.l) pb
  rw [← upI_add hb]
  refine upI_mono hb ?_
  have b : pa * e.t ≤ P * pb * e.t := Int.mul_le_mul_of_nonneg_right hP q.t0
  have c : (1 * e.v - P * e.t) * pb = pb * e.v - P * pb * e.t := by
    rw [Int.one_mul, Int.sub_mul, Int.mul_comm e.v, Int.mul_assoc P e.t, Int.mul_comm e.t, ← Int.mul_assoc]
  rw [c]
  omega
/-- a closed walk: no plan has fewer people -/
theorem enf_walk {s d : List Int} {P : Int} {A : Int → Int} (g : Good s) (E : Enf s d P A) {w : List (Ed Stp)} {a : Nat} (hw : ∀ e ∈ w, e ∈ needEs s d) (h : Wk a w a) : wo w ≤ P * tn w := by
  have := pot_sum (pa := P) (pb := 1) (X := fun m => A (m : Int)) h fun e he => (enf_iff g E.1 E.2.1).mp E e (hw e he)
  rw [gn_sum] at this
  omega
theorem enf_nn {s d : List Int} {P : Int} {A : Int → Int} (E : Enf s d P A) : 0 ≤ P := by
  have := mono_le E.2.2.1 (i := 0) (j := s.length) (by omega) (Nat.le_refl _)
  have a : A ((0 : Nat) : Int) = 0 := E.1
  have b := E.2.1
  omega
/-- one more is enough, too -/
theorem enf_up {s d : List Int} {P Q : Int} {A : Int → Int} (g : Good s) (h : P ≤ Q) (E : Enf s d P A) : ∃ B, Enf s d Q B := by
  refine pace_enf (pa := P) (pb := 1) (R := fun m => A (m : Int)) g (by omega) (by omega) fun e he => (enf_iff g E.1 E.2.1).mp E e he

/-! ### rings -/
def stp (s : List Int) (h k : Int) : Int := wd s k + (k - wd s k - h) % (s.length : Int)
def hops (s : List Int) : Int → List Int → Int
  | _, [] => 0
  | h, k :: r => stp s h k + hops s k r
def lastH (h : Int) : List Int → Int
  | [] => h
  | k :: r => lastH k r
def wnd (s r : List Int) : Int := hops s (lastH 0 r) r / (s.length : Int)
def sumD (d : List Int) (r : List Int) : Int := (r.map (cyc d)).sum
def ringB (s d r : List Int) : Int := upI (sumD d r) (wnd s r)
theorem stp_pos {s : List Int} (g : Good s) (h k : Int) : 1 ≤ stp s h k := by
  have a := wd_pos g k
  have b := mod_bd g.ne (k - wd s k - h)
  unfold stp
  omega
theorem stp_mod {s : List Int} (h k : Int) : ∃ q, stp s h k = k - h + s.length * q := by
  refine ⟨-((k - wd s k - h) / (s.length : Int)), ?_⟩
  have := mod_split (n := s.length) (k - wd s k - h)
  unfold stp
  rw [Int.mul_neg]
  omega
theorem hops_mod {s : List Int} : ∀ (r : List Int) (h : Int), ∃ q, hops s h r = lastH h r - h + s.length * q
  | [], h => ⟨0, by
    show (0 : Int) = h - h + _
    rw [Int.mul_zero]
    omega⟩
  | k :: r, h => by
    obtain ⟨q1, e1⟩ := stp_mod (s := s) h k
    obtain ⟨q2, e2⟩ := hops_mod r k
    refine ⟨q1 + q2, ?_⟩
    show stp s h k + hops s k r = lastH k r - h + _
    rw [e1, e2, Int.mul_add]
    omega
theorem hops_pos {s : List Int} (g : Good s) : ∀ (r : List Int) (h : Int), (r.length : Int) ≤ hops s h r
  | [], h => Int.le_refl 0
  | k :: r, h => by
    have a := stp_pos g h k
    have b := hops_pos g r k
    show ((r.length + 1 : Nat) : Int) ≤ stp s h k + hops s k r
    omega
theorem lastH_ne : ∀ {r : List Int} {h h' : Int}, r ≠ [] → lastH h r = lastH h' r
  | [], _, _, z => absurd rfl z
  | _ :: _, _, _, _ => rfl
theorem wnd_eq {s r : List Int} (g : Good s) (hr : r ≠ []) : hops s (lastH 0 r) r = s.length * wnd s r ∧ 1 ≤ wnd s r := by
  obtain ⟨q, e⟩ := hops_mod (s := s) r (lastH 0 r)
  rw [lastH_ne (h := lastH 0 r) (h' := 0) hr] at e
  have hn := g.ne
  have e' : hops s (lastH 0 r) r = s.length * q := by omega
  have w : wnd s r = q := by
    unfold wnd
    rw [e', Int.mul_ediv_cancel_left _ (by omega)]
  rw [w]
  refine ⟨e', ?_⟩
  have hp := hops_pos g r (lastH 0 r)
  have : 1 ≤ r.length := by
    cases r with
    | nil => exact absurd rfl hr
    | cons a b => rw [List.length_cons]; omega
  rcases Int.lt_or_le q 1 with z | z
  · have := Int.mul_nonpos_of_nonneg_of_nonpos (a := (s.length : Int)) (b := q) (by omega) (by omega)
    omega
  · exact z
/-- the windows of a ring lie one behind another -/
theorem ring_ext {s d : List Int} {P : Int} {A : Int → Int} (g : Good s) (E : Enf s d P A) : ∀ (r : List Int) (h y : Int), (∀ k ∈ r, 0 ≤ k ∧ k < (s.length : Int)) → y % (s.length : Int) = h % (s.length : Int) → sumD d r ≤ ext s.length P A (y + hops s h r + 1) - ext s.length P A (y + 1)
  | [], h, y, _, _ => by
    show (0 : Int) ≤ ext s.length P A (y + 0 + 1) - ext s.length P A (y + 1)
    rw [show y + 0 + 1 = y + 1 by omega]
    omega
  | k :: r, h, y, hk, hy => by
    obtain ⟨q, e⟩ := stp_mod (s := s) h k
    have hkk := hk k List.mem_cons_self
    have hy' : (y + stp s h k) % (s.length : Int) = k % (s.length : Int) := by
      rw [e, show y + (k - h + s.length * q) = (y - h + k) + s.length * q by omega, Int.add_mul_emod_self_left, show y - h + k = k + (y - h) by omega]
      have : (s.length : Int) ∣ y - h := Int.dvd_of_emod_eq_zero (Int.emod_eq_emod_iff_emod_sub_eq_zero.mp hy)
      obtain ⟨z, hz⟩ := this
      rw [hz, Int.add_mul_emod_self_left]
    have ih := ring_ext g E r k (y + stp s h k) (fun k hk' => hk k (List.mem_cons_of_mem _ hk')) hy'
    have a := enf_at g E (y + stp s h k)
    have w1 : wd s (y + stp s h k) = wd s k := by rw [← wd_mod s (y + stp s h k), hy', wd_mod]
    rw [hy', Int.emod_eq_of_lt hkk.1 hkk.2, w1] at a
    have b : ext s.length P A (y + 1) ≤ ext s.length P A (y + stp s h k + 1 - wd s k) := by
      refine ext_le g.ne E.1 E.2.1 E.2.2.1 ?_
      have := (mod_bd g.ne (k - wd s k - h)).1
      unfold stp
      omega
    have c : sumD d (k :: r) = cyc d k + sumD d r := by
      unfold sumD
      rw [List.map_cons, List.sum_cons]
    show sumD d (k :: r) ≤ ext s.length P A (y + (stp s h k + hops s k r) + 1) - _
    rw [c, show y + (stp s h k + hops s k r) + 1 = y + stp s h k + hops s k r + 1 by omega]
    omega
/-- no plan with fewer people than a ring asks for is enough -/
theorem ring_le {s d r : List Int} {P : Int} {A : Int → Int} (g : Good s) (E : Enf s d P A) (hr : r ≠ []) (hk : ∀ k ∈ r, 0 ≤ k ∧ k < (s.length : Int)) : sumD d r ≤ P * wnd s r ∧ ringB s d r ≤ P := by
  have h := ring_ext g E r (lastH 0 r) (lastH 0 r) hk rfl
  obtain ⟨e, w1⟩ := wnd_eq g hr
  rw [e, show lastH 0 r + s.length * wnd s r + 1 = (lastH 0 r + 1) + s.length * wnd s r by omega, ext_per g.ne, Int.mul_comm (wnd s r)] at h
  refine ⟨by omega, ?_⟩
  unfold ringB
  exact (upI_le (by omega)).mpr (by omega)
def isNd : Stp → Option Int
  | some (x, h) => if x = ("need" : Str) then some h else none
  | none => none
/-- the hours of the needs along a walk -/
def needHs (w : List (Ed Stp)) : List Int := w.filterMap fun e => isNd e.s
theorem isNd_n {s d : List Int} {h : Int} : isNd (nE s d h).s = some h := rfl
theorem isNd_k {n : Nat} {v h : Int} : isNd (kE n v h).s = none := by
  show (if ("keep" : Str) = ("need" : Str) then some h else none) = none
  rw [if_neg (by decide +kernel)]
/-- the hours behind the last need -/
def trl : Int → List (Ed Stp) → Int
  | g, [] => g
  | g, e :: w => match isNd e.s with
    | some _ => trl 0 w
    | none => trl (g + 1) w
theorem trl_ne : ∀ {w : List (Ed Stp)} (g g' : Int), needHs w ≠ [] → trl g w = trl g' w
  | [], _, _, h => absurd rfl h
  | e :: w, g, g', h => by
    unfold trl
    cases z : isNd e.s with
    | some k => rfl
    | none =>
      refine trl_ne _ _ ?_
      unfold needHs at h ⊢
      rw [List.filterMap_cons_none (f := fun e : Ed Stp => isNd e.s) z] at h
      exact h
theorem walk_hops {s d : List Int} (g : Good s) : ∀ {w : List (Ed Stp)} {a b : Nat} (h y : Int), (∀ e ∈ w, e ∈ needEs s d) → Wk a w b → 0 ≤ y → (s.length : Int) ∣ (a : Int) - h - 1 - y →
    hops s h (needHs w) + trl y w ≤ y + ((b : Int) - a + s.length * tn w) ∧ 0 ≤ trl y w ∧ (s.length : Int) ∣ (b : Int) - lastH h (needHs w) - 1 - trl y w ∧ wo w = sumD d (needHs w)
  | [], a, b, h, y, _, hk, hy, hd => by
    have hk : a = b := hk
    subst hk
    show 0 + y ≤ y + ((a : Int) - a + s.length * 0) ∧ 0 ≤ y ∧ _ ∣ (a : Int) - h - 1 - y ∧ (0 : Int) = 0
    rw [Int.mul_zero]
    exact ⟨by omega, hy, hd, rfl⟩
  | e :: w, a, b, h, y, hw, hk, hy, hd => by
    have he := hw e List.mem_cons_self
    have hw' := fun e he => hw e (List.mem_cons_of_mem _ he)
    have ht : tn (e :: w) = e.t + tn w := by
      unfold tn
      rw [List.map_cons, List.sum_cons]
    have hwo : wo (e :: w) = e.v + wo w := by
      unfold wo
      rw [List.map_cons, List.sum_cons]
    obtain ⟨k, hkn, q⟩ := mem_needEs.mp he
    have hf := hk.1
    rcases q with rfl | rfl
    · have hH : needHs (nE s d k :: w) = (k : Int) :: needHs w := List.filterMap_cons_some isNd_n
      have hT : trl y (nE s d k :: w) = trl 0 w := by
        show (match isNd (nE s d k).s with | some _ => trl 0 w | none => trl (y + 1) w) = _
        rw [isNd_n]
      have ln : (((nE s d k).f : Nat) : Int) + wd s k = ((nE s d k).l : Nat) + s.length * (nE s d k).t := mkE_len g.ne _ _ _ _
      have hff : (((nE s d k).f : Nat) : Int) = ((k : Int) - wd s k + 1) % (s.length : Int) := mdN_int g.ne _
      have hll : (((nE s d k).l : Nat) : Int) = ((k : Int) - wd s k + 1 + wd s k) % (s.length : Int) := mdN_int g.ne _
      have dv : (s.length : Int) ∣ ((nE s d k).l : Nat) - (k : Int) - 1 - 0 := by
        rw [hll]
        have := mod_split (n := s.length) ((k : Int) - wd s k + 1 + wd s k)
        exact ⟨-(((k : Int) - wd s k + 1 + wd s k) / (s.length : Int)), by rw [Int.mul_neg]; omega⟩
      obtain ⟨i1, i2, i3, i4⟩ := walk_hops g (k : Int) 0 hw' hk.2 (Int.le_refl 0) dv
      have gp : ((k : Int) - wd s k - h) % (s.length : Int) ≤ y := by
        have e1 : (s.length : Int) ∣ (k : Int) - wd s k - h - y := by
          obtain ⟨z, hz⟩ := hd
          have := mod_split (n := s.length) ((k : Int) - wd s k + 1)
          refine ⟨z + ((k : Int) - wd s k + 1) / (s.length : Int), ?_⟩
          rw [Int.mul_add]
          omega
        obtain ⟨z, hz⟩ := e1
        rw [show (k : Int) - wd s k - h = y + s.length * z by omega, Int.add_mul_emod_self_left]
        rcases Int.lt_or_le y (s.length : Int) with c | c
        · rw [Int.emod_eq_of_lt hy c]
          exact Int.le_refl _
        · have := (mod_bd g.ne y).2
          omega
      rw [hH, hT, ht, hwo]
      refine ⟨?_, i2, i3, ?_⟩
      · show stp s h k + hops s k (needHs w) + trl 0 w ≤ _
        unfold stp
        rw [Int.mul_add]
        omega
      · unfold sumD at i4 ⊢
        rw [List.map_cons, List.sum_cons, i4]
        rfl
    · have hH : needHs (kE s.length 0 k :: w) = needHs w := List.filterMap_cons_none isNd_k
      have hT : trl y (kE s.length 0 k :: w) = trl (y + 1) w := by
        show (match isNd (kE s.length 0 k).s with | some _ => trl 0 w | none => trl (y + 1) w) = _
        rw [isNd_k]
      have ln : (((kE s.length 0 k).f : Nat) : Int) + 1 = ((kE s.length 0 k).l : Nat) + s.length * (kE s.length 0 k).t := mkE_len g.ne _ _ _ _
      have dv : (s.length : Int) ∣ ((kE s.length 0 k).l : Nat) - h - 1 - (y + 1) := by
        obtain ⟨z, hz⟩ := hd
        refine ⟨z - (kE s.length 0 k).t, ?_⟩
        rw [Int.mul_sub]
        omega
      obtain ⟨i1, i2, i3, i4⟩ := walk_hops g h (y + 1) hw' hk.2 (by omega) dv
      rw [hH, hT, ht, hwo]
      refine ⟨?_, i2, i3, ?_⟩
      · rw [Int.mul_add]
        omega
      · rw [← i4]
        show 0 + wo w = wo w
        omega
/-- the ring of a closed walk winds no more than the walk turns -/
theorem loop_ring {s d : List Int} (g : Good s) {w : List (Ed Stp)} {a : Nat} (hw : ∀ e ∈ w, e ∈ needEs s d) (h : Wk a w a) (hr : needHs w ≠ []) : wnd s (needHs w) ≤ tn w ∧ wo w = sumD d (needHs w) ∧ ∀ k ∈ needHs w, 0 ≤ k ∧ k < (s.length : Int) := by
  obtain ⟨_, i2, i3, i4⟩ := walk_hops g ((a : Int) - 1) 0 hw h (Int.le_refl 0) ⟨0, by rw [Int.mul_zero]; omega⟩
  rw [lastH_ne hr (h' := 0)] at i3
  obtain ⟨j1, _, _, _⟩ := walk_hops g (lastH 0 (needHs w)) (trl 0 w) hw h i2 i3
  rw [trl_ne (trl 0 w) 0 hr] at j1
  obtain ⟨e, _⟩ := wnd_eq (s := s) g hr
  refine ⟨?_, i4, fun k hk => ?_⟩
  · have hn := g.ne
    rw [e] at j1
    refine Int.le_of_mul_le_mul_left (a := (s.length : Int)) ?_ (by omega)
    omega
  · unfold needHs at hk
    obtain ⟨e, he, hek⟩ := List.mem_filterMap.mp hk
    obtain ⟨j, hj, q⟩ := mem_needEs.mp (hw e he)
    rcases q with rfl | rfl
    · rw [isNd_n] at hek
      cases hek
      omega
    · rw [isNd_k] at hek
      cases hek
end Hn

/-! The fewest people, plainly. -/
namespace Hn
open PySem
def fct : Nat → Nat
  | 0 => 1
  | n + 1 => (n + 1) * fct n
theorem fct_pos : ∀ n, 0 < fct n
  | 0 => Nat.one_pos
  | n + 1 => Nat.mul_pos (Nat.succ_pos n) (fct_pos n)
theorem fct_dvd : ∀ {n k : Nat}, 1 ≤ k → k ≤ n → k ∣ fct n
  | 0, k, h1, h2 => absurd h1 (by omega)
  | n + 1, k, h1, h2 => by
    by_cases q : k = n + 1
    · subst q
      exact Nat.dvd_mul_right _ _
    · exact Nat.dvd_trans (fct_dvd h1 (by omega)) (Nat.dvd_mul_left _ _)
/-- two integers without a common divisor -/
def fr (x y : Int) : Int × Int := (x / (Int.gcd x y : Int), y / (Int.gcd x y : Int))
structure FrOk (x y : Int) (g : Int) : Prop where
  g1 : 1 ≤ g
  ex : x = g * (fr x y).1
  ey : y = g * (fr x y).2
  p2 : 1 ≤ (fr x y).2
  le : (fr x y).2 ≤ y
theorem fr_ok {x y : Int} (hy : 1 ≤ y) : FrOk x y (Int.gcd x y) := by
  have g0 : 0 < Int.gcd x y := Int.gcd_pos_of_ne_zero_right _ (by omega)
  have ex : x = (Int.gcd x y : Int) * (fr x y).1 := (Int.mul_ediv_cancel' (Int.gcd_dvd_left x y)).symm
  have ey : y = (Int.gcd x y : Int) * (fr x y).2 := (Int.mul_ediv_cancel' (Int.gcd_dvd_right x y)).symm
  have p2 : 1 ≤ (fr x y).2 := by
    rcases Int.lt_or_le (fr x y).2 1 with z | z
    · have := Int.mul_nonpos_of_nonneg_of_nonpos (a := (Int.gcd x y : Int)) (b := (fr x y).2) (by omega) (by omega)
      omega
    · exact z
  refine ⟨by omega, ex, ey, p2, ?_⟩
  have : 1 * (fr x y).2 ≤ (Int.gcd x y : Int) * (fr x y).2 := Int.mul_le_mul_of_nonneg_right (by omega) (by omega)
  omega
theorem fr_nn {x y : Int} (hx : 0 ≤ x) : 0 ≤ (fr x y).1 := Int.ediv_nonneg hx (by omega)
/-- the best ring, as the program looks for it -/
inductive BR (n : Nat) (es : List (Ed Stp)) : Int → Int → List Int → List Int → Prop
  | stop {pa pb : Int} {r : List Int} : gaining n es pa pb = none → BR n es pa pb r r
  | go {pa pb : Int} {r q : List Int} {w : List (Ed Stp)} : gaining n es pa pb = some w → BR n es (fr (wo w) (tn w)).1 (fr (wo w) (tn w)).2 (needHs w) q → BR n es pa pb r q
theorem BR.det {n : Nat} {es : List (Ed Stp)} {pa pb : Int} {r q q' : List Int} (h : BR n es pa pb r q) : BR n es pa pb r q' → q = q' := by
  induction h with
  | stop e =>
    intro h'
    cases h' with
    | stop _ => rfl
    | go e' _ => rw [e] at e'; cases e'
  | go e _ ih =>
    intro h'
    cases h' with
    | stop e' => rw [e] at e'; cases e'
    | go e' h' =>
      rw [e] at e'
      cases e'
      exact ih h'
/-- a ring by which a pace is told -/
structure Bst (s d : List Int) (M pa pb : Int) (r : List Int) : Prop where
  a0 : 0 ≤ pa
  b1 : 1 ≤ pb
  bn : pb ≤ (s.length : Int)
  bd : pa ≤ s.length * M * pb
  ne : r ≠ []
  le : r.length ≤ s.length
  hs : ∀ k ∈ r, 0 ≤ k ∧ k < (s.length : Int)
  up : upI pa pb ≤ ringB s d r
def muB (n : Nat) (M pa pb : Int) : Nat := (n * M * (fct n : Int) - pa * ((fct n : Int) / pb)).toNat
theorem stp_self {s : List Int} (g : Good s) (h : Int) : stp s h h = s.length := by
  have a := wd_pos g h
  have b := wd_le (s := s) h
  unfold stp
  rw [show h - wd s h - h = -wd s h by omega]
  rcases Int.lt_or_le (wd s h) (s.length : Int) with c | c
  · have e : (-wd s h) % (s.length : Int) = s.length - wd s h := by
      rw [show -wd s h = (s.length - wd s h) + s.length * (-1) by omega, Int.add_mul_emod_self_left, Int.emod_eq_of_lt (by omega) (by omega)]
    omega
  · have e : wd s h = s.length := by omega
    rw [e, show -(s.length : Int) = 0 + s.length * (-1) by omega, Int.add_mul_emod_self_left, Int.zero_emod]
    omega
theorem wnd_one {s : List Int} (g : Good s) (h : Int) : wnd s [h] = 1 := by
  have hn := g.ne
  show (stp s h h + 0) / (s.length : Int) = 1
  rw [stp_self g, Int.add_zero, Int.ediv_self (by omega)]
theorem bst_start {s d : List Int} (g : Good s) {M : Int} {h : Nat} (hh : h < s.length) (hM : cyc d h = M) (h0 : 0 ≤ M) : Bst s d M M 1 [(h : Int)] := by
  have hn := g.ne
  refine ⟨h0, Int.le_refl 1, by omega, ?_, (fun z => nomatch z), hn, fun k hk => ?_, ?_⟩
  · have : 1 * M ≤ (s.length : Int) * M := Int.mul_le_mul_of_nonneg_right (by omega) h0
    omega
  · rw [List.mem_singleton.mp hk]
    omega
  · unfold ringB
    rw [wnd_one g]
    refine upI_mono (by omega) ?_
    show M ≤ cyc d h + 0
    omega
theorem le_sum_v {s d : List Int} {M : Int} (hM : ∀ h : Nat, h < s.length → cyc d h ≤ M) (h0 : 0 ≤ M) : ∀ {w : List (Ed Stp)}, (∀ e ∈ w, e ∈ needEs s d) → wo w ≤ w.length * M
  | [], _ => by
    show (0 : Int) ≤ ((0 : Nat) : Int) * M
    rw [show ((0 : Nat) : Int) * M = 0 from Int.zero_mul M]
    exact Int.le_refl 0
  | e :: w, hw => by
    have ih := le_sum_v hM h0 (w := w) fun e he => hw e (List.mem_cons_of_mem _ he)
    have hv : e.v ≤ M := by
      obtain ⟨h, hh, q⟩ := mem_needEs.mp (hw e List.mem_cons_self)
      rcases q with rfl | rfl
      · exact hM h hh
      · exact h0
    have hwo : wo (e :: w) = e.v + wo w := by
      unfold wo
      rw [List.map_cons, List.sum_cons]
    rw [hwo, List.length_cons, show ((w.length + 1 : Nat) : Int) = (w.length : Int) + 1 by omega, Int.add_mul]
    omega
theorem wo_pos_ne {s d : List Int} : ∀ {w : List (Ed Stp)}, (∀ e ∈ w, e ∈ needEs s d) → needHs w = [] → wo w = 0
  | [], _, _ => rfl
  | e :: w, hw, hr => by
    obtain ⟨h, hh, q⟩ := mem_needEs.mp (hw e List.mem_cons_self)
    rcases q with rfl | rfl
    · exfalso
      unfold needHs at hr
      rw [List.filterMap_cons_some (f := fun e : Ed Stp => isNd e.s) isNd_n] at hr
      cases hr
    · unfold needHs at hr
      rw [List.filterMap_cons_none (f := fun e : Ed Stp => isNd e.s) isNd_k] at hr
      have ih := wo_pos_ne (w := w) (fun e he => hw e (List.mem_cons_of_mem _ he)) hr
      have hwo : wo (kE s.length 0 h :: w) = 0 + wo w := by
        unfold wo
        rw [List.map_cons, List.sum_cons]
        rfl
      omega
/-- a gaining walk leads to a better pace -/
theorem bst_step {s d : List Int} (g : Good s) {M pa pb : Int} (hM : ∀ h : Nat, h < s.length → cyc d h ≤ M) (h0 : 0 ≤ M) (a0 : 0 ≤ pa) (b1 : 1 ≤ pb) (bn : pb ≤ (s.length : Int)) (bd : pa ≤ s.length * M * pb) {w : List (Ed Stp)} (hw : gaining s.length (needEs s d) pa pb = some w) :
    1 ≤ tn w ∧ 0 < wo w ∧ Bst s d M (fr (wo w) (tn w)).1 (fr (wo w) (tn w)).2 (needHs w) ∧ muB s.length M (fr (wo w) (tn w)).1 (fr (wo w) (tn w)).2 < muB s.length M pa pb := by
  have L := gaining_some hw (need_fl g)
  obtain ⟨a, wk⟩ := L.wk
  have hn := g.ne
  obtain ⟨t1, t2, t3⟩ := need_turn g L.mem wk
  have hlen : 1 ≤ w.length := by
    cases z : w with
    | nil => exact absurd z L.ne
    | cons x y => rw [List.length_cons]; omega
  have tw1 : 1 ≤ tn w := by
    rcases Int.lt_or_le (tn w) 1 with z | z
    · have : tn w = 0 := by omega
      rw [this, Int.mul_zero] at t1
      omega
    · exact z
  have gain := L.gain
  rw [gn_sum] at gain
  have pt : 0 ≤ pa * tn w := Int.mul_nonneg a0 (by omega)
  have wo0 : 0 < wo w := by
    rcases Int.lt_or_le 0 (wo w) with z | z
    · exact z
    · have := Int.mul_nonpos_of_nonneg_of_nonpos (a := pb) (b := wo w) (by omega) z
      omega
  have hne : needHs w ≠ [] := fun z => by
    have := wo_pos_ne L.mem z
    omega
  obtain ⟨r1, r2, r3⟩ := loop_ring g L.mem wk hne
  have F := fr_ok (x := wo w) (y := tn w) tw1
  obtain ⟨x', hx'⟩ : ∃ x', (fr (wo w) (tn w)).1 = x' := ⟨_, rfl⟩
  obtain ⟨y', hy'⟩ : ∃ y', (fr (wo w) (tn w)).2 = y' := ⟨_, rfl⟩
  obtain ⟨c, hc⟩ : ∃ c : Int, (Int.gcd (wo w) (tn w) : Int) = c := ⟨_, rfl⟩
  have x0 : 0 ≤ x' := by
    rw [← hx']
    exact fr_nn (by omega)
  have f1 := F.g1
  have f2 := F.ex
  have f3 := F.ey
  have f4 := F.p2
  have f5 := F.le
  rw [hc] at f1
  rw [hc, hx'] at f2
  rw [hc, hy'] at f3
  rw [hy'] at f4 f5
  rw [hx', hy']
  have hwl := L.len
  have hwM := le_sum_v hM h0 L.mem
  have hb2 : wo w ≤ s.length * M * tn w := by
    have a1 : (w.length : Int) * M ≤ (s.length : Int) * M := Int.mul_le_mul_of_nonneg_right (by omega) h0
    have a2 : 0 ≤ (s.length : Int) * M := Int.mul_nonneg (by omega) h0
    have a3 : (s.length : Int) * M * 1 ≤ (s.length : Int) * M * tn w := Int.mul_le_mul_of_nonneg_left tw1 a2
    omega
  have hb3 : x' ≤ s.length * M * y' := by
    refine Int.le_of_mul_le_mul_left (a := c) ?_ (by omega)
    rw [← f2]
    calc wo w ≤ s.length * M * tn w := hb2
      _ = s.length * M * (c * y') := by rw [← f3]
      _ = c * (s.length * M * y') := by rw [Int.mul_left_comm]
  have cross : pa * y' < pb * x' := by
    refine Int.lt_of_mul_lt_mul_left (a := c) ?_ (by omega)
    have e1 : c * (pa * y') = pa * tn w := by rw [Int.mul_left_comm, ← f3]
    have e2 : c * (pb * x') = pb * wo w := by rw [Int.mul_left_comm, ← f2]
    omega
  refine ⟨tw1, wo0, ⟨x0, f4, by omega, hb3, hne, ?_, r3, ?_⟩, ?_⟩
  · have : (needHs w).length ≤ w.length := List.length_filterMap_le _ _
    omega
  · obtain ⟨e, w1⟩ := wnd_eq (s := s) g hne
    have k0 : 0 ≤ ringB s d (needHs w) := upI_nn (by omega) (by rw [← r2]; omega)
    have k1 : wo w ≤ ringB s d (needHs w) * wnd s (needHs w) := by
      rw [r2]
      exact upI_ge (by omega)
    refine (upI_le (by omega)).mpr ?_
    refine Int.le_of_mul_le_mul_left (a := c) ?_ (by omega)
    rw [← f2]
    have k2 : ringB s d (needHs w) * wnd s (needHs w) ≤ ringB s d (needHs w) * tn w := Int.mul_le_mul_of_nonneg_left r1 k0
    have k3 : c * (ringB s d (needHs w) * y') = ringB s d (needHs w) * tn w := by rw [Int.mul_left_comm, ← f3]
    omega
  · obtain ⟨N, hN⟩ : ∃ N : Int, ((fct s.length : Nat) : Int) = N := ⟨_, rfl⟩
    have N0 : 0 < N := by
      have := fct_pos s.length
      omega
    have dv : ∀ z : Int, 1 ≤ z → z ≤ (s.length : Int) → z * (N / z) = N := fun z z1 z2 => by
      refine Int.mul_ediv_cancel' ?_
      have := fct_dvd (n := s.length) (k := z.toNat) (by omega) (by omega)
      rw [← hN]
      have := Int.natCast_dvd_natCast.mpr this
      rw [show ((z.toNat : Nat) : Int) = z by omega] at this
      exact this
    unfold muB
    rw [hN]
    have u1 := dv pb b1 bn
    have u2 := dv y' f4 (by omega)
    obtain ⟨u, hu⟩ : ∃ u, N / pb = u := ⟨_, rfl⟩
    obtain ⟨u', hu'⟩ : ∃ u', N / y' = u' := ⟨_, rfl⟩
    rw [hu] at u1 ⊢
    rw [hu'] at u2 ⊢
    have up0 : 0 < u' := by
      rcases Int.lt_or_le 0 u' with z | z
      · exact z
      · have := Int.mul_nonpos_of_nonneg_of_nonpos (a := y') (b := u') (by omega) z
        omega
    have lt : pa * u < x' * u' := by
      refine Int.lt_of_mul_lt_mul_left (a := pb * y') ?_ (Int.mul_nonneg (by omega) (by omega))
      have e1 : pb * y' * (pa * u) = N * (pa * y') := by
        rw [← u1]
        rw [show pb * y' * (pa * u) = pb * (y' * (pa * u)) from Int.mul_assoc _ _ _, show pb * u * (pa * y') = pb * (u * (pa * y')) from Int.mul_assoc _ _ _]
        congr 1
        rw [Int.mul_left_comm, Int.mul_comm y' u, Int.mul_left_comm u pa y', Int.mul_comm u y']
      have e2 : pb * y' * (x' * u') = N * (pb * x') := by
        rw [← u2]
        rw [show pb * y' * (x' * u') = pb * (y' * (x' * u')) from Int.mul_assoc _ _ _, show y' * u' * (pb * x') = y' * (u' * (pb * x')) from Int.mul_assoc _ _ _]
        rw [Int.mul_left_comm pb y', Int.mul_left_comm pb x', Int.mul_left_comm u' pb x', Int.mul_left_comm x' pb u', Int.mul_comm u' x']
      rw [e1, e2]
      exact Int.mul_lt_mul_of_pos_left cross N0
    have le2 : x' * u' ≤ s.length * M * N := by
      calc x' * u' ≤ s.length * M * y' * u' := Int.mul_le_mul_of_nonneg_right hb3 (by omega)
        _ = s.length * M * N := by rw [Int.mul_assoc (s.length * M), u2]
    omega
/-- at the end: as many as the ring asks for are enough -/
theorem bst_end {s d : List Int} (g : Good s) {M pa pb : Int} {r : List Int} (B : Bst s d M pa pb r) (h : gaining s.length (needEs s d) pa pb = none) : ∃ A, Enf s d (ringB s d r) A := by
  obtain ⟨R, hR⟩ := gaining_none h
  exact pace_enf g (by have := B.b1; omega) ((upI_le (by have := B.b1; omega)).mp B.up) hR
/-- what the program's search tells -/
structure BestOk (s d r : List Int) : Prop where
  ne : r ≠ []
  le : r.length ≤ s.length
  hs : ∀ k ∈ r, 0 ≤ k ∧ k < (s.length : Int)
  en : ∃ A, Enf s d (ringB s d r) A
theorem br_ok {s d : List Int} (g : Good s) {M : Int} (hM : ∀ h : Nat, h < s.length → cyc d h ≤ M) (h0 : 0 ≤ M) : ∀ {pa pb : Int} {r q : List Int}, BR s.length (needEs s d) pa pb r q → Bst s d M pa pb r → BestOk s d q := by
  intro pa pb r q h
  induction h with
  | stop e => exact fun B => ⟨B.ne, B.le, B.hs, bst_end g B e⟩
  | go e _ ih => exact fun B => ih (bst_step g hM h0 B.a0 B.b1 B.bn B.bd e).2.2.1
/-- the fewest people: there is a plan, and none with fewer -/
def Few (s d : List Int) (F : Int) : Prop := (∃ A, Enf s d F A) ∧ ∀ P A, Enf s d P A → F ≤ P
theorem best_few {s d r : List Int} (g : Good s) (B : BestOk s d r) : Few s d (ringB s d r) := ⟨B.en, fun _ _ E => (ring_le g E B.ne B.hs).2⟩
theorem Few.uniq {s d : List Int} {F G : Int} (a : Few s d F) (b : Few s d G) : F = G := by
  obtain ⟨A, ha⟩ := a.1
  obtain ⟨B, hb⟩ := b.1
  have := a.2 _ _ hb
  have := b.2 _ _ ha
  omega
/-- nothing is needed -/
theorem few_zero {s d : List Int} (g : Good s) (h : ∀ h : Nat, h < s.length → cyc d h ≤ 0) : Few s d 0 := by
  refine ⟨⟨_, pot_enf (R := fun _ => 0) g fun e he => ?_⟩, fun P A E => enf_nn E⟩
  obtain ⟨k, hk, q⟩ := mem_needEs.mp he
  unfold gn
  rcases q with rfl | rfl
  · have : (nE s d k).v = cyc d k := rfl
    have := h k hk
    omega
  · have : (kE s.length 0 k).v = 0 := rfl
    omega
theorem few_enf {s d : List Int} (g : Good s) {F P : Int} (h : Few s d F) : (∃ A, Enf s d P A) ↔ F ≤ P := by
  constructor
  · rintro ⟨A, hA⟩
    exact h.2 P A hA
  · intro q
    obtain ⟨A, hA⟩ := h.1
    exact enf_up g q hA
/-- what is reached in the end is told by the walks alone -/
theorem sett_uniq {S : Type} {pa pb : Int} {es : List (Ed S)} {r0 r r' : Nat → Option Int} (a : Att pa pb es r0 r) (a' : Att pa pb es r0 r') (b : Stab pa pb es r) (b' : Stab pa pb es r') (c : Ge r0 r) (c' : Ge r0 r') : r = r' := by
  have key : ∀ {r r' : Nat → Option Int}, Att pa pb es r0 r → Stab pa pb es r' → Ge r0 r' → ∀ v x, r v = some x → ∃ y, r' v = some y ∧ x ≤ y := by
    intro r r' a b c v x hx
    obtain ⟨u, x0, w, h1, h2, h3, h4⟩ := a v x hx
    obtain ⟨y0, h5, h6⟩ := c u x0 h1
    have go : ∀ (w : List (Ed S)) (u : Nat) (y0 : Int), Wk u w v → (∀ e ∈ w, e ∈ es) → r' u = some y0 → ∃ y, r' v = some y ∧ y0 + (w.map (gn pa pb)).sum ≤ y := by
      intro w
      induction w with
      | nil =>
        intro u y0 hw _ hy
        have hw : u = v := hw
        subst hw
        exact ⟨y0, hy, by show y0 + 0 ≤ y0; omega⟩
      | cons e w ih =>
        intro u y0 hw hm hy
        rw [← hw.1] at hy
        obtain ⟨y1, h7, h8⟩ := b e (hm e List.mem_cons_self) y0 hy
        obtain ⟨y, h9, h10⟩ := ih e.l y1 hw.2 (fun e he => hm e (List.mem_cons_of_mem _ he)) h7
        refine ⟨y, h9, ?_⟩
        rw [List.map_cons, List.sum_cons]
        omega
    obtain ⟨y, h7, h8⟩ := go w u y0 h2 h3 h5
    exact ⟨y, h7, by omega⟩
  funext v
  cases z : r v with
  | none =>
    cases z' : r' v with
    | none => rfl
    | some y =>
      obtain ⟨x, h1, _⟩ := key a' b c v y z'
      rw [z] at h1
      cases h1
  | some x =>
    obtain ⟨y, h1, h2⟩ := key a b' c' v x z
    obtain ⟨x', h3, h4⟩ := key a' b c v y h1
    rw [z] at h3
    cases h3
    rw [h1]
    congr 1
    omega
end Hn

/-! Edges in the heap. -/
namespace Hn
open PySem PySem.Spec PyProof.Rows L2 Evl
/-- a step: none, or a word and an hour -/
def StV (H : Hp) (v : V) : Stp → Prop
  | none => v = .non
  | some (w, h) => ∃ t, v = .ref t ∧ H t = some (.tup [.str w, .int h])
/-- an edge -/
def EdV (H : Hp) (v : V) (e : Ed Stp) : Prop := ∃ t sv, v = .ref t ∧ H t = some (.tup [.int (e.f : Int), .int (e.l : Int), .int e.t, .int e.v, sv]) ∧ StV H sv e.s
theorem StV.mono {H H' : Hp} {v : V} {s : Stp} (e : Xl H H') (h : StV H v s) : StV H' v s := by
  cases s with
  | none => exact h
  | some p =>
    obtain ⟨t, rfl, ht⟩ := h
    exact ⟨t, rfl, e _ _ ht rfl⟩
theorem EdV.mono {H H' : Hp} {v : V} {e : Ed Stp} (x : Xl H H') (h : EdV H v e) : EdV H' v e :=
  let ⟨t, sv, h1, h2, h3⟩ := h
  ⟨t, sv, h1, x _ _ h2 rfl, h3.mono x⟩
/-- a list of edges -/
def EdL (H : Hp) (l : Addr) (es : List (Ed Stp)) : Prop := ∃ vs : List V, H l = some (.lst vs) ∧ vs.length = es.length ∧ ∀ (i : Nat) v, vs[i]? = some v → ∃ e, es[i]? = some e ∧ EdV H v e
theorem EdL.ex {H H' : Hp} {l : Addr} {es : List (Ed Stp)} (x : Ex H H') (h : EdL H l es) : EdL H' l es :=
  let ⟨vs, h1, h2, h3⟩ := h
  ⟨vs, x _ _ h1, h2, fun i v hv => let ⟨e, a, b⟩ := h3 i v hv; ⟨e, a, b.mono (.of x)⟩⟩
theorem mv_edl {H H' : Hp} {l : Addr} {es : List (Ed Stp)} (h : EdL H l es) (x : Ex H H') : EdL H' l es := h.ex x
theorem mv_edv {H H' : Hp} {v : V} {e : Ed Stp} (h : EdV H v e) (x : Xl H H') : EdV H' v e := h.mono x
/-- limits: an integer or None -/
def optI : Option Int → V
  | none => .non
  | some i => .int i
def optN : Option Nat → V
  | none => .non
  | some i => .int (i : Int)
def rwO (n : Nat) (r : Nat → Option Int) : List V := (List.range n).map fun i => optI (r i)
theorem rwO_length (n : Nat) (r : Nat → Option Int) : (rwO n r).length = n := by
  unfold rwO
  rw [List.length_map, List.length_range]
theorem rwO_at {n : Nat} {r : Nat → Option Int} {i : Nat} (h : i < n) : (rwO n r)[i]? = some (optI (r i)) := by
  unfold rwO
  rw [List.getElem?_map, List.getElem?_range h]
  rfl
theorem rwS_at {n : Nat} {R : Nat → Int} {i : Nat} (h : i < n) : (rwO n fun v => some (R v))[i]? = some (.int (R i)) := rwO_at h
theorem at_rwS {n : Nat} {R : Nat → Int} {i : Nat} (h : i < n) : atI (rwO n fun v => some (R v)) (i : Int) = some (.int (R i)) := atI_nat (rwS_at h)
theorem at_rwS0 {n : Nat} {R : Nat → Int} (h : 0 < n) : atI (rwO n fun v => some (R v)) 0 = some (.int (R 0)) := atI_nat (j := 0) (rwS_at h)
theorem set_map_up {α : Type} {n : Nat} {f : Nat → α} {b : Nat} {x : α} : ((List.range n).map f).set b x = (List.range n).map (upF f b x) := by
  refine List.ext_getElem? fun i => ?_
  rw [List.getElem?_set, List.getElem?_map, List.getElem?_map, List.length_map, List.length_range]
  by_cases hb : b = i
  · subst hb
    rw [if_pos rfl]
    by_cases hn : b < n
    · rw [if_pos hn, List.getElem?_range hn]
      show some x = some (upF f b x b)
      rw [upF_same]
    · rw [if_neg hn, List.getElem?_eq_none (by rw [List.length_range]; omega)]
      rfl
  · rw [if_neg hb]
    cases z : (List.range n)[i]? with
    | none => rfl
    | some j =>
      have hj : j = i := by
        have := List.getElem?_eq_some_iff.mp z
        obtain ⟨_, h⟩ := this
        rw [List.getElem_range] at h
        exact h.symm
      subst hj
      show some (f j) = some (upF f b x j)
      rw [upF_ne (fun q => hb q.symm)]
theorem rwO_set {n : Nat} {r : Nat → Option Int} {b : Nat} {x : Int} : (rwO n r).set b (.int x) = rwO n (upF r b (some x)) := by
  unfold rwO
  rw [set_map_up]
  refine List.map_congr_left fun i _ => ?_
  show upF (fun i => optI (r i)) b (.int x) i = optI (upF r b (some x) i)
  by_cases h : i = b
  · rw [h, upF_same, upF_same]
    rfl
  · rw [upF_ne h, upF_ne h]
/-- by which edge each mark was reached -/
def CamV (H : Hp) (v : V) : Option (Ed Stp) → Prop
  | none => v = .non
  | some e => EdV H v e
theorem CamV.mono {H H' : Hp} {v : V} {c : Option (Ed Stp)} (x : Xl H H') (h : CamV H v c) : CamV H' v c := by
  cases c with
  | none => exact h
  | some e => exact EdV.mono x h
def CamL (H : Hp) (p : Addr) (n : Nat) (c : Nat → Option (Ed Stp)) : Prop := ∃ vs : List V, H p = some (.lst vs) ∧ vs.length = n ∧ ∀ (i : Nat) v, vs[i]? = some v → CamV H v (c i)
theorem CamL.put {H : Hp} {p : Addr} {n b : Nat} {c : Nat → Option (Ed Stp)} {vs : List V} {v : V} {e : Ed Stp} (h : CamL H p n c) (hp : H p = some (.lst vs)) (he : EdV H v e) : CamL (upd H p (.lst (vs.set b v))) p n (upF c b (some e)) := by
  obtain ⟨ws, h1, h2, h3⟩ := h
  rw [hp] at h1
  cases h1
  have x : Xl H (upd H p (.lst (vs.set b v))) := Xl.set hp
  refine ⟨_, upd_same, by rw [List.length_set]; exact h2, fun i u hu => ?_⟩
  rw [List.getElem?_set] at hu
  by_cases q : b = i
  · subst q
    rw [if_pos rfl] at hu
    rw [upF_same]
    split at hu
    · cases hu
      exact EdV.mono x he
    · cases hu
  · rw [if_neg q] at hu
    rw [upF_ne (fun z => q z.symm)]
    exact (h3 i u hu).mono x
theorem CamL.start {H : Hp} {p : Addr} {n : Nat} (h : H p = some (.lst (List.replicate n .non))) : CamL H p n fun _ => none := by
  refine ⟨_, h, List.length_replicate, fun i v hv => ?_⟩
  rw [List.getElem?_replicate] at hv
  split at hv
  · cases hv
    rfl
  · cases hv
/-- all but what stands at p and q stands as it stood -/
def Mv2 (p q : Addr) (H H' : Hp) : Prop := ∀ a o, a ≠ p → a ≠ q → H a = some o → H' a = some o
theorem Mv2.refl (p q : Addr) (H : Hp) : Mv2 p q H H := fun _ _ _ _ h => h
theorem Mv2.trans {p q : Addr} {H H1 H2 : Hp} (x : Mv2 p q H H1) (y : Mv2 p q H1 H2) : Mv2 p q H H2 := fun a o h1 h2 h => y a o h1 h2 (x a o h1 h2 h)
theorem Mv2.l {p q : Addr} {H : Hp} {o : HO} : Mv2 p q H (upd H p o) := fun a o' h1 _ h => by rw [upd_ne h1]; exact h
theorem Mv2.r {p q : Addr} {H : Hp} {o : HO} : Mv2 p q H (upd H q o) := fun a o' _ h2 h => by rw [upd_ne h2]; exact h
theorem Mv2.xl {p q : Addr} {H H' : Hp} {xs ys : List V} (x : Mv2 p q H H') (hp : H p = some (.lst xs)) (hq : H q = some (.lst ys)) : Xl H H' := fun a o h n => by
  refine x a o ?_ ?_ h
  · exact ne_of h hp (by intro z; rw [z] at n; cases n)
  · exact ne_of h hq (by intro z; rw [z] at n; cases n)
theorem Mv2.ex {p q : Addr} {H0 H H' : Hp} (e : Ex H0 H) (x : Mv2 p q H H') (hp : H0 p = none) (hq : H0 q = none) : Ex H0 H' := fun a o h => by
  refine x a o ?_ ?_ (e a o h)
  · intro z; rw [z, hp] at h; cases h
  · intro z; rw [z, hq] at h; cases h
theorem Mv2.ex' {p q : Addr} {H H' : Hp} (e : Ex H H') : Mv2 p q H H' := fun a o _ _ h => e a o h
/-- marks within, turns that are small -/
def EdOk (n : Nat) (es : List (Ed Stp)) : Prop := ∀ e ∈ es, e.f < n ∧ e.l < n ∧ -(2 ^ 64) < e.t ∧ e.t < 2 ^ 64
theorem edv_in {H : Hp} {l : Addr} {es : List (Ed Stp)} {vs : List V} (h : EdL H l es) (hl : H l = some (.lst vs)) {i : Nat} {v : V} (hv : vs[i]? = some v) : ∃ e, es[i]? = some e ∧ EdV H v e := by
  obtain ⟨ws, h1, h2, h3⟩ := h
  rw [hl] at h1
  cases h1
  exact h3 i v hv
theorem optI_non {x : Option Int} : (optI x = .non) ↔ x = none := by
  cases x with
  | none => exact ⟨fun _ => rfl, fun _ => rfl⟩
  | some i => exact ⟨(fun h => nomatch h), (fun h => nomatch h)⟩
theorem CamL.at {H : Hp} {p : Addr} {n : Nat} {c : Nat → Option (Ed Stp)} (h : CamL H p n c) {i : Nat} {e : Ed Stp} (hi : i < n) (he : c i = some e) : ∃ vs t sv, H p = some (.lst vs) ∧ vs[i]? = some (.ref t) ∧ H t = some (.tup [.int (e.f : Int), .int (e.l : Int), .int e.t, .int e.v, sv]) ∧ EdV H (.ref t) e := by
  obtain ⟨vs, h1, h2, h3⟩ := h
  have hv : vs[i]? = some vs[i] := List.getElem?_eq_getElem (by omega)
  have := h3 i _ hv
  rw [he] at this
  obtain ⟨t, sv, e1, e2, e3⟩ := id this
  rw [e1] at hv
  exact ⟨vs, t, sv, h1, hv, e2, t, sv, rfl, e2, e3⟩
theorem CamL.ex {H H' : Hp} {p : Addr} {n : Nat} {c : Nat → Option (Ed Stp)} (x : Ex H H') (h : CamL H p n c) : CamL H' p n c :=
  let ⟨vs, h1, h2, h3⟩ := h
  ⟨vs, x _ _ h1, h2, fun i v hv => (h3 i v hv).mono (.of x)⟩
theorem EdL.at {H : Hp} {l : Addr} {es : List (Ed Stp)} (h : EdL H l es) {i : Nat} {e : Ed Stp} (he : es[i]? = some e) : ∃ vs t sv, H l = some (.lst vs) ∧ vs[i]? = some (.ref t) ∧ H t = some (.tup [.int (e.f : Int), .int (e.l : Int), .int e.t, .int e.v, sv]) ∧ StV H sv e.s := by
  obtain ⟨vs, h1, h2, h3⟩ := h
  have hi := (List.getElem?_eq_some_iff.mp he).1
  have hv : vs[i]? = some vs[i] := List.getElem?_eq_getElem (by omega)
  obtain ⟨e', he', t, sv, e1, e2, e3⟩ := h3 i _ hv
  rw [he] at he'
  cases he'
  rw [e1] at hv
  exact ⟨vs, t, sv, h1, hv, e2, e3⟩
theorem EdL.push {H : Hp} {p : Addr} {es : List (Ed Stp)} {vs : List V} {v : V} {e : Ed Stp} (h : EdL H p es) (hp : H p = some (.lst vs)) (hv : EdV H v e) : EdL (upd H p (.lst (vs ++ [v]))) p (es ++ [e]) := by
  obtain ⟨ws, h1, h2, h3⟩ := h
  rw [hp] at h1
  cases h1
  have x : Xl H (upd H p (.lst (vs ++ [v]))) := Xl.set hp
  refine ⟨_, upd_same, by rw [List.length_append, List.length_append, h2]; rfl, fun i u hu => ?_⟩
  by_cases hi : i < vs.length
  · rw [List.getElem?_append_left hi] at hu
    obtain ⟨e', a, b⟩ := h3 i u hu
    exact ⟨e', by rw [List.getElem?_append_left (by omega)]; exact a, b.mono x⟩
  · rw [List.getElem?_append_right (by omega)] at hu
    have : i = vs.length := by
      have := (List.getElem?_eq_some_iff.mp hu).1
      rw [List.length_singleton] at this
      omega
    subst this
    rw [Nat.sub_self] at hu
    cases hu
    exact ⟨e, by rw [List.getElem?_append_right (by omega), h2, Nat.sub_self]; rfl, hv.mono x⟩
theorem EdL.nil {H : Hp} {p : Addr} (h : H p = some (.lst [])) : EdL H p [] := ⟨[], h, rfl, fun i v hv => by simp at hv⟩
theorem needEs_len (s d : List Int) : (needEs s d).length = 2 * s.length := by
  unfold needEs
  have : ∀ n : Nat, ((List.range n).flatMap fun (h : Nat) => [nE s d h, kE s.length 0 h]).length = 2 * n := by
    intro n
    induction n with
    | zero => rfl
    | succ n ih =>
      rw [List.range_succ, List.flatMap_append, List.length_append, ih]
      show 2 * n + 2 = _
      omega
  exact this _
theorem need_ok {s d : List Int} (g : Good s) : EdOk s.length (needEs s d) := fun e he => by
  obtain ⟨len, q⟩ := needE_of g he
  have a := q.t0
  have b := q.t1
  exact ⟨q.fl.1, q.fl.2, by omega, by omega⟩
/-- the heap without what stands at p -/
def del (H : Hp) (p : Addr) : Hp := fun a => if a = p then none else H a
theorem del_same {H : Hp} {p : Addr} : del H p p = none := if_pos rfl
theorem del_ne {H : Hp} {p a : Addr} (h : a ≠ p) : del H p a = H a := if_neg h
theorem del_ex {H : Hp} {p : Addr} : Ex (del H p) H := fun a o h => by
  by_cases q : a = p
  · rw [q, del_same] at h; cases h
  · rw [del_ne q] at h; exact h
theorem ex_del {H0 H : Hp} {p : Addr} (e : Ex H0 H) (h : H0 p = none) : Ex H0 (del H p) := fun a o q => by
  rw [del_ne (fun z => by rw [z, h] at q; cases q)]
  exact e a o q
/-- the edges of a closed walk, or None -/
def GaV (H : Hp) (v : V) : Option (List (Ed Stp)) → Prop
  | none => v = .non
  | some w => ∃ p, v = .ref p ∧ EdL H p w
theorem GaV.ex {H H' : Hp} {v : V} {w : Option (List (Ed Stp))} (x : Ex H H') (h : GaV H v w) : GaV H' v w := by
  cases w with
  | none => exact h
  | some w =>
    obtain ⟨p, rfl, h⟩ := h
    exact ⟨p, rfl, h.ex x⟩
/-- while -/
theorem r_while {c : TT} {tb : TS} {D : Ends} {σ : L2.St} {H : Hp} (W : Nat → L2.St → Hp → Prop) (m : Nat) (h0 : W m σ H)
    (hs : ∀ m σ H, W m σ H → c σ H fun b H1 => if b = true then ∃ N : L2.St → Hp → Prop, (∀ σ' H', N σ' H' → ∃ m', m' < m ∧ W m' σ' H') ∧ tb { D with nx := N, ct := N, bk := D.nx } σ H1 else D.nx σ H1) : tWhile c tb D σ H := ⟨W, ⟨m, h0⟩, hs⟩
/-- the turn of a while whose test holds -/
theorem r_turn {tb : TS} {D : Ends} {σ : L2.St} {H1 : Hp} {W : Nat → L2.St → Hp → Prop} {m : Nat} (h : tb { D with nx := fun σ' H' => ∃ m', m' < m ∧ W m' σ' H', ct := fun σ' H' => ∃ m', m' < m ∧ W m' σ' H', bk := D.nx } σ H1) :
    ∃ N : L2.St → Hp → Prop, (∀ σ' H', N σ' H' → ∃ m', m' < m ∧ W m' σ' H') ∧ tb { D with nx := N, ct := N, bk := D.nx } σ H1 := ⟨_, fun _ _ z => z, h⟩
theorem rep_flat {x : V} : ∀ n : Nat, (List.replicate n [x]).flatten = List.replicate n x
  | 0 => rfl
  | n + 1 => by
    rw [List.replicate_succ, List.flatten_cons, rep_flat n, List.replicate_succ]
    rfl
theorem r_rep1 {H : Hp} {Q : VK} {l : Addr} {x : V} {n : Nat} (h : H l = some (.lst [x])) (hn : n ≤ 1000) (q : ∀ p, H p = none → Q (.ref p) (upd H p (.lst (List.replicate n x)))) : rRep (.ref l) (.int (n : Int)) H Q := by
  refine ⟨l, n, [x], rfl, rfl, h, by omega, by omega, ?_, fun p np => ?_⟩
  · rw [Int.toNat_natCast]
    exact line_le (by rw [List.length_singleton]; omega)
  · rw [Int.toNat_natCast]
    rw [rep_flat n]
    exact q p np
end Hn

/-! Rings, read. -/
namespace Hn
open PySem PySem.Spec PyProof.Rows L2 Evl
theorem cut_last1 {xs : List V} (h : 1 ≤ xs.length) : cutV xs (some (-1)) none = xs.drop (xs.length - 1) := by
  unfold cutV
  rw [HT.sIx_none]
  have e : HT.sIx xs.length 0 (some (-1)) = xs.length - 1 := by
    show HT.sIx xs.length 0 (some (-1)) = xs.length - 1
    unfold HT.sIx
    simp only []
    split <;> omega
  rw [e, List.take_of_length_le (by rw [List.length_drop]; omega)]
/-- the hour ahead of the i-th one of a ring -/
def prevH (r : List Int) (i : Nat) : Int := if i = 0 then r.getD (r.length - 1) 0 else r.getD (i - 1) 0
theorem ring_shift {r : List Int} (h : 1 ≤ r.length) : ((r.map V.int).drop ((r.map V.int).length - 1) ++ (r.map V.int).take ((r.map V.int).length - 1)).length = r.length ∧ ∀ i, i < r.length → ((r.map V.int).drop ((r.map V.int).length - 1) ++ (r.map V.int).take ((r.map V.int).length - 1))[i]? = some (.int (prevH r i)) := by
  rw [List.length_map]
  have l1 : ((r.map V.int).drop (r.length - 1)).length = 1 := by
    rw [List.length_drop, List.length_map]
    omega
  refine ⟨by rw [List.length_append, l1, List.length_take, List.length_map]; omega, fun i hi => ?_⟩
  unfold prevH
  by_cases hi0 : i = 0
  · rw [if_pos hi0, hi0, List.getElem?_append_left (by omega), List.getElem?_drop, List.getElem?_map, Nat.add_zero, List.getElem?_eq_getElem (by omega), List.getD_eq_getElem?_getD, List.getElem?_eq_getElem (by omega)]
    rfl
  · rw [if_neg hi0, List.getElem?_append_right (by omega), l1, List.getElem?_take, if_pos (by omega), List.getElem?_map, List.getElem?_eq_getElem (by omega), List.getD_eq_getElem?_getD, List.getElem?_eq_getElem (by omega)]
    rfl
theorem lastH_get : ∀ {r : List Int} {h : Int}, r ≠ [] → lastH h r = r.getD (r.length - 1) 0
  | [], _, z => absurd rfl z
  | [k], _, _ => rfl
  | k :: k2 :: r, h, _ => by
    show lastH k (k2 :: r) = _
    rw [lastH_get (r := k2 :: r) (fun z => nomatch z)]
    show (k2 :: r).getD ((k2 :: r).length - 1) 0 = (k :: k2 :: r).getD ((k2 :: r).length) 0
    rw [List.getD_eq_getElem?_getD, List.getD_eq_getElem?_getD, List.length_cons]
    rfl
theorem hops_list {s : List Int} : ∀ (r : List Int) (h : Int), hops s h r = ((List.range r.length).map fun i => stp s (if i = 0 then h else r.getD (i - 1) 0) (r.getD i 0)).sum
  | [], _ => rfl
  | k :: r, h => by
    show stp s h k + hops s k r = _
    rw [hops_list r k, List.length_cons, List.range_succ_eq_map, List.map_cons, List.sum_cons, List.map_map]
    congr 1
    congr 1
    refine List.map_congr_left fun i _ => ?_
    show stp s (if i = 0 then k else r.getD (i - 1) 0) (r.getD i 0) = stp s (if i + 1 = 0 then h else (k :: r).getD (i + 1 - 1) 0) ((k :: r).getD (i + 1) 0)
    rw [if_neg (show ¬ i + 1 = 0 by omega), Nat.add_sub_cancel]
    congr 1
    by_cases q : i = 0
    · rw [if_pos q, q]
      rfl
    · rw [if_neg q]
      obtain ⟨j, rfl⟩ : ∃ j, i = j + 1 := ⟨i - 1, by omega⟩
      rfl
theorem wnd_list {s r : List Int} (h : r ≠ []) : ((List.range r.length).map fun i => stp s (prevH r i) (r.getD i 0)).sum / (s.length : Int) = wnd s r := by
  unfold wnd
  rw [hops_list, lastH_get h]
  rfl
theorem hops_le {s : List Int} (g : Good s) : ∀ (r : List Int) (h : Int), hops s h r ≤ 2 * s.length * r.length
  | [], _ => by
    show (0 : Int) ≤ 2 * s.length * ((0 : Nat) : Int)
    omega
  | k :: r, h => by
    have a := hops_le g r k
    have b := wd_le (s := s) k
    have c := mod_bd g.ne (k - wd s k - h)
    show stp s h k + hops s k r ≤ 2 * s.length * ((r.length + 1 : Nat) : Int)
    unfold stp
    rw [show ((r.length + 1 : Nat) : Int) = (r.length : Int) + 1 by omega, Int.mul_add]
    omega
theorem wnd_small {s r : List Int} (g : Good s) (h : r ≠ []) (hl : r.length ≤ 100000) : wnd s r < 2 ^ 30 := by
  obtain ⟨e, _⟩ := wnd_eq g h
  have a := hops_le g r (lastH 0 r)
  have hn := g.ne
  rw [e] at a
  have b : wnd s r ≤ 2 * r.length := by
    refine Int.le_of_mul_le_mul_left (a := (s.length : Int)) ?_ (by omega)
    rw [show (s.length : Int) * (2 * (r.length : Int)) = 2 * s.length * r.length by rw [← Int.mul_assoc, Int.mul_comm (s.length : Int) 2]]
    exact a
  omega
theorem k_index {X : Cx} {K : PySem.W.Frag} (h : X.K = K) : MtR X "list.index" (rIndex K) := h ▸ mt_index
/-- the place of an integer in a list -/
theorem r_index {K : PySem.W.Frag} {H : Hp} {Q : VK} {a : Addr} {ns : List Int} {m : Int} (h : SqL K H a (ns.map V.int)) (hm : m ∈ ns) (q : ∀ j : Nat, j < ns.length → ns.getD j 0 = m → (∀ i, i < j → ns.getD i 0 ≠ m) → Q (.int (j : Int)) H) : rIndex K (.ref a) [.int m] H Q := by
  obtain ⟨j0, hj0, e0⟩ := List.mem_iff_getElem.mp hm
  obtain ⟨j, h1, h2, h3⟩ := least_of (P := fun j => j < ns.length ∧ ns.getD j 0 = m) j0 ⟨hj0, by rw [List.getD_eq_getElem?_getD, List.getElem?_eq_getElem hj0]; exact e0⟩
  refine ⟨a, _, _, j, .int m, rfl, rfl, h, rfl, flat_ints ns, ?_, ?_, fun i z hi hz => ?_, q j h2.1 h2.2 fun i hi e => h3 i hi ⟨by omega, e⟩⟩
  · rw [List.getElem?_map, List.getElem?_eq_getElem h2.1]
    have := h2.2
    rw [List.getD_eq_getElem?_getD, List.getElem?_eq_getElem h2.1] at this
    show some (V.int ns[j]) = some (V.int m)
    rw [show ns[j] = m from this]
  · show eqV (.int m) (.int m) = true
    simp [eqV]
  · obtain rfl := int_at hz
    have := h3 i hi
    have hne : ns.getD i 0 ≠ m := fun e => this ⟨by omega, e⟩
    exact decide_eq_false hne
theorem fm_range {α : Type} (f : α → Option Int) : ∀ (w : List α), ((List.range w.length).filter fun i => ((w[i]?).bind f).isSome).map (fun i => V.int (((w[i]?).bind f).getD 0)) = (w.filterMap f).map V.int
  | [] => rfl
  | a :: w => by
    have ih := fm_range f w
    rw [List.length_cons, List.range_succ_eq_map, List.filter_cons, List.filter_map]
    cases z : f a with
    | none =>
      rw [List.filterMap_cons_none z, ← ih]
      rw [if_neg (by show ¬ (f a).isSome = true; rw [z]; decide), List.map_map]
      rfl
    | some k =>
      rw [List.filterMap_cons_some z, List.map_cons, ← ih]
      rw [if_pos (by show (f a).isSome = true; rw [z]; rfl), List.map_cons, List.map_map]
      show V.int ((f a).getD 0) :: _ = _
      rw [z]
      rfl
theorem ne_len {α : Type} {r : List α} (h : r ≠ []) : 1 ≤ r.length := by
  cases r with
  | nil => exact absurd rfl h
  | cons a b => rw [List.length_cons]; omega
theorem prevH_in {r : List Int} {n i : Nat} (h : ∀ k ∈ r, 0 ≤ k ∧ k < (n : Int)) (hi : i < r.length) : (0 ≤ prevH r i ∧ prevH r i < (n : Int)) ∧ 0 ≤ r.getD i 0 ∧ r.getD i 0 < (n : Int) := by
  refine ⟨?_, h _ (gD_mem hi)⟩
  unfold prevH
  split
  · exact h _ (gD_mem (by omega))
  · exact h _ (gD_mem (by omega))
theorem fil_one {p : Nat → Bool} {k : Nat} : ∀ n, (∀ i, i < n → p i = decide (i = k)) → (List.range n).filter p = if k < n then [k] else []
  | 0, _ => rfl
  | n + 1, h => by
    rw [List.range_succ, List.filter_append, fil_one n (fun i hi => h i (by omega)), List.filter_cons, List.filter_nil, h n (by omega)]
    by_cases q : n = k
    · subst q
      rw [if_neg (by omega), if_pos (by simp), if_pos (by omega)]
      rfl
    · rw [decide_eq_false q]
      by_cases q2 : k < n
      · rw [if_pos q2, if_pos (show k < n + 1 by omega)]
        rfl
      · rw [if_neg q2, if_neg (show ¬ k < n + 1 by omega)]
        rfl
/-- the one number of hours that leads there -/
theorem hop_fil {n : Nat} {w x : Int} (hn : 1 ≤ n) : ((List.range n).filter fun (i : Nat) => decide ((x + (w + (i : Int))) % (n : Int) = 0)).map (fun (i : Nat) => w + (i : Int)) = [w + (-x - w) % (n : Int)] := by
  have hb := mod_bd hn (-x - w)
  have e : ∀ i : Nat, i < n → ((x + (w + (i : Int))) % (n : Int) = 0 ↔ i = ((-x - w) % (n : Int)).toNat) := fun i hi => by
    have sp := mod_split (n := n) (-x - w)
    constructor
    · intro z
      obtain ⟨q, hq⟩ := Int.dvd_of_emod_eq_zero z
      have : (-x - w) % (n : Int) = (i : Int) := by
        rw [show -x - w = (i : Int) + (n : Int) * (-q) by rw [Int.mul_neg]; omega, Int.add_mul_emod_self_left, Int.emod_eq_of_lt (by omega) (by omega)]
      omega
    · intro z
      refine Int.emod_eq_zero_of_dvd ⟨-((-x - w) / (n : Int)), ?_⟩
      rw [Int.mul_neg]
      omega
  rw [fil_one (k := ((-x - w) % (n : Int)).toNat) n fun i hi => by rw [Bool.eq_iff_iff, decide_eq_true_iff, decide_eq_true_iff]; exact e i hi, if_pos (by omega)]
  show [w + (((-x - w) % (n : Int)).toNat : Int)] = _
  rw [Int.toNat_of_nonneg hb.1]
theorem r_isiLst {K : PySem.W.Frag} {H : Hp} {Q : VK} {a : Addr} {xs : List V} (h : H a = some (.lst xs)) (q : Q (.bl true) H) : rIsi K [.ref a, .ty "list"] H Q := ⟨.ref a, .ty "list", _, _, true, rfl, .ty _, .base (.lst h), kit_ty (by decide +kernel), q⟩
/-- needs as begins: enough -/
def sgA (d : List Int) : Int → Int := fun k => Sg k.toNat (cyc d)
theorem self_enf {s d : List Int} (g : Good s) (hl : d.length = s.length) (nn : ∀ i, 0 ≤ cyc d i) : Enf s d d.sum (sgA d) := by
  have hn := g.ne
  have h0 : sgA d 0 = 0 := rfl
  have hP : sgA d (s.length : Int) = d.sum := by
    show Sg ((s.length : Int)).toNat (cyc d) = d.sum
    rw [Int.toNat_natCast, ← hl, ← sum_cyc]
  have hm : mono s.length (sgA d) := mono_Sg fun j _ => nn _
  refine ⟨h0, hP, hm, enuf_iff.mpr fun h hh => ?_⟩
  rw [th_win g h0 hP]
  have a := ext_step hn h0 hP (h : Int)
  have e : byS s.length (sgA d) = d := by
    unfold sgA
    rw [← row_byS, ← hl, ← row_cyc]
  rw [e] at a
  have b := ext_le hn h0 hP hm (x := (h : Int) + 1 - wd s h) (y := h) (by have := wd_pos g h; omega)
  omega
theorem zero_up (n : Nat) (X : Nat → Int) : ∃ C, ∀ v, 0 ≤ (if v < n then X v else 0) + C := by
  induction n with
  | zero => exact ⟨0, fun v => by rw [if_neg (by omega)]; omega⟩
  | succ n ih =>
    obtain ⟨C, h⟩ := ih
    have hC : 0 ≤ C := by
      have := h n
      rw [if_neg (by omega)] at this
      omega
    refine ⟨C + (if X n < 0 then -X n else 0), fun v => ?_⟩
    by_cases q : v = n
    · rw [q, if_pos (by omega)]
      split <;> omega
    · have := h v
      by_cases q2 : v < n
      · rw [if_pos q2] at this
        rw [if_pos (by omega)]
        split <;> omega
      · rw [if_neg (by omega)]
        split <;> omega
end Hn

/-! Even clocks, plainly (k38). -/
namespace Hn
open PySem
/-- sums spread evenly -/
def flA (n : Nat) (P : Int) : Int → Int := fun k => P * k / (n : Int)
theorem flA_ext {n : Nat} (hn : 1 ≤ n) (P k : Int) : ext n P (flA n P) k = flA n P k := by
  unfold ext flA
  have := mod_split (n := n) k
  have e : P * k = P * (k % (n : Int)) + (n : Int) * (k / (n : Int) * P) := by
    rw [Int.mul_comm (k / (n : Int)) P, Int.mul_left_comm, ← Int.mul_add, ← this]
  rw [e, Int.add_mul_ediv_left _ _ (by omega)]
theorem flA_0 (n : Nat) (P : Int) : flA n P 0 = 0 := by
  unfold flA
  rw [Int.mul_zero, Int.zero_ediv]
theorem flA_n {n : Nat} (hn : 1 ≤ n) (P : Int) : flA n P (n : Int) = P := by
  unfold flA
  exact Int.mul_ediv_cancel _ (by omega)
theorem flA_gap {n : Nat} (hn : 1 ≤ n) {P w c : Int} (h : (n : Int) * c ≤ P * w) (k : Int) : c ≤ flA n P (k + w) - flA n P k := by
  unfold flA
  have a : P * k / (n : Int) * n ≤ P * k := Int.ediv_mul_le _ (by omega)
  have b : P * k / (n : Int) + c ≤ P * (k + w) / (n : Int) := by
    refine (Int.le_ediv_iff_mul_le (by omega)).mpr ?_
    rw [Int.add_mul, Int.mul_add, Int.mul_comm c]
    omega
  omega
theorem even_few {n : Nat} {w c F : Int} (hn : 1 ≤ n) (hn8 : n ≤ 48) (w1 : 1 ≤ w) (wn : w ≤ (n : Int)) (c0 : 0 ≤ c) (h : Few (List.replicate n w) (List.replicate n c) F) : F = upI (n * c) w := by
  have g := Good.const hn hn8 w1 wn
  have len : (List.replicate n w).length = n := List.length_replicate
  obtain ⟨⟨A, hA⟩, hlow⟩ := h
  have lo : (n : Int) * c ≤ F * w := by
    have key : ∀ k : Nat, (k : Int) * c ≤ Sg k (fun h => ext n F A (h + 1) - ext n F A (h + 1 - w)) := by
      intro k
      induction k with
      | zero => show ((0 : Nat) : Int) * c ≤ 0; omega
      | succ k ih =>
        have a := enf_at g hA (k : Int)
        rw [wd_rep hn (by omega) wn, len, cyc_rep hn] at a
        rw [Sg_succ, show ((k + 1 : Nat) : Int) = (k : Int) + 1 by omega, Int.add_mul]
        omega
    have k1 := key n
    have tot : Sg n (fun h => ext n F A (h + 1) - ext n F A (h + 1 - w)) = F * w := by
      have win : ∀ m : Nat, Sg n (fun h => ext n F A (h + 1) - ext n F A (h + 1 - (m : Int))) = F * m := by
        intro m
        induction m with
        | zero =>
          rw [show Sg n (fun h => ext n F A (h + 1) - ext n F A (h + 1 - ((0 : Nat) : Int))) = Sg n (fun _ => 0) from Sg_congr fun i _ _ => by rw [show i + 1 - ((0 : Nat) : Int) = i + 1 by omega]; omega, Sg_zero]
          omega
        | succ m ih =>
          have e : Sg n (fun h => ext n F A (h + 1) - ext n F A (h + 1 - ((m + 1 : Nat) : Int))) = Sg n (fun h => ext n F A (h + 1) - ext n F A (h + 1 - (m : Int))) + Sg n (fun h => ext n F A (h + 1 - (m : Int)) - ext n F A (h - (m : Int))) := by
            rw [← Sg_add]
            exact Sg_congr fun i _ _ => by rw [show i + 1 - ((m + 1 : Nat) : Int) = i - (m : Int) by omega]; omega
          have t : Sg n (fun h => ext n F A (h + 1 - (m : Int)) - ext n F A (h - (m : Int))) = F := by
            have d := Sg_diff n (fun h => ext n F A (h - (m : Int)))
            rw [show Sg n (fun h => ext n F A (h + 1 - (m : Int)) - ext n F A (h - (m : Int))) = Sg n (fun i => ext n F A (i + 1 - (m : Int)) - ext n F A (i - (m : Int))) from rfl, d]
            have p := ext_per (P := F) (A := A) hn (0 - (m : Int)) 1
            rw [show 0 - (m : Int) + (n : Int) * 1 = (n : Int) - (m : Int) by omega] at p
            omega
          rw [e, ih, t, show ((m + 1 : Nat) : Int) = (m : Int) + 1 by omega, Int.mul_add]
          omega
      have := win w.toNat
      rw [show ((w.toNat : Nat) : Int) = w by omega] at this
      exact this
    rw [tot] at k1
    exact k1
  have h1 : upI (n * c) w ≤ F := (upI_le (by omega)).mpr lo
  have P0 : 0 ≤ upI (n * c) w := upI_nn (by omega) (Int.mul_nonneg (by omega) c0)
  have h2 : F ≤ upI (n * c) w := by
    refine hlow _ (flA n (upI (n * c) w)) ?_
    have lw : (n : Int) * c ≤ upI (n * c) w * w := upI_ge (by omega)
    refine ⟨flA_0 _ _, ?_, fun j hj => ?_, enuf_iff.mpr fun h hh => ?_⟩
    · rw [len]; exact flA_n hn _
    · rw [len] at hj
      have := flA_gap (n := n) hn (P := upI (n * c) w) (w := 1) (c := 0) (by rw [Int.mul_zero]; omega) (j : Int)
      omega
    · rw [th_win g (P := upI (n * c) w) (flA_0 _ _) (by rw [len]; exact flA_n hn _), len, flA_ext hn, flA_ext hn, wd_rep hn (by omega) wn, cyc_rep hn]
      have := flA_gap hn lw ((h : Int) + 1 - w)
      rw [show (h : Int) + 1 - w + w = h + 1 by omega] at this
      exact this
  omega
theorem apart_ne {n : Nat} (hn : 1 ≤ n) {w h : Int} {j k : Nat} (w1 : 1 ≤ w) (hjk : j < k) (hk : (k : Int) * w < n) : (h + (j : Int) * w) % (n : Int) ≠ (h + (k : Int) * w) % (n : Int) := fun z => by
  have d : (n : Int) ∣ (h + (j : Int) * w) - (h + (k : Int) * w) := Int.dvd_of_emod_eq_zero (Int.emod_eq_emod_iff_emod_sub_eq_zero.mp z)
  obtain ⟨q, hq⟩ := d
  have a : ((k : Int) - j) * w = -(n * q) := by
    rw [Int.sub_mul]
    omega
  have b1 : 1 * w ≤ ((k : Int) - j) * w := Int.mul_le_mul_of_nonneg_right (by omega) (by omega)
  have b2 : ((k : Int) - j) * w ≤ (k : Int) * w := Int.mul_le_mul_of_nonneg_right (by omega) (by omega)
  rcases Int.lt_or_le q 0 with c | c
  · have : (n : Int) * q ≤ (n : Int) * (-1) := Int.mul_le_mul_of_nonneg_left (by omega) (by omega)
    omega
  · have : 0 ≤ (n : Int) * q := Int.mul_nonneg (by omega) c
    omega
/-- needs at some hours alone -/
structure Apt (n : Nat) (w h : Int) (m : Nat) (a : Int → Int) : Prop where
  nn : ∀ j : Nat, j < n → 0 ≤ a j ∧ a j < 10 ^ 30
  z : ∀ j : Nat, j < n → (∀ k : Nat, k < m → (h + (k : Int) * w) % (n : Int) ≠ (j : Int)) → a j = 0
  su : ((List.range m).map fun (k : Nat) => a ((h + (k : Int) * w) % (n : Int))).sum = Sg n a
theorem apt_start (n : Nat) (w h : Int) : Apt n w h 0 (fun _ => 0) := ⟨fun _ _ => by omega, fun _ _ _ => rfl, by show (0 : Int) = _; rw [Sg_zero]⟩
theorem apt_step {n : Nat} (hn : 1 ≤ n) {w h : Int} {m : Nat} {a : Int → Int} (w1 : 1 ≤ w) (hm : (m : Int) * w < n) (A : Apt n w h m a) {z : Int} (z0 : 0 ≤ z) (z1 : z < 10 ^ 30) : Apt n w h (m + 1) (fun i => if i = (h + (m : Int) * w) % (n : Int) then z else a i) := by
  have hb := mod_bd hn (h + (m : Int) * w)
  obtain ⟨p, hp⟩ : ∃ p : Nat, (p : Int) = (h + (m : Int) * w) % (n : Int) := ⟨((h + (m : Int) * w) % (n : Int)).toNat, by omega⟩
  rw [← hp] at hb ⊢
  have ap : a p = 0 := A.z p (by omega) fun k hk => by
    rw [hp]
    exact apart_ne hn w1 hk hm
  refine ⟨fun j hj => ?_, fun j hj hk => ?_, ?_⟩
  · have := A.nn j hj
    split <;> omega
  · have : (j : Int) ≠ (p : Int) := fun q => hk m (by omega) (by rw [← hp]; exact q.symm)
    show (if (j : Int) = (p : Int) then z else a j) = 0
    rw [if_neg this]
    exact A.z j hj fun k hk' => hk k (by omega)
  · rw [List.range_succ, List.map_append, List.sum_append]
    have e1 : ((List.range m).map fun (k : Nat) => (fun i => if i = (p : Int) then z else a i) ((h + (k : Int) * w) % (n : Int))) = (List.range m).map fun (k : Nat) => a ((h + (k : Int) * w) % (n : Int)) := by
      refine List.map_congr_left fun k hk => ?_
      have hk := List.mem_range.mp hk
      show (if (h + (k : Int) * w) % (n : Int) = (p : Int) then z else _) = _
      rw [if_neg]
      rw [hp]
      exact apart_ne hn w1 hk hm
    rw [e1, A.su]
    have e2 : Sg n (fun i => if i = (p : Int) then z else a i) = Sg n a + z := by
      have : Sg n (fun i => if i = (p : Int) then z else a i) = Sg n (fun i => a i + if i = (p : Int) then z else 0) := Sg_congr fun i _ _ => by
        by_cases q : i = (p : Int)
        · rw [if_pos q, if_pos q, q, ap]
          omega
        · rw [if_neg q, if_neg q]
          omega
      rw [this, Sg_add, Sg_one (by omega) (fun _ => z)]
    rw [e2]
    show Sg n a + ((if (h + (m : Int) * w) % (n : Int) = (p : Int) then z else a ((h + (m : Int) * w) % (n : Int))) + 0) = _
    rw [if_pos hp.symm]
    omega
theorem apt_few {n : Nat} {w h F : Int} {m : Nat} {a : Int → Int} (hn : 1 ≤ n) (hn8 : n ≤ 48) (w1 : 1 ≤ w) (wn : w ≤ (n : Int)) (hm1 : 1 ≤ m) (hmw : (m : Int) * w ≤ n) (wd1 : wnd (List.replicate n w) ((List.range m).map fun (k : Nat) => (h + (k : Int) * w) % (n : Int)) = 1) (A : Apt n w h m a) (hF : Few (List.replicate n w) (rowOf n a) F) : F = (rowOf n a).sum := by
  have g := Good.const hn hn8 w1 wn
  have len : (List.replicate n w).length = n := List.length_replicate
  have nn : ∀ i, 0 ≤ cyc (rowOf n a) i := fun i => by
    rw [cyc_rowOf a hn]
    have hb := mod_bd hn i
    have := (A.nn (i % (n : Int)).toNat (by omega)).1
    rw [Int.toNat_of_nonneg hb.1] at this
    exact this
  have h1 := hF.2 _ _ (self_enf g (by rw [rowOf_length, len]) nn)
  obtain ⟨B, hB⟩ := hF.1
  have h2 := (ring_le (r := (List.range m).map fun (k : Nat) => (h + (k : Int) * w) % (n : Int)) g hB (by
    intro z
    have := congrArg List.length z
    rw [List.length_map, List.length_range] at this
    simp at this
    omega) (by
    intro k hk
    rw [len]
    obtain ⟨j, _, rfl⟩ := List.mem_map.mp hk
    exact mod_bd hn _)).1
  rw [wd1] at h2
  have e : sumD (rowOf n a) ((List.range m).map fun (k : Nat) => (h + (k : Int) * w) % (n : Int)) = (rowOf n a).sum := by
    unfold sumD
    rw [List.map_map, sum_row, ← A.su]
    congr 1
    refine List.map_congr_left fun k _ => ?_
    show cyc (rowOf n a) ((h + (k : Int) * w) % (n : Int)) = _
    rw [cyc_rowOf a hn, Int.emod_emod_of_dvd _ (Int.dvd_refl _)]
  omega
/-- hours a stay apart -/
def apartH (n : Nat) (w h : Int) (m : Nat) : List Int := (List.range m).map fun (k : Nat) => (h + (k : Int) * w) % (n : Int)
theorem apartH_succ (n : Nat) (w h : Int) (m : Nat) : apartH n w h (m + 1) = apartH n w h m ++ [(h + (m : Int) * w) % (n : Int)] := by
  unfold apartH
  rw [List.range_succ, List.map_append]
  rfl
theorem apart_in {n : Nat} (hn : 1 ≤ n) (w h : Int) (m : Nat) : ∀ k ∈ apartH n w h m, 0 ≤ k ∧ k < (n : Int) := fun k hk => by
  obtain ⟨j, _, rfl⟩ := List.mem_map.mp hk
  exact mod_bd hn _
theorem stp_apart {n : Nat} {w : Int} (hn : 1 ≤ n) (w1 : 1 ≤ w) (wn : w ≤ (n : Int)) (x : Int) : stp (List.replicate n w) (x % (n : Int)) ((x + w) % (n : Int)) = w := by
  unfold stp
  rw [wd_rep hn (by omega) wn, List.length_replicate]
  have : ((x + w) % (n : Int) - w - x % (n : Int)) % (n : Int) = 0 := by
    have a := mod_split (n := n) (x + w)
    have b := mod_split (n := n) x
    have : (x + w) % (n : Int) - w - x % (n : Int) = 0 + (n : Int) * (x / (n : Int) - (x + w) / (n : Int)) := by
      rw [Int.mul_sub]
      omega
    rw [this, Int.add_mul_emod_self_left, Int.zero_emod]
  omega
theorem hops_app {s : List Int} : ∀ (r : List Int) (h k : Int), hops s h (r ++ [k]) = hops s h r + stp s (lastH h r) k
  | [], h, k => by
    show stp s h k + 0 = 0 + stp s h k
    omega
  | x :: r, h, k => by
    show stp s h x + hops s x (r ++ [k]) = stp s h x + hops s x r + stp s (lastH x r) k
    rw [hops_app r x k]
    omega
theorem lastH_app : ∀ (r : List Int) (h k : Int), lastH h (r ++ [k]) = k
  | [], _, _ => rfl
  | x :: r, _, k => lastH_app r x k
theorem apart_hops {n : Nat} {w : Int} (hn : 1 ≤ n) (w1 : 1 ≤ w) (wn : w ≤ (n : Int)) (h : Int) (y : Int) : ∀ m : Nat, hops (List.replicate n w) y (apartH n w h (m + 1)) = stp (List.replicate n w) y (h % (n : Int)) + m * w ∧ lastH y (apartH n w h (m + 1)) = (h + (m : Int) * w) % (n : Int)
  | 0 => by
    show stp (List.replicate n w) y ((h + ((0 : Nat) : Int) * w) % (n : Int)) + 0 = _ ∧ (h + ((0 : Nat) : Int) * w) % (n : Int) = _
    rw [show h + ((0 : Nat) : Int) * w = h by rw [show ((0 : Nat) : Int) * w = 0 from Int.zero_mul w]; omega]
    exact ⟨by rw [show ((0 : Nat) : Int) * w = 0 from Int.zero_mul w], rfl⟩
  | m + 1 => by
    obtain ⟨a, b⟩ := apart_hops hn w1 wn h y m
    rw [apartH_succ n w h (m + 1), hops_app, a, b, lastH_app]
    have := stp_apart hn w1 wn (h + (m : Int) * w)
    rw [show h + (m : Int) * w + w = h + ((m + 1 : Nat) : Int) * w by rw [show ((m + 1 : Nat) : Int) = (m : Int) + 1 by omega, Int.add_mul]; omega] at this
    rw [this]
    refine ⟨?_, rfl⟩
    rw [show ((m + 1 : Nat) : Int) = (m : Int) + 1 by omega, Int.add_mul]
    omega
theorem apart_wnd {n : Nat} {w : Int} (hn : 1 ≤ n) (hn8 : n ≤ 48) (w1 : 1 ≤ w) (wn : w ≤ (n : Int)) (h : Int) {m : Nat} (hm : 1 ≤ m) (hmw : (m : Int) * w ≤ (n : Int)) : wnd (List.replicate n w) (apartH n w h m) = 1 := by
  obtain ⟨m, rfl⟩ : ∃ k, m = k + 1 := ⟨m - 1, by omega⟩
  have g := Good.const hn hn8 w1 wn
  obtain ⟨_, b⟩ := apart_hops hn w1 wn h 0 m
  unfold wnd
  rw [b]
  obtain ⟨a, _⟩ := apart_hops hn w1 wn h ((h + (m : Int) * w) % (n : Int)) m
  rw [a, List.length_replicate]
  have hmw' : (m : Int) * w + w ≤ n := by
    rw [show ((m + 1 : Nat) : Int) = (m : Int) + 1 by omega, Int.add_mul] at hmw
    omega
  have m0 : 0 ≤ (m : Int) * w := Int.mul_nonneg (by omega) (by omega)
  have st : stp (List.replicate n w) ((h + (m : Int) * w) % (n : Int)) (h % (n : Int)) = n - m * w := by
    unfold stp
    rw [wd_rep hn (by omega) wn, List.length_replicate]
    have e : (h % (n : Int) - w - (h + (m : Int) * w) % (n : Int)) % (n : Int) = n - m * w - w := by
      have a := mod_split (n := n) (h + (m : Int) * w)
      have b := mod_split (n := n) h
      have : h % (n : Int) - w - (h + (m : Int) * w) % (n : Int) = (n - m * w - w) + (n : Int) * ((h + (m : Int) * w) / (n : Int) - h / (n : Int) - 1) := by
        rw [Int.mul_sub, Int.mul_sub]
        omega
      rw [this, Int.add_mul_emod_self_left]
      exact Int.emod_eq_of_lt (by omega) (by omega)
    rw [e]
    omega
  rw [st, show (n : Int) - m * w + m * w = n by omega]
  exact Int.ediv_self (by omega)
theorem stp_next {n : Nat} {w h : Int} (hn : 1 ≤ n) (w1 : 1 ≤ w) (wn : w ≤ (n : Int)) (h0 : 0 ≤ h) (h1 : h < (n : Int)) : stp (List.replicate n w) h ((h + 1) % (n : Int)) = if w = 1 then 1 else n + 1 := by
  unfold stp
  rw [wd_rep hn (by omega) wn, List.length_replicate]
  have a := mod_split (n := n) (h + 1)
  split
  · rename_i q
    have : (h + 1) % (n : Int) - w - h = 0 + (n : Int) * (-((h + 1) / (n : Int))) := by
      rw [Int.mul_neg]
      omega
    rw [this, Int.add_mul_emod_self_left, Int.zero_emod]
    omega
  · rename_i q
    have : (h + 1) % (n : Int) - w - h = (n + 1 - w) + (n : Int) * (-((h + 1) / (n : Int)) - 1) := by
      rw [Int.mul_sub, Int.mul_neg]
      omega
    rw [this, Int.add_mul_emod_self_left, Int.emod_eq_of_lt (by omega) (by omega)]
    omega
end Hn

/-! An end by a Hook of our own: facts as truths over a part of the heap, defs by where they stand. -/
namespace Hn
open PySem PySem.Spec PyProof.Rows L2 Evl
/-- a def: where it stands, its names, its statement -/
structure DefH where
  adr : PySem.W.Frag → Addr
  name : Str
  qual : Str
  st : Stmt
def fnA (K : PySem.W.Frag) (a : Addr) : He.FnW := match K.lookup a with
  | some ⟨_, _, .func fd, _⟩ => some (fd.name, fd.qualname, fd.params, fd.body, fd.scope, fd.globals, fd.closure, fd.builtins)
  | _ => none
def DefH.val (d : DefH) : He.FnW := some (d.name, d.qual, defArgs d.st, .stmts (defBody d.st), defScope d.st, mainGlobals, [], builtinsNs)
def nonV : Value → Bool
  | .none => true
  | _ => false
def DefH.ok (K : PySem.W.Frag) (d : DefH) : Bool := PySem.W.keepIn K (.ref (d.adr K)) && (match K.lookup (d.adr K) with
  | some ⟨_, _, .func fd, _⟩ => PySem.W.codeIn K fd.code d.qual && nonV fd.defaults
  | _ => false)
theorem DefH.fun_ {K : PySem.W.Frag} {d : DefH} (e : fnA K (d.adr K) = d.val) (c : d.ok K = true) : ∃ (oc : Value) (od : Option Addr) (kV doc pm : Value) (an : Option Addr) (cdv ct : Value) (osl : Array (Option Value)),
    K.lookup (d.adr K) = some ⟨oc, od, .func (PySem.W.fnOf d.name d.qual (defArgs d.st) (defBody d.st) (defScope d.st) .none kV doc pm an cdv ct), osl⟩ ∧ PySem.W.codeIn K cdv d.qual = true ∧ PySem.W.keepIn K (.ref (d.adr K)) = true := by
  obtain ⟨kp, c2⟩ := He.ba c
  unfold fnA at e
  cases q : K.lookup (d.adr K) with
  | none =>
    rw [q] at c2
    cases c2
  | some o =>
    obtain ⟨oc, od, dt, osl⟩ := o
    rw [q] at c2 e
    cases dt with
    | func fd =>
      obtain ⟨n1, n2, n3, n4, n5, n6, n7, n8, n9, n10, n11, n12, n13, n14, n15⟩ := fd
      have e2 : (some (n1, n2, n3, n4, n5, n6, n7, n15) : He.FnW) = some (d.name, d.qual, defArgs d.st, .stmts (defBody d.st), defScope d.st, mainGlobals, [], builtinsNs) := e
      simp only [Option.some.injEq, Prod.mk.injEq] at e2
      obtain ⟨h1, h2, h3, h4, h5, h6, h7, h8⟩ := e2
      subst h1 h2 h3 h4 h5 h6 h7 h8
      have c3 : (PySem.W.codeIn K n13 d.qual && nonV n8) = true := c2
      obtain ⟨k1, k2⟩ := He.ba c3
      cases n8 with
      | none => exact ⟨oc, od, n9, n10, n11, n12, n13, n14, osl, rfl, k1, kp⟩
      | _ => cases k2
    | _ => cases c2
def obsH (fa : List (PySem.W.Frag → Bool)) (fn : List DefH) (K : PySem.W.Frag) : He.AlD := ((fa.all fun f => f K) && fn.all fun d => d.ok K, fn.map fun d => fnA K (d.adr K))
def valH (fn : List DefH) : He.AlD := (true, fn.map DefH.val)
def SaysH (fa : List (PySem.W.Frag → Bool)) (fn : List DefH) (K : PySem.W.Frag) : Prop := obsH fa fn K = valH fn
/-- what a record (a property, a staticmethod) holds first -/
def rcA (K : PySem.W.Frag) (a : Addr) (t : String) : Addr := match PySem.W.recIn K a t with
  | some (.ref b :: _) => b
  | _ => 0
def rcB (K : PySem.W.Frag) (a : Addr) (t : String) : Bool := match PySem.W.recIn K a t with
  | some (.ref _ :: _) => true
  | _ => false
/-- a class's method that is a staticmethod -/
def stA (K : PySem.W.Frag) (C : Addr) (m : Str) : Addr := match PySem.W.findCls K (.ref C) (.type "type") m with
  | some (.get _ (.ref p) _ _) => p
  | _ => 0
/-- the code of a function -/
def cdA (g : Addr → Option Obj) (a : Addr) : List Addr := match g a with
  | some ⟨_, _, .func fd, _⟩ => He.refV fd.code
  | _ => []
/-- what a class names: its dict and its bases -/
def clA (g : Addr → Option Obj) (a : Addr) : List Addr := match g a with
  | some ⟨_, _, .cls cd, _⟩ => cd.ns :: cd.mro.flatMap He.refV
  | _ => []
/-- the objects that facts by names speak of: globals gs, of them the classes cs; methods ms; properties ps and staticmethods ss -/
def asH (gs cs : List Str) (ms ps ss : List (Str × Str)) (g : Addr → Option Obj) : List Addr :=
  let K0 := He.frG g [mainGlobals]
  let a1 := gs.map (He.ga K0)
  let c1 := cs.map (He.ga K0)
  let a2 := c1.flatMap (clA g)
  let K2 := He.frG g (mainGlobals :: c1 ++ a2)
  let a3 := ms.map fun q => He.ma K2 (He.ga K2 q.1) q.2
  let p3 := ps.map fun q => He.ma K2 (He.ga K2 q.1) q.2
  let s3 := ss.map fun q => stA K2 (He.ga K2 q.1) q.2
  let K3 := He.frG g (p3 ++ s3)
  let a4 := p3.map fun a => rcA K3 a "property"
  let b4 := s3.map fun a => rcA K3 a "staticmethod"
  mainGlobals :: c1 ++ a2 ++ a3 ++ p3 ++ s3 ++ a4 ++ b4 ++ a1 ++ a3.flatMap (cdA g) ++ a4.flatMap (cdA g) ++ b4.flatMap (cdA g) ++ a1.flatMap (cdA g)
def obsHG (as : (Addr → Option Obj) → List Addr) (fa : List (PySem.W.Frag → Bool)) (fn : List DefH) (g : Addr → Option Obj) : He.AlD := obsH fa fn (He.frG g (as g))
def hookH (as : (Addr → Option Obj) → List Addr) (fa : List (PySem.W.Frag → Bool)) (fn : List DefH) : PySem.W.Hook where
  α := He.AlD
  obs := fun s => obsHG as fa fn s.heap.get?
  val := fun _ => valH fn
  says := fun _ h => ∃ K : PySem.W.Frag, K.In h ∧ SaysH fa fn K
  of := fun _ _ e => ⟨_, He.frG_in, e⟩
  keeps := fun _ _ _ ⟨K, hK, c⟩ k => ⟨K, PySem.W.Frag.In.keeps hK k, c⟩
theorem obsHG_eq {as : (Addr → Option Obj) → List Addr} {fa : List (PySem.W.Frag → Bool)} {fn : List DefH} {g : Addr → Option Obj} {s : Shared} (h : ∀ a, g a = s.heap.get? a) : obsHG as fa fn g = (hookH as fa fn).obs s := by
  have e : g = s.heap.get? := funext h
  rw [e] <;> rfl
section
variable {fa : List (PySem.W.Frag → Bool)} {fn : List DefH} {K : PySem.W.Frag}
theorem SaysH.all (c : SaysH fa fn K) : (fa.all fun f => f K) = true := (He.ba (show ((fa.all fun f => f K) && fn.all fun d => d.ok K) = true from congrArg (fun z : He.AlD => z.1) c)).1
theorem SaysH.fact (c : SaysH fa fn K) (i : Nat) {f : PySem.W.Frag → Bool} (h : fa[i]? = some f := by rfl) : f K = true := List.all_eq_true.mp c.all f (List.mem_of_getElem? h)
theorem SaysH.def_ (c : SaysH fa fn K) (i : Nat) {d : DefH} (h : fn[i]? = some d := by rfl) : ∃ (oc : Value) (od : Option Addr) (kV doc pm : Value) (an : Option Addr) (cdv ct : Value) (osl : Array (Option Value)),
    K.lookup (d.adr K) = some ⟨oc, od, .func (PySem.W.fnOf d.name d.qual (defArgs d.st) (defBody d.st) (defScope d.st) .none kV doc pm an cdv ct), osl⟩ ∧ PySem.W.codeIn K cdv d.qual = true ∧ PySem.W.keepIn K (.ref (d.adr K)) = true := by
  have c2 := (He.ba (show ((fa.all fun f => f K) && fn.all fun d => d.ok K) = true from congrArg (fun z : He.AlD => z.1) c)).2
  have e : fn.map (fun d => fnA K (d.adr K)) = fn.map DefH.val := congrArg (fun z : He.AlD => z.2) c
  have e2 : (fn.map fun d => fnA K (d.adr K))[i]? = (fn.map DefH.val)[i]? := by rw [e]
  rw [List.getElem?_map, List.getElem?_map, h] at e2
  exact DefH.fun_ (Option.some.inj e2) (List.all_eq_true.mp c2 d (List.mem_of_getElem? h))
end
theorem rcB_ok {K : PySem.W.Frag} {a : Addr} {t : String} (h : rcB K a t = true) : ∃ rest, PySem.W.recIn K a t = some (.ref (rcA K a t) :: rest) := by
  unfold rcB at h
  unfold rcA
  cases e : PySem.W.recIn K a t with
  | none => rw [e] at h; cases h
  | some l =>
    rw [e] at h
    cases l with
    | nil => cases h
    | cons v r =>
      cases v with
      | ref b => exact ⟨r, rfl⟩
      | _ => cases h
def stB (K : PySem.W.Frag) (C : Addr) (m : Str) : Bool := match PySem.W.findCls K (.ref C) (.type "type") m with
  | some (.get (.builtin b) (.ref _) .none (.ref c)) => decide (b = "staticmethod.__get__") && decide (c = C)
  | _ => false
theorem stB_ok {K : PySem.W.Frag} {C : Addr} {m : Str} (h : stB K C m = true) : PySem.W.findCls K (.ref C) (.type "type") m = some (.get (.builtin "staticmethod.__get__") (.ref (stA K C m)) .none (.ref C)) := by
  unfold stB at h
  unfold stA
  split at h
  · rename_i b p c e
    obtain ⟨h1, h2⟩ := He.ba h
    obtain rfl : b = "staticmethod.__get__" := of_decide_eq_true h1
    obtain rfl : c = C := of_decide_eq_true h2
    rw [e]
  · cases h
/-- some value is told -/
def soB (x : Option (Option Value)) : Bool := x.isSome
theorem soB_ok {x : Option (Option Value)} (h : soB x = true) : ∃ o, x = some o := by
  cases x with
  | none => cases h
  | some o => exact ⟨o, rfl⟩
def itB (x : Option (Option Value)) (i : Int) : Bool := match x with
  | some (some (.int j _)) => decide (j = i)
  | _ => false
theorem itB_ok {x : Option (Option Value)} {i : Int} (h : itB x i = true) : ∃ t, x = some (some (.int i t)) := by
  unfold itB at h
  split at h
  · rename_i j t
    obtain rfl : j = i := of_decide_eq_true h
    exact ⟨t, rfl⟩
  · cases h
def sxB (x : Option (Option Value)) (i : Str) : Bool := match x with
  | some (some (.str j _)) => decide (j = i)
  | _ => false
theorem sxB_ok {x : Option (Option Value)} {i : Str} (h : sxB x i = true) : ∃ t, x = some (some (.str i t)) := by
  unfold sxB at h
  split at h
  · rename_i j t
    obtain rfl : j = i := of_decide_eq_true h
    exact ⟨t, rfl⟩
  · cases h
theorem dok {p : Prop} [Decidable p] (h : decide p = true) : p := of_decide_eq_true h
/-- a law that may ask repr, over a part of the heap that is told by facts -/
theorem walkGE {l : PySem.W.OpenLaw} {n k : Nat} {q : Program} {loose : List Str} {XP : (Str → Option Value) → Heap → Prop} {YP : World → Heap → Prop} {d : DefRec} {x : Str}
    (most : l.most = some n) (line : n ≤ sizeLine) (nodf : d.params.defaults = []) (room : Room k callerA)
    (F : ∀ (w : World) (mg : Str → Option Value) (fa : Addr) (h : Heap), YP w h → h.Ns mainGlobals mg → mg d.name = some (.ref fa) → ∃ (K : PySem.W.Frag) (sp : Sp), K.In h ∧ (∀ (H : Hp) (a : Addr) (ns : List Int), ns.length ≤ n → SqL K H a (ns.map V.int) → sp [.ref a] H (fun v _ => v = .bl true) E0) ∧
      ∀ base : Heap, K.In base → base.Ns mainGlobals mg → OkP NoG l.prog w K mg base k fa [x] sp) : PySem.W.WalkO q loose XP YP l.row.toRowW d [] (fun f vs => PySem.call f vs) := by
  refine Att.attach_call most nodf fun w s₀ s₁ mg mb fa o pm cd doc a vs ns G Y _ _ _ hmg obj inn len gens => ?_
  obtain ⟨K, sp, kX, hsp, hF⟩ := F w mg fa _ Y G.T.g hmg
  exact head_law kX G.T.g G.T.b G.T.builtins G.T.nolimit gens obj inn (Nat.le_trans len line) room hF fun H hS => hsp H a ns len hS
end Hn
namespace L2
open PySem PySem.Spec PyProof.Rows
/-- walk_ofE, where the promise may let errors out (none leaves) -/
theorem walk_ofX {l : PySem.W.OpenLaw} {n k : Nat} {q : Program} {loose : List Str} {XP : (Str → Option Value) → Heap → Prop} {YP : World → Heap → Prop} {d : DefRec} {x : Str}
    (hn : l.most = some n) (hn2 : n ≤ sizeLine) (hdf : d.params.defaults = []) (hr : Room k callerA)
    (F : ∀ (w : World) (mg : Str → Option Value) (fa : Addr) (h : Heap), YP w h → h.Ns mainGlobals mg → mg d.name = some (.ref fa) →
      ∃ (K : PySem.W.Frag) (fd : FuncData) (sp : Sp), K.In h ∧ (∀ (s : Shared) (u : Value), BindsTo s fd ⟨[u], []⟩ [(x, u)]) ∧
        (∀ (H : Hp) (a : Addr) (ns : List Int), ns.length ≤ n → Only H → SqL K H a (ns.map V.int) → sp [.ref a] H (fun v _ => v = .bl true) fun _ _ _ => False) ∧
        ∀ base : Heap, K.In base → base.Ns mainGlobals mg → FnOk l.prog w K mg base (L2.CX l.prog w) k fa fd [x] sp) :
    PySem.W.WalkO q loose XP YP l.row.toRowW d [] (fun f vs => PySem.call f vs) := by
  refine Att.attach_call hn hdf fun w s₀ s₁ mg mb fa o pm cd doc a vs ns G Y ho hd hcd hmg hobj hints hlen hg => ?_
  obtain ⟨K, fd, sp, KX, hb, hsp, hF⟩ := F w mg fa _ Y G.T.g hmg
  exact law_call KX G.T.g G.T.b G.T.builtins G.T.nolimit hg hobj hints (Nat.le_trans hlen hn2) hr hF hb (fun H hO hS => hsp H a ns hlen hO hS) fun H e s' z => by
    obtain ⟨_, _, _, _, _, _, _, _, _, _, _, _, z⟩ := z
    exact z
end L2

namespace Pf
open PySem PySem.Spec PyProof.Rows L2 Evl Hn
local macro_rules | `(tactic| walk_at "rd") => `(tactic| repeat (first
  | with_reducible refine r_raiseE ?_
  | with_reducible refine r_callY ?_
  | with_reducible refine r_makeY ?_
  | with_reducible refine r_methY ?_
  | with_reducible refine r_exF ?_
  | with_reducible refine r_m1 ?_
  | with_reducible refine r_isS ?_
  | with_reducible refine r_break ?_
  | with_reducible refine r_cont ?_
  | with_reducible refine r_listZip ?_
  | with_reducible refine r_smeth ?_
  | with_reducible refine r_isC ?_
  | with_reducible refine r_lstRg ?_
  | with_reducible refine r_rg1 ?_
  | with_reducible refine r_seq ?_
  | with_reducible refine r_next ?_
  | with_reducible refine r_asg ?_
  | with_reducible refine r_name ?_
  | with_reducible refine r_ret ?_
  | with_reducible refine r_retN ?_
  | with_reducible refine r_drop ?_
  | with_reducible refine r_ifS ?_
  | with_reducible refine r_test ?_
  | with_reducible refine r_B ?_
  | with_reducible refine r_and ?_
  | with_reducible refine r_or ?_
  | with_reducible refine r_not ?_
  | with_reducible refine r_andV ?_
  | with_reducible refine r_orV ?_
  | with_reducible refine r_notV ?_
  | with_reducible refine r_if ?_
  | with_reducible refine r_c ?_
  | with_reducible refine r_op ?_
  | with_reducible refine r_un ?_
  | with_reducible refine r_chain ?_
  | with_reducible refine r_lst ?_
  | with_reducible refine r_tup ?_
  | with_reducible refine r_nil ?_
  | with_reducible refine r_cons ?_
  | with_reducible refine r_call ?_
  | with_reducible refine r_meth ?_
  | with_reducible refine r_make ?_
  | with_reducible refine r_prop ?_
  | with_reducible refine r_cb ?_
  | with_reducible refine r_bm ?_
  | with_reducible refine r_bm0 ?_
  | with_reducible refine r_sl ?_
  | with_reducible refine r_noPart ?_
  | with_reducible refine r_part ?_
  | with_reducible refine r_int1 ?_
  | with_reducible refine r_bl1 ?_
  | with_reducible refine r_revL ?_
  | with_reducible refine r_lc ?_
  | with_reducible refine r_par ?_
  | with_reducible refine r_par3 ?_
  | with_reducible refine r_two ?_
  | with_reducible refine r_three ?_
  | with_reducible refine r_augS ?_
  | with_reducible refine r_sub ?_
  | with_reducible refine r_fld ?_
  | with_reducible refine r_sfld ?_
  | with_reducible refine r_iList ?_
  | with_reducible refine r_iTup ?_
  | with_reducible refine r_iRng1 ?_
  | with_reducible refine r_iRng2 ?_
  | with_reducible refine r_iEnum ?_
  | with_reducible refine r_iZip ?_
  | with_reducible refine r_iZipA ?_
  | with_reducible refine r_iSeq ?_
  | with_reducible refine r_iOwn ?_
  | with_reducible refine r_iEnumS ?_
  | with_reducible refine r_revT ?_
  | with_reducible refine r_ixO ?_
  | with_reducible refine r_yes ?_
  | with_reducible refine r_for ?_
  | with_reducible refine r_I0 ?_
  | with_reducible refine r_U ?_
  | with_reducible refine r_eqI ?_
  | with_reducible refine r_neI ?_
  | with_reducible refine r_eqB ?_
  | with_reducible refine r_neB ?_
  | with_reducible refine r_eqS ?_
  | with_reducible refine r_neS ?_
  | with_reducible refine r_ipI ?_
  | with_reducible refine r_abs ?_
  | with_reducible refine r_intP ?_
  | with_reducible refine r_intB ?_
  | with_reducible refine r_min2 ?_
  | with_reducible refine r_max2 ?_
  | with_reducible refine r_isNi ?_
  | with_reducible refine r_isNr ?_
  | with_reducible refine r_isNn ?_
  | with_reducible refine r_notNi ?_
  | with_reducible refine r_notNr ?_
  | with_reducible refine r_notNn ?_
  | with_reducible refine r_call1 ?_
  | (with_reducible refine' r_var ?hv ?_); (case hv => exact rfl)
  | (with_reducible refine' r_aug ?hv ?_); (case hv => exact rfl)
  | (with_reducible refine r_wipe ?hv ?_); (case hv => exact rfl)
  | (with_reducible refine r_I ?hv ?_); (case hv => (first | (show (0 : Int) < _; omega) | exact Or.inl ⟨by omega, by omega⟩ | exact Or.inr ⟨by omega, by omega⟩ | exact ⟨by omega, by omega⟩ | exact ⟨by omega, by omega, by decide⟩))
  | (with_reducible refine r_range1 ?hv ?hw ?_); (case hv => omega); (case hw => omega)))
local macro_rules | `(tactic| walk_at "ex") => `(tactic| first
  | assumption
  | exact Ex.refl _
  | exact Ex.new (by assumption)
  | (refine Ex.trans ?_ (Ex.new (by assumption)); walk_at "ex")
  | (refine Ex.mut ?_ (by walk_at "fr"); walk_at "ex")
  | (refine Ex.trans ?_ (by assumption); walk_at "ex"))
local macro_rules | `(tactic| walk_at "xl") => `(tactic| first
  | exact Xl.refl _
  | (refine Xl.trans ?_ (Xl.of (by assumption)); walk_at "xl")
  | (refine Xl.trans ?_ (Xl.of (Ex.new (by assumption))); walk_at "xl")
  | (refine Xl.trans ?_ (Xl.set (by assumption)); walk_at "xl")
  | (refine Xl.trans ?_ (Xl.set (by walk_at "kn")); walk_at "xl"))
local macro_rules | `(tactic| walk_at "fr") => `(tactic| first
  | assumption
  | (refine fresh_back ?_ (by assumption); walk_at "ex"))
local macro_rules | `(tactic| walk_at "kn") => `(tactic| first
  | assumption
  | exact upd_same
  | (refine mv_bag (by assumption) ?_; walk_at "xl")
  | (refine mv_rw (by assumption) ?_; walk_at "xl")
  | (refine mv_ps (by assumption) ?_; walk_at "xl")
  | (refine mv_clk (by assumption) ?_; walk_at "xl")
  | (refine mv_sqL (by assumption) ?_; walk_at "ex")
  | (refine mv_sqT (by assumption) ?_; walk_at "ex")
  | (refine mv_at (by assumption) ?_; walk_at "ex")
  | (refine' mv_at upd_same ?hk; (case hk => walk_at "ex"))
  | (refine' at_sqL ?hk; (case hk => walk_at "kn"))
  | (refine' at_sqT ?hk; (case hk => walk_at "kn"))
  | (refine mv_sq (by assumption) ?_; walk_at "ex")
  | (refine' sqL_sq ?hk; (case hk => walk_at "kn"))
  | (refine' sqT_sq ?hk; (case hk => walk_at "kn"))
  | (refine' ps_rw ?hk; (case hk => walk_at "kn")))

def top (i : Nat) : Stmt := PySem.Challenge.pw_hourneeds_k33_fewest_with_both_papers.main.body.getD i (.Pass ⟨0, 0, 0, 0⟩)
abbrev s__law_bag : Stmt := top 53
abbrev s__law_take : Stmt := top 54
abbrev s__law_number : Stmt := top 56
abbrev s__law_numbers : Stmt := top 61
abbrev s__law_wants : Stmt := top 66
abbrev s__law_stays : Stmt := top 57
abbrev s_is_integer : Stmt := top 10
abbrev s_are_stays : Stmt := top 19
abbrev s_need_order : Stmt := top 20
abbrev s_width_of : Stmt := top 21
abbrev s_Clock___init__ : Stmt := inClass (top 22) 0
abbrev s__law_clock : Stmt := top 65
abbrev s__law_mixed : Stmt := top 55
abbrev s_Clock_stays : Stmt := inClass (top 22) 3
abbrev s_Clock_hours : Stmt := inClass (top 22) 1
abbrev s_Needs_hours : Stmt := inClass (top 26) 1
abbrev s_need_alike : Stmt := top 33
abbrev s_Clock_widths : Stmt := inClass (top 22) 4
abbrev s_is_hour : Stmt := top 12
abbrev s_Needs___getitem__ : Stmt := inClass (top 26) 8
abbrev s_need_edges : Stmt := top 46
abbrev s_Needs___len__ : Stmt := inClass (top 26) 6
abbrev s_Needs___iter__ : Stmt := inClass (top 26) 7
abbrev s_gain_of : Stmt := top 38
abbrev s_further : Stmt := top 39
abbrev s_closed_at : Stmt := top 40
abbrev s_gaining : Stmt := top 41
abbrev s_common : Stmt := top 13
abbrev s_fraction_of : Stmt := top 14
abbrev s_turn_of : Stmt := top 43
abbrev s_worth_of : Stmt := top 44
abbrev s_best_ring : Stmt := top 47
abbrev s_ring_for : Stmt := top 49
abbrev s_is_count : Stmt := top 11
abbrev s_are_counts : Stmt := top 15
abbrev s_is_row : Stmt := top 24
abbrev s_Needs___init__ : Stmt := inClass (top 26) 0
abbrev s_Plan___len__ : Stmt := inClass (top 31) 13
abbrev s_Plan___iter__ : Stmt := inClass (top 31) 14
abbrev s_up : Stmt := top 16
abbrev s_step_hours : Stmt := top 34
abbrev s_winds : Stmt := top 35
abbrev s_ring_bound : Stmt := top 36
abbrev s_fewest : Stmt := top 48
abbrev s_enough : Stmt := top 50
abbrev s_Plan___init__ : Stmt := inClass (top 31) 0
abbrev s_plan_of : Stmt := top 45
abbrev s_settled : Stmt := top 42
abbrev s_plan_for : Stmt := top 51
abbrev s_Plan___eq__ : Stmt := inClass (top 31) 19
abbrev s__law_is_whole : Stmt := top 62
abbrev s__law_is_count : Stmt := top 63
abbrev s__law_serving : Stmt := top 58
abbrev s__law_there : Stmt := top 59
abbrev s__law_serves : Stmt := top 71
abbrev s__law_is_hour : Stmt := top 64
abbrev s__law_is_ring : Stmt := top 70
abbrev s__law_hop : Stmt := top 67
abbrev s__law_wound : Stmt := top 68
abbrev s__law_bound_of : Stmt := top 69
abbrev s__law_shown : Stmt := top 72
abbrev s__law_alike : Stmt := top 60
abbrev s__law_papers_right : Stmt := top 73
abbrev s_law : Stmt := top 74
/-- where the defs and classes stand -/
structure Ads where
  c_Clock : Addr
  c_Needs : Addr
  c_Plan : Addr
  f__law_bag : Addr
  f__law_take : Addr
  f__law_number : Addr
  f__law_numbers : Addr
  f__law_wants : Addr
  f__law_stays : Addr
  f_is_integer : Addr
  f_are_stays : Addr
  f_need_order : Addr
  f_width_of : Addr
  f_Clock___init__ : Addr
  f__law_clock : Addr
  f__law_mixed : Addr
  f_Clock_stays : Addr
  f_Clock_hours : Addr
  q_Clock_hours : Addr
  f_Needs_hours : Addr
  q_Needs_hours : Addr
  f_need_alike : Addr
  f_Clock_widths : Addr
  f_is_hour : Addr
  f_Needs___getitem__ : Addr
  f_need_edges : Addr
  f_Needs___len__ : Addr
  f_Needs___iter__ : Addr
  f_gain_of : Addr
  f_further : Addr
  f_closed_at : Addr
  f_gaining : Addr
  f_common : Addr
  f_fraction_of : Addr
  f_turn_of : Addr
  f_worth_of : Addr
  f_best_ring : Addr
  f_ring_for : Addr
  f_is_count : Addr
  f_are_counts : Addr
  f_is_row : Addr
  f_Needs___init__ : Addr
  f_Plan___len__ : Addr
  f_Plan___iter__ : Addr
  f_up : Addr
  f_step_hours : Addr
  f_winds : Addr
  f_ring_bound : Addr
  f_fewest : Addr
  f_enough : Addr
  f_Plan___init__ : Addr
  f_plan_of : Addr
  f_settled : Addr
  f_plan_for : Addr
  f_Plan___eq__ : Addr
  f__law_is_whole : Addr
  f__law_is_count : Addr
  f__law_serving : Addr
  f__law_there : Addr
  f__law_serves : Addr
  f__law_is_hour : Addr
  f__law_is_ring : Addr
  f__law_hop : Addr
  f__law_wound : Addr
  f__law_bound_of : Addr
  f__law_shown : Addr
  f__law_alike : Addr
  f__law_papers_right : Addr
  f_law : Addr
/-- what the top has left -/
structure Tx (K : PySem.W.Frag) (mg : Str → Option Value) (d : Ads) : Prop where
  g_Clock : mg "Clock" = some (.ref d.c_Clock)
  cl_Clock : Cls K d.c_Clock
  sf_Clock : PySem.W.selfFirst K d.c_Clock = true
  g_Needs : mg "Needs" = some (.ref d.c_Needs)
  cl_Needs : Cls K d.c_Needs
  sf_Needs : PySem.W.selfFirst K d.c_Needs = true
  g_Plan : mg "Plan" = some (.ref d.c_Plan)
  cl_Plan : Cls K d.c_Plan
  sf_Plan : PySem.W.selfFirst K d.c_Plan = true
  n_Clock_kept_stays : NoAttr K d.c_Clock "kept_stays"
  n_Clock_kept_widths : NoAttr K d.c_Clock "kept_widths"
  n_Needs_kept_row : NoAttr K d.c_Needs "kept_row"
  n_Plan_kept_begins : NoAttr K d.c_Plan "kept_begins"
  g__law_bag : mg "_law_bag" = some (.ref d.f__law_bag)
  d__law_bag : Df K "_law_bag" "_law_bag" s__law_bag d.f__law_bag ["_law_script"]
  g__law_take : mg "_law_take" = some (.ref d.f__law_take)
  d__law_take : Df K "_law_take" "_law_take" s__law_take d.f__law_take ["_law_bag_here", "_law_upto"]
  g__law_number : mg "_law_number" = some (.ref d.f__law_number)
  d__law_number : Df K "_law_number" "_law_number" s__law_number d.f__law_number ["_law_bag_here"]
  g__law_numbers : mg "_law_numbers" = some (.ref d.f__law_numbers)
  d__law_numbers : Df K "_law_numbers" "_law_numbers" s__law_numbers d.f__law_numbers ["_law_bag_here", "_law_many"]
  g__law_wants : mg "_law_wants" = some (.ref d.f__law_wants)
  d__law_wants : Df K "_law_wants" "_law_wants" s__law_wants d.f__law_wants ["_law_bag_here", "_law_many"]
  g__law_stays : mg "_law_stays" = some (.ref d.f__law_stays)
  d__law_stays : Df K "_law_stays" "_law_stays" s__law_stays d.f__law_stays ["_law_bag_here", "_law_many"]
  g_is_integer : mg "is_integer" = some (.ref d.f_is_integer)
  d_is_integer : Df K "is_integer" "is_integer" s_is_integer d.f_is_integer ["thing"]
  g_are_stays : mg "are_stays" = some (.ref d.f_are_stays)
  d_are_stays : Df K "are_stays" "are_stays" s_are_stays d.f_are_stays ["thing"]
  g_need_order : mg "need_order" = some (.ref d.f_need_order)
  d_need_order : Df K "need_order" "need_order" s_need_order d.f_need_order ["stays"]
  g_width_of : mg "width_of" = some (.ref d.f_width_of)
  d_width_of : Df K "width_of" "width_of" s_width_of d.f_width_of ["stays", "hour"]
  mk_Clock : Mk K d.c_Clock d.f_Clock___init__
  d_Clock___init__ : Df K "__init__" "Clock.__init__" s_Clock___init__ d.f_Clock___init__ ["self", "stays"]
  g__law_clock : mg "_law_clock" = some (.ref d.f__law_clock)
  d__law_clock : Df K "_law_clock" "_law_clock" s__law_clock d.f__law_clock ["_law_bag_here", "_law_stays_here"]
  g__law_mixed : mg "_law_mixed" = some (.ref d.f__law_mixed)
  d__law_mixed : Df K "_law_mixed" "_law_mixed" s__law_mixed d.f__law_mixed ["_law_bag_here", "_law_things"]
  m_Clock_stays : Meth K d.c_Clock "stays" d.f_Clock_stays
  d_Clock_stays : Df K "stays" "Clock.stays" s_Clock_stays d.f_Clock_stays ["self"]
  p_Clock_hours : PropOf K d.c_Clock "hours" d.q_Clock_hours d.f_Clock_hours
  d_Clock_hours : Df K "hours" "Clock.hours" s_Clock_hours d.f_Clock_hours ["self"]
  p_Needs_hours : PropOf K d.c_Needs "hours" d.q_Needs_hours d.f_Needs_hours
  d_Needs_hours : Df K "hours" "Needs.hours" s_Needs_hours d.f_Needs_hours ["self"]
  g_need_alike : mg "need_alike" = some (.ref d.f_need_alike)
  d_need_alike : Df K "need_alike" "need_alike" s_need_alike d.f_need_alike ["clock", "needs"]
  m_Clock_widths : Meth K d.c_Clock "widths" d.f_Clock_widths
  d_Clock_widths : Df K "widths" "Clock.widths" s_Clock_widths d.f_Clock_widths ["self"]
  g_is_hour : mg "is_hour" = some (.ref d.f_is_hour)
  d_is_hour : Df K "is_hour" "is_hour" s_is_hour d.f_is_hour ["hours", "thing"]
  m_Needs___getitem__ : Meth K d.c_Needs "__getitem__" d.f_Needs___getitem__
  fi_Needs___getitem__ : PySem.W.fnIn K d.f_Needs___getitem__ = true
  d_Needs___getitem__ : Df K "__getitem__" "Needs.__getitem__" s_Needs___getitem__ d.f_Needs___getitem__ ["self", "hour"]
  g_need_edges : mg "need_edges" = some (.ref d.f_need_edges)
  d_need_edges : Df K "need_edges" "need_edges" s_need_edges d.f_need_edges ["clock", "needs"]
  m_Needs___len__ : Meth K d.c_Needs "__len__" d.f_Needs___len__
  d_Needs___len__ : Df K "__len__" "Needs.__len__" s_Needs___len__ d.f_Needs___len__ ["self"]
  m_Needs___iter__ : Meth K d.c_Needs "__iter__" d.f_Needs___iter__
  d_Needs___iter__ : Df K "__iter__" "Needs.__iter__" s_Needs___iter__ d.f_Needs___iter__ ["self"]
  g_gain_of : mg "gain_of" = some (.ref d.f_gain_of)
  d_gain_of : Df K "gain_of" "gain_of" s_gain_of d.f_gain_of ["edge", "pace"]
  g_further : mg "further" = some (.ref d.f_further)
  d_further : Df K "further" "further" s_further d.f_further ["edges", "pace", "reached", "came"]
  g_closed_at : mg "closed_at" = some (.ref d.f_closed_at)
  d_closed_at : Df K "closed_at" "closed_at" s_closed_at d.f_closed_at ["hours", "came", "mark"]
  g_gaining : mg "gaining" = some (.ref d.f_gaining)
  d_gaining : Df K "gaining" "gaining" s_gaining d.f_gaining ["hours", "edges", "pace"]
  g_common : mg "common" = some (.ref d.f_common)
  d_common : Df K "common" "common" s_common d.f_common ["one", "other"]
  g_fraction_of : mg "fraction_of" = some (.ref d.f_fraction_of)
  d_fraction_of : Df K "fraction_of" "fraction_of" s_fraction_of d.f_fraction_of ["above", "below"]
  g_turn_of : mg "turn_of" = some (.ref d.f_turn_of)
  d_turn_of : Df K "turn_of" "turn_of" s_turn_of d.f_turn_of ["walk"]
  g_worth_of : mg "worth_of" = some (.ref d.f_worth_of)
  d_worth_of : Df K "worth_of" "worth_of" s_worth_of d.f_worth_of ["walk"]
  g_best_ring : mg "best_ring" = some (.ref d.f_best_ring)
  d_best_ring : Df K "best_ring" "best_ring" s_best_ring d.f_best_ring ["clock", "needs"]
  g_ring_for : mg "ring_for" = some (.ref d.f_ring_for)
  d_ring_for : Df K "ring_for" "ring_for" s_ring_for d.f_ring_for ["clock", "needs"]
  g_is_count : mg "is_count" = some (.ref d.f_is_count)
  d_is_count : Df K "is_count" "is_count" s_is_count d.f_is_count ["thing"]
  g_are_counts : mg "are_counts" = some (.ref d.f_are_counts)
  d_are_counts : Df K "are_counts" "are_counts" s_are_counts d.f_are_counts ["hours", "thing"]
  g_is_row : mg "is_row" = some (.ref d.f_is_row)
  d_is_row : Df K "is_row" "is_row" s_is_row d.f_is_row ["thing"]
  mk_Needs : Mk K d.c_Needs d.f_Needs___init__
  d_Needs___init__ : Df K "__init__" "Needs.__init__" s_Needs___init__ d.f_Needs___init__ ["self", "row"]
  m_Plan___len__ : Meth K d.c_Plan "__len__" d.f_Plan___len__
  d_Plan___len__ : Df K "__len__" "Plan.__len__" s_Plan___len__ d.f_Plan___len__ ["self"]
  m_Plan___iter__ : Meth K d.c_Plan "__iter__" d.f_Plan___iter__
  d_Plan___iter__ : Df K "__iter__" "Plan.__iter__" s_Plan___iter__ d.f_Plan___iter__ ["self"]
  g_up : mg "up" = some (.ref d.f_up)
  d_up : Df K "up" "up" s_up d.f_up ["above", "below"]
  g_step_hours : mg "step_hours" = some (.ref d.f_step_hours)
  d_step_hours : Df K "step_hours" "step_hours" s_step_hours d.f_step_hours ["clock", "hour", "later"]
  g_winds : mg "winds" = some (.ref d.f_winds)
  d_winds : Df K "winds" "winds" s_winds d.f_winds ["clock", "ring"]
  g_ring_bound : mg "ring_bound" = some (.ref d.f_ring_bound)
  d_ring_bound : Df K "ring_bound" "ring_bound" s_ring_bound d.f_ring_bound ["clock", "needs", "ring"]
  g_fewest : mg "fewest" = some (.ref d.f_fewest)
  d_fewest : Df K "fewest" "fewest" s_fewest d.f_fewest ["clock", "needs"]
  g_enough : mg "enough" = some (.ref d.f_enough)
  d_enough : Df K "enough" "enough" s_enough d.f_enough ["clock", "needs", "people"]
  mk_Plan : Mk K d.c_Plan d.f_Plan___init__
  d_Plan___init__ : Df K "__init__" "Plan.__init__" s_Plan___init__ d.f_Plan___init__ ["self", "begins"]
  g_plan_of : mg "plan_of" = some (.ref d.f_plan_of)
  d_plan_of : Df K "plan_of" "plan_of" s_plan_of d.f_plan_of ["people", "reached"]
  g_settled : mg "settled" = some (.ref d.f_settled)
  d_settled : Df K "settled" "settled" s_settled d.f_settled ["hours", "edges", "pace", "reached"]
  g_plan_for : mg "plan_for" = some (.ref d.f_plan_for)
  d_plan_for : Df K "plan_for" "plan_for" s_plan_for d.f_plan_for ["clock", "needs", "people"]
  m_Plan___eq__ : Meth K d.c_Plan "__eq__" d.f_Plan___eq__
  d_Plan___eq__ : Df K "__eq__" "Plan.__eq__" s_Plan___eq__ d.f_Plan___eq__ ["self", "other"]
  g__law_is_whole : mg "_law_is_whole" = some (.ref d.f__law_is_whole)
  d__law_is_whole : Df K "_law_is_whole" "_law_is_whole" s__law_is_whole d.f__law_is_whole ["_law_thing"]
  g__law_is_count : mg "_law_is_count" = some (.ref d.f__law_is_count)
  d__law_is_count : Df K "_law_is_count" "_law_is_count" s__law_is_count d.f__law_is_count ["_law_thing"]
  g__law_serving : mg "_law_serving" = some (.ref d.f__law_serving)
  d__law_serving : Df K "_law_serving" "_law_serving" s__law_serving d.f__law_serving ["_law_stays_here", "_law_hour"]
  g__law_there : mg "_law_there" = some (.ref d.f__law_there)
  d__law_there : Df K "_law_there" "_law_there" s__law_there d.f__law_there ["_law_stays_here", "_law_begins"]
  g__law_serves : mg "_law_serves" = some (.ref d.f__law_serves)
  d__law_serves : Df K "_law_serves" "_law_serves" s__law_serves d.f__law_serves ["_law_stays_here", "_law_wants_here", "_law_begins"]
  g__law_is_hour : mg "_law_is_hour" = some (.ref d.f__law_is_hour)
  d__law_is_hour : Df K "_law_is_hour" "_law_is_hour" s__law_is_hour d.f__law_is_hour ["_law_many", "_law_thing"]
  g__law_is_ring : mg "_law_is_ring" = some (.ref d.f__law_is_ring)
  d__law_is_ring : Df K "_law_is_ring" "_law_is_ring" s__law_is_ring d.f__law_is_ring ["_law_many", "_law_thing"]
  g__law_hop : mg "_law_hop" = some (.ref d.f__law_hop)
  d__law_hop : Df K "_law_hop" "_law_hop" s__law_hop d.f__law_hop ["_law_stays_here", "_law_hour", "_law_later"]
  g__law_wound : mg "_law_wound" = some (.ref d.f__law_wound)
  d__law_wound : Df K "_law_wound" "_law_wound" s__law_wound d.f__law_wound ["_law_stays_here", "_law_ring"]
  g__law_bound_of : mg "_law_bound_of" = some (.ref d.f__law_bound_of)
  d__law_bound_of : Df K "_law_bound_of" "_law_bound_of" s__law_bound_of d.f__law_bound_of ["_law_stays_here", "_law_wants_here", "_law_ring"]
  g__law_shown : mg "_law_shown" = some (.ref d.f__law_shown)
  d__law_shown : Df K "_law_shown" "_law_shown" s__law_shown d.f__law_shown ["_law_stays_here", "_law_wants_here", "_law_row", "_law_least"]
  g__law_alike : mg "_law_alike" = some (.ref d.f__law_alike)
  d__law_alike : Df K "_law_alike" "_law_alike" s__law_alike d.f__law_alike ["_law_found", "_law_due"]
  g__law_papers_right : mg "_law_papers_right" = some (.ref d.f__law_papers_right)
  d__law_papers_right : Df K "_law_papers_right" "_law_papers_right" s__law_papers_right d.f__law_papers_right ["_law_clock_here", "_law_stays_here", "_law_wants_here", "_law_order"]
  d_law : Df K "law" "law" s_law d.f_law ["_law_script"]
  z_abs : mg "abs" = none
  z_all : mg "all" = none
  z_bool : mg "bool" = none
  z_enumerate : mg "enumerate" = none
  z_int : mg "int" = none
  z_isinstance : mg "isinstance" = none
  z_iter : mg "iter" = none
  z_len : mg "len" = none
  z_list : mg "list" = none
  z_max : mg "max" = none
  z_min : mg "min" = none
  z_range : mg "range" = none
  z_repr : mg "repr" = none
  z_sum : mg "sum" = none
  z_tuple : mg "tuple" = none
  z_zip : mg "zip" = none
  k_MOST_HOURS : ∃ t : Tok, mg "MOST_HOURS" = some (.int 48 t)
  ic_Plan : IsC K d.c_Plan
  ne_Plan : PySem.W.findIn K (.ref d.c_Plan) "__ne__" = some (some (.builtin "object.__ne__")) ∧ PySem.W.mroIn K d.c_Plan (.type "object") = some true
section
variable {P : Program} {w : World} {K : PySem.W.Frag} {mg : Str → Option Value} {base : Heap} {d : Ads}
abbrev Pn (K : PySem.W.Frag) (d : Ads) (H : Hp) (v : V) (s : List Int) : Prop := Rw K d.c_Plan "kept_begins" H v s
abbrev Nd (K : PySem.W.Frag) (d : Ads) (H : Hp) (v : V) (s : List Int) : Prop := Rw K d.c_Needs "kept_row" H v s

/-! ### _law_bag -/
theorem sc__law_bag : FnScope ["_law_script", "_law_cell"] ["_law_script"] (defScope s__law_bag) := ⟨rfl, rfl, rfl, by decide +kernel, rfl, by decide +kernel, by decide +kernel⟩

theorem absI (i : Int) : 0 ≤ (if i < 0 then -i else i) := by split <;> omega
theorem cut_some (xs : List V) (h : xs.length ≤ 63) : cutV xs none (some 63) = xs := by
  unfold cutV
  rw [HT.sIx_none, show HT.sIx xs.length xs.length (some 63) = min 63 xs.length from HT.sIx_nat xs.length xs.length 63]
  rw [List.drop_zero, Nat.sub_zero, Nat.min_eq_right h, List.take_length]
def sp__law_bag (K : PySem.W.Frag) (d : Ads) : Sp := spBag K
def spBagL0 (K : PySem.W.Frag) (d : Ads) : Sp := spBagL K
set_option maxHeartbeats 4000000 in
theorem ok0__law_bag (T : Tx K mg d) : Okf P w K mg base 1 d.f__law_bag ["_law_script"] (spBagL0 K d) := by
  refine okf_of T.d__law_bag sc__law_bag (fun vs H Q E h => ?_) (fun cdv A outer s H vs Q E hr h => ?_)
  · obtain ⟨a, ns, rfl, hS, hl, k⟩ := h
    rfl
  · obtain ⟨a, ns, rfl, hS, hl, k⟩ := h
    refine ⟨_, (pss_one (ps_ret (pe_lst (pa_cons pe_int (pa_cons pe_int (pa_cons pe_int (pa_cons (pe_lc (own := [("_law_cell", 1)]) rfl sc__law_bag.nd (k_piL (K := K) rfl (pe_slice (k_slL (K := K) rfl) (pv 0) po_none (po_some pe_int))) (blkOk_by (by kernel_rfl)) (fun _ _ _ _ _ => (pg_name (i := 1) sc__law_bag.nd rfl (by first | exact Or.inl rfl | exact Or.inr rfl))) (fun _ _ _ _ _ => pts_nil) (fun _ _ _ _ _ => (pe_callB k_abs (by rfl) T.z_abs (by decide +kernel) (pa_cons (pv 1) pa_nil)))) pa_nil))))))), ?_⟩
    walk_at "rd"
    refine ⟨a, _, rfl, hS, fun c nc => ?_⟩
    rw [cut_some _ (by rw [List.length_map]; exact hl)]
    refine ⟨c, rfl, ⟨_, .inl (.inl upd_same)⟩, lc_fun (walk_list (xs := ns.map V.int)) (fun i => .int (if ns.getD i 0 < 0 then - ns.getD i 0 else ns.getD i 0)) (fun H' e => .inl (.inl (e _ _ upd_same))) (by rw [List.length_map]; omega) ?_ ?_⟩
    · rintro i x H1 H2 hi e ⟨rfl, hx⟩ kk hk
      obtain rfl := int_at hx
      walk_at "rd"
      exact hk _ (Ex.refl _)
    · intro D H' nD e hD
      rw [List.length_map] at hD
      walk_at "rd"
      refine ⟨by show 4 ≤ sizeLine; decide, fun b nb => ?_⟩
      have e1 : Ex H H' := (Ex.new nc).trans e
      have nH : H D = none := fresh_back (Ex.new nc) nD
      refine k b D ((List.range ns.length).map fun i => if ns.getD i 0 < 0 then - ns.getD i 0 else ns.getD i 0) _ (e1.trans (Ex.new nb)) (fresh_back e1 nb) nH upd_same ?_ ?_ ?_
      · rw [upd_ne (ne_of_none hD nb), hD, List.map_map]
        rfl
      · intro c hc
        obtain ⟨i, _, rfl⟩ := List.mem_map.mp hc
        exact absI _
      · rw [List.length_map, List.length_range]
        exact hl

theorem ok__law_bag (T : Tx K mg d) : Okf P w K mg base 1 d.f__law_bag ["_law_script"] (sp__law_bag K d) := bag_ok (ok0__law_bag T)

/-! ### _law_take -/
theorem sc__law_take : FnScope ["_law_bag_here", "_law_upto", "_law_cell", "_law_mixed_here", "_law_drawn", "_law_early", "_law_second"] ["_law_bag_here", "_law_upto"] (defScope s__law_take) := ⟨rfl, rfl, rfl, by decide +kernel, rfl, by decide +kernel, by decide +kernel⟩

def sp__law_take (K : PySem.W.Frag) (d : Ads) : Sp := spTake
def spTakeL0 (K : PySem.W.Frag) (d : Ads) : Sp := spTakeL
set_option maxHeartbeats 4000000 in
theorem ok0__law_take (T : Tx K mg d) : Okf P w K mg base 1 d.f__law_take ["_law_bag_here", "_law_upto"] (spTakeL0 K d) := by
  refine okf_of T.d__law_take sc__law_take (fun vs H Q E h => ?_) (fun cdv A outer s H vs Q E hr h => ?_)
  · obtain ⟨b, l, u, o, cs, xs, rfl, hb, ⟨c0, c1, c2, rfl, h0, h1, h1u, h2⟩, hL, hc, hcl, hu0, hu1, k⟩ := h
    rfl
  · obtain ⟨b, l, u, o, cs, xs, rfl, hb, ⟨c0, c1, c2, rfl, h0, h1, h1u, h2⟩, hL, hc, hcl, hu0, hu1, k⟩ := h
    refine ⟨_, (Evl.pss_cut (ps_if (pt_cmpR op_eq (pe_ix (k_ixL (K := K) rfl) (pv 0) pe_int (fun _ _ => rfl)) pe_int (nomark _)) (pss_cons (ps_set (i := 2) sc__law_take.nd rfl (by first | exact Or.inl rfl | exact Or.inr rfl) pe_int)
      (Evl.pss_cut (ps_if (pt_cmpR op_lt (pe_ix (k_ixL (K := K) rfl) (pv 0) pe_int (fun _ _ => rfl)) (pe_callB (k_len (K := K) rfl) (by rfl) T.z_len (by decide +kernel) (pa_cons (pe_ix (k_ixL (K := K) rfl) (pv 0) pe_int (fun _ _ => rfl)) pa_nil)) (nomark _)) (pss_one (ps_set (i := 2) sc__law_take.nd rfl (by first | exact Or.inl rfl | exact Or.inr rfl) (pe_ix (k_ixL (K := K) rfl) (pe_ix (k_ixL (K := K) rfl) (pv 0) pe_int (fun _ _ => rfl)) (pe_ix (k_ixL (K := K) rfl) (pv 0) pe_int (fun _ _ => rfl)) (fun _ _ => rfl)))) pss_nil)
      (pss_cons (ps_augS (pv 0) pe_int (k_getL (K := K) rfl) pe_int ip_add set_list)
      (Evl.pss_cut (ps_if (pt_cmpR op_ge (pv 2) pe_int (nomark _)) (pss_one (ps_asg (pv 2) (pg_sub (pv 0) pe_int set_list))) pss_nil)
      (pss_cons (ps_set (i := 3) sc__law_take.nd rfl (by first | exact Or.inl rfl | exact Or.inr rfl) (pe_op op_add (pe_op op_add (pe_op op_mul (pe_ix (k_ixL (K := K) rfl) (pv 0) pe_int (fun _ _ => rfl)) pe_int) (pe_op op_mod (pe_callTy k_int1 (by rfl) T.z_int (by decide +kernel) (pa_cons (pv 2) pa_nil)) pe_int)) (pe_op op_mul pe_int (pe_ix (k_ixL (K := K) rfl) (pv 0) pe_int (fun _ _ => rfl)))))
      (pss_one (ps_asg (pe_op op_mod (pe_callTy k_int1 (by rfl) T.z_int (by decide +kernel) (pa_cons (pv 3) pa_nil)) pe_int) (pg_sub (pv 0) pe_int set_list)))))))) pss_nil)
      (pss_cons (ps_if (pt_cmpR op_gt (pe_ix (k_ixL (K := K) rfl) (pv 0) pe_int (fun _ _ => rfl)) pe_int (nomark _)) (pss_cons (ps_set (i := 4) sc__law_take.nd rfl (by first | exact Or.inl rfl | exact Or.inr rfl) (pe_op op_mod (pe_callTy k_int1 (by rfl) T.z_int (by decide +kernel) (pa_cons (pe_ix (k_ixL (K := K) rfl) (pv 0) pe_int (fun _ _ => rfl)) pa_nil)) (pv 1)))
      (pss_cons (ps_asg (pe_op op_fdiv (pe_callTy k_int1 (by rfl) T.z_int (by decide +kernel) (pa_cons (pe_ix (k_ixL (K := K) rfl) (pv 0) pe_int (fun _ _ => rfl)) pa_nil)) (pv 1)) (pg_sub (pv 0) pe_int set_list))
      (pss_one (ps_ret (pv 4))))) pss_nil)
      (pss_cons (ps_set (i := 5) sc__law_take.nd rfl (by first | exact Or.inl rfl | exact Or.inr rfl) (pe_op op_mod (pe_callTy k_int1 (by rfl) T.z_int (by decide +kernel) (pa_cons (pe_op op_mul (pe_op op_add (pe_ix (k_ixL (K := K) rfl) (pv 0) pe_int (fun _ _ => rfl)) pe_int) pe_int) pa_nil)) pe_int))
      (pss_cons (ps_set (i := 6) sc__law_take.nd rfl (by first | exact Or.inl rfl | exact Or.inr rfl) (pe_op op_mod (pe_callTy k_int1 (by rfl) T.z_int (by decide +kernel) (pa_cons (pe_op op_mul (pe_op op_mod (pe_callTy k_int1 (by rfl) T.z_int (by decide +kernel) (pa_cons (pe_op op_mul (pv 5) (pv 5)) pa_nil)) pe_int) pe_int) pa_nil)) pe_int))
      (pss_one (ps_ret (pe_op op_mod (pe_callTy k_int1 (by rfl) T.z_int (by decide +kernel) (pa_cons (pe_op op_fdiv (pv 6) pe_int) pa_nil)) (pv 1)))))))), ?_⟩
    have lb : l ≠ b := ne_of hL hb (by intro z; cases z)
    refine ⟨fun σ H' => ∃ (d0 d1 d2 : Int) (y2 y3 : Option V), σ = [some (.ref b), some (.int u), y2, y3, none, none, none] ∧ H' = upd H b (.lst [.int d0, .int d1, .int d2, .ref l]) ∧ 0 ≤ d0 ∧ 0 ≤ d1 ∧ d1 < 2147483647 ∧ 0 ≤ d2, ?_, ?_⟩
    · refine ⟨_, rfl, b, _, 0, _, rfl, rfl, SqL.of hb, rfl, rfl, _, rfl, ite2 (fun _ => ?_) (fun _ => ?_)⟩
      · -- _law_cell = 0; then the cell
        refine ⟨fun σ H' => ∃ cell : Int, 0 ≤ cell ∧ σ = [some (.ref b), some (.int u), some (.int cell), none, none, none, none] ∧ H' = H, ?_, ?_⟩
        · refine ⟨_, rfl, b, _, 2, _, rfl, rfl, SqL.of hb, rfl, _, rfl, b, _, 3, _, rfl, rfl, SqL.of hb, rfl, l, _, rfl, .inl (.inl (.inr ⟨o, hL⟩)), _, _, rfl, rfl, _, rfl, ite2 (fun hlt => ?_) (fun _ => ?_)⟩
          · have hlt' : c2 < ((cs.map V.int).length : Int) := of_decide_eq_true hlt
            rw [List.length_map] at hlt'
            have hx := at_int (ns := cs) h2 hlt'
            refine ⟨_, rfl, b, _, 3, _, rfl, rfl, SqL.of hb, rfl, _, rfl, b, _, 2, _, rfl, rfl, SqL.of hb, rfl, l, _, c2, _, rfl, rfl, .inl (.inr ⟨o, hL⟩), hx, _, hc _ (gD_mem (by omega)), rfl, rfl⟩
          · exact ⟨0, Int.le_refl 0, rfl, rfl⟩
        · rintro σ' H' ⟨cell, hcell, rfl, hH⟩
          rw [hH]
          -- bag[2] += 1
          refine ⟨_, rfl, b, _, 2, _, rfl, rfl, SqL.of hb, rfl, _, _, rfl, rfl, b, _, 2, 2, rfl, rfl, hb, rfl, ?_⟩
          -- if cell >= 10 ** 18: bag[0] = cell
          refine ⟨fun σ H' => ∃ d0 : Int, 0 ≤ d0 ∧ σ = [some (.ref b), some (.int u), some (.int cell), none, none, none, none] ∧ H' = upd H b (.lst [.int d0, .int c1, .int (c2 + 1), .ref l]), ?_, ?_⟩
          · refine ⟨_, rfl, _, _, rfl, rfl, _, rfl, ite2 (fun _ => ?_) (fun _ => ?_)⟩
            · refine ⟨_, rfl, _, rfl, b, _, 0, 0, rfl, rfl, upd_same, rfl, cell, hcell, rfl, ?_⟩
              rw [upd_upd]
              rfl
            · exact ⟨c0, h0, rfl, rfl⟩
          · rintro σ' H' ⟨d0, hd0, rfl, rfl⟩
            -- _law_mixed; bag[1] = int(_law_mixed) % 2147483647
            refine ⟨_, rfl, b, _, 1, _, rfl, rfl, SqL.of upd_same, rfl, c1, _, rfl, rfl, .inl ⟨by omega, by omega⟩, _, rfl, .inl ⟨_, rfl, _, _, rfl, rfl, (by show (0 : Int) < 2147483647; decide), _, _, rfl, rfl, _, rfl, b, _, 2, _, rfl, rfl, SqL.of upd_same, rfl, _, _, rfl, rfl, .inl ⟨by decide, by decide⟩, _, _, rfl, rfl, ?_⟩⟩
            refine ⟨_, rfl, .inl ⟨_, rfl, _, _, rfl, rfl, (by show (0 : Int) < 2147483647; decide), _, rfl, b, _, 1, 1, rfl, rfl, upd_same, rfl, ?_⟩⟩
            refine ⟨d0, _, c2 + 1, _, _, rfl, by rw [upd_upd]; rfl, hd0, Int.emod_nonneg _ (by decide), Int.emod_lt_of_pos _ (by decide), by omega⟩
      · refine ⟨c0, c1, c2, none, none, rfl, ?_, h0, h1, h1u, h2⟩
        funext a
        by_cases ha : a = b
        · subst ha
          rw [upd_same, hb]
        · rw [upd_ne ha]
    · rintro σ' H' ⟨d0, d1, d2, y2, y3, rfl, rfl, g0, g1, g1u, g2⟩
      have kk : ∀ (n : Int) (ys : List V), 0 ≤ n → n < u → BagV l ys → Q (.int n) (upd (upd H b (.lst [.int d0, .int d1, .int d2, .ref l])) b (.lst ys)) := fun n ys a1 a2 a3 => by
        rw [upd_upd]
        exact k n ys a1 a2 a3
      refine ⟨_, rfl, b, _, 0, _, rfl, rfl, SqL.of upd_same, rfl, _, _, rfl, rfl, _, rfl, ite2 (fun hp => ?_) (fun _ => ?_)⟩
      · have hp' : 0 < d0 := of_decide_eq_true hp
        refine ⟨_, rfl, b, _, 0, _, rfl, rfl, SqL.of upd_same, rfl, .inl ⟨_, rfl, _, rfl, _, _, rfl, rfl, hu0, ?_⟩⟩
        refine ⟨_, rfl, b, _, 0, _, rfl, rfl, SqL.of upd_same, rfl, .inl ⟨_, rfl, _, rfl, _, _, rfl, rfl, ⟨hu0, hu1⟩, _, rfl, b, _, 0, 0, rfl, rfl, upd_same, rfl, _, rfl, ?_⟩⟩
        exact kk _ _ (Int.emod_nonneg _ (by omega)) (Int.emod_lt_of_pos _ hu0) ⟨_, d1, d2, rfl, Int.ediv_nonneg (by omega) (by omega), g1, g1u, g2⟩
      · refine ⟨_, rfl, b, _, 1, _, rfl, rfl, SqL.of upd_same, rfl, _, _, rfl, rfl, _, _, rfl, rfl, .inr ⟨by decide, by decide⟩, .inl ⟨_, rfl, _, _, rfl, rfl, (by show (0 : Int) < 1000000007; decide), ?_⟩⟩
        have e0 : 0 ≤ (d1 + 1) * 39373 % 1000000007 := Int.emod_nonneg _ (by decide)
        have e1 : (d1 + 1) * 39373 % 1000000007 < 1000000007 := Int.emod_lt_of_pos _ (by decide)
        refine ⟨_, rfl, _, rfl, _, _, rfl, rfl, .inl ⟨by omega, by omega⟩, .inl ⟨_, rfl, _, _, rfl, rfl, (by show (0 : Int) < 998244353; decide), _, _, rfl, rfl, .inr ⟨by decide, by decide⟩, .inl ⟨_, rfl, _, _, rfl, rfl, (by show (0 : Int) < 998244353; decide), ?_⟩⟩⟩
        refine ⟨_, rfl, _, _, rfl, rfl, ⟨by decide, by decide⟩, .inl ⟨_, rfl, _, rfl, _, _, rfl, rfl, hu0, ?_⟩⟩
        exact k _ _ (Int.emod_nonneg _ (by omega)) (Int.emod_lt_of_pos _ hu0) ⟨d0, d1, d2, rfl, g0, g1, g1u, g2⟩

theorem ok__law_take (T : Tx K mg d) : Okf P w K mg base 1 d.f__law_take ["_law_bag_here", "_law_upto"] (sp__law_take K d) := take_ok (ok0__law_take T) rfl

/-! ### _law_number -/
theorem sc__law_number : FnScope ["_law_bag_here", "_law_way"] ["_law_bag_here"] (defScope s__law_number) := ⟨rfl, rfl, rfl, by decide +kernel, rfl, by decide +kernel, by decide +kernel⟩

def sp__law_number (K : PySem.W.Frag) (d : Ads) : Sp := fun vs H Q _ => ∃ (b : Addr), vs = [.ref b] ∧ Bag H b ∧ ∀ n : Int, 0 ≤ n → n < 10 ^ 30 → Q (.int n) H
set_option maxHeartbeats 4000000 in
theorem ok__law_number (T : Tx K mg d) : Okf P w K mg base 2 d.f__law_number ["_law_bag_here"] (sp__law_number K d) := by
  refine okf_of T.d__law_number sc__law_number (fun vs H Q E h => ?_) (fun cdv A outer s H vs Q E hr h => ?_)
  · obtain ⟨b, rfl, hB, k⟩ := h
    rfl
  · obtain ⟨b, rfl, hB, k⟩ := h
    refine ⟨_, (pss_cons (ps_set (i := 1) sc__law_number.nd rfl (by first | exact Or.inl rfl | exact Or.inr rfl) (pf_call (ok__law_take T) (hr.mono (by decide)) (by rfl) T.g__law_take T.d__law_take.kp (pa_cons (pv 0) (pa_cons pe_int pa_nil))))
      (pss_cons (ps_if (pt_cmpR op_lt (pv 1) pe_int (nomark _)) (pss_one (ps_ret (pf_call (ok__law_take T) (hr.mono (by decide)) (by rfl) T.g__law_take T.d__law_take.kp (pa_cons (pv 0) (pa_cons pe_int pa_nil))))) pss_nil)
      (pss_one (ps_ret (pe_ifExp (pt_cmpR op_eq (pv 1) pe_int (nomark _)) (pf_call (ok__law_take T) (hr.mono (by decide)) (by rfl) T.g__law_take T.d__law_take.kp (pa_cons (pv 0) (pa_cons pe_int pa_nil))) (pe_op op_sub (pe_op op_sub (pe_op op_pow pe_int pe_int) pe_int) (pf_call (ok__law_take T) (hr.mono (by decide)) (by rfl) T.g__law_take T.d__law_take.kp (pa_cons (pv 0) (pa_cons pe_int pa_nil))))))))), ?_⟩
    walk_at "rd"
    refine ⟨b, _, rfl, hB, by omega, by omega, fun c c0 c1 => ?_⟩
    walk_at "rd"
    refine r_ite (fun _ => ?_) (fun _ => ?_)
    · walk_at "rd"
      exact ⟨b, _, rfl, hB, by omega, by omega, fun z z0 z1 => k z z0 (by omega)⟩
    · walk_at "rd"
      refine r_ite (fun _ => ?_) (fun _ => ?_)
      · walk_at "rd"
        exact ⟨b, _, rfl, hB, by omega, by omega, fun z z0 z1 => k z z0 (by omega)⟩
      · walk_at "rd"
        refine ⟨b, _, rfl, hB, by omega, by omega, fun z z0 z1 => ?_⟩
        walk_at "rd"
        exact k _ (by show 0 ≤ (10 : Int) ^ 30 - 1 - z; omega) (by show (10 : Int) ^ 30 - 1 - z < 10 ^ 30; omega)

/-! ### _law_numbers -/
theorem sc__law_numbers : FnScope ["_law_bag_here", "_law_many", "_law_way", "_law_hour", "_law_found", "_law_one"] ["_law_bag_here", "_law_many"] (defScope s__law_numbers) := ⟨rfl, rfl, rfl, by decide +kernel, rfl, by decide +kernel, by decide +kernel⟩

def sp__law_numbers (K : PySem.W.Frag) (d : Ads) : Sp := fun vs H Q _ => ∃ (b : Addr) (n : Nat), vs = [.ref b, .int (n : Int)] ∧ Bag H b ∧ 1 ≤ n ∧ n ≤ 48 ∧ ∀ s : List Int, s.length = n → (∀ z ∈ s, 0 ≤ z ∧ z < 10 ^ 30) → RetN (s.map V.int) H Q
set_option maxHeartbeats 4000000 in
theorem ok__law_numbers (T : Tx K mg d) : Okf P w K mg base 3 d.f__law_numbers ["_law_bag_here", "_law_many"] (sp__law_numbers K d) := by
  refine okf_of T.d__law_numbers sc__law_numbers (fun vs H Q E h => ?_) (fun cdv A outer s H vs Q E hr h => ?_)
  · obtain ⟨b, n, rfl, hB, n1, n8, k⟩ := h
    rfl
  · obtain ⟨b, n, rfl, hB, n1, n8, k⟩ := h
    refine ⟨_, (pss_cons (ps_set (i := 2) sc__law_numbers.nd rfl (by first | exact Or.inl rfl | exact Or.inr rfl) (pf_call (ok__law_take T) (hr.mono (by decide)) (by rfl) T.g__law_take T.d__law_take.kp (pa_cons (pv 0) (pa_cons pe_int pa_nil))))
      (pss_cons (ps_if (pt_cmpR op_eq (pv 2) pe_int (nomark _)) (pss_one (ps_ret (pe_lc (own := [("_law_hour", 3)]) rfl sc__law_numbers.nd (pi_range1 (by rfl) T.z_range (pa_cons (pv 1) pa_nil)) (blkOk_by (by kernel_rfl)) (fun _ _ _ _ _ => (pg_name (i := 3) sc__law_numbers.nd rfl (by first | exact Or.inl rfl | exact Or.inr rfl))) (fun _ _ _ _ _ => pts_nil) (fun _ _ _ _ _ => (pf_call (ok__law_take T) (hr.mono (by decide)) (by rfl) T.g__law_take T.d__law_take.kp (pa_cons (pv 0) (pa_cons pe_int pa_nil))))))) pss_nil)
      (pss_cons (ps_if (pt_cmpR op_eq (pv 2) pe_int (nomark _)) (pss_one (ps_ret (pe_lc (own := [("_law_hour", 3)]) rfl sc__law_numbers.nd (pi_range1 (by rfl) T.z_range (pa_cons (pv 1) pa_nil)) (blkOk_by (by kernel_rfl)) (fun _ _ _ _ _ => (pg_name (i := 3) sc__law_numbers.nd rfl (by first | exact Or.inl rfl | exact Or.inr rfl))) (fun _ _ _ _ _ => pts_nil) (fun _ _ _ _ _ => (pe_op op_mul (pf_call (ok__law_take T) (hr.mono (by decide)) (by rfl) T.g__law_take T.d__law_take.kp (pa_cons (pv 0) (pa_cons pe_int pa_nil))) (pf_call (ok__law_take T) (hr.mono (by decide)) (by rfl) T.g__law_take T.d__law_take.kp (pa_cons (pv 0) (pa_cons pe_int pa_nil)))))))) pss_nil)
      (pss_cons (ps_if (pt_cmpR op_eq (pv 2) pe_int (nomark _)) (pss_one (ps_ret (pe_op op_rep (pe_lst (pa_cons (pe_op op_add pe_int (pf_call (ok__law_take T) (hr.mono (by decide)) (by rfl) T.g__law_take T.d__law_take.kp (pa_cons (pv 0) (pa_cons pe_int pa_nil)))) pa_nil)) (pv 1)))) pss_nil)
      (pss_cons (ps_setLc (i := 4) (own := [("_law_hour", 3)]) rfl sc__law_numbers.nd rfl rfl (sw_true rfl rfl rfl (by decide +kernel)) (pi_range1 (by rfl) T.z_range (pa_cons (pv 1) pa_nil)) (blkOk_by (by kernel_rfl)) (fun _ _ _ _ _ => (pg_name (i := 3) sc__law_numbers.nd rfl (by first | exact Or.inl rfl | exact Or.inr rfl))) (fun _ _ _ _ _ => pts_nil) (fun _ _ _ _ _ => (pf_call (ok__law_number T) (hr.mono (by decide)) (by rfl) T.g__law_number T.d__law_number.kp (pa_cons (pv 0) pa_nil))))
      (pss_one (ps_ret (pe_lc (own := [("_law_one", 5)]) rfl sc__law_numbers.nd (k_piL (K := K) rfl (pv 4)) (blkOk_by (by kernel_rfl)) (fun _ _ _ _ _ => (pg_name (i := 5) sc__law_numbers.nd rfl (by first | exact Or.inl rfl | exact Or.inr rfl))) (fun _ _ _ _ _ => pts_nil) (fun _ _ _ _ _ => (pe_ifExp (pt_cmpR op_lt (pv 5) pe_int (nomark _)) (pv 5) (pe_op op_fdiv (pv 5) (pe_op op_mul pe_int (pv 1))))))))))))), ?_⟩
    walk_at "rd"
    refine ⟨b, _, rfl, hB, by omega, by omega, fun c c0 c1 => ?_⟩
    walk_at "rd"
    refine r_ite (fun _ => ?_) (fun _ => ?_)
    · walk_at "rd"
      refine lc_ints walk_r0 (fun z => 0 ≤ z ∧ z < 10 ^ 30) (fun _ _ => trivial) (by omega) ?_ ?_
      · rintro j x H4 H5 hj e4 ⟨rfl, rfl⟩ kk hk
        walk_at "rd"
        exact ⟨b, _, rfl, (by walk_at "kn"), by omega, by omega, fun z z0 z1 => hk _ _ (Ex.refl _) (by omega)⟩
      intro D1 H4 ms nD1 e4 hD1 hl hm
      exact k ms (by omega) hm D1 H4 nD1 e4 hD1
    walk_at "rd"
    refine r_ite (fun _ => ?_) (fun _ => ?_)
    · walk_at "rd"
      refine lc_ints walk_r0 (fun z => 0 ≤ z ∧ z < 10 ^ 30) (fun _ _ => trivial) (by omega) ?_ ?_
      · rintro j x H4 H5 hj e4 ⟨rfl, rfl⟩ kk hk
        walk_at "rd"
        refine ⟨b, _, rfl, (by walk_at "kn"), by omega, by omega, fun y y0 y1 => ?_⟩
        walk_at "rd"
        refine ⟨b, _, rfl, (by walk_at "kn"), by omega, by omega, fun z z0 z1 => ?_⟩
        walk_at "rd"
        exact hk _ _ (Ex.refl _) (mul_in y0 y1 z0 z1)
      intro D1 H4 ms nD1 e4 hD1 hl hm
      exact k ms (by omega) hm D1 H4 nD1 e4 hD1
    walk_at "rd"
    refine r_ite (fun _ => ?_) (fun _ => ?_)
    · walk_at "rd"
      refine ⟨b, _, rfl, (by walk_at "kn"), by omega, by omega, fun z z0 z1 => ?_⟩
      walk_at "rd"
      refine ⟨szc rfl, fun p np => ?_⟩
      walk_at "rd"
      refine ⟨p, (n : Int), _, rfl, rfl, upd_same, by omega, by omega, ?_, fun p2 np2 => ?_⟩
      · rw [Int.toNat_natCast, List.length_singleton]
        exact line_le (by omega)
      rw [Int.toNat_natCast, rep_flat1, rep_map]
      exact k _ List.length_replicate (rep_in (by omega)) p2 _ (by walk_at "fr") (by walk_at "ex") upd_same
    walk_at "rd"
    refine lc_ints walk_r0 (fun z => 0 ≤ z ∧ z < 10 ^ 30) (fun _ _ => trivial) (by omega) ?_ ?_
    · rintro j x H4 H5 hj e4 ⟨rfl, rfl⟩ kk hk
      walk_at "rd"
      exact ⟨b, rfl, (by walk_at "kn"), fun z z0 z1 => hk _ _ (Ex.refl _) ⟨z0, z1⟩⟩
    intro D1 H4 ms nD1 e4 hD1 hl hm
    walk_at "rd"
    refine ⟨D1, rfl, ⟨_, at_sqL hD1⟩, ?_⟩
    refine lc_ints (walk_list (xs := ms.map V.int)) (fun z => 0 ≤ z ∧ z < 10 ^ 30) (fun H' e => (by walk_at "kn")) (by rw [List.length_map]; omega) ?_ ?_
    · rintro j x H6 H7 hj e6 ⟨rfl, hx⟩ kk hk
      obtain rfl := int_at hx
      rw [List.length_map] at hj
      have hz := hm _ (gD_mem hj)
      walk_at "rd"
      refine r_ite (fun _ => ?_) (fun _ => ?_)
      · walk_at "rd"
        exact hk _ _ (Ex.refl _) hz
      · walk_at "rd"
        exact hk _ _ (Ex.refl _) (div_in hz.1 hz.2 (by omega))
    intro D2 H6 ks nD2 e6 hD2 hl2 hm2
    rw [List.length_map] at hl2
    exact k ks (by omega) hm2 D2 H6 (by walk_at "fr") (by walk_at "ex") hD2

/-! ### _law_wants -/
theorem sc__law_wants : FnScope ["_law_bag_here", "_law_many", "_law_way", "_law_hour"] ["_law_bag_here", "_law_many"] (defScope s__law_wants) := ⟨rfl, rfl, rfl, by decide +kernel, rfl, by decide +kernel, by decide +kernel⟩

def sp__law_wants (K : PySem.W.Frag) (d : Ads) : Sp := fun vs H Q _ => ∃ (b : Addr) (n : Nat), vs = [.ref b, .int (n : Int)] ∧ Bag H b ∧ 1 ≤ n ∧ n ≤ 48 ∧ ∀ s : List Int, s.length = n → (∀ z ∈ s, 0 ≤ z ∧ z < 10 ^ 30) → RetN (s.map V.int) H Q
set_option maxHeartbeats 4000000 in
theorem ok__law_wants (T : Tx K mg d) : Okf P w K mg base 4 d.f__law_wants ["_law_bag_here", "_law_many"] (sp__law_wants K d) := by
  refine okf_of T.d__law_wants sc__law_wants (fun vs H Q E h => ?_) (fun cdv A outer s H vs Q E hr h => ?_)
  · obtain ⟨b, n, rfl, hB, n1, n8, k⟩ := h
    rfl
  · obtain ⟨b, n, rfl, hB, n1, n8, k⟩ := h
    refine ⟨_, (pss_cons (ps_set (i := 2) sc__law_wants.nd rfl (by first | exact Or.inl rfl | exact Or.inr rfl) (pf_call (ok__law_take T) (hr.mono (by decide)) (by rfl) T.g__law_take T.d__law_take.kp (pa_cons (pv 0) (pa_cons pe_int pa_nil))))
      (pss_cons (ps_if (pt_cmpR op_eq (pv 2) pe_int (nomark _)) (pss_one (ps_ret (pe_op op_rep (pe_lst (pa_cons pe_int pa_nil)) (pv 1)))) pss_nil)
      (pss_cons (ps_if (pt_cmpR op_eq (pv 2) pe_int (nomark _)) (pss_one (ps_ret (pe_lc (own := [("_law_hour", 3)]) rfl sc__law_wants.nd (pi_range1 (by rfl) T.z_range (pa_cons (pv 1) pa_nil)) (blkOk_by (by kernel_rfl)) (fun _ _ _ _ _ => (pg_name (i := 3) sc__law_wants.nd rfl (by first | exact Or.inl rfl | exact Or.inr rfl))) (fun _ _ _ _ _ => pts_nil) (fun _ _ _ _ _ => (pf_call (ok__law_number T) (hr.mono (by decide)) (by rfl) T.g__law_number T.d__law_number.kp (pa_cons (pv 0) pa_nil)))))) pss_nil)
      (pss_one (ps_ret (pf_call (ok__law_numbers T) (hr.mono (by decide)) (by rfl) T.g__law_numbers T.d__law_numbers.kp (pa_cons (pv 0) (pa_cons (pv 1) pa_nil)))))))), ?_⟩
    walk_at "rd"
    refine ⟨b, _, rfl, hB, by omega, by omega, fun c c0 c1 => ?_⟩
    walk_at "rd"
    refine r_ite (fun _ => ?_) (fun _ => ?_)
    · walk_at "rd"
      refine ⟨szc rfl, fun p np => ?_⟩
      walk_at "rd"
      refine ⟨p, (n : Int), _, rfl, rfl, upd_same, by omega, by omega, ?_, fun p2 np2 => ?_⟩
      · rw [Int.toNat_natCast, List.length_singleton]
        exact line_le (by omega)
      rw [Int.toNat_natCast, rep_flat1, rep_map]
      exact k _ List.length_replicate (rep_in (by omega)) p2 _ (by walk_at "fr") (by walk_at "ex") upd_same
    walk_at "rd"
    refine r_ite (fun _ => ?_) (fun _ => ?_)
    · walk_at "rd"
      refine lc_ints walk_r0 (fun z => 0 ≤ z ∧ z < 10 ^ 30) (fun _ _ => trivial) (by omega) ?_ ?_
      · rintro j x H4 H5 hj e4 ⟨rfl, rfl⟩ kk hk
        walk_at "rd"
        exact ⟨b, rfl, (by walk_at "kn"), fun z z0 z1 => hk _ _ (Ex.refl _) ⟨z0, z1⟩⟩
      intro D1 H4 ms nD1 e4 hD1 hl hm
      exact k ms (by omega) hm D1 H4 nD1 e4 hD1
    walk_at "rd"
    exact ⟨b, n, rfl, (by walk_at "kn"), n1, n8, k⟩

/-! ### _law_stays -/
theorem sc__law_stays : FnScope ["_law_bag_here", "_law_many", "_law_most", "_law_drawn", "_law_hour", "_law_ahead"] ["_law_bag_here", "_law_many"] (defScope s__law_stays) := ⟨rfl, rfl, rfl, by decide +kernel, rfl, by decide +kernel, by decide +kernel⟩

def sp__law_stays (K : PySem.W.Frag) (d : Ads) : Sp := fun vs H Q _ => ∃ (b : Addr) (n : Nat), vs = [.ref b, .int (n : Int)] ∧ Bag H b ∧ 1 ≤ n ∧ n ≤ 48 ∧ ∀ s : List Int, s.length = n → Good s → RetN (s.map V.int) H Q
set_option maxHeartbeats 4000000 in
theorem ok__law_stays (T : Tx K mg d) : Okf P w K mg base 2 d.f__law_stays ["_law_bag_here", "_law_many"] (sp__law_stays K d) := by
  refine okf_of T.d__law_stays sc__law_stays (fun vs H Q E h => ?_) (fun cdv A outer s H vs Q E hr h => ?_)
  · obtain ⟨b, n, rfl, hB, hn, hn2, k⟩ := h
    rfl
  · obtain ⟨b, n, rfl, hB, hn, hn2, k⟩ := h
    refine ⟨_, (pss_cons (ps_if (pt_cmpR op_eq (pf_call (ok__law_take T) (hr.mono (by decide)) (by rfl) T.g__law_take T.d__law_take.kp (pa_cons (pv 0) (pa_cons pe_int pa_nil))) pe_int (nomark _)) (pss_one (ps_ret (pe_op op_rep (pe_lst (pa_cons (pe_op op_add pe_int (pf_call (ok__law_take T) (hr.mono (by decide)) (by rfl) T.g__law_take T.d__law_take.kp (pa_cons (pv 0) (pa_cons (pv 1) pa_nil)))) pa_nil)) (pv 1)))) pss_nil)
      (pss_cons (ps_set (i := 2) sc__law_stays.nd rfl (by first | exact Or.inl rfl | exact Or.inr rfl) (pe_op op_add pe_int (pf_call (ok__law_take T) (hr.mono (by decide)) (by rfl) T.g__law_take T.d__law_take.kp (pa_cons (pv 0) (pa_cons (pv 1) pa_nil)))))
      (pss_cons (ps_set (i := 3) sc__law_stays.nd rfl (by first | exact Or.inl rfl | exact Or.inr rfl) (pe_lc (own := [("_law_hour", 4)]) rfl sc__law_stays.nd (pi_range1 (by rfl) T.z_range (pa_cons (pv 1) pa_nil)) (blkOk_by (by kernel_rfl)) (fun _ _ _ _ _ => (pg_name (i := 4) sc__law_stays.nd rfl (by first | exact Or.inl rfl | exact Or.inr rfl))) (fun _ _ _ _ _ => pts_nil) (fun _ _ _ _ _ => (pe_op op_add pe_int (pf_call (ok__law_take T) (hr.mono (by decide)) (by rfl) T.g__law_take T.d__law_take.kp (pa_cons (pv 0) (pa_cons (pv 2) pa_nil)))))))
      (pss_one (ps_ret (pe_lc (own := [("_law_hour", 4)]) rfl sc__law_stays.nd (pi_range1 (by rfl) T.z_range (pa_cons (pv 1) pa_nil)) (blkOk_by (by kernel_rfl)) (fun _ _ _ _ _ => (pg_name (i := 4) sc__law_stays.nd rfl (by first | exact Or.inl rfl | exact Or.inr rfl))) (fun _ _ _ _ _ => pts_nil) (fun _ _ _ _ _ => (pe_callB (k_min (K := K) rfl rfl) (by rfl) T.z_min (by decide +kernel) (pa_cons (pe_lc (own := [("_law_ahead", 5)]) rfl sc__law_stays.nd (pi_range1 (by rfl) T.z_range (pa_cons (pv 1) pa_nil)) (blkOk_by (by kernel_rfl)) (fun _ _ _ _ _ => (pg_name (i := 5) sc__law_stays.nd rfl (by first | exact Or.inl rfl | exact Or.inr rfl))) (fun _ _ _ _ _ => pts_nil) (fun _ _ _ _ _ => (pe_op op_add (pe_ix (k_ixL (K := K) rfl) (pv 3) (pe_op op_mod (pe_callTy k_int1 (by rfl) T.z_int (by decide +kernel) (pa_cons (pe_op op_add (pv 4) (pv 5)) pa_nil)) (pv 1)) (fun _ _ => rfl)) (pv 5)))) pa_nil))))))))), ?_⟩
    walk_at "rd"
    refine ⟨b, _, rfl, hB, by omega, by omega, fun c0 _ _ => ?_⟩
    walk_at "rd"
    refine r_ite (fun _ => ?_) (fun _ => ?_)
    · walk_at "rd"
      refine ⟨b, _, rfl, hB, by omega, by omega, fun c c1 c2 => ?_⟩
      walk_at "rd"
      refine ⟨szc rfl, fun p np => ?_⟩
      walk_at "rd"
      refine ⟨p, _, _, rfl, rfl, upd_same, by omega, by omega, ?_, fun q nq => ?_⟩
      · rw [Int.toNat_natCast]
        show 1 * n ≤ sizeLine
        have : (48 : Nat) ≤ sizeLine := by decide
        omega
      · refine k (List.replicate n (1 + c)) List.length_replicate (Good.const hn hn2 (by omega) (by omega)) q _ ?_ ((Ex.new np).trans (Ex.new nq)) ?_
        · exact fresh_back (Ex.new np) nq
        · rw [upd_same, Int.toNat_natCast, flat_rep, List.map_replicate]
    · walk_at "rd"
      refine ⟨b, _, rfl, hB, by omega, by omega, fun c c1 c2 => ?_⟩
      walk_at "rd"
      refine lc_val walk_r0 (fun _ v => ∃ z : Int, 0 ≤ z ∧ z < 1 + c ∧ v = .int (1 + z)) (fun _ _ => trivial) (by omega) ?_ ?_
      · rintro i x H1 H2 hi e ⟨rfl, rfl⟩ kk hk
        walk_at "rd"
        refine ⟨b, _, rfl, hB.mono (.of e), by omega, by omega, fun z z1 z2 => ?_⟩
        walk_at "rd"
        exact hk _ _ (Ex.refl _) ⟨z, z1, z2, rfl⟩
      · intro D H1 ys nD e1 hD yl yv
        rw [Int.toNat_natCast] at yl
        obtain ⟨dr, hdr, rfl⟩ : ∃ dr : List Int, (∀ z ∈ dr, 1 ≤ z ∧ z ≤ 1 + c) ∧ ys = dr.map V.int := ints_of fun v hv => by
          obtain ⟨i, hi, rfl⟩ := List.mem_iff_getElem.mp hv
          obtain ⟨z, z0, z1, ez⟩ := yv i _ (List.getElem?_eq_getElem hi)
          exact ⟨1 + z, by omega, ez⟩
        rw [List.length_map] at yl
        have hcy : ∀ i, 1 ≤ cyc dr i ∧ cyc dr i ≤ 1 + c := fun i => hdr _ (cyc_mem (by omega) i)
        walk_at "rd"
        refine lc_val walk_r0 (fun i v => ∃ m : Int, v = .int m ∧ (∃ a : Nat, a < n ∧ m = cyc dr ((i : Int) + a) + a) ∧ ∀ a : Nat, a < n → m ≤ cyc dr ((i : Int) + a) + a) (fun _ _ => trivial) (by omega) ?_ ?_
        · rintro i x H2 H3 hi e ⟨rfl, rfl⟩ kk hk
          walk_at "rd"
          refine lc_fun walk_r0 (fun a => .int (cyc dr ((i : Int) + a) + a)) (fun _ _ => trivial) (by omega) ?_ ?_
          · rintro a x H4 H5 ha e' ⟨rfl, rfl⟩ kk' hk'
            walk_at "rd"
            have ea := at_cyc (ns := dr) (by omega) ((i : Int) + a)
            rw [yl] at ea
            refine r_ixL (.inl (.inl (e' _ _ (e _ _ hD)))) ea ?_
            walk_at "rd"
            exact hk' _ (Ex.refl _)
          · intro D2 H4 nD2 e4 hD2
            walk_at "rd"
            refine ⟨D2, (List.range n).map (fun a : Nat => cyc dr ((i : Int) + a) + a), rfl, .inl (.inl ?_), ?_, fun m hm hle => ?_⟩
            · rw [hD2, List.map_map, Int.toNat_natCast]
              rfl
            · rw [List.length_map, List.length_range]
              omega
            · refine hk _ _ e4 ⟨m, rfl, ?_, fun a ha => hle _ (List.mem_map.mpr ⟨a, List.mem_range.mpr ha, rfl⟩)⟩
              obtain ⟨a, ha, ea⟩ := List.mem_map.mp hm
              exact ⟨a, List.mem_range.mp ha, ea.symm⟩
        · intro D2 H2 zs nD2 e2 hD2 zl zv
          rw [Int.toNat_natCast] at zl
          obtain ⟨m, _, rfl⟩ : ∃ m : List Int, (∀ z ∈ m, True) ∧ zs = m.map V.int := ints_of fun v hv => by
            obtain ⟨i, hi, rfl⟩ := List.mem_iff_getElem.mp hv
            obtain ⟨z, ez, _⟩ := zv i _ (List.getElem?_eq_getElem hi)
            exact ⟨z, trivial, ez⟩
          rw [List.length_map] at zl
          refine k m zl (Good.least (dr := dr) (top := 1 + c) hn hn2 zl yl (by omega) hcy fun j hj => ?_) D2 H2 (fresh_back e1 nD2) (e1.trans e2) hD2
          obtain ⟨z, ez, h1, h2⟩ := zv j _ (by rw [List.getElem?_map, List.getElem?_eq_getElem (by omega)]; rfl)
          have ez' : m.getD j 0 = z := by
            rw [List.getD_eq_getElem?_getD, List.getElem?_eq_getElem (by omega)]
            exact V.int.inj ez
          rw [ez']
          exact ⟨h1, h2⟩

/-! ### is_integer -/
theorem sc_is_integer : FnScope ["thing"] ["thing"] (defScope s_is_integer) := ⟨rfl, rfl, rfl, by decide +kernel, rfl, by decide +kernel, by decide +kernel⟩

def sp_is_integer (K : PySem.W.Frag) (d : Ads) : Sp := fun vs H Q _ => ∃ i : Int, vs = [.int i] ∧ Q (.bl true) H
set_option maxHeartbeats 4000000 in
theorem ok_is_integer (T : Tx K mg d) : Okf P w K mg base 1 d.f_is_integer ["thing"] (sp_is_integer K d) := by
  refine okf_of T.d_is_integer sc_is_integer (fun vs H Q E h => ?_) (fun cdv A outer s H vs Q E hr h => ?_)
  · obtain ⟨i, rfl, k⟩ := h
    rfl
  · obtain ⟨i, rfl, k⟩ := h
    refine ⟨_, (pss_one (ps_ret (pe_and (pe_callB (k_isi (K := K) rfl) (by rfl) T.z_isinstance (by decide +kernel) (pa_cons (pv 0) (pa_cons (pe_bty (n := "int") (by rfl) T.z_int (by decide +kernel)) pa_nil))) (pe_one (pe_not (pe_callB (k_isi (K := K) rfl) (by rfl) T.z_isinstance (by decide +kernel) (pa_cons (pv 0) (pa_cons (pe_bty (n := "bool") (by rfl) T.z_bool (by decide +kernel)) pa_nil)))))))), ?_⟩
    walk_at "rd"
    refine r_isiInt ?_
    walk_at "rd"
    refine iteT ?_
    walk_at "rd"
    refine r_isiIntB ?_
    walk_at "rd"
    exact k

/-! ### are_stays -/
theorem sc_are_stays : FnScope ["thing", "stay"] ["thing"] (defScope s_are_stays) := ⟨rfl, rfl, rfl, by decide +kernel, rfl, by decide +kernel, by decide +kernel⟩

def sp_are_stays (K : PySem.W.Frag) (d : Ads) : Sp := fun vs H Q _ => ∃ (a : Addr) (ns : List Int), vs = [.ref a] ∧ Sq K H a (ns.map V.int) ∧ ns.length ≤ 1000 ∧ ∀ H', Ex H H' → Q (.bl (okStays ns)) H'
set_option maxHeartbeats 4000000 in
theorem ok_are_stays (T : Tx K mg d) : Okf P w K mg base 2 d.f_are_stays ["thing"] (sp_are_stays K d) := by
  refine okf_of T.d_are_stays sc_are_stays (fun vs H Q E h => ?_) (fun cdv A outer s H vs Q E hr h => ?_)
  · obtain ⟨a, ns, rfl, hS, hl, k⟩ := h
    rfl
  · obtain ⟨a, ns, rfl, hS, hl, k⟩ := h
    refine ⟨_, (pss_cons (ps_if (PW.pt (pw_or (pt_not (pt_val (pe_callB (k_isiT (K := K) rfl) (by rfl) T.z_isinstance (by decide +kernel) (pa_cons (pv 0) (pa_cons (pe_tup (pa_cons (pe_bty (n := "list") (by rfl) T.z_list (by decide +kernel)) (pa_cons (pe_bty (n := "tuple") (by rfl) T.z_tuple (by decide +kernel)) pa_nil))) pa_nil))))) (pw_or1 (pt_not (pt_chain op_le op_le pe_int (pe_callB (k_len (K := K) rfl) (by rfl) T.z_len (by decide +kernel) (pa_cons (pv 0) pa_nil)) (pe_gint (by rfl) T.k_MOST_HOURS)))))) (pss_one (ps_ret pe_bl)) pss_nil)
      (pss_one (ps_ret (pe_callB (k_all (K := K) rfl rfl) (by rfl) T.z_all (by decide +kernel) (pa_cons (pe_lc (own := [("stay", 1)]) rfl sc_are_stays.nd (k_piS (K := K) rfl (pv 0)) (blkOk_by (by kernel_rfl)) (fun _ _ _ _ _ => (pg_name (i := 1) sc_are_stays.nd rfl (by first | exact Or.inl rfl | exact Or.inr rfl))) (fun _ _ _ _ _ => pts_nil) (fun _ _ _ _ _ => (pe_and (pf_call (ok_is_integer T) (hr.mono (by decide)) (by rfl) T.g_is_integer T.d_is_integer.kp (pa_cons (pv 1) pa_nil)) (pe_one (pe_chain op_le op_le pe_int (pv 1) (pe_callB (k_len (K := K) rfl) (by rfl) T.z_len (by decide +kernel) (pa_cons (pv 0) pa_nil))))))) pa_nil))))), ?_⟩
    walk_at "rd"
    refine ⟨szc rfl, fun tp np => ?_⟩
    have e1 : Ex H (upd H tp (.tup [.ty "list", .ty "tuple"])) := Ex.new np
    walk_at "rd"
    refine r_isiSeq (hS.mono e1) upd_same ?_
    walk_at "rd"
    refine iteF ?_
    walk_at "rd"
    refine r_len (hS.mono e1) ?_
    walk_at "rd"
    rw [List.length_map]
    have fls : ¬ (1 ≤ ns.length ∧ ns.length ≤ 48) → Q (.bl false) (upd H tp (.tup [.ty "list", .ty "tuple"])) := fun h => by
      have z : okStays ns = false := by
        rw [Bool.eq_false_iff]
        intro z
        have := okStays_iff.mp z
        exact h ⟨this.1, this.2.1⟩
      have := k _ e1
      rw [z] at this
      exact this
    refine r_ite (fun h1 => ?_) (fun h1 => ?_)
    · walk_at "rd"
      refine r_itn (fun h2 => ?_) (fun h2 => ?_)
      · walk_at "rd"
        exact fls (by omega)
      · walk_at "rd"
        refine ⟨a, _, _, rfl, hS.mono e1, Ex.refl _, fun J ⟨G, wk, hG⟩ => lc_fun wk (fun i => .bl (decide (1 ≤ ns.getD i 0) && decide (ns.getD i 0 ≤ (ns.length : Int)))) hG (by rw [List.length_map]; omega) ?_ ?_⟩
        · rintro i x H1 H2 hi e ⟨rfl, hx⟩ kk hk
          obtain rfl := int_at hx
          walk_at "rd"
          refine ⟨_, rfl, ?_⟩
          walk_at "rd"
          refine iteT ?_
          walk_at "rd"
          cases h0 : decide (1 ≤ ns.getD i 0) with
          | true =>
            refine iteT ?_
            walk_at "rd"
            refine r_len (hS.mono (e1.trans e)) ?_
            walk_at "rd"
            rw [List.length_map]
            have := hk _ (Ex.refl _)
            rw [h0] at this
            exact this
          | false =>
            refine iteF ?_
            have := hk _ (Ex.refl _)
            rw [h0] at this
            exact this
        · intro D H' nD e hD
          walk_at "rd"
          rw [List.length_map, map_range_int ns (fun x => V.bl (decide (1 ≤ x) && decide (x ≤ (ns.length : Int))))] at hD
          refine r_all (bs := ns.map fun x => decide (1 ≤ x) && decide (x ≤ (ns.length : Int))) (.inl (.inl (by rw [List.map_map]; exact hD))) ?_
          have := k _ (e1.trans e)
          unfold okStays at this
          rw [decide_eq_true (by omega : 1 ≤ ns.length), decide_eq_true (by omega : ns.length ≤ 48)] at this
          rw [List.all_map]
          exact this
    · walk_at "rd"
      refine iteT ?_
      walk_at "rd"
      exact fls (by omega)

/-! ### need_order -/
theorem sc_need_order : FnScope ["stays", "hour", "stay"] ["stays"] (defScope s_need_order) := ⟨rfl, rfl, rfl, by decide +kernel, rfl, by decide +kernel, by decide +kernel⟩

def sp_need_order (K : PySem.W.Frag) (d : Ads) : Sp := fun vs H Q _ => ∃ (a : Addr) (ns : List Int), vs = [.ref a] ∧ Sq K H a (ns.map V.int) ∧ Good ns ∧ ∀ H', Ex H H' → Q .non H'
set_option maxHeartbeats 4000000 in
theorem ok_need_order (T : Tx K mg d) : Okf P w K mg base 1 d.f_need_order ["stays"] (sp_need_order K d) := by
  refine okf_of T.d_need_order sc_need_order (fun vs H Q E h => ?_) (fun cdv A outer s H vs Q E hr h => ?_)
  · obtain ⟨a, ns, rfl, hS, g, k⟩ := h
    rfl
  · obtain ⟨a, ns, rfl, hS, g, k⟩ := h
    refine ⟨_, (pss_one (ps_for PassesOwn.never rfl (k_piE (K := K) rfl (by rfl) T.z_enumerate (pa_cons (pv 0) pa_nil)) (k_gtup (K := K) (n := 2) rfl rfl (pgs_cons (pg_name (i := 1) sc_need_order.nd rfl (by first | exact Or.inl rfl | exact Or.inr rfl)) (pgs_cons (pg_name (i := 2) sc_need_order.nd rfl (by first | exact Or.inl rfl | exact Or.inr rfl)) pgs_nil))) (pss_one (ps_if (pt_cmpR op_gt (pv 2) (pe_op op_add pe_int (pe_ix (k_ixS (K := K) rfl) (pv 0) (pe_op op_mod (pe_op op_add (pv 1) pe_int) (pe_callB (k_len (K := K) rfl) (by rfl) T.z_len (by decide +kernel) (pa_cons (pv 0) pa_nil))) (fun _ _ => rfl))) (nomark _)) (pss_one ps_never) pss_nil)))), ?_⟩
    walk_at "rd"
    refine ⟨a, _, _, rfl, hS, Ex.refl _, fun J ⟨G, wk, hG⟩ => for_w wk (fun i σ H' => ∃ y1 y2, σ = [some (.ref a), y1, y2] ∧ Ex H H') ⟨none, none, rfl, Ex.refl H⟩ (fun i σ H' _ ⟨_, _, _, e⟩ => hG _ e) ?_ ?_⟩
    · rintro i x σ H1 H2 hi ⟨y1, y2, rfl, e⟩ ⟨T', x1, x2, rfl, nT, rfl, hx1, hx2⟩
      cases hx1
      obtain rfl := int_at hx2
      rw [List.length_map] at hi
      refine r_pair ?_
      have e2 := e.trans (Ex.new nT (o := .tup [.int (i : Nat), .int (ns.getD i 0)]))
      walk_at "rd"
      refine r_len (hS.mono e2) ?_
      rw [List.length_map]
      have hn := g.ne
      walk_at "rd"
      refine r_ixS (hS.mono e2) (at_cyc g.ne _) ?_
      walk_at "rd"
      refine r_ite (fun hc => ?_) (fun hc => ?_)
      · have := g.od (i : Int)
        rw [cyc_at hi] at this
        exact absurd this (by omega)
      · walk_at "rd"
        exact ⟨_, _, rfl, e2⟩
    · rintro σ H' ⟨y1, y2, rfl, e⟩
      exact k _ e

/-! ### width_of -/
theorem sc_width_of : FnScope ["stays", "hour", "back"] ["stays", "hour"] (defScope s_width_of) := ⟨rfl, rfl, rfl, by decide +kernel, rfl, by decide +kernel, by decide +kernel⟩

def sp_width_of (K : PySem.W.Frag) (d : Ads) : Sp := fun vs H Q _ => ∃ (a : Addr) (ns : List Int) (h : Int), vs = [.ref a, .int h] ∧ Sq K H a (ns.map V.int) ∧ 1 ≤ ns.length ∧ ns.length ≤ 48 ∧ ∀ H', Ex H H' → Q (.int (wd ns h)) H'
set_option maxHeartbeats 4000000 in
theorem ok_width_of (T : Tx K mg d) : Okf P w K mg base 1 d.f_width_of ["stays", "hour"] (sp_width_of K d) := by
  refine okf_of T.d_width_of sc_width_of (fun vs H Q E h => ?_) (fun cdv A outer s H vs Q E hr h => ?_)
  · obtain ⟨a, ns, h, rfl, hS, h1, h2, k⟩ := h
    rfl
  · obtain ⟨a, ns, h, rfl, hS, h1, h2, k⟩ := h
    refine ⟨_, (pss_one (ps_ret (pe_callB (k_len (K := K) rfl) (by rfl) T.z_len (by decide +kernel) (pa_cons (pe_lc (own := [("back", 2)]) rfl sc_width_of.nd (pi_range1 (by rfl) T.z_range (pa_cons (pe_callB (k_len (K := K) rfl) (by rfl) T.z_len (by decide +kernel) (pa_cons (pv 0) pa_nil)) pa_nil)) (blkOk_by (by kernel_rfl)) (fun _ _ _ _ _ => (pg_name (i := 2) sc_width_of.nd rfl (by first | exact Or.inl rfl | exact Or.inr rfl))) (fun _ _ _ _ _ => (pts_one (pt_cmpR op_gt (pe_ix (k_ixS (K := K) rfl) (pv 0) (pe_op op_mod (pe_op op_sub (pv 1) (pv 2)) (pe_callB (k_len (K := K) rfl) (by rfl) T.z_len (by decide +kernel) (pa_cons (pv 0) pa_nil))) (fun _ _ => rfl)) (pv 2) (nomark _)))) (fun _ _ _ _ _ => (pv 2))) pa_nil)))), ?_⟩
    walk_at "rd"
    refine r_len hS ?_
    rw [List.length_map]
    walk_at "rd"
    refine lc_filf walk_r0 (fun b => decide ((b : Int) < cyc ns (h - (b : Int)))) (fun b => .int (b : Int)) (fun _ _ => trivial) (by omega) ?_ ?_
    · rintro i x H1 H2 hi e ⟨rfl, rfl⟩ kb kk hk1 hk2
      walk_at "rd"
      refine r_len (hS.mono e) ?_
      rw [List.length_map]
      walk_at "rd"
      refine r_ixS (hS.mono e) (at_cyc h1 _) ?_
      walk_at "rd"
      refine r_ite (fun hc => ?_) (fun hc => ?_)
      · walk_at "rd"
        exact hk1 _ (decide_eq_true hc) (Ex.refl _)
      · exact hk2 _ (decide_eq_false hc) (Ex.refl _)
    · intro D H' nD e hD
      walk_at "rd"
      refine r_len (.inl (.inl (.inl hD))) ?_
      rw [List.length_map, Int.toNat_natCast]
      exact k _ e

/-! ### Clock.__init__ -/
theorem sc_Clock___init__ : FnScope ["self", "stays", "hour"] ["self", "stays"] (defScope s_Clock___init__) := ⟨rfl, rfl, rfl, by decide +kernel, rfl, by decide +kernel, by decide +kernel⟩

def sp_Clock___init__ (K : PySem.W.Frag) (d : Ads) : Sp := spClkInit K d.c_Clock
set_option maxHeartbeats 4000000 in
theorem ok_Clock___init__ (T : Tx K mg d) : Okf P w K mg base 3 d.f_Clock___init__ ["self", "stays"] (sp_Clock___init__ K d) := by
  refine okf_of T.d_Clock___init__ sc_Clock___init__ (fun vs H Q E h => ?_) (fun cdv A outer s H vs Q E hr h => ?_)
  · obtain ⟨H0, x, dx, a, s, rfl, rfl, nx, ndx, ne, hS, g, k⟩ := h
    rfl
  · obtain ⟨H0, x, dx, a, s, rfl, rfl, nx, ndx, ne, hS, g, k⟩ := h
    refine ⟨_, (pss_cons (ps_if (pt_not (pt_val (pf_call (ok_are_stays T) (hr.mono (by decide)) (by rfl) T.g_are_stays T.d_are_stays.kp (pa_cons (pv 1) pa_nil)))) (pss_one ps_never) pss_nil)
      (pss_cons (ps_expr (pf_call (ok_need_order T) (hr.mono (by decide)) (by rfl) T.g_need_order T.d_need_order.kp (pa_cons (pv 1) pa_nil)))
      (pss_cons (k_sfld (K := K) rfl (pv 0) (pe_callTy (k_tupOf (K := K) rfl) (by rfl) T.z_tuple (by decide +kernel) (pa_cons (pv 1) pa_nil)))
      (pss_one (k_sfld (K := K) rfl (pv 0) (pe_callTy (k_tupOf (K := K) rfl) (by rfl) T.z_tuple (by decide +kernel) (pa_cons (pe_lc (own := [("hour", 2)]) rfl sc_Clock___init__.nd (pi_range1 (by rfl) T.z_range (pa_cons (pe_callB (k_len (K := K) rfl) (by rfl) T.z_len (by decide +kernel) (pa_cons (pv 1) pa_nil)) pa_nil)) (blkOk_by (by kernel_rfl)) (fun _ _ _ _ _ => (pg_name (i := 2) sc_Clock___init__.nd rfl (by first | exact Or.inl rfl | exact Or.inr rfl))) (fun _ _ _ _ _ => pts_nil) (fun _ _ _ _ _ => (pf_call (ok_width_of T) (hr.mono (by decide)) (by rfl) T.g_width_of T.d_width_of.kp (pa_cons (pv 1) (pa_cons (pv 2) pa_nil))))) pa_nil))))))), ?_⟩
    have e0 : Ex H0 (upd (upd H0 dx (.own x)) x (.ins d.c_Clock dx [])) := Ex.mut (Ex.new ndx) nx
    have hn := g.ne
    have hl := g.le
    walk_at "rd"
    refine ⟨a, s, rfl, hS.mono e0, by omega, fun H1 e1 => ?_⟩
    rw [g.ok]
    walk_at "rd"
    refine iteF ?_
    walk_at "rd"
    refine ⟨a, s, rfl, hS.mono (e0.trans e1), g, fun H2 e2 => ?_⟩
    have x2 : H2 x = some (.ins d.c_Clock dx []) := e2 _ _ (e1 _ _ upd_same)
    have e02 : Ex H0 H2 := (e0.trans e1).trans e2
    walk_at "rd"
    refine r_tupOf (hS.mono e02) fun p H3 e3 hp => ?_
    walk_at "rd"
    refine ⟨x, _, dx, _, rfl, e3 _ _ x2, T.cl_Clock, T.n_Clock_kept_stays, by show 0 < 1000; decide, ?_⟩
    have e04 : Ex H0 (upd H3 x (.ins d.c_Clock dx (putF "kept_stays" (.ref p) []))) := Ex.mut (e02.trans e3) nx
    have hp4 : SqT K (upd H3 x (.ins d.c_Clock dx (putF "kept_stays" (.ref p) []))) p (s.map V.int) := tup_ins (e3 _ _ x2) hp
    walk_at "rd"
    refine r_len (hS.mono e04) ?_
    rw [List.length_map]
    walk_at "rd"
    refine lc_fun walk_r0 (fun i => .int (wd s (i : Int))) (fun _ _ => trivial) (by omega) ?_ ?_
    · rintro i y H5 H6 hi e ⟨rfl, rfl⟩ kk hk
      walk_at "rd"
      refine ⟨a, s, _, rfl, hS.mono (e04.trans e), hn, hl, fun H7 e7 => ?_⟩
      exact hk _ e7
    · intro D H5 nD e5 hD
      have x5 : H5 x = some (.ins d.c_Clock dx (putF "kept_stays" (.ref p) [])) := e5 _ _ upd_same
      walk_at "rd"
      refine r_tupOf (.inl (.inl (.inl hD))) fun q H6 e6 hq => ?_
      walk_at "rd"
      refine ⟨x, _, dx, _, rfl, e6 _ _ x5, T.cl_Clock, T.n_Clock_kept_widths, by show 1 < 1000; decide, ?_⟩
      refine k _ (Ex.mut ((e04.trans e5).trans e6) nx) ⟨x, dx, p, q, rfl, upd_same, tup_ins (e6 _ _ x5) (ex_t (e5.trans e6) hp4), tup_ins (e6 _ _ x5) ?_, g⟩
      unfold wds
      rw [List.map_map]
      rw [Int.toNat_natCast] at hq
      exact hq

/-! ### _law_clock -/
theorem sc__law_clock : FnScope ["_law_bag_here", "_law_stays_here", "_law_row", "_law_clock_here"] ["_law_bag_here", "_law_stays_here"] (defScope s__law_clock) := ⟨rfl, rfl, rfl, by decide +kernel, rfl, by decide +kernel, by decide +kernel⟩

def sp__law_clock (K : PySem.W.Frag) (d : Ads) : Sp := fun vs H Q _ => ∃ (b a : Addr) (s : List Int), vs = [.ref b, .ref a] ∧ Bag H b ∧ Sq K H a (s.map V.int) ∧ Good s ∧ ∀ u H', Ex H H' → Clk K d.c_Clock H' u s → Q u H'
set_option maxHeartbeats 4000000 in
theorem ok__law_clock (T : Tx K mg d) : Okf P w K mg base 5 d.f__law_clock ["_law_bag_here", "_law_stays_here"] (sp__law_clock K d) := by
  refine okf_of T.d__law_clock sc__law_clock (fun vs H Q E h => ?_) (fun cdv A outer s H vs Q E hr h => ?_)
  · obtain ⟨b, a, s, rfl, hB, hS, g, k⟩ := h
    rfl
  · obtain ⟨b, a, s, rfl, hB, hS, g, k⟩ := h
    refine ⟨_, (pss_cons (ps_if (pt_cmpR op_eq (pf_call (ok__law_take T) (hr.mono (by decide)) (by rfl) T.g__law_take T.d__law_take.kp (pa_cons (pv 0) (pa_cons pe_int pa_nil))) pe_int (nomark _)) (pss_one (ps_ret (pf_make (ok_Clock___init__ T) (hr.mono (by decide)) T.mk_Clock (by rfl) T.g_Clock (pa_cons (pe_callTy (k_tupOf (K := K) rfl) (by rfl) T.z_tuple (by decide +kernel) (pa_cons (pv 1) pa_nil)) pa_nil)))) pss_nil)
      (pss_cons (ps_set (i := 2) sc__law_clock.nd rfl (by first | exact Or.inl rfl | exact Or.inr rfl) (pe_callTy (k_listOf (K := K) rfl) (by rfl) T.z_list (by decide +kernel) (pa_cons (pv 1) pa_nil)))
      (pss_cons (ps_set (i := 3) sc__law_clock.nd rfl (by first | exact Or.inl rfl | exact Or.inr rfl) (pf_make (ok_Clock___init__ T) (hr.mono (by decide)) T.mk_Clock (by rfl) T.g_Clock (pa_cons (pv 2) pa_nil)))
      (pss_cons (ps_asg pe_int (pg_sub (pv 2) pe_int set_list))
      (pss_cons (ps_expr (pe_bm PySem.F.plainAttrs_list PySem.F.slot_list_append PySem.F.type_list_append mt_append (pv 2) (pa_cons pe_int pa_nil)))
      (pss_one (ps_ret (pv 3)))))))), ?_⟩
    have hne := g.ne
    have hle := g.le
    walk_at "rd"
    refine ⟨b, _, rfl, hB, by omega, by omega, fun c0 _ _ => ?_⟩
    walk_at "rd"
    refine r_ite (fun _ => ?_) (fun _ => ?_)
    · walk_at "rd"
      refine r_tupOf hS fun p H1 e1 hp => ?_
      walk_at "rd"
      exact mkClk ⟨p, s, rfl, .inr hp, g, fun u H2 e2 c => k _ H2 (e1.trans e2) c⟩
    · walk_at "rd"
      refine r_listOf hS fun l nl => ?_
      walk_at "rd"
      refine mkClk ⟨l, s, rfl, .inl (.inl (.inl upd_same)), g, fun u H2 e2 c => ?_⟩
      have hl := e2 _ _ (upd_same (H := H) (a := l) (o := .lst (s.map V.int)))
      have e02 := (Ex.new nl).trans e2
      walk_at "rd"
      have hix : ixN (s.map V.int).length (0 : Int) = some 0 := by
        rw [List.length_map]
        exact Hn.ixN_nat hne
      refine r_setL hl hix ?_
      walk_at "rd"
      refine ⟨ty_lst upd_same, ?_⟩
      walk_at "rd"
      refine ⟨l, _, _, rfl, rfl, upd_same, sz_lt (by rw [List.length_set, List.length_map]; omega), ?_⟩
      walk_at "rd"
      refine k _ _ (Ex.mut (Ex.mut e02 nl) nl) ((c.mono (Xl.set hl)).mono (Xl.set upd_same))

/-! ### _law_mixed -/
theorem sc__law_mixed : FnScope ["_law_bag_here", "_law_things", "_law_found", "_law_thing"] ["_law_bag_here", "_law_things"] (defScope s__law_mixed) := ⟨rfl, rfl, rfl, by decide +kernel, rfl, by decide +kernel, by decide +kernel⟩

def sp__law_mixed (K : PySem.W.Frag) (d : Ads) : Sp := fun vs H Q _ => ∃ (b a : Addr) (xs : List V), vs = [.ref b, .ref a] ∧ Bag H b ∧ Sq K H a xs ∧ xs.length ≤ 1000 ∧ ∀ ys : List V, ys.Perm xs → RetN ys H Q
set_option maxHeartbeats 4000000 in
theorem ok__law_mixed (T : Tx K mg d) : Okf P w K mg base 2 d.f__law_mixed ["_law_bag_here", "_law_things"] (sp__law_mixed K d) := by
  refine okf_of T.d__law_mixed sc__law_mixed (fun vs H Q E h => ?_) (fun cdv A outer s H vs Q E hr h => ?_)
  · obtain ⟨b, a, xs, rfl, hB, hS, hl, k⟩ := h
    rfl
  · obtain ⟨b, a, xs, rfl, hB, hS, hl, k⟩ := h
    refine ⟨_, (pss_cons (ps_set (i := 2) sc__law_mixed.nd rfl (by first | exact Or.inl rfl | exact Or.inr rfl) (pe_lst pa_nil))
      (pss_cons (ps_for PassesOwn.never rfl (k_piS (K := K) rfl (pv 1)) (pg_name (i := 3) sc__law_mixed.nd rfl (by first | exact Or.inl rfl | exact Or.inr rfl)) (pss_one (ps_expr (pe_bm PySem.F.plainAttrs_list PySem.F.slot_list_insert PySem.F.type_list_insert k_insert (pv 2) (pa_cons (pf_call (ok__law_take T) (hr.mono (by decide)) (by rfl) T.g__law_take T.d__law_take.kp (pa_cons (pv 0) (pa_cons (pe_op op_add (pe_callB (k_len (K := K) rfl) (by rfl) T.z_len (by decide +kernel) (pa_cons (pv 2) pa_nil)) pe_int) pa_nil))) (pa_cons (pv 3) pa_nil))))))
      (pss_one (ps_ret (pv 2))))), ?_⟩
    walk_at "rd"
    refine ⟨szc rfl, fun p np => ?_⟩
    walk_at "rd"
    have e0 : Ex H (upd H p (.lst [])) := Ex.new np
    refine ⟨a, _, _, rfl, hS, e0, fun J ⟨G, wk, hG⟩ => for_w wk (fun i σ H' => ∃ y3 ys, σ = [some (.ref b), some (.ref a), some (.ref p), y3] ∧ Ex H H' ∧ H' p = some (.lst ys) ∧ ys.Perm (xs.take i)) ⟨none, [], rfl, e0, upd_same, by rw [List.take_zero]⟩ (fun i σ H' _ ⟨_, _, _, e, _⟩ => hG _ e) ?_ ?_⟩
    · rintro i x σ H1 H2 hi ⟨y3, ys, rfl, e, hp, pm⟩ ⟨rfl, hx⟩
      have yl : ys.length ≤ 1000 := by
        have := pm.length_eq
        rw [List.length_take] at this
        omega
      walk_at "rd"
      refine ⟨ty_lst hp, ?_⟩
      walk_at "rd"
      refine r_len (.inl (.inl (.inl hp))) ?_
      walk_at "rd"
      refine ⟨b, _, rfl, hB.mono (.of e), by omega, by omega, fun n n0 n1 => ?_⟩
      walk_at "rd"
      refine ⟨p, ys, n, x, rfl, rfl, hp, sz_lt (by omega), n0, by omega, ?_⟩
      refine ⟨_, _, rfl, Ex.mut e np, upd_same, ?_⟩
      rw [List.take_succ, hx]
      have e1 : (ys.take n.toNat ++ [x] ++ ys.drop n.toNat).Perm (x :: ys) := by
        rw [List.append_assoc]
        refine List.perm_middle.trans ?_
        show (x :: (ys.take n.toNat ++ ys.drop n.toNat)).Perm (x :: ys)
        rw [List.take_append_drop]
      exact e1.trans ((List.Perm.cons x pm).trans (List.perm_append_singleton x _).symm)
    · rintro σ H' ⟨y3, ys, rfl, e, hp, pm⟩
      walk_at "rd"
      rw [List.take_length] at pm
      exact k ys pm p H' np e hp

/-! ### Clock.stays -/
theorem sc_Clock_stays : FnScope ["self"] ["self"] (defScope s_Clock_stays) := ⟨rfl, rfl, rfl, by decide +kernel, rfl, by decide +kernel, by decide +kernel⟩

def sp_Clock_stays (K : PySem.W.Frag) (d : Ads) : Sp := fun vs H Q _ => ∃ (v : V) (s : List Int), vs = [v] ∧ Clk K d.c_Clock H v s ∧ RetN (s.map V.int) H Q
set_option maxHeartbeats 4000000 in
theorem ok_Clock_stays (T : Tx K mg d) : Okf P w K mg base 1 d.f_Clock_stays ["self"] (sp_Clock_stays K d) := by
  refine okf_of T.d_Clock_stays sc_Clock_stays (fun vs H Q E h => ?_) (fun cdv A outer s H vs Q E hr h => ?_)
  · obtain ⟨v, s, rfl, ⟨p, dx, a, b, rfl, hp, ha, hb, g⟩, k⟩ := h
    rfl
  · obtain ⟨v, s, rfl, ⟨p, dx, a, b, rfl, hp, ha, hb, g⟩, k⟩ := h
    refine ⟨_, (pss_one (ps_ret (pe_callTy (k_listOf (K := K) rfl) (by rfl) T.z_list (by decide +kernel) (pa_cons (k_fld (K := K) rfl (pv 0)) pa_nil)))), ?_⟩
    walk_at "rd"
    refine ⟨p, _, dx, _, _, rfl, hp, T.cl_Clock, T.n_Clock_kept_stays, clkF_stays _ _, ?_⟩
    walk_at "rd"
    refine r_listOf (.inr ha) fun l nl => ?_
    exact k l _ nl (Ex.new nl) upd_same

/-! ### Clock.hours -/
theorem sc_Clock_hours : FnScope ["self"] ["self"] (defScope s_Clock_hours) := ⟨rfl, rfl, rfl, by decide +kernel, rfl, by decide +kernel, by decide +kernel⟩

def sp_Clock_hours (K : PySem.W.Frag) (d : Ads) : Sp := fun vs H Q _ => ∃ (v : V) (s : List Int), vs = [v] ∧ Clk K d.c_Clock H v s ∧ Q (.int (s.length : Int)) H
set_option maxHeartbeats 4000000 in
theorem ok_Clock_hours (T : Tx K mg d) : Okf P w K mg base 1 d.f_Clock_hours ["self"] (sp_Clock_hours K d) := by
  refine okf_of T.d_Clock_hours sc_Clock_hours (fun vs H Q E h => ?_) (fun cdv A outer s H vs Q E hr h => ?_)
  · obtain ⟨v, s, rfl, ⟨p, dx, a, b, rfl, hp, ha, hb, g⟩, k⟩ := h
    rfl
  · obtain ⟨v, s, rfl, ⟨p, dx, a, b, rfl, hp, ha, hb, g⟩, k⟩ := h
    refine ⟨_, (pss_one (ps_ret (pe_callB (k_len (K := K) rfl) (by rfl) T.z_len (by decide +kernel) (pa_cons (k_fld (K := K) rfl (pv 0)) pa_nil)))), ?_⟩
    walk_at "rd"
    refine ⟨p, _, dx, _, _, rfl, hp, T.cl_Clock, T.n_Clock_kept_stays, clkF_stays _ _, ?_⟩
    walk_at "rd"
    refine r_len (.inr ha) ?_
    rw [List.length_map]
    exact k

/-! ### Needs.hours -/
theorem sc_Needs_hours : FnScope ["self"] ["self"] (defScope s_Needs_hours) := ⟨rfl, rfl, rfl, by decide +kernel, rfl, by decide +kernel, by decide +kernel⟩

def sp_Needs_hours (K : PySem.W.Frag) (d : Ads) : Sp := fun vs H Q _ => ∃ (v : V) (s : List Int), vs = [v] ∧ Nd K d H v s ∧ Q (.int (s.length : Int)) H
set_option maxHeartbeats 4000000 in
theorem ok_Needs_hours (T : Tx K mg d) : Okf P w K mg base 1 d.f_Needs_hours ["self"] (sp_Needs_hours K d) := by
  refine okf_of T.d_Needs_hours sc_Needs_hours (fun vs H Q E h => ?_) (fun cdv A outer s H vs Q E hr h => ?_)
  · obtain ⟨v, s, rfl, hN, k⟩ := h
    rfl
  · obtain ⟨v, s, rfl, hN, k⟩ := h
    refine ⟨_, (pss_one (ps_ret (pe_callB (k_len (K := K) rfl) (by rfl) T.z_len (by decide +kernel) (pa_cons (k_fld (K := K) rfl (pv 0)) pa_nil)))), ?_⟩
    walk_at "rd"
    refine r_rwF hN T.cl_Needs T.n_Needs_kept_row fun a ha => ?_
    walk_at "rd"
    refine r_len (.inr ha) ?_
    rw [List.length_map]
    exact k

/-! ### need_alike -/
theorem sc_need_alike : FnScope ["clock", "needs"] ["clock", "needs"] (defScope s_need_alike) := ⟨rfl, rfl, rfl, by decide +kernel, rfl, by decide +kernel, by decide +kernel⟩

def sp_need_alike (K : PySem.W.Frag) (d : Ads) : Sp := fun vs H Q _ => ∃ (v u : V) (s ns : List Int), vs = [v, u] ∧ Clk K d.c_Clock H v s ∧ Nd K d H u ns ∧ ns.length = s.length ∧ Q .non H
set_option maxHeartbeats 4000000 in
theorem ok_need_alike (T : Tx K mg d) : Okf P w K mg base 3 d.f_need_alike ["clock", "needs"] (sp_need_alike K d) := by
  refine okf_of T.d_need_alike sc_need_alike (fun vs H Q E h => ?_) (fun cdv A outer s H vs Q E hr h => ?_)
  · obtain ⟨v, u, s, ns, rfl, hC, hN, hl, k⟩ := h
    rfl
  · obtain ⟨v, u, s, ns, rfl, hC, hN, hl, k⟩ := h
    refine ⟨_, (pss_one (ps_if (pt_cmpR op_ne (pf_prop (ok_Clock_hours T) (hr.mono (by decide)) T.cl_Clock T.p_Clock_hours (pv 0)) (pf_prop (ok_Needs_hours T) (hr.mono (by decide)) T.cl_Needs T.p_Needs_hours (pv 1)) (nomark _)) (pss_one ps_never) pss_nil)), ?_⟩
    walk_at "rd"
    refine r_clkP hC fun _ eq => ?_
    subst eq
    refine ⟨_, _, rfl, hC, ?_⟩
    walk_at "rd"
    refine r_rwP hN fun _ eq => ?_
    subst eq
    refine ⟨_, _, rfl, hN, ?_⟩
    walk_at "rd"
    refine r_same (by rw [hl]) ?_
    walk_at "rd"
    exact k

/-! ### Clock.widths -/
theorem sc_Clock_widths : FnScope ["self"] ["self"] (defScope s_Clock_widths) := ⟨rfl, rfl, rfl, by decide +kernel, rfl, by decide +kernel, by decide +kernel⟩

def sp_Clock_widths (K : PySem.W.Frag) (d : Ads) : Sp := fun vs H Q _ => ∃ (v : V) (s : List Int), vs = [v] ∧ Clk K d.c_Clock H v s ∧ RetN ((wds s).map V.int) H Q
set_option maxHeartbeats 4000000 in
theorem ok_Clock_widths (T : Tx K mg d) : Okf P w K mg base 1 d.f_Clock_widths ["self"] (sp_Clock_widths K d) := by
  refine okf_of T.d_Clock_widths sc_Clock_widths (fun vs H Q E h => ?_) (fun cdv A outer s H vs Q E hr h => ?_)
  · obtain ⟨v, s, rfl, ⟨p, dx, a, b, rfl, hp, ha, hb, g⟩, k⟩ := h
    rfl
  · obtain ⟨v, s, rfl, ⟨p, dx, a, b, rfl, hp, ha, hb, g⟩, k⟩ := h
    refine ⟨_, (pss_one (ps_ret (pe_callTy (k_listOf (K := K) rfl) (by rfl) T.z_list (by decide +kernel) (pa_cons (k_fld (K := K) rfl (pv 0)) pa_nil)))), ?_⟩
    walk_at "rd"
    refine ⟨p, _, dx, _, _, rfl, hp, T.cl_Clock, T.n_Clock_kept_widths, clkF_widths _ _, ?_⟩
    walk_at "rd"
    refine r_listOf (.inr hb) fun l nl => ?_
    exact k l _ nl (Ex.new nl) upd_same

/-! ### is_hour -/
theorem sc_is_hour : FnScope ["hours", "thing"] ["hours", "thing"] (defScope s_is_hour) := ⟨rfl, rfl, rfl, by decide +kernel, rfl, by decide +kernel, by decide +kernel⟩

def sp_is_hour (K : PySem.W.Frag) (d : Ads) : Sp := fun vs H Q _ => ∃ n i : Int, vs = [.int n, .int i] ∧ Q (.bl (decide (0 ≤ i) && decide (i < n))) H
set_option maxHeartbeats 4000000 in
theorem ok_is_hour (T : Tx K mg d) : Okf P w K mg base 2 d.f_is_hour ["hours", "thing"] (sp_is_hour K d) := by
  refine okf_of T.d_is_hour sc_is_hour (fun vs H Q E h => ?_) (fun cdv A outer s H vs Q E hr h => ?_)
  · obtain ⟨n, i, rfl, k⟩ := h
    rfl
  · obtain ⟨n, i, rfl, k⟩ := h
    refine ⟨_, (pss_one (ps_ret (pe_and (pf_call (ok_is_integer T) (hr.mono (by decide)) (by rfl) T.g_is_integer T.d_is_integer.kp (pa_cons (pv 1) pa_nil)) (pe_one (pe_chain op_le op_lt pe_int (pv 1) (pv 0)))))), ?_⟩
    walk_at "rd"
    refine ⟨i, rfl, ?_⟩
    walk_at "rd"
    refine iteT ?_
    walk_at "rd"
    cases h0 : decide (0 ≤ i) with
    | true =>
      refine iteT ?_
      walk_at "rd"
      rw [h0] at k
      exact k
    | false =>
      refine iteF ?_
      rw [h0] at k
      exact k

/-! ### Needs.__getitem__ -/
theorem sc_Needs___getitem__ : FnScope ["self", "hour"] ["self", "hour"] (defScope s_Needs___getitem__) := ⟨rfl, rfl, rfl, by decide +kernel, rfl, by decide +kernel, by decide +kernel⟩

def sp_Needs___getitem__ (K : PySem.W.Frag) (d : Ads) : Sp := fun vs H Q _ => ∃ (v : V) (s : List Int) (h : Int), vs = [v, .int h] ∧ Nd K d H v s ∧ 0 ≤ h ∧ h < (s.length : Int) ∧ Q (.int (cyc s h)) H
set_option maxHeartbeats 4000000 in
theorem ok_Needs___getitem__ (T : Tx K mg d) : Okf P w K mg base 3 d.f_Needs___getitem__ ["self", "hour"] (sp_Needs___getitem__ K d) := by
  refine okf_of T.d_Needs___getitem__ sc_Needs___getitem__ (fun vs H Q E h => ?_) (fun cdv A outer s H vs Q E hr h => ?_)
  · obtain ⟨v, s, h, rfl, hN, h0, h1, k⟩ := h
    rfl
  · obtain ⟨v, s, h, rfl, hN, h0, h1, k⟩ := h
    refine ⟨_, (pss_cons (ps_if (pt_not (pt_val (pf_call (ok_is_hour T) (hr.mono (by decide)) (by rfl) T.g_is_hour T.d_is_hour.kp (pa_cons (pe_callB (k_len (K := K) rfl) (by rfl) T.z_len (by decide +kernel) (pa_cons (k_fld (K := K) rfl (pv 0)) pa_nil)) (pa_cons (pv 1) pa_nil))))) (pss_one ps_never) pss_nil)
      (pss_one (ps_ret (pe_ix (k_ixT (K := K) rfl) (k_fld (K := K) rfl (pv 0)) (pv 1) (fun _ _ => rfl))))), ?_⟩
    walk_at "rd"
    refine r_rwF hN T.cl_Needs T.n_Needs_kept_row fun a ha => ?_
    walk_at "rd"
    refine r_len (.inr ha) ?_
    rw [List.length_map]
    walk_at "rd"
    refine ⟨_, _, rfl, ?_⟩
    rw [decide_eq_true h0, decide_eq_true h1]
    walk_at "rd"
    refine iteF ?_
    walk_at "rd"
    refine r_rwF hN T.cl_Needs T.n_Needs_kept_row fun a ha => ?_
    walk_at "rd"
    refine r_ixT ha ?_ k
    have := at_cyc hN.good.ne h
    rw [Int.emod_eq_of_lt h0 h1] at this
    exact this

/-! ### need_edges -/
theorem sc_need_edges : FnScope ["clock", "needs", "hours", "found", "hour", "width", "first"] ["clock", "needs"] (defScope s_need_edges) := ⟨rfl, rfl, rfl, by decide +kernel, rfl, by decide +kernel, by decide +kernel⟩

def sp_need_edges (K : PySem.W.Frag) (d : Ads) : Sp := fun vs H Q _ => ∃ (v u : V) (s ns : List Int), vs = [v, u] ∧ Clk K d.c_Clock H v s ∧ Nd K d H u ns ∧ ns.length = s.length ∧ ∀ p H', H p = none → Ex H H' → EdL H' p (needEs s ns) → Q (.ref p) H'
def needN (s d : List Int) (i : Nat) : List (Ed Stp) := (List.range i).flatMap fun (h : Nat) => [nE s d h, kE s.length 0 h]
theorem needN_succ (s d : List Int) (i : Nat) : needN s d (i + 1) = needN s d i ++ [nE s d i] ++ [kE s.length 0 i] := by
  unfold needN
  rw [List.range_succ, List.flatMap_append]
  show _ ++ [nE s d i, kE s.length 0 i] = _
  rw [List.append_assoc]
  rfl
set_option maxHeartbeats 4000000 in
theorem ok_need_edges (T : Tx K mg d) : Okf P w K mg base 5 d.f_need_edges ["clock", "needs"] (sp_need_edges K d) := by
  refine okf_of T.d_need_edges sc_need_edges (fun vs H Q E h => ?_) (fun cdv A outer s H vs Q E hr h => ?_)
  · obtain ⟨v, u, s, ns, rfl, hC, hN, hlen, k⟩ := h
    rfl
  · obtain ⟨v, u, s, ns, rfl, hC, hN, hlen, k⟩ := h
    refine ⟨_, (pss_cons (ps_par (i := 2) (j := 3) (by rfl) sc_need_edges.nd rfl rfl (by decide) rfl rfl (pa_cons (pf_prop (ok_Clock_hours T) (hr.mono (by decide)) T.cl_Clock T.p_Clock_hours (pv 0)) (pa_cons (pe_lst pa_nil) pa_nil)) (by rfl))
      (pss_cons (ps_for PassesOwn.never rfl (k_piE (K := K) rfl (by rfl) T.z_enumerate (pa_cons (pf_meth0 (ok_Clock_widths T) (hr.mono (by decide)) T.cl_Clock T.m_Clock_widths (pv 0)) pa_nil)) (k_gtup (K := K) (n := 2) rfl rfl (pgs_cons (pg_name (i := 4) sc_need_edges.nd rfl (by first | exact Or.inl rfl | exact Or.inr rfl)) (pgs_cons (pg_name (i := 5) sc_need_edges.nd rfl (by first | exact Or.inl rfl | exact Or.inr rfl)) pgs_nil))) (pss_cons (ps_set (i := 6) sc_need_edges.nd rfl (by first | exact Or.inl rfl | exact Or.inr rfl) (pe_op op_mod (pe_op op_add (pe_op op_sub (pv 4) (pv 5)) pe_int) (pv 2)))
      (pss_cons (ps_expr (pe_bm PySem.F.plainAttrs_list PySem.F.slot_list_append PySem.F.type_list_append mt_append (pv 3) (pa_cons (pe_tup (pa_cons (pv 6) (pa_cons (pe_op op_mod (pe_op op_add (pv 4) pe_int) (pv 2)) (pa_cons (pe_op op_fdiv (pe_op op_add (pv 6) (pv 5)) (pv 2)) (pa_cons (pe_ixB (ok_Needs___getitem__ T) (hr.mono (by decide)) T.m_Needs___getitem__.at_ T.fi_Needs___getitem__ T.m_Needs___getitem__.fn (pv 1) (pv 4)) (pa_cons (pe_tup (pa_cons pe_str (pa_cons (pv 4) pa_nil))) pa_nil)))))) pa_nil)))
      (pss_one (ps_expr (pe_bm PySem.F.plainAttrs_list PySem.F.slot_list_append PySem.F.type_list_append mt_append (pv 3) (pa_cons (pe_tup (pa_cons (pv 4) (pa_cons (pe_op op_mod (pe_op op_add (pv 4) pe_int) (pv 2)) (pa_cons (pe_op op_fdiv (pe_op op_add (pv 4) pe_int) (pv 2)) (pa_cons pe_int (pa_cons (pe_tup (pa_cons pe_str (pa_cons (pv 4) pa_nil))) pa_nil)))))) pa_nil)))))))
      (pss_one (ps_ret (pv 3))))), ?_⟩
    have g := hC.good
    have hn := g.ne
    have hn8 := g.le
    obtain ⟨q, dq, aq, rfl, hq, _⟩ := id hN
    walk_at "rd"
    refine r_clkP hC fun _ eq => ?_
    subst eq
    refine ⟨_, _, rfl, hC, ?_⟩
    walk_at "rd"
    refine ⟨szc rfl, fun p np => ?_⟩
    walk_at "rd"
    refine r_clkM (s := s) (by walk_at "kn") ?_
    walk_at "rd"
    refine ⟨_, s, rfl, (by walk_at "kn"), fun wl H1 nwl e1 hwl => ?_⟩
    have e0 : Ex H (del H1 p) := ex_del ((Ex.new np).trans e1) np
    have nwp : wl ≠ p := fun z => by
      rw [z, upd_same] at nwl
      cases nwl
    have hwl0 : del H1 p wl = some (.lst ((wds s).map V.int)) := by rw [del_ne nwp]; exact hwl
    have hp1 : H1 p = some (.lst []) := e1 _ _ upd_same
    refine ⟨wl, (wds s).map V.int, del H1 p, rfl, (by walk_at "kn"), del_ex, fun J ⟨G, wk, hG⟩ => for_w wk (fun i σ H' => (∃ z4 z5 z6, σ = [some (.ref _), some (.ref q), some (.int (s.length : Int)), some (.ref p), z4, z5, z6]) ∧ Ex (del H1 p) H' ∧ EdL H' p (needN s ns i)) ⟨⟨_, _, _, rfl⟩, del_ex, EdL.nil hp1⟩ (fun i σ H' _ q => hG _ q.2.1) ?_ ?_⟩
    · rintro i x σ H2 H3 hi ⟨⟨z4, z5, z6, rfl⟩, e2, hE⟩ ⟨T', x1, x2, rfl, nT, rfl, hx1, hx2⟩
      cases hx1
      obtain rfl := int_at hx2
      rw [List.length_map, wds_length] at hi
      have hw : (wds s).getD i 0 = wd s i := by rw [← cyc_at (by rw [wds_length]; exact hi), cyc_wds hn]
      rw [hw]
      have w1 := wd_pos g i
      have w2 := wd_le (s := s) i
      refine r_pair ?_
      have e3 : Ex H2 (upd H2 T' (.tup [.int (i : Nat), .int (wd s i)])) := Ex.new nT
      obtain ⟨vs, hvp, hvl, _⟩ := id hE
      walk_at "rd"
      refine ⟨ty_lst (e3 _ _ hvp), ?_⟩
      have m1 := mod_bd hn ((i : Int) - wd s i + 1)
      walk_at "rd"
      refine r_rwG (C := d.c_Needs) (ns := ns) (by walk_at "kn") ?_
      refine ⟨_, ns, _, rfl, (by walk_at "kn"), by omega, by omega, ?_⟩
      walk_at "rd"
      refine ⟨szc rfl, fun t1 nt1 => ?_⟩
      walk_at "rd"
      refine ⟨szc rfl, fun t2 nt2 => ?_⟩
      walk_at "rd"
      have e5 : Ex H2 (upd (upd (upd H2 T' (.tup [.int (i : Nat), .int (wd s i)])) t1 (.tup [.str "need", .int (i : Nat)])) t2 (.tup [.int (((i : Int) - wd s i + 1) % (s.length : Int)), .int (((i : Int) + 1) % (s.length : Int)), .int ((((i : Int) - wd s i + 1) % (s.length : Int) + wd s i) / (s.length : Int)), .int (cyc ns i), .ref t1])) := (e3.trans (Ex.new nt1)).trans (Ex.new nt2)
      have hl2 : vs.length = 2 * i := by
        rw [hvl]
        have := needEs_len (List.replicate i 0) ns
        have : ∀ n : Nat, (needN s ns n).length = 2 * n := fun n => by
          induction n with
          | zero => rfl
          | succ n ih =>
            rw [needN_succ, List.length_append, List.length_append, ih]
            show 2 * n + 1 + 1 = _
            omega
        exact this i
      refine ⟨p, _, _, rfl, rfl, e5 _ _ hvp, ?_, ?_⟩
      · exact Nat.lt_of_lt_of_le (by omega : vs.length < 2000) (by decide)
      have E1 := hE.ex e5
      have V1 : EdV (upd (upd (upd H2 T' (.tup [.int (i : Nat), .int (wd s i)])) t1 (.tup [.str "need", .int (i : Nat)])) t2 (.tup [.int (((i : Int) - wd s i + 1) % (s.length : Int)), .int (((i : Int) + 1) % (s.length : Int)), .int ((((i : Int) - wd s i + 1) % (s.length : Int) + wd s i) / (s.length : Int)), .int (cyc ns i), .ref t1])) (.ref t2) (nE s ns i) := by
        refine ⟨t2, .ref t1, rfl, ?_, t1, rfl, mv_at upd_same (Ex.new nt2)⟩
        rw [upd_same]
        have f1 : (((nE s ns i).f : Nat) : Int) = ((i : Int) - wd s i + 1) % (s.length : Int) := mdN_int hn _
        have f2 : (((nE s ns i).l : Nat) : Int) = ((i : Int) - wd s i + 1 + wd s i) % (s.length : Int) := mdN_int hn _
        have f3 : (nE s ns i).t = (((nE s ns i).f : Nat) + wd s i) / (s.length : Int) := rfl
        rw [f3, f1, f2, show (i : Int) - wd s i + 1 + wd s i = (i : Int) + 1 by omega]
        rfl
      have E2 := E1.push (e5 _ _ hvp) V1
      clear E1 V1
      generalize hH5 : upd (upd (upd H2 T' (.tup [.int (i : Nat), .int (wd s i)])) t1 (.tup [.str "need", .int (i : Nat)])) t2 (.tup [.int (((i : Int) - wd s i + 1) % (s.length : Int)), .int (((i : Int) + 1) % (s.length : Int)), .int ((((i : Int) - wd s i + 1) % (s.length : Int) + wd s i) / (s.length : Int)), .int (cyc ns i), .ref t1]) = H5 at E2 e5 ⊢
      have e6 : Ex (del H1 p) (upd H5 p (.lst (vs ++ [.ref t2]))) := Ex.mut (e2.trans e5) del_same
      walk_at "rd"
      refine ⟨ty_lst upd_same, ?_⟩
      walk_at "rd"
      refine ⟨szc rfl, fun t3 nt3 => ?_⟩
      walk_at "rd"
      refine ⟨szc rfl, fun t4 nt4 => ?_⟩
      walk_at "rd"
      have e8 : Ex (upd H5 p (.lst (vs ++ [.ref t2]))) (upd (upd (upd H5 p (.lst (vs ++ [.ref t2]))) t3 (.tup [.str "keep", .int (i : Nat)])) t4 (.tup [.int (i : Nat), .int (((i : Int) + 1) % (s.length : Int)), .int (((i : Int) + 1) / (s.length : Int)), .int 0, .ref t3])) := (Ex.new nt3).trans (Ex.new nt4)
      refine ⟨p, _, _, rfl, rfl, e8 _ _ upd_same, ?_, ?_⟩
      · rw [List.length_append, List.length_singleton]
        exact Nat.lt_of_lt_of_le (by omega : vs.length + 1 < 2000) (by decide)
      have V2 : EdV (upd (upd (upd H5 p (.lst (vs ++ [.ref t2]))) t3 (.tup [.str "keep", .int (i : Nat)])) t4 (.tup [.int (i : Nat), .int (((i : Int) + 1) % (s.length : Int)), .int (((i : Int) + 1) / (s.length : Int)), .int 0, .ref t3])) (.ref t4) (kE s.length 0 i) := by
        refine ⟨t4, .ref t3, rfl, ?_, t3, rfl, mv_at upd_same (Ex.new nt4)⟩
        rw [upd_same]
        have f1 : (((kE s.length 0 i).f : Nat) : Int) = (i : Int) := by
          show ((mdN s.length (i : Int) : Nat) : Int) = (i : Int)
          rw [mdN_int hn, Int.emod_eq_of_lt (by omega) (by omega)]
        have f2 : (((kE s.length 0 i).l : Nat) : Int) = ((i : Int) + 1) % (s.length : Int) := by
          show ((mdN s.length ((i : Int) + 1) : Nat) : Int) = _
          rw [mdN_int hn]
        have f3 : (kE s.length 0 i).t = (((kE s.length 0 i).f : Nat) + 1) / (s.length : Int) := rfl
        rw [f3, f1, f2]
        rfl
      have E4 := (E2.ex e8).push (e8 _ _ upd_same) V2
      rw [← needN_succ] at E4
      walk_at "rd"
      exact ⟨⟨_, _, _, rfl⟩, Ex.mut (e6.trans e8) del_same, E4⟩
    rintro σ H2 ⟨⟨z4, z5, z6, rfl⟩, e2, hE⟩
    walk_at "rd"
    rw [List.length_map, wds_length] at hE
    exact k p H2 np (e0.trans e2) hE

/-! ### Needs.__len__ -/
theorem sc_Needs___len__ : FnScope ["self"] ["self"] (defScope s_Needs___len__) := ⟨rfl, rfl, rfl, by decide +kernel, rfl, by decide +kernel, by decide +kernel⟩

def sp_Needs___len__ (K : PySem.W.Frag) (d : Ads) : Sp := fun vs H Q _ => ∃ (v : V) (s : List Int), vs = [v] ∧ Nd K d H v s ∧ Q (.int (s.length : Int)) H
set_option maxHeartbeats 4000000 in
theorem ok_Needs___len__ (T : Tx K mg d) : Okf P w K mg base 1 d.f_Needs___len__ ["self"] (sp_Needs___len__ K d) := by
  refine okf_of T.d_Needs___len__ sc_Needs___len__ (fun vs H Q E h => ?_) (fun cdv A outer s H vs Q E hr h => ?_)
  · obtain ⟨v, s, rfl, hN, k⟩ := h
    rfl
  · obtain ⟨v, s, rfl, hN, k⟩ := h
    refine ⟨_, (pss_one (ps_ret (pe_callB (k_len (K := K) rfl) (by rfl) T.z_len (by decide +kernel) (pa_cons (k_fld (K := K) rfl (pv 0)) pa_nil)))), ?_⟩
    walk_at "rd"
    refine r_rwF hN T.cl_Needs T.n_Needs_kept_row fun a ha => ?_
    walk_at "rd"
    refine r_len (.inr ha) ?_
    rw [List.length_map]
    exact k

/-! ### Needs.__iter__ -/
theorem sc_Needs___iter__ : FnScope ["self"] ["self"] (defScope s_Needs___iter__) := ⟨rfl, rfl, rfl, by decide +kernel, rfl, by decide +kernel, by decide +kernel⟩

def sp_Needs___iter__ (K : PySem.W.Frag) (d : Ads) (n : Nat) : Sp := fun vs H Q _ => ∃ (v : V) (s : List Int), vs = [v] ∧ Nd K d H v s ∧ ∀ l it, SqT K H l (s.map V.int) → H it = none → n ≤ it → Q (.ref it) (upd H it (ItT l it))
set_option maxHeartbeats 4000000 in
theorem ok_Needs___iter__ (T : Tx K mg d) (n : Nat) : OkP (fun _ s => n ≤ s.heap.objs.size) P w K mg base 1 d.f_Needs___iter__ ["self"] (sp_Needs___iter__ K d n) := by
  refine okP_of T.d_Needs___iter__ sc_Needs___iter__ (fun vs H Q E h => ?_) (fun cdv A outer s H vs Q E hn hr h => ?_)
  · obtain ⟨v, s, rfl, hN, k⟩ := h
    rfl
  · obtain ⟨v, s, rfl, hN, k⟩ := h
    refine ⟨_, (pss_one (ps_ret (pe_callB (k_iterT (K := K) (n := n) rfl hn) (by rfl) T.z_iter (by decide +kernel) (pa_cons (k_fld (K := K) rfl (pv 0)) pa_nil)))), ?_⟩
    walk_at "rd"
    refine r_rwF hN T.cl_Needs T.n_Needs_kept_row fun a ha => ?_
    walk_at "rd"
    exact ⟨a, _, rfl, ha, fun it n1 n2 => k a it ha n1 n2⟩

theorem r_list_Needs {H : Hp} {Q : VK} {v : V} {s : List Int} (hN : Nd K d H v s) (q : ∀ l, H l = none → Q (.ref l) (upd H l (.lst (s.map V.int)))) : rListO K d.c_Needs (sp_Needs___iter__ K d) (sp_Needs___len__ K d) [v] H Q := by
  obtain ⟨p, dx, a, rfl, hp, ha, g⟩ := id hN
  have hle := g.le
  exact ⟨p, dx, _, _, rfl, hp, by rw [List.length_map]; omega, fun n H' Q' e h => ⟨_, s, rfl, hN.ex e, h⟩, fun H' Q' e h => ⟨_, s, rfl, hN.ex e, h _ (by omega) (by omega)⟩, q⟩

/-! ### gain_of -/
theorem sc_gain_of : FnScope ["edge", "pace"] ["edge", "pace"] (defScope s_gain_of) := ⟨rfl, rfl, rfl, by decide +kernel, rfl, by decide +kernel, by decide +kernel⟩

def sp_gain_of (K : PySem.W.Frag) (d : Ads) : Sp := fun vs H Q _ => ∃ (v : V) (pc : Addr) (e : Ed Stp) (pa pb : Int), vs = [v, .ref pc] ∧ EdV H v e ∧ SqT K H pc [.int pa, .int pb] ∧ -(2 ^ 64) < pb ∧ pb < 2 ^ 64 ∧ -(2 ^ 64) < e.t ∧ e.t < 2 ^ 64 ∧ Q (.int (gn pa pb e)) H
set_option maxHeartbeats 4000000 in
theorem ok_gain_of (T : Tx K mg d) : Okf P w K mg base 1 d.f_gain_of ["edge", "pace"] (sp_gain_of K d) := by
  refine okf_of T.d_gain_of sc_gain_of (fun vs H Q E h => ?_) (fun cdv A outer s H vs Q E hr h => ?_)
  · obtain ⟨v, pc, e, pa, pb, rfl, ⟨t, sv, rfl, ht, _⟩, hp, b1, b2, t1, t2, k⟩ := h
    rfl
  · obtain ⟨v, pc, e, pa, pb, rfl, ⟨t, sv, rfl, ht, _⟩, hp, b1, b2, t1, t2, k⟩ := h
    refine ⟨_, (pss_one (ps_ret (pe_op op_sub (pe_op op_mul (pe_ix (k_ixT (K := K) rfl) (pv 1) pe_int (fun _ _ => rfl)) (pe_ix (k_ixT (K := K) rfl) (pv 0) pe_int (fun _ _ => rfl))) (pe_op op_mul (pe_ix (k_ixT (K := K) rfl) (pv 1) pe_int (fun _ _ => rfl)) (pe_ix (k_ixT (K := K) rfl) (pv 0) pe_int (fun _ _ => rfl)))))), ?_⟩
    walk_at "rd"
    refine r_ixT hp (atI_nat (j := 1) rfl) ?_
    walk_at "rd"
    refine r_ixT (at_sqT ht) (atI_nat (j := 3) rfl) ?_
    walk_at "rd"
    refine r_ixT hp (atI_nat (j := 0) rfl) ?_
    walk_at "rd"
    refine r_ixT (at_sqT ht) (atI_nat (j := 2) rfl) ?_
    walk_at "rd"
    exact k

/-! ### further -/
theorem sc_further : FnScope ["edges", "pace", "reached", "came", "changed", "edge", "told"] ["edges", "pace", "reached", "came"] (defScope s_further) := ⟨rfl, rfl, rfl, by decide +kernel, rfl, by decide +kernel, by decide +kernel⟩

def sp_further (K : PySem.W.Frag) (d : Ads) : Sp := fun vs H Q _ => ∃ (l pc rp cp : Addr) (es : List (Ed Stp)) (pa pb : Int) (n : Nat) (r : Nat → Option Int) (c : Nat → Option (Ed Stp)), vs = [.ref l, .ref pc, .ref rp, .ref cp] ∧ EdL H l es ∧ SqT K H pc [.int pa, .int pb] ∧ H rp = some (.lst (rwO n r)) ∧ CamL H cp n c ∧
  l ≠ rp ∧ l ≠ cp ∧ rp ≠ cp ∧ EdOk n es ∧ -(2 ^ 64) < pb ∧ pb < 2 ^ 64 ∧ ∀ H', Mv2 rp cp H H' → H' rp = some (.lst (rwO n (pass pa pb es r c).r)) → CamL H' cp n (pass pa pb es r c).c → Q (optN (pass pa pb es r c).ch) H'
theorem relax_eq {pa pb x : Int} {q : Sta Stp} {e : Ed Stp} (h : q.r e.f = some x) (hb : better (x + gn pa pb e) (q.r e.l) = true) : relax pa pb q e = ⟨upF q.r e.l (some (x + gn pa pb e)), upF q.c e.l (some e), some e.l⟩ := by rw [relax_some h, if_pos hb]
theorem relax_ne {pa pb x : Int} {q : Sta Stp} {e : Ed Stp} (h : q.r e.f = some x) (hb : better (x + gn pa pb e) (q.r e.l) = false) : relax pa pb q e = q := by rw [relax_some h, if_neg (by rw [hb]; decide)]
theorem at_rwO {n : Nat} {r : Nat → Option Int} {i : Nat} (h : i < n) : atI (rwO n r) (i : Int) = some (optI (r i)) := atI_nat (rwO_at h)
set_option maxHeartbeats 4000000 in
theorem ok_further (T : Tx K mg d) : Okf P w K mg base 2 d.f_further ["edges", "pace", "reached", "came"] (sp_further K d) := by
  refine okf_of T.d_further sc_further (fun vs H Q E h => ?_) (fun cdv A outer s H vs Q E hr h => ?_)
  · obtain ⟨l, pc, rp, cp, es, pa, pb, n, r, c, rfl, hE, hP, hR, hC, n1, n2, n3, ok, b1, b2, k⟩ := h
    rfl
  · obtain ⟨l, pc, rp, cp, es, pa, pb, n, r, c, rfl, hE, hP, hR, hC, n1, n2, n3, ok, b1, b2, k⟩ := h
    refine ⟨_, (pss_cons (ps_set (i := 4) sc_further.nd rfl (by first | exact Or.inl rfl | exact Or.inr rfl) pe_non)
      (pss_cons (ps_for PassesOwn.never rfl (k_piL (K := K) rfl (pv 0)) (pg_name (i := 5) sc_further.nd rfl (by first | exact Or.inl rfl | exact Or.inr rfl)) (pss_one (ps_if (pt_cmpR k_notN (pe_ix (k_ixL (K := K) rfl) (pv 2) (pe_ix (k_ixT (K := K) rfl) (pv 5) pe_int (fun _ _ => rfl)) (fun _ _ => rfl)) pe_non (nomark _)) (pss_cons (ps_set (i := 6) sc_further.nd rfl (by first | exact Or.inl rfl | exact Or.inr rfl) (pe_op op_add (pe_ix (k_ixL (K := K) rfl) (pv 2) (pe_ix (k_ixT (K := K) rfl) (pv 5) pe_int (fun _ _ => rfl)) (fun _ _ => rfl)) (pf_call (ok_gain_of T) (hr.mono (by decide)) (by rfl) T.g_gain_of T.d_gain_of.kp (pa_cons (pv 5) (pa_cons (pv 1) pa_nil)))))
      (pss_one (ps_if (PW.pt (pw_or (pt_cmpR k_isN (pe_ix (k_ixL (K := K) rfl) (pv 2) (pe_ix (k_ixT (K := K) rfl) (pv 5) pe_int (fun _ _ => rfl)) (fun _ _ => rfl)) pe_non (nomark _)) (pw_or1 (pt_cmpR op_gt (pv 6) (pe_ix (k_ixL (K := K) rfl) (pv 2) (pe_ix (k_ixT (K := K) rfl) (pv 5) pe_int (fun _ _ => rfl)) (fun _ _ => rfl)) (nomark _))))) (pss_cons (ps_asg (pv 6) (pg_sub (pv 2) (pe_ix (k_ixT (K := K) rfl) (pv 5) pe_int (fun _ _ => rfl)) set_list))
      (pss_cons (ps_asg (pv 5) (pg_sub (pv 3) (pe_ix (k_ixT (K := K) rfl) (pv 5) pe_int (fun _ _ => rfl)) set_list))
      (pss_one (ps_set (i := 4) sc_further.nd rfl (by first | exact Or.inl rfl | exact Or.inr rfl) (pe_ix (k_ixT (K := K) rfl) (pv 5) pe_int (fun _ _ => rfl)))))) pss_nil))) pss_nil)))
      (pss_one (ps_ret (pv 4))))), ?_⟩
    obtain ⟨vs, hl, hlen, hvs⟩ := id hE
    obtain ⟨cs, hcp, hcl, hcc⟩ := id hC
    walk_at "rd"
    refine ⟨l, rfl, ⟨_, at_sqL hl⟩, ?_⟩
    refine for_w (walk_list (xs := vs)) (fun i σ H' => ∃ z5 z6, σ = [some (.ref l), some (.ref pc), some (.ref rp), some (.ref cp), some (optN ((es.take i).foldl (relax pa pb) ⟨r, c, none⟩).ch), z5, z6] ∧ Mv2 rp cp H H' ∧ H' rp = some (.lst (rwO n ((es.take i).foldl (relax pa pb) ⟨r, c, none⟩).r)) ∧ CamL H' cp n ((es.take i).foldl (relax pa pb) ⟨r, c, none⟩).c) ⟨_, _, rfl, Mv2.refl _ _ _, hR, hC⟩ (fun i σ H' _ ⟨_, _, _, m, _⟩ => at_sqL (m _ _ n1 n2 hl)) ?_ ?_
    · rintro i x σ H1 H2 hi ⟨z5, z6, rfl, m, hR1, hC1⟩ ⟨rfl, hx⟩
      obtain ⟨e, he, hv⟩ := hvs i x hx
      have hm : e ∈ es := List.mem_of_getElem? he
      obtain ⟨f1, f2, f3, f4⟩ := ok e hm
      have xl := m.xl hR hcp
      have hv1 := hv.mono xl
      have hP1 := tup_mono xl hP
      have hq : (es.take (i + 1)).foldl (relax pa pb) ⟨r, c, none⟩ = relax pa pb ((es.take i).foldl (relax pa pb) ⟨r, c, none⟩) e := by
        rw [List.take_add_one, he]
        show (es.take i ++ [e]).foldl _ _ = _
        rw [List.foldl_append]
        rfl
      rw [hq]
      generalize (es.take i).foldl (relax pa pb) ⟨r, c, none⟩ = q at hR1 hC1 ⊢
      obtain ⟨t, sv, rfl, ht, hs⟩ := id hv1
      obtain ⟨ds, hds, hdl, hdc⟩ := id hC1
      walk_at "rd"
      refine r_ixT (at_sqT ht) (atI_nat (j := 0) rfl) ?_
      refine r_ixL (at_sqL hR1) (at_rwO f1) ?_
      walk_at "rd"
      refine r_notN ?_
      walk_at "rd"
      cases z : q.r e.f with
      | none =>
        rw [relax_none z]
        refine iteF ?_
        walk_at "rd"
        exact ⟨_, _, rfl, m, hR1, hC1⟩
      | some x =>
        refine iteT ?_
        walk_at "rd"
        refine r_ixT (at_sqT ht) (atI_nat (j := 0) rfl) ?_
        refine r_ixL (at_sqL hR1) (at_rwO f1) ?_
        rw [z]
        walk_at "rd"
        refine ⟨_, pc, e, pa, pb, rfl, hv1, hP1, b1, b2, f3, f4, ?_⟩
        show rI0 _ (V.int x) _ _ _
        walk_at "rd"
        refine r_ixT (at_sqT ht) (atI_nat (j := 1) rfl) ?_
        refine r_ixL (at_sqL hR1) (at_rwO f2) ?_
        walk_at "rd"
        refine r_isN ?_
        walk_at "rd"
        have done : better (x + gn pa pb e) (q.r e.l) = true → ∀ z5 z6, ∃ y5 y6, [some (V.ref l), some (V.ref pc), some (V.ref rp), some (V.ref cp), some (V.int (e.l : Int)), z5, z6] = [some (V.ref l), some (V.ref pc), some (V.ref rp), some (V.ref cp), some (optN (relax pa pb q e).ch), y5, y6] ∧ Mv2 rp cp H (upd (upd H2 rp (.lst ((rwO n q.r).set e.l (.int (x + gn pa pb e))))) cp (.lst (ds.set e.l (.ref t)))) ∧ (upd (upd H2 rp (.lst ((rwO n q.r).set e.l (.int (x + gn pa pb e))))) cp (.lst (ds.set e.l (.ref t)))) rp = some (.lst (rwO n (relax pa pb q e).r)) ∧ CamL (upd (upd H2 rp (.lst ((rwO n q.r).set e.l (.int (x + gn pa pb e))))) cp (.lst (ds.set e.l (.ref t)))) cp n (relax pa pb q e).c := by
          intro hb z5 z6
          rw [relax_eq z hb]
          refine ⟨z5, z6, rfl, (m.trans Mv2.l).trans Mv2.r, ?_, ?_⟩
          · rw [upd_ne n3, upd_same, rwO_set]
          · have x1 : Xl H2 (upd H2 rp (.lst ((rwO n q.r).set e.l (.int (x + gn pa pb e))))) := Xl.set hR1
            refine CamL.put ⟨ds, by rw [upd_ne n3.symm]; exact hds, hdl, fun i v hv => (hdc i v hv).mono x1⟩ (by rw [upd_ne n3.symm]; exact hds) (hv1.mono x1)
        cases zl : q.r e.l with
        | none =>
          refine iteT ?_
          refine iteT ?_
          walk_at "rd"
          refine r_ixT (at_sqT ht) (atI_nat (j := 1) rfl) ?_
          refine r_setL hR1 (by rw [rwO_length]; exact Hn.ixN_nat f2) ?_
          walk_at "rd"
          refine r_ixT (tup_mono (Xl.set hR1) (at_sqT ht)) (atI_nat (j := 1) rfl) ?_
          refine r_setL (by rw [upd_ne n3.symm]; exact hds) (by rw [hdl]; exact Hn.ixN_nat f2) ?_
          walk_at "rd"
          refine r_ixT (tup_mono (Xl.set (by rw [upd_ne n3.symm]; exact hds)) (tup_mono (Xl.set hR1) (at_sqT ht))) (atI_nat (j := 1) rfl) ?_
          exact done (by rw [zl]; rfl) _ _
        | some y =>
          refine iteF ?_
          walk_at "rd"
          refine r_ixT (at_sqT ht) (atI_nat (j := 1) rfl) ?_
          refine r_ixL (at_sqL hR1) (at_rwO f2) ?_
          rw [zl]
          show rI0 _ (V.int _) (V.int y) _ _
          walk_at "rd"
          refine r_ite (fun hb => ?_) fun hb => ?_
          · walk_at "rd"
            refine r_ixT (at_sqT ht) (atI_nat (j := 1) rfl) ?_
            refine r_setL hR1 (by rw [rwO_length]; exact Hn.ixN_nat f2) ?_
            walk_at "rd"
            refine r_ixT (tup_mono (Xl.set hR1) (at_sqT ht)) (atI_nat (j := 1) rfl) ?_
            refine r_setL (by rw [upd_ne n3.symm]; exact hds) (by rw [hdl]; exact Hn.ixN_nat f2) ?_
            walk_at "rd"
            refine r_ixT (tup_mono (Xl.set (by rw [upd_ne n3.symm]; exact hds)) (tup_mono (Xl.set hR1) (at_sqT ht))) (atI_nat (j := 1) rfl) ?_
            exact done (by rw [zl]; exact decide_eq_true hb) _ _
          · walk_at "rd"
            rw [relax_ne z (by rw [zl]; exact decide_eq_false hb)]
            exact ⟨_, _, rfl, m, hR1, hC1⟩
    rintro σ H' ⟨z5, z6, rfl, m, hR1, hC1⟩
    walk_at "rd"
    rw [hlen, List.take_length] at hR1 hC1
    rw [hlen, List.take_length]
    exact k _ m hR1 hC1

/-! ### closed_at -/
theorem sc_closed_at : FnScope ["hours", "came", "mark", "again", "found", "here"] ["hours", "came", "mark"] (defScope s_closed_at) := ⟨rfl, rfl, rfl, by decide +kernel, rfl, by decide +kernel, by decide +kernel⟩

def sp_closed_at (K : PySem.W.Frag) (d : Ads) : Sp := fun vs H Q _ => ∃ (n m : Nat) (cp : Addr) (c : Nat → Option (Ed Stp)), vs = [.int (n : Int), .ref cp, .int (m : Int)] ∧ CamL H cp n c ∧ Ring c n m ∧ n ≤ 1000 ∧ ∀ p H', H p = none → Ex H H' → EdL H' p (clos c n m).reverse → Q (.ref p) H'
theorem prd_eq {S : Type} {c : Nat → Option (Ed S)} {i m : Nat} {e : Ed S} (h : c (prdN c i m) = some e) : e.f = prdN c (i + 1) m := by
  show e.f = prd c (prdN c i m)
  unfold prd
  rw [h]
set_option maxHeartbeats 4000000 in
theorem ok_closed_at (T : Tx K mg d) : Okf P w K mg base 1 d.f_closed_at ["hours", "came", "mark"] (sp_closed_at K d) := by
  refine okf_of T.d_closed_at sc_closed_at (fun vs H Q E h => ?_) (fun cdv A outer s H vs Q E hr h => ?_)
  · obtain ⟨n, m, cp, c, rfl, hC, hR, hn, k⟩ := h
    rfl
  · obtain ⟨n, m, cp, c, rfl, hC, hR, hn, k⟩ := h
    refine ⟨_, (pss_cons (ps_for PassesOwn.never rfl (pi_range1 (by rfl) T.z_range (pa_cons (pv 0) pa_nil)) (pg_name (i := 3) sc_closed_at.nd rfl (by first | exact Or.inl rfl | exact Or.inr rfl)) (pss_one (ps_set (i := 2) sc_closed_at.nd rfl (by first | exact Or.inl rfl | exact Or.inr rfl) (pe_ix (k_ixT (K := K) rfl) (pe_ix (k_ixL (K := K) rfl) (pv 1) (pv 2) (fun _ _ => rfl)) pe_int (fun _ _ => rfl)))))
      (pss_cons (ps_par (i := 4) (j := 5) (by rfl) sc_closed_at.nd rfl rfl (by decide) rfl rfl (pa_cons (pe_lst (pa_cons (pe_ix (k_ixL (K := K) rfl) (pv 1) (pv 2) (fun _ _ => rfl)) pa_nil)) (pa_cons (pe_ix (k_ixT (K := K) rfl) (pe_ix (k_ixL (K := K) rfl) (pv 1) (pv 2) (fun _ _ => rfl)) pe_int (fun _ _ => rfl)) pa_nil)) (by rfl))
      (pss_cons (ps_while PassesOwn.never (pt_cmpR op_ne (pv 5) (pv 2) (nomark _)) (pss_cons (ps_expr (pe_bm PySem.F.plainAttrs_list PySem.F.slot_list_append PySem.F.type_list_append mt_append (pv 4) (pa_cons (pe_ix (k_ixL (K := K) rfl) (pv 1) (pv 5) (fun _ _ => rfl)) pa_nil)))
      (pss_one (ps_set (i := 5) sc_closed_at.nd rfl (by first | exact Or.inl rfl | exact Or.inr rfl) (pe_ix (k_ixT (K := K) rfl) (pe_ix (k_ixL (K := K) rfl) (pv 1) (pv 5) (fun _ _ => rfl)) pe_int (fun _ _ => rfl))))))
      (pss_one (ps_ret (k_revL (K := K) rfl (pv 4))))))), ?_⟩
    obtain ⟨p1, pn, pe, pl⟩ := per_spec hR
    obtain ⟨c1, c2⟩ := clos_at hR
    walk_at "rd"
    refine for_w walk_r0 (fun i σ H' => (∃ z3 z4 z5, σ = [some (.int (n : Int)), some (.ref cp), some (.int (prdN c i m : Nat)), z3, z4, z5]) ∧ H' = H) ⟨⟨_, _, _, rfl⟩, rfl⟩ (fun _ _ _ _ _ => trivial) ?_ ?_
    · rintro i x σ H1 H2 hi ⟨⟨z3, z4, z5, rfl⟩, rfl⟩ ⟨rfl, rfl⟩
      obtain ⟨e, he, hlt⟩ := hR.al i
      obtain ⟨vs, t, sv, h1, h2, h3, _⟩ := hC.at hlt he
      walk_at "rd"
      refine r_ixL (at_sqL h1) (atI_nat h2) ?_
      walk_at "rd"
      refine r_ixT (at_sqT h3) (atI_nat (j := 0) rfl) ?_
      walk_at "rd"
      rw [prd_eq he]
      exact ⟨⟨_, _, _, rfl⟩, rfl⟩
    rintro σ H1 ⟨⟨z3, z4, z5, rfl⟩, rfl⟩
    rw [Int.toNat_natCast]
    obtain ⟨e, he, hlt⟩ := hR.al n
    obtain ⟨vs, t, sv, h1, h2, h3, h4⟩ := hC.at hlt he
    walk_at "rd"
    refine r_ixL (at_sqL h1) (atI_nat h2) ?_
    walk_at "rd"
    refine ⟨szc rfl, fun p np => ?_⟩
    walk_at "rd"
    refine r_ixL (by walk_at "kn") (atI_nat h2) ?_
    walk_at "rd"
    refine r_ixT (by walk_at "kn") (atI_nat (j := 0) rfl) ?_
    walk_at "rd"
    rw [prd_eq he]
    refine r_while (fun q σ H' => ∃ i : Nat, 1 ≤ i ∧ i + q = per c n m ∧ (∃ z3, σ = [some (.int (n : Int)), some (.ref cp), some (.int (prdN c n m : Nat)), z3, some (.ref p), some (.int (prdN c (n + i) m : Nat))]) ∧ Ex H1 H' ∧ ∃ fs : List V, H' p = some (.lst fs) ∧ fs.length = i ∧ ∀ (j : Nat) v, fs[j]? = some v → ∃ e, c (prdN c (n + j) m) = some e ∧ EdV H1 v e) (per c n m - 1) ⟨1, Nat.le_refl 1, by omega, ⟨_, rfl⟩, Ex.new np, _, upd_same, rfl, fun j v hv => ?_⟩ ?_
    · match j, hv with
      | 0, hv =>
        cases hv
        exact ⟨e, he, h4⟩
    rintro q σ H2 ⟨i, i1, iq, ⟨z3', rfl⟩, e2, fs, f1, f2, f3⟩
    walk_at "rd"
    refine r_itn (fun z => r_turn ?_) fun z => ?_
    · have hiq : i < per c n m := by
        rcases Nat.lt_or_eq_of_le (by omega : i ≤ per c n m) with a | a
        · exact a
        · rw [a, pe] at z
          exact absurd rfl z
      obtain ⟨e', he', hlt'⟩ := hR.al (n + i)
      obtain ⟨vs', t', sv', g1, g2, g3, g4⟩ := hC.at hlt' he'
      walk_at "rd"
      refine ⟨ty_lst f1, ?_⟩
      walk_at "rd"
      refine r_ixL (by walk_at "kn") (atI_nat g2) ?_
      walk_at "rd"
      refine ⟨p, _, _, rfl, rfl, f1, ?_, ?_⟩
      · rw [f2]
        exact Nat.lt_of_lt_of_le (by omega : i < 2000) (by decide)
      have e3 : Ex H1 (upd H2 p (.lst (fs ++ [.ref t']))) := Ex.mut e2 np
      walk_at "rd"
      refine r_ixL (by walk_at "kn") (atI_nat g2) ?_
      walk_at "rd"
      refine r_ixT (by walk_at "kn") (atI_nat (j := 0) rfl) ?_
      walk_at "rd"
      rw [prd_eq he']
      refine ⟨q - 1, by omega, i + 1, by omega, by omega, ⟨_, rfl⟩, e3, _, upd_same, by rw [List.length_append, f2]; rfl, fun j v hv => ?_⟩
      by_cases hj : j < i
      · rw [List.getElem?_append_left (by omega)] at hv
        exact f3 j v hv
      · rw [List.getElem?_append_right (by omega)] at hv
        have hj2 : j = i := by
          have := (List.getElem?_eq_some_iff.mp hv).1
          rw [List.length_singleton] at this
          omega
        subst hj2
        rw [f2, Nat.sub_self] at hv
        cases hv
        exact ⟨e', he', g4⟩
    · have hiq : i = per c n m := by
        rcases Nat.lt_or_eq_of_le (by omega : i ≤ per c n m) with a | a
        · exact absurd (by omega) (pl i i1 a)
        · exact a
      walk_at "rd"
      refine ⟨p, fs, rfl, (by walk_at "kn"), fun p2 np2 => ?_⟩
      refine k p2 _ (by walk_at "fr") (by walk_at "ex") ⟨_, upd_same, by rw [List.length_reverse, List.length_reverse, c1, f2, hiq], fun j v hv => ?_⟩
      have hj : j < fs.length := by
        have := (List.getElem?_eq_some_iff.mp hv).1
        rw [List.length_reverse] at this
        exact this
      rw [List.getElem?_reverse hj] at hv
      obtain ⟨e', g1, g2⟩ := f3 _ v hv
      refine ⟨e', ?_, g2.mono (.of (e2.trans (Ex.new np2)))⟩
      rw [List.getElem?_reverse (by rw [c1]; omega), c1, ← hiq, ← f2, c2 _ (by omega)]
      exact g1

/-! ### gaining -/
theorem sc_gaining : FnScope ["hours", "edges", "pace", "reached", "came", "again", "changed"] ["hours", "edges", "pace"] (defScope s_gaining) := ⟨rfl, rfl, rfl, by decide +kernel, rfl, by decide +kernel, by decide +kernel⟩

def sp_gaining (K : PySem.W.Frag) (d : Ads) : Sp := fun vs H Q _ => ∃ (n : Nat) (l pc : Addr) (es : List (Ed Stp)) (pa pb : Int), vs = [.int (n : Int), .ref l, .ref pc] ∧ EdL H l es ∧ SqT K H pc [.int pa, .int pb] ∧ EdOk n es ∧ n ≤ 1000 ∧ -(2 ^ 64) < pb ∧ pb < 2 ^ 64 ∧
  ∀ v H', Ex H H' → GaV H' v (gaining n es pa pb) → Q v H'
set_option maxHeartbeats 4000000 in
theorem ok_gaining (T : Tx K mg d) : Okf P w K mg base 3 d.f_gaining ["hours", "edges", "pace"] (sp_gaining K d) := by
  refine okf_of T.d_gaining sc_gaining (fun vs H Q E h => ?_) (fun cdv A outer s H vs Q E hr h => ?_)
  · obtain ⟨n, l, pc, es, pa, pb, rfl, hE, hP, ok, hn, b1, b2, k⟩ := h
    rfl
  · obtain ⟨n, l, pc, es, pa, pb, rfl, hE, hP, ok, hn, b1, b2, k⟩ := h
    refine ⟨_, (pss_cons (ps_par (i := 3) (j := 4) (by rfl) sc_gaining.nd rfl rfl (by decide) rfl rfl (pa_cons (pe_op op_rep (pe_lst (pa_cons pe_int pa_nil)) (pv 0)) (pa_cons (pe_op op_rep (pe_lst (pa_cons pe_non pa_nil)) (pv 0)) pa_nil)) (by rfl))
      (pss_cons (ps_for PassesOwn.never rfl (pi_range1 (by rfl) T.z_range (pa_cons (pe_op op_add (pv 0) pe_int) pa_nil)) (pg_name (i := 5) sc_gaining.nd rfl (by first | exact Or.inl rfl | exact Or.inr rfl)) (pss_cons (ps_set (i := 6) sc_gaining.nd rfl (by first | exact Or.inl rfl | exact Or.inr rfl) (pf_call (ok_further T) (hr.mono (by decide)) (by rfl) T.g_further T.d_further.kp (pa_cons (pv 1) (pa_cons (pv 2) (pa_cons (pv 3) (pa_cons (pv 4) pa_nil))))))
      (pss_one (ps_if (pt_cmpR k_isN (pv 6) pe_non (nomark _)) (pss_one (ps_ret pe_non)) pss_nil))))
      (pss_one (ps_ret (pf_call (ok_closed_at T) (hr.mono (by decide)) (by rfl) T.g_closed_at T.d_closed_at.kp (pa_cons (pv 0) (pa_cons (pv 4) (pa_cons (pv 6) pa_nil)))))))), ?_⟩
    walk_at "rd"
    refine ⟨szc rfl, fun p0 np0 => ?_⟩
    walk_at "rd"
    refine r_rep1 upd_same hn fun rp nrp => ?_
    walk_at "rd"
    refine ⟨szc rfl, fun p1 np1 => ?_⟩
    walk_at "rd"
    refine r_rep1 upd_same hn fun cp ncp => ?_
    walk_at "rd"
    obtain ⟨vs, hl, _⟩ := id hE
    have fr0 : H rp = none := (by walk_at "fr")
    have fc0 : H cp = none := (by walk_at "fr")
    have nrc : rp ≠ cp := fun z => by
      have a := upd_same (H := upd H p0 (.lst [.int 0])) (a := rp) (o := .lst (List.replicate n (V.int 0)))
      have b := Ex.new np1 (o := .lst [V.non]) _ _ a
      rw [← z] at ncp
      rw [ncp] at b
      cases b
    have nlr : l ≠ rp := fun z => by rw [z, fr0] at hl; cases hl
    have nlc : l ≠ cp := fun z => by rw [z, fc0] at hl; cases hl
    refine for_w walk_r0 (fun i σ H' => ∃ q z5 z6, runs pa pb es i = some q ∧ (1 ≤ i → z6 = some (optN q.ch)) ∧ σ = [some (.int (n : Int)), some (.ref l), some (.ref pc), some (.ref rp), some (.ref cp), z5, z6] ∧ Ex H H' ∧ H' rp = some (.lst (rwO n q.r)) ∧ CamL H' cp n q.c) ⟨_, _, _, rfl, fun z => absurd z (by omega), rfl, (by walk_at "ex"), ?_, CamL.start upd_same⟩ (fun _ _ _ _ _ => trivial) ?_ ?_
    · rw [upd_ne nrc]
      refine (Ex.new np1 _ _ upd_same).trans ?_
      show some (HO.lst (List.replicate n (V.int 0))) = some (HO.lst ((List.range n).map fun _ => V.int 0))
      congr 2
      rw [List.map_const', List.length_range]
    · rintro i x σ H1 H2 hi ⟨q, z5, z6, hq, _, rfl, e, hr, hc⟩ ⟨rfl, rfl⟩
      walk_at "rd"
      refine ⟨l, pc, rp, cp, es, pa, pb, n, q.r, q.c, rfl, hE.ex e, ex_t e hP, hr, hc, nlr, nlc, nrc, ok, b1, b2, fun H3 m hr3 hc3 => ?_⟩
      have e3 := m.ex e fr0 fc0
      have nx := runs_next hq
      walk_at "rd"
      refine r_isN ?_
      walk_at "rd"
      cases z : (pass pa pb es q.r q.c).ch with
      | none =>
        rw [z] at nx
        refine iteT ?_
        walk_at "rd"
        exact k _ _ e3 (by rw [gaining_stop nx (by omega)]; rfl)
      | some m =>
        rw [z] at nx
        refine iteF ?_
        walk_at "rd"
        exact ⟨_, _, _, nx, fun _ => by rw [z], rfl, e3, hr3, hc3⟩
    rintro σ H1 ⟨q, z5, z6, hq, hz, rfl, e, hr, hc⟩
    rw [show ((n : Int) + 1).toNat = n + 1 by omega] at hq hz
    obtain ⟨m, hm, hR⟩ := runs_ring hq fun e he => ⟨(ok e he).1, (ok e he).2.1⟩
    rw [hm] at hz
    obtain rfl := hz (by omega)
    walk_at "rd"
    refine ⟨n, m, cp, q.c, rfl, hc, hR, hn, fun p H' np e' hw => ?_⟩
    exact k _ _ (e.trans e') (by rw [gaining_end hq hm]; exact ⟨p, rfl, hw⟩)

/-! ### common -/
theorem sc_common : FnScope ["one", "other"] ["one", "other"] (defScope s_common) := ⟨rfl, rfl, rfl, by decide +kernel, rfl, by decide +kernel, by decide +kernel⟩

def sp_common (K : PySem.W.Frag) (d : Ads) : Sp := fun vs H Q _ => ∃ (a b : Nat), vs = [.int (a : Int), .int (b : Int)] ∧ Q (.int (Nat.gcd a b : Int)) H
set_option maxHeartbeats 4000000 in
theorem ok_common (T : Tx K mg d) : Okf P w K mg base 1 d.f_common ["one", "other"] (sp_common K d) := by
  refine okf_of T.d_common sc_common (fun vs H Q E h => ?_) (fun cdv A outer s H vs Q E hr h => ?_)
  · obtain ⟨a, b, rfl, k⟩ := h
    rfl
  · obtain ⟨a, b, rfl, k⟩ := h
    refine ⟨_, (pss_cons (ps_while PassesOwn.never (pt_cmpR op_gt (pv 1) pe_int (nomark _)) (pss_one (ps_par (i := 0) (j := 1) (by rfl) sc_common.nd rfl rfl (by decide) rfl rfl (pa_cons (pv 1) (pa_cons (pe_op op_mod (pv 0) (pv 1)) pa_nil)) (by rfl))))
      (pss_one (ps_ret (pv 0)))), ?_⟩
    walk_at "rd"
    refine r_while (fun m σ H' => ∃ x y : Nat, σ = [some (.int (x : Int)), some (.int (y : Int))] ∧ H' = H ∧ Nat.gcd x y = Nat.gcd a b ∧ y = m) b ⟨a, b, rfl, rfl, rfl, rfl⟩ ?_
    rintro m σ H' ⟨x, y, rfl, rfl, e, rfl⟩
    walk_at "rd"
    refine r_ite (fun q => r_turn ?_) fun q => ?_
    · walk_at "rd"
      refine ⟨x % y, Nat.mod_lt _ (by omega), y, x % y, ?_, rfl, ?_, rfl⟩
      · show [some (V.int (y : Int)), some (V.int ((x : Int) % (y : Int)))] = _
        rw [Int.natCast_emod]
      · rw [← e, Nat.gcd_comm x y, Nat.gcd_rec y x, Nat.gcd_comm]
    · walk_at "rd"
      have hy : y = 0 := by omega
      rw [hy, Nat.gcd_zero_right] at e
      rw [e]
      exact k

/-! ### fraction_of -/
theorem sc_fraction_of : FnScope ["above", "below", "by"] ["above", "below"] (defScope s_fraction_of) := ⟨rfl, rfl, rfl, by decide +kernel, rfl, by decide +kernel, by decide +kernel⟩

def sp_fraction_of (K : PySem.W.Frag) (d : Ads) : Sp := fun vs H Q _ => ∃ (a b : Int), vs = [.int a, .int b] ∧ 1 ≤ b ∧ b < 2 ^ 30 ∧ ∀ p, H p = none → Q (.ref p) (upd H p (.tup [.int (fr a b).1, .int (fr a b).2]))
set_option maxHeartbeats 4000000 in
theorem ok_fraction_of (T : Tx K mg d) : Okf P w K mg base 2 d.f_fraction_of ["above", "below"] (sp_fraction_of K d) := by
  refine okf_of T.d_fraction_of sc_fraction_of (fun vs H Q E h => ?_) (fun cdv A outer s H vs Q E hr h => ?_)
  · obtain ⟨a, b, rfl, b1, b2, k⟩ := h
    rfl
  · obtain ⟨a, b, rfl, b1, b2, k⟩ := h
    refine ⟨_, (pss_cons (ps_set (i := 2) sc_fraction_of.nd rfl (by first | exact Or.inl rfl | exact Or.inr rfl) (pf_call (ok_common T) (hr.mono (by decide)) (by rfl) T.g_common T.d_common.kp (pa_cons (pe_callB k_abs (by rfl) T.z_abs (by decide +kernel) (pa_cons (pv 0) pa_nil)) (pa_cons (pv 1) pa_nil))))
      (pss_one (ps_ret (pe_tup (pa_cons (pe_op op_fdiv (pv 0) (pv 2)) (pa_cons (pe_op op_fdiv (pv 1) (pv 2)) pa_nil)))))), ?_⟩
    walk_at "rd"
    refine ⟨a.natAbs, b.toNat, ?_, ?_⟩
    · show [V.int (if a < 0 then -a else a), V.int b] = _
      rw [show (if a < 0 then -a else a) = ((a.natAbs : Nat) : Int) by split <;> omega, show ((b.toNat : Nat) : Int) = b by omega]
    have e : Nat.gcd a.natAbs b.toNat = Int.gcd a b := by
      show _ = Nat.gcd a.natAbs b.natAbs
      rw [show b.natAbs = b.toNat by omega]
    rw [e]
    have g1 : 0 < Int.gcd a b := Int.gcd_pos_of_ne_zero_right _ (by omega)
    have g2 : (Int.gcd a b : Int) ≤ b := Int.le_of_dvd (by omega) (Int.gcd_dvd_right a b)
    walk_at "rd"
    refine ⟨szc rfl, fun p np => ?_⟩
    exact k p np

/-! ### turn_of -/
theorem sc_turn_of : FnScope ["walk", "edge"] ["walk"] (defScope s_turn_of) := ⟨rfl, rfl, rfl, by decide +kernel, rfl, by decide +kernel, by decide +kernel⟩

def sp_turn_of (K : PySem.W.Frag) (d : Ads) : Sp := fun vs H Q _ => ∃ (l : Addr) (w : List (Ed Stp)), vs = [.ref l] ∧ EdL H l w ∧ w.length ≤ 1000 ∧ ∀ H', Ex H H' → Q (.int (tn w)) H'
set_option maxHeartbeats 4000000 in
theorem ok_turn_of (T : Tx K mg d) : Okf P w K mg base 1 d.f_turn_of ["walk"] (sp_turn_of K d) := by
  refine okf_of T.d_turn_of sc_turn_of (fun vs H Q E h => ?_) (fun cdv A outer s H vs Q E hr h => ?_)
  · obtain ⟨l, w, rfl, hE, hl, k⟩ := h
    rfl
  · obtain ⟨l, w, rfl, hE, hl, k⟩ := h
    refine ⟨_, (pss_one (ps_ret (pe_callB (k_sumS (K := K) rfl rfl) (by rfl) T.z_sum (by decide +kernel) (pa_cons (pe_lc (own := [("edge", 1)]) rfl sc_turn_of.nd (k_piL (K := K) rfl (pv 0)) (blkOk_by (by kernel_rfl)) (fun _ _ _ _ _ => (pg_name (i := 1) sc_turn_of.nd rfl (by first | exact Or.inl rfl | exact Or.inr rfl))) (fun _ _ _ _ _ => pts_nil) (fun _ _ _ _ _ => (pe_ix (k_ixT (K := K) rfl) (pv 1) pe_int (fun _ _ => rfl)))) pa_nil)))), ?_⟩
    obtain ⟨vs, h1, h2, h3⟩ := id hE
    walk_at "rd"
    refine ⟨l, rfl, ⟨_, at_sqL h1⟩, ?_⟩
    refine lc_fun (walk_list (xs := vs)) (fun i => .int ((w.map (·.t)).getD i 0)) (fun _ e => at_sqL (e _ _ h1)) (by rw [h2]; omega) ?_ ?_
    · rintro i x H1 H2 hi e ⟨rfl, hx⟩ kk hk
      obtain ⟨ed, he, t, sv, rfl, ht, _⟩ := h3 i x hx
      walk_at "rd"
      refine r_ixT (by walk_at "kn") (atI_nat (j := 2) rfl) ?_
      have : (w.map (·.t)).getD i 0 = ed.t := by
        rw [List.getD_eq_getElem?_getD, List.getElem?_map, he]
        rfl
      rw [this] at hk
      exact hk _ (Ex.refl _)
    intro p H1 np e1 hp
    have hp' : H1 p = some (.lst ((w.map (·.t)).map V.int)) := by
      rw [hp, h2, ← List.length_map (f := fun e : Ed Stp => e.t) (as := w), map_range_int]
    walk_at "rd"
    refine r_sumS (by walk_at "kn") ?_
    exact k _ e1

/-! ### worth_of -/
theorem sc_worth_of : FnScope ["walk", "edge"] ["walk"] (defScope s_worth_of) := ⟨rfl, rfl, rfl, by decide +kernel, rfl, by decide +kernel, by decide +kernel⟩

def sp_worth_of (K : PySem.W.Frag) (d : Ads) : Sp := fun vs H Q _ => ∃ (l : Addr) (w : List (Ed Stp)), vs = [.ref l] ∧ EdL H l w ∧ w.length ≤ 1000 ∧ ∀ H', Ex H H' → Q (.int (wo w)) H'
set_option maxHeartbeats 4000000 in
theorem ok_worth_of (T : Tx K mg d) : Okf P w K mg base 1 d.f_worth_of ["walk"] (sp_worth_of K d) := by
  refine okf_of T.d_worth_of sc_worth_of (fun vs H Q E h => ?_) (fun cdv A outer s H vs Q E hr h => ?_)
  · obtain ⟨l, w, rfl, hE, hl, k⟩ := h
    rfl
  · obtain ⟨l, w, rfl, hE, hl, k⟩ := h
    refine ⟨_, (pss_one (ps_ret (pe_callB (k_sumS (K := K) rfl rfl) (by rfl) T.z_sum (by decide +kernel) (pa_cons (pe_lc (own := [("edge", 1)]) rfl sc_worth_of.nd (k_piL (K := K) rfl (pv 0)) (blkOk_by (by kernel_rfl)) (fun _ _ _ _ _ => (pg_name (i := 1) sc_worth_of.nd rfl (by first | exact Or.inl rfl | exact Or.inr rfl))) (fun _ _ _ _ _ => pts_nil) (fun _ _ _ _ _ => (pe_ix (k_ixT (K := K) rfl) (pv 1) pe_int (fun _ _ => rfl)))) pa_nil)))), ?_⟩
    obtain ⟨vs, h1, h2, h3⟩ := id hE
    walk_at "rd"
    refine ⟨l, rfl, ⟨_, at_sqL h1⟩, ?_⟩
    refine lc_fun (walk_list (xs := vs)) (fun i => .int ((w.map (·.v)).getD i 0)) (fun _ e => at_sqL (e _ _ h1)) (by rw [h2]; omega) ?_ ?_
    · rintro i x H1 H2 hi e ⟨rfl, hx⟩ kk hk
      obtain ⟨ed, he, t, sv, rfl, ht, _⟩ := h3 i x hx
      walk_at "rd"
      refine r_ixT (by walk_at "kn") (atI_nat (j := 3) rfl) ?_
      have : (w.map (·.v)).getD i 0 = ed.v := by
        rw [List.getD_eq_getElem?_getD, List.getElem?_map, he]
        rfl
      rw [this] at hk
      exact hk _ (Ex.refl _)
    intro p H1 np e1 hp
    have hp' : H1 p = some (.lst ((w.map (·.v)).map V.int)) := by
      rw [hp, h2, ← List.length_map (f := fun e : Ed Stp => e.v) (as := w), map_range_int]
    walk_at "rd"
    refine r_sumS (by walk_at "kn") ?_
    exact k _ e1

/-! ### best_ring -/
theorem sc_best_ring : FnScope ["clock", "needs", "row", "edges", "most", "ring", "walk", "edge"] ["clock", "needs"] (defScope s_best_ring) := ⟨rfl, rfl, rfl, by decide +kernel, rfl, by decide +kernel, by decide +kernel⟩

/-- the ring that the search tells -/
def BestR (s d : List Int) (r : List Int) : Prop := ∃ (M : Int) (j : Nat), j < s.length ∧ cyc d j = M ∧ (∀ h : Nat, h < s.length → cyc d h ≤ M) ∧ (∀ i : Nat, i < j → cyc d i ≠ M) ∧ 0 < M ∧ BR s.length (needEs s d) M 1 [(j : Int)] r
theorem BestR.ok {s d r : List Int} (g : Good s) (h : BestR s d r) : BestOk s d r :=
  let ⟨M, j, h1, h2, h3, _, h5, h6⟩ := h
  br_ok g h3 (by omega) h6 (bst_start g h1 h2 (by omega))
theorem BestR.det {s d r q : List Int} (h : BestR s d r) (h' : BestR s d q) : r = q := by
  obtain ⟨M, j, h1, h2, h3, h4, h5, h6⟩ := h
  obtain ⟨M', j', h1', h2', h3', h4', h5', h6'⟩ := h'
  have a := h3 j' h1'
  have b := h3' j h1
  have e : M = M' := by omega
  subst e
  have e : j = j' := by
    rcases Nat.lt_trichotomy j j' with z | z | z
    · exact absurd h2 (h4' j z)
    · exact z
    · exact absurd h2' (h4 j' z)
  subst e
  exact h6.det h6'
def sp_best_ring (K : PySem.W.Frag) (d : Ads) : Sp := fun vs H Q _ => ∃ (v u : V) (s ns : List Int), vs = [v, u] ∧ Clk K d.c_Clock H v s ∧ Nd K d H u ns ∧ ns.length = s.length ∧ ((∀ h : Nat, h < s.length → cyc ns h = 0) → ∀ H', Ex H H' → Q .non H') ∧ (∀ r, (∃ h : Nat, h < s.length ∧ cyc ns h ≠ 0) → BestR s ns r → ∀ p H', H p = none → Ex H H' → H' p = some (.lst (r.map V.int)) → Q (.ref p) H')
set_option maxHeartbeats 4000000 in
theorem ok_best_ring (T : Tx K mg d) : Okf P w K mg base 6 d.f_best_ring ["clock", "needs"] (sp_best_ring K d) := by
  refine okf_of T.d_best_ring sc_best_ring (fun vs H Q E h => ?_) (fun cdv A outer s H vs Q E hr h => ?_)
  · obtain ⟨v, u, s, ns, rfl, hC, hN, hlen, kN, kS⟩ := h
    rfl
  · obtain ⟨v, u, s, ns, rfl, hC, hN, hlen, kN, kS⟩ := h
    refine ⟨_, (pss_cons (ps_par (i := 2) (j := 3) (by rfl) sc_best_ring.nd rfl rfl (by decide) rfl rfl (pa_cons (pe_callTy (k_listO (K := K) rfl rfl ⟨T.m_Needs___iter__.at_, T.m_Needs___iter__.fn, T.m_Needs___len__.at_, T.m_Needs___len__.fn⟩ (ok_Needs___iter__ T) (ok_Needs___len__ T) (hr.mono (by decide))) (by rfl) T.z_list (by decide +kernel) (pa_cons (pv 1) pa_nil)) (pa_cons (pf_call (ok_need_edges T) (hr.mono (by decide)) (by rfl) T.g_need_edges T.d_need_edges.kp (pa_cons (pv 0) (pa_cons (pv 1) pa_nil))) pa_nil)) (by rfl))
      (pss_cons (ps_set (i := 4) sc_best_ring.nd rfl (by first | exact Or.inl rfl | exact Or.inr rfl) (pe_callB (k_max (K := K) rfl rfl) (by rfl) T.z_max (by decide +kernel) (pa_cons (pv 2) pa_nil)))
      (pss_cons (ps_if (pt_cmpR op_eq (pv 4) pe_int (nomark _)) (pss_one (ps_ret pe_non)) pss_nil)
      (pss_cons (ps_par (i := 5) (j := 6) (by rfl) sc_best_ring.nd rfl rfl (by decide) rfl rfl (pa_cons (pe_lst (pa_cons (pe_bm PySem.F.plainAttrs_list PySem.F.slot_list_index PySem.F.type_list_index (k_index (K := K) rfl) (pv 2) (pa_cons (pv 4) pa_nil)) pa_nil)) (pa_cons (pf_call (ok_gaining T) (hr.mono (by decide)) (by rfl) T.g_gaining T.d_gaining.kp (pa_cons (pf_prop (ok_Clock_hours T) (hr.mono (by decide)) T.cl_Clock T.p_Clock_hours (pv 0)) (pa_cons (pv 3) (pa_cons (pe_tup (pa_cons (pv 4) (pa_cons pe_int pa_nil))) pa_nil)))) pa_nil)) (by rfl))
      (pss_cons (ps_while PassesOwn.never (pt_cmpR k_notN (pv 6) pe_non (nomark _)) (pss_cons (ps_setLc (i := 5) (own := [("edge", 7)]) rfl sc_best_ring.nd rfl rfl (sw_true rfl rfl rfl (by decide +kernel)) (k_piL (K := K) rfl (pv 6)) (blkOk_by (by kernel_rfl)) (fun _ _ _ _ _ => (pg_name (i := 7) sc_best_ring.nd rfl (by first | exact Or.inl rfl | exact Or.inr rfl))) (fun _ _ _ _ _ => (pts_one (pt_cmpR op_eq (pe_ix (k_ixT (K := K) rfl) (pe_ix (k_ixT (K := K) rfl) (pv 7) pe_int (fun _ _ => rfl)) pe_int (fun _ _ => rfl)) pe_str (nomark _)))) (fun _ _ _ _ _ => (pe_ix (k_ixT (K := K) rfl) (pe_ix (k_ixT (K := K) rfl) (pv 7) pe_int (fun _ _ => rfl)) pe_int (fun _ _ => rfl))))
      (pss_one (ps_set (i := 6) sc_best_ring.nd rfl (by first | exact Or.inl rfl | exact Or.inr rfl) (pf_call (ok_gaining T) (hr.mono (by decide)) (by rfl) T.g_gaining T.d_gaining.kp (pa_cons (pf_prop (ok_Clock_hours T) (hr.mono (by decide)) T.cl_Clock T.p_Clock_hours (pv 0)) (pa_cons (pv 3) (pa_cons (pf_call (ok_fraction_of T) (hr.mono (by decide)) (by rfl) T.g_fraction_of T.d_fraction_of.kp (pa_cons (pf_call (ok_worth_of T) (hr.mono (by decide)) (by rfl) T.g_worth_of T.d_worth_of.kp (pa_cons (pv 6) pa_nil)) (pa_cons (pf_call (ok_turn_of T) (hr.mono (by decide)) (by rfl) T.g_turn_of T.d_turn_of.kp (pa_cons (pv 6) pa_nil)) pa_nil))) pa_nil))))))))
      (pss_one (ps_ret (pv 5)))))))), ?_⟩
    have g := hC.good
    have gN := hN.good
    have hn := g.ne
    have hn8 := g.le
    walk_at "rd"
    refine r_list_Needs hN fun p0 np0 => ?_
    walk_at "rd"
    refine ⟨v, u, s, ns, rfl, (by walk_at "kn"), (by walk_at "kn"), hlen, fun p1 H1 np1 e1 hE => ?_⟩
    walk_at "rd"
    refine ⟨p0, ns, rfl, (by walk_at "kn"), by omega, fun M hM hMx => ?_⟩
    have cM : ∀ h : Nat, h < s.length → cyc ns h ≤ M := fun h hh => hMx _ (cyc_mem (by omega) _)
    have M0 : 0 ≤ M := gN.mem M hM
    walk_at "rd"
    refine r_ite (fun q => ?_) fun q => ?_
    · walk_at "rd"
      refine kN (fun h hh => ?_) _ (by walk_at "ex")
      have a := cM h hh
      have b := gN.mem _ (cyc_mem (s := ns) (by omega) (h : Int))
      omega
    walk_at "rd"
    refine ⟨ty_lst (e1 _ _ upd_same), ?_⟩
    walk_at "rd"
    refine r_index (by walk_at "kn") hM fun j hj ej fj => ?_
    rw [← cyc_at hj] at ej
    walk_at "rd"
    refine ⟨szc rfl, fun p2 np2 => ?_⟩
    walk_at "rd"
    refine r_clkP (s := s) (by walk_at "kn") fun cq eq => ?_
    subst eq
    refine ⟨_, s, rfl, (by walk_at "kn"), ?_⟩
    walk_at "rd"
    refine ⟨szc rfl, fun p3 np3 => ?_⟩
    walk_at "rd"
    have B0 := bst_start (d := ns) g (by omega : j < s.length) ej M0
    have ne0 : ∃ h : Nat, h < s.length ∧ cyc ns h ≠ 0 := ⟨j, by omega, by omega⟩
    have bestr : ∀ {r : List Int}, BR s.length (needEs s ns) M 1 [(j : Int)] r → BestR s ns r := fun h => ⟨M, j, by omega, ej, cM, fun i hi => by rw [cyc_at (by omega)]; exact fj i hi, by omega, h⟩
    refine ⟨s.length, p1, p3, needEs s ns, M, 1, rfl, hE.ex (by walk_at "ex"), (by walk_at "kn"), need_ok g, by omega, by omega, by omega, fun wv H2 e2 hw => ?_⟩
    walk_at "rd"
    have e12 : Ex H1 H2 := (by walk_at "ex")
    have hp2 : H2 p2 = some (.lst ([(j : Int)].map V.int)) := e2 _ _ (mv_at upd_same (Ex.new np3))
    have f2 : H p2 = none := (by walk_at "fr")
    refine r_while (fun m σ H3 => ∃ pa pb r rp wv z7, σ = [some (.ref cq), some u, some (.ref p0), some (.ref p1), some (.int M), some (.ref rp), some wv, z7] ∧ Bst s ns M pa pb r ∧ (∀ q, BR s.length (needEs s ns) pa pb r q → BR s.length (needEs s ns) M 1 [(j : Int)] q) ∧ Ex H1 H3 ∧ H rp = none ∧ H3 rp = some (.lst (r.map V.int)) ∧ GaV H3 wv (gaining s.length (needEs s ns) pa pb) ∧ m = muB s.length M pa pb) _ ⟨M, 1, [(j : Int)], p2, wv, _, rfl, B0, fun q h => h, e12, f2, hp2, hw, rfl⟩ ?_
    rintro m σ H3 ⟨pa, pb, r, rp, wv, z7, rfl, B, hBR, e3, frp, hrp, hw3, rfl⟩
    walk_at "rd"
    refine r_notN ?_
    walk_at "rd"
    cases hg : gaining s.length (needEs s ns) pa pb with
    | none =>
      rw [hg] at hw3
      obtain rfl : wv = .non := hw3
      refine iteF ?_
      walk_at "rd"
      exact kS r ne0 (bestr (hBR r (.stop hg))) rp H3 frp (by walk_at "ex") hrp
    | some wk =>
      rw [hg] at hw3
      obtain ⟨wp, rfl, hE3⟩ := hw3
      obtain ⟨t1, wo0, B1, mu1⟩ := bst_step g cM M0 B.a0 B.b1 B.bn B.bd hg
      have L := gaining_some hg (need_fl g)
      have hwl := L.len
      have tl : tn wk ≤ wk.length := by
        obtain ⟨a, wka⟩ := L.wk
        exact (need_turn g L.mem wka).2.1
      refine iteT (r_turn ?_)
      obtain ⟨vs, h1, h2, h3⟩ := id hE3
      walk_at "rd"
      refine ⟨wp, rfl, ⟨_, at_sqL h1⟩, ?_⟩
      refine lc_filf (walk_list (xs := vs)) (fun i => ((wk[i]?).bind fun e => isNd e.s).isSome) (fun i => .int (((wk[i]?).bind fun e => isNd e.s).getD 0)) (fun _ e => at_sqL (e _ _ h1)) (by rw [h2]; omega) ?_ ?_
      · rintro i x G1 G2 hi e ⟨rfl, hx⟩ kt kk hk1 hk2
        obtain ⟨ed, he, t, sv, rfl, ht, hst⟩ := h3 i x hx
        obtain ⟨h, hh, qe⟩ := mem_needEs.mp (L.mem ed (List.mem_of_getElem? he))
        rw [he] at hk1 hk2
        walk_at "rd"
        refine r_ixT (by walk_at "kn") (atI_nat (j := 4) rfl) ?_
        rcases qe with rfl | rfl
        · obtain ⟨st, rfl, hst⟩ : ∃ st, sv = .ref st ∧ H3 st = some (.tup [.str "need", .int (h : Int)]) := hst
          walk_at "rd"
          refine r_ixT (by walk_at "kn") (atI_nat (j := 0) rfl) ?_
          walk_at "rd"
          refine r_yesD rfl ?_
          walk_at "rd"
          refine r_ixT (by walk_at "kn") (atI_nat (j := 4) rfl) ?_
          walk_at "rd"
          refine r_ixT (by walk_at "kn") (atI_nat (j := 1) rfl) ?_
          exact hk1 _ rfl (Ex.refl _)
        · obtain ⟨st, rfl, hst⟩ : ∃ st, sv = .ref st ∧ H3 st = some (.tup [.str "keep", .int (h : Int)]) := hst
          walk_at "rd"
          refine r_ixT (by walk_at "kn") (atI_nat (j := 0) rfl) ?_
          walk_at "rd"
          refine r_noD (by decide +kernel) ?_
          exact hk2 _ (by rw [show ((some (kE s.length 0 h)).bind fun e => isNd e.s) = isNd (kE s.length 0 h).s from rfl, isNd_k]; rfl) (Ex.refl _)
      intro rp2 H4 nrp2 e4 hrp2
      have hr2 : H4 rp2 = some (.lst ((needHs wk).map V.int)) := by
        rw [hrp2, h2]
        exact congrArg (fun x => some (HO.lst x)) (fm_range (fun e : Ed Stp => isNd e.s) wk)
      have f4 : H rp2 = none := (by walk_at "fr")
      walk_at "rd"
      refine r_clkP (s := s) (by walk_at "kn") fun _ eq => ?_
      cases eq
      refine ⟨_, s, rfl, (by walk_at "kn"), ?_⟩
      walk_at "rd"
      refine ⟨wp, wk, rfl, hE3.ex e4, by omega, fun H5 e5 => ?_⟩
      walk_at "rd"
      refine ⟨wp, wk, rfl, hE3.ex (e4.trans e5), by omega, fun H6 e6 => ?_⟩
      walk_at "rd"
      refine ⟨_, _, rfl, t1, by omega, fun pc npc => ?_⟩
      have e7 := Ex.new npc (o := .tup [.int (fr (wo wk) (tn wk)).1, .int (fr (wo wk) (tn wk)).2])
      have bn := B1.bn
      have b1 := B1.b1
      refine ⟨s.length, p1, pc, needEs s ns, _, _, rfl, hE.ex (by walk_at "ex"), at_sqT upd_same, need_ok g, by omega, by omega, by omega, fun wv H8 e8 hw8 => ?_⟩
      walk_at "rd"
      exact ⟨_, mu1, _, _, needHs wk, rp2, wv, _, rfl, B1, fun q h => hBR q (.go hg h), (by walk_at "ex"), f4, (by walk_at "kn"), hw8, rfl⟩

/-! ### ring_for -/
theorem sc_ring_for : FnScope ["clock", "needs"] ["clock", "needs"] (defScope s_ring_for) := ⟨rfl, rfl, rfl, by decide +kernel, rfl, by decide +kernel, by decide +kernel⟩

def sp_ring_for (K : PySem.W.Frag) (d : Ads) : Sp := sp_best_ring K d
set_option maxHeartbeats 4000000 in
theorem ok_ring_for (T : Tx K mg d) : Okf P w K mg base 7 d.f_ring_for ["clock", "needs"] (sp_ring_for K d) := by
  refine okf_of T.d_ring_for sc_ring_for (fun vs H Q E h => ?_) (fun cdv A outer s H vs Q E hr h => ?_)
  · obtain ⟨v, u, s, ns, rfl, hC, hN, hlen, kN, kS⟩ := h
    rfl
  · obtain ⟨v, u, s, ns, rfl, hC, hN, hlen, kN, kS⟩ := h
    refine ⟨_, (pss_cons (ps_expr (pf_call (ok_need_alike T) (hr.mono (by decide)) (by rfl) T.g_need_alike T.d_need_alike.kp (pa_cons (pv 0) (pa_cons (pv 1) pa_nil))))
      (pss_one (ps_ret (pf_call (ok_best_ring T) (hr.mono (by decide)) (by rfl) T.g_best_ring T.d_best_ring.kp (pa_cons (pv 0) (pa_cons (pv 1) pa_nil)))))), ?_⟩
    walk_at "rd"
    refine ⟨v, u, s, ns, rfl, hC, hN, hlen, ?_⟩
    walk_at "rd"
    exact ⟨v, u, s, ns, rfl, hC, hN, hlen, kN, kS⟩

/-! ### is_count -/
theorem sc_is_count : FnScope ["thing"] ["thing"] (defScope s_is_count) := ⟨rfl, rfl, rfl, by decide +kernel, rfl, by decide +kernel, by decide +kernel⟩

def sp_is_count (K : PySem.W.Frag) (d : Ads) : Sp := fun vs H Q _ => ∃ i : Int, vs = [.int i] ∧ Q (.bl (decide (0 ≤ i))) H
set_option maxHeartbeats 4000000 in
theorem ok_is_count (T : Tx K mg d) : Okf P w K mg base 2 d.f_is_count ["thing"] (sp_is_count K d) := by
  refine okf_of T.d_is_count sc_is_count (fun vs H Q E h => ?_) (fun cdv A outer s H vs Q E hr h => ?_)
  · obtain ⟨i, rfl, k⟩ := h
    rfl
  · obtain ⟨i, rfl, k⟩ := h
    refine ⟨_, (pss_one (ps_ret (pe_and (pf_call (ok_is_integer T) (hr.mono (by decide)) (by rfl) T.g_is_integer T.d_is_integer.kp (pa_cons (pv 0) pa_nil)) (pe_one (pe_cmpR op_ge (pv 0) pe_int (nomark _)))))), ?_⟩
    walk_at "rd"
    refine ⟨i, rfl, ?_⟩
    walk_at "rd"
    refine iteT ?_
    walk_at "rd"
    exact k

/-! ### are_counts -/
theorem sc_are_counts : FnScope ["hours", "thing", "one"] ["hours", "thing"] (defScope s_are_counts) := ⟨rfl, rfl, rfl, by decide +kernel, rfl, by decide +kernel, by decide +kernel⟩

def sp_are_counts (K : PySem.W.Frag) (d : Ads) : Sp := fun vs H Q _ => ∃ (a : Addr) (ns : List Int), vs = [.int (ns.length : Int), .ref a] ∧ Sq K H a (ns.map V.int) ∧ ns.length ≤ 1000 ∧ ∀ H', Ex H H' → Q (.bl (ns.all fun x => decide (0 ≤ x))) H'
set_option maxHeartbeats 4000000 in
theorem ok_are_counts (T : Tx K mg d) : Okf P w K mg base 3 d.f_are_counts ["hours", "thing"] (sp_are_counts K d) := by
  refine okf_of T.d_are_counts sc_are_counts (fun vs H Q E h => ?_) (fun cdv A outer s H vs Q E hr h => ?_)
  · obtain ⟨a, ns, rfl, hS, hl, k⟩ := h
    rfl
  · obtain ⟨a, ns, rfl, hS, hl, k⟩ := h
    refine ⟨_, (pss_cons (ps_if (PW.pt (pw_or (pt_not (pt_val (pe_callB (k_isiT (K := K) rfl) (by rfl) T.z_isinstance (by decide +kernel) (pa_cons (pv 1) (pa_cons (pe_tup (pa_cons (pe_bty (n := "list") (by rfl) T.z_list (by decide +kernel)) (pa_cons (pe_bty (n := "tuple") (by rfl) T.z_tuple (by decide +kernel)) pa_nil))) pa_nil))))) (pw_or1 (pt_cmpR op_ne (pe_callB (k_len (K := K) rfl) (by rfl) T.z_len (by decide +kernel) (pa_cons (pv 1) pa_nil)) (pv 0) (nomark _))))) (pss_one (ps_ret pe_bl)) pss_nil)
      (pss_one (ps_ret (pe_callB (k_all (K := K) rfl rfl) (by rfl) T.z_all (by decide +kernel) (pa_cons (pe_lc (own := [("one", 2)]) rfl sc_are_counts.nd (k_piS (K := K) rfl (pv 1)) (blkOk_by (by kernel_rfl)) (fun _ _ _ _ _ => (pg_name (i := 2) sc_are_counts.nd rfl (by first | exact Or.inl rfl | exact Or.inr rfl))) (fun _ _ _ _ _ => pts_nil) (fun _ _ _ _ _ => (pf_call (ok_is_count T) (hr.mono (by decide)) (by rfl) T.g_is_count T.d_is_count.kp (pa_cons (pv 2) pa_nil)))) pa_nil))))), ?_⟩
    walk_at "rd"
    refine ⟨szc rfl, fun tp np => ?_⟩
    have e1 : Ex H (upd H tp (.tup [.ty "list", .ty "tuple"])) := Ex.new np
    walk_at "rd"
    refine r_isiSeq (hS.mono e1) upd_same ?_
    walk_at "rd"
    refine iteF ?_
    walk_at "rd"
    refine r_len (hS.mono e1) ?_
    rw [List.length_map]
    walk_at "rd"
    refine r_itn (fun h => absurd rfl h) (fun _ => ?_)
    walk_at "rd"
    refine ⟨a, _, _, rfl, hS.mono e1, Ex.refl _, fun J ⟨G, wk, hG⟩ => lc_fun wk (fun i => .bl (decide (0 ≤ ns.getD i 0))) hG (by rw [List.length_map]; omega) ?_ ?_⟩
    · rintro i x H1 H2 hi e ⟨rfl, hx⟩ kk hk
      obtain rfl := int_at hx
      walk_at "rd"
      exact ⟨_, rfl, hk _ (Ex.refl _)⟩
    · intro D H' nD e hD
      walk_at "rd"
      rw [List.length_map, map_range_int ns (fun x => V.bl (decide (0 ≤ x)))] at hD
      refine r_all (bs := ns.map fun x => decide (0 ≤ x)) (.inl (.inl (by rw [List.map_map]; exact hD))) ?_
      have := k _ (e1.trans e)
      rw [List.all_map]
      exact this

/-! ### is_row -/
theorem sc_is_row : FnScope ["thing"] ["thing"] (defScope s_is_row) := ⟨rfl, rfl, rfl, by decide +kernel, rfl, by decide +kernel, by decide +kernel⟩

def sp_is_row (K : PySem.W.Frag) (d : Ads) : Sp := fun vs H Q _ => ∃ (a : Addr) (ns : List Int), vs = [.ref a] ∧ Sq K H a (ns.map V.int) ∧ ns.length ≤ 1000 ∧ ∀ H', Ex H H' → Q (.bl (okRow ns)) H'
set_option maxHeartbeats 4000000 in
theorem ok_is_row (T : Tx K mg d) : Okf P w K mg base 4 d.f_is_row ["thing"] (sp_is_row K d) := by
  refine okf_of T.d_is_row sc_is_row (fun vs H Q E h => ?_) (fun cdv A outer s H vs Q E hr h => ?_)
  · obtain ⟨a, ns, rfl, hS, hl, k⟩ := h
    rfl
  · obtain ⟨a, ns, rfl, hS, hl, k⟩ := h
    refine ⟨_, (pss_cons (ps_if (PW.pt (pw_or (pt_not (pt_val (pe_callB (k_isiT (K := K) rfl) (by rfl) T.z_isinstance (by decide +kernel) (pa_cons (pv 0) (pa_cons (pe_tup (pa_cons (pe_bty (n := "list") (by rfl) T.z_list (by decide +kernel)) (pa_cons (pe_bty (n := "tuple") (by rfl) T.z_tuple (by decide +kernel)) pa_nil))) pa_nil))))) (pw_or1 (pt_not (pt_chain op_le op_le pe_int (pe_callB (k_len (K := K) rfl) (by rfl) T.z_len (by decide +kernel) (pa_cons (pv 0) pa_nil)) (pe_gint (by rfl) T.k_MOST_HOURS)))))) (pss_one (ps_ret pe_bl)) pss_nil)
      (pss_one (ps_ret (pf_call (ok_are_counts T) (hr.mono (by decide)) (by rfl) T.g_are_counts T.d_are_counts.kp (pa_cons (pe_callB (k_len (K := K) rfl) (by rfl) T.z_len (by decide +kernel) (pa_cons (pv 0) pa_nil)) (pa_cons (pv 0) pa_nil)))))), ?_⟩
    walk_at "rd"
    refine ⟨szc rfl, fun tp np => ?_⟩
    have e1 : Ex H (upd H tp (.tup [.ty "list", .ty "tuple"])) := Ex.new np
    walk_at "rd"
    refine r_isiSeq (hS.mono e1) upd_same ?_
    walk_at "rd"
    refine iteF ?_
    walk_at "rd"
    refine r_len (hS.mono e1) ?_
    walk_at "rd"
    rw [List.length_map]
    have fls : ¬ (1 ≤ ns.length ∧ ns.length ≤ 48) → Q (.bl false) (upd H tp (.tup [.ty "list", .ty "tuple"])) := fun h => by
      have z : okRow ns = false := by
        rw [Bool.eq_false_iff]
        intro z
        have := okRow_iff.mp z
        exact h ⟨this.ne, this.le⟩
      have := k _ e1
      rw [z] at this
      exact this
    refine r_ite (fun h1 => ?_) (fun h1 => ?_)
    · walk_at "rd"
      refine r_itn (fun h2 => ?_) (fun h2 => ?_)
      · walk_at "rd"
        exact fls (by omega)
      · walk_at "rd"
        refine r_len (hS.mono e1) ?_
        rw [List.length_map]
        walk_at "rd"
        refine ⟨a, ns, rfl, hS.mono e1, hl, fun H' e => ?_⟩
        have := k _ (e1.trans e)
        unfold okRow at this
        rw [decide_eq_true (by omega : 1 ≤ ns.length), decide_eq_true (by omega : ns.length ≤ 48)] at this
        exact this
    · walk_at "rd"
      refine iteT ?_
      walk_at "rd"
      exact fls (by omega)

/-! ### Needs.__init__ -/
theorem sc_Needs___init__ : FnScope ["self", "row"] ["self", "row"] (defScope s_Needs___init__) := ⟨rfl, rfl, rfl, by decide +kernel, rfl, by decide +kernel, by decide +kernel⟩

def sp_Needs___init__ (K : PySem.W.Frag) (d : Ads) : Sp := spRwInit K d.c_Needs "kept_row"
set_option maxHeartbeats 4000000 in
theorem ok_Needs___init__ (T : Tx K mg d) : Okf P w K mg base 5 d.f_Needs___init__ ["self", "row"] (sp_Needs___init__ K d) := by
  refine okf_of T.d_Needs___init__ sc_Needs___init__ (fun vs H Q E h => ?_) (fun cdv A outer s H vs Q E hr h => ?_)
  · obtain ⟨H0, x, dx, a, s, rfl, rfl, nx, ndx, ne, hS, g, k⟩ := h
    rfl
  · obtain ⟨H0, x, dx, a, s, rfl, rfl, nx, ndx, ne, hS, g, k⟩ := h
    refine ⟨_, (pss_cons (ps_if (pt_not (pt_val (pf_call (ok_is_row T) (hr.mono (by decide)) (by rfl) T.g_is_row T.d_is_row.kp (pa_cons (pv 1) pa_nil)))) (pss_one ps_never) pss_nil)
      (pss_one (k_sfld (K := K) rfl (pv 0) (pe_callTy (k_tupOf (K := K) rfl) (by rfl) T.z_tuple (by decide +kernel) (pa_cons (pv 1) pa_nil))))), ?_⟩
    have e0 : Ex H0 (upd (upd H0 dx (.own x)) x (.ins d.c_Needs dx [])) := Ex.mut (Ex.new ndx) nx
    have hl := g.le
    walk_at "rd"
    refine ⟨a, s, rfl, hS.mono e0, by omega, fun H1 e1 => ?_⟩
    rw [okRow_iff.mpr g]
    walk_at "rd"
    refine iteF ?_
    have x1 : H1 x = some (.ins d.c_Needs dx []) := e1 _ _ upd_same
    have e01 : Ex H0 H1 := e0.trans e1
    walk_at "rd"
    refine r_tupOf (hS.mono e01) fun p H3 e3 hp => ?_
    walk_at "rd"
    refine ⟨x, _, dx, _, rfl, e3 _ _ x1, T.cl_Needs, T.n_Needs_kept_row, by show 0 < 1000; decide, ?_⟩
    exact k _ (Ex.mut (e01.trans e3) nx) ⟨x, dx, p, rfl, upd_same, tup_ins (e3 _ _ x1) hp, g⟩

/-! ### Plan.__len__ -/
theorem sc_Plan___len__ : FnScope ["self"] ["self"] (defScope s_Plan___len__) := ⟨rfl, rfl, rfl, by decide +kernel, rfl, by decide +kernel, by decide +kernel⟩

def sp_Plan___len__ (K : PySem.W.Frag) (d : Ads) : Sp := fun vs H Q _ => ∃ (v : V) (s : List Int), vs = [v] ∧ Pn K d H v s ∧ Q (.int (s.length : Int)) H
set_option maxHeartbeats 4000000 in
theorem ok_Plan___len__ (T : Tx K mg d) : Okf P w K mg base 1 d.f_Plan___len__ ["self"] (sp_Plan___len__ K d) := by
  refine okf_of T.d_Plan___len__ sc_Plan___len__ (fun vs H Q E h => ?_) (fun cdv A outer s H vs Q E hr h => ?_)
  · obtain ⟨v, s, rfl, hN, k⟩ := h
    rfl
  · obtain ⟨v, s, rfl, hN, k⟩ := h
    refine ⟨_, (pss_one (ps_ret (pe_callB (k_len (K := K) rfl) (by rfl) T.z_len (by decide +kernel) (pa_cons (k_fld (K := K) rfl (pv 0)) pa_nil)))), ?_⟩
    walk_at "rd"
    refine r_rwF hN T.cl_Plan T.n_Plan_kept_begins fun a ha => ?_
    walk_at "rd"
    refine r_len (.inr ha) ?_
    rw [List.length_map]
    exact k

/-! ### Plan.__iter__ -/
theorem sc_Plan___iter__ : FnScope ["self"] ["self"] (defScope s_Plan___iter__) := ⟨rfl, rfl, rfl, by decide +kernel, rfl, by decide +kernel, by decide +kernel⟩

def sp_Plan___iter__ (K : PySem.W.Frag) (d : Ads) (n : Nat) : Sp := fun vs H Q _ => ∃ (v : V) (s : List Int), vs = [v] ∧ Pn K d H v s ∧ ∀ l it, SqT K H l (s.map V.int) → H it = none → n ≤ it → Q (.ref it) (upd H it (ItT l it))
set_option maxHeartbeats 4000000 in
theorem ok_Plan___iter__ (T : Tx K mg d) (n : Nat) : OkP (fun _ s => n ≤ s.heap.objs.size) P w K mg base 1 d.f_Plan___iter__ ["self"] (sp_Plan___iter__ K d n) := by
  refine okP_of T.d_Plan___iter__ sc_Plan___iter__ (fun vs H Q E h => ?_) (fun cdv A outer s H vs Q E hn hr h => ?_)
  · obtain ⟨v, s, rfl, hN, k⟩ := h
    rfl
  · obtain ⟨v, s, rfl, hN, k⟩ := h
    refine ⟨_, (pss_one (ps_ret (pe_callB (k_iterT (K := K) (n := n) rfl hn) (by rfl) T.z_iter (by decide +kernel) (pa_cons (k_fld (K := K) rfl (pv 0)) pa_nil)))), ?_⟩
    walk_at "rd"
    refine r_rwF hN T.cl_Plan T.n_Plan_kept_begins fun a ha => ?_
    walk_at "rd"
    exact ⟨a, _, rfl, ha, fun it n1 n2 => k a it ha n1 n2⟩

theorem r_list_Plan {H : Hp} {Q : VK} {v : V} {s : List Int} (hN : Pn K d H v s) (q : ∀ l, H l = none → Q (.ref l) (upd H l (.lst (s.map V.int)))) : rListO K d.c_Plan (sp_Plan___iter__ K d) (sp_Plan___len__ K d) [v] H Q := by
  obtain ⟨p, dx, a, rfl, hp, ha, g⟩ := id hN
  have hle := g.le
  exact ⟨p, dx, _, _, rfl, hp, by rw [List.length_map]; omega, fun n H' Q' e h => ⟨_, s, rfl, hN.ex e, h⟩, fun H' Q' e h => ⟨_, s, rfl, hN.ex e, h _ (by omega) (by omega)⟩, q⟩

/-! ### up -/
theorem sc_up : FnScope ["above", "below"] ["above", "below"] (defScope s_up) := ⟨rfl, rfl, rfl, by decide +kernel, rfl, by decide +kernel, by decide +kernel⟩

def sp_up (K : PySem.W.Frag) (d : Ads) : Sp := fun vs H Q _ => ∃ (a b : Int), vs = [.int a, .int b] ∧ 1 ≤ b ∧ b < 2 ^ 30 ∧ Q (.int (upI a b)) H
set_option maxHeartbeats 4000000 in
theorem ok_up (T : Tx K mg d) : Okf P w K mg base 1 d.f_up ["above", "below"] (sp_up K d) := by
  refine okf_of T.d_up sc_up (fun vs H Q E h => ?_) (fun cdv A outer s H vs Q E hr h => ?_)
  · obtain ⟨a, b, rfl, b1, b2, k⟩ := h
    rfl
  · obtain ⟨a, b, rfl, b1, b2, k⟩ := h
    refine ⟨_, (pss_one (ps_ret (pe_un un_neg (pe_op op_fdiv (pe_un un_neg (pv 0)) (pv 1))))), ?_⟩
    walk_at "rd"
    exact k

/-! ### step_hours -/
theorem sc_step_hours : FnScope ["clock", "hour", "later", "one", "width"] ["clock", "hour", "later"] (defScope s_step_hours) := ⟨rfl, rfl, rfl, by decide +kernel, rfl, by decide +kernel, by decide +kernel⟩

def sp_step_hours (K : PySem.W.Frag) (d : Ads) : Sp := fun vs H Q _ => ∃ (v : V) (s : List Int) (h k : Int), vs = [v, .int h, .int k] ∧ Clk K d.c_Clock H v s ∧ 0 ≤ h ∧ h < (s.length : Int) ∧ 0 ≤ k ∧ k < (s.length : Int) ∧ ∀ H', Ex H H' → Q (.int (stp s h k)) H'
set_option maxHeartbeats 4000000 in
theorem ok_step_hours (T : Tx K mg d) : Okf P w K mg base 3 d.f_step_hours ["clock", "hour", "later"] (sp_step_hours K d) := by
  refine okf_of T.d_step_hours sc_step_hours (fun vs H Q E h => ?_) (fun cdv A outer s H vs Q E hr h => ?_)
  · obtain ⟨v, s, h, k, rfl, hC, h0, h1, k0, k1, kk⟩ := h
    rfl
  · obtain ⟨v, s, h, k, rfl, hC, h0, h1, k0, k1, kk⟩ := h
    refine ⟨_, (pss_cons (ps_for PassesOwn.never rfl (k_piT (K := K) rfl (pe_tup (pa_cons (pv 1) (pa_cons (pv 2) pa_nil)))) (pg_name (i := 3) sc_step_hours.nd rfl (by first | exact Or.inl rfl | exact Or.inr rfl)) (pss_one (ps_if (pt_not (pt_val (pf_call (ok_is_hour T) (hr.mono (by decide)) (by rfl) T.g_is_hour T.d_is_hour.kp (pa_cons (pf_prop (ok_Clock_hours T) (hr.mono (by decide)) T.cl_Clock T.p_Clock_hours (pv 0)) (pa_cons (pv 3) pa_nil))))) (pss_one ps_never) pss_nil)))
      (pss_cons (ps_set (i := 4) sc_step_hours.nd rfl (by first | exact Or.inl rfl | exact Or.inr rfl) (pe_ix (k_ixL (K := K) rfl) (pf_meth0 (ok_Clock_widths T) (hr.mono (by decide)) T.cl_Clock T.m_Clock_widths (pv 0)) (pv 2) (fun _ _ => rfl)))
      (pss_one (ps_ret (pe_op op_add (pv 4) (pe_op op_mod (pe_op op_sub (pe_op op_sub (pv 2) (pv 4)) (pv 1)) (pf_prop (ok_Clock_hours T) (hr.mono (by decide)) T.cl_Clock T.p_Clock_hours (pv 0)))))))), ?_⟩
    have g := hC.good
    have hn := g.ne
    obtain ⟨cq, dcq, acq, bcq, rfl, hcq, _⟩ := id hC
    walk_at "rd"
    refine ⟨szc rfl, fun tp np => ?_⟩
    walk_at "rd"
    refine ⟨tp, rfl, ⟨_, at_sqT upd_same⟩, ?_⟩
    refine for_w (walk_tup (xs := [V.int h, V.int k])) (fun i σ H' => (∃ z3 z4, σ = [some (.ref cq), some (.int h), some (.int k), z3, z4]) ∧ H' = upd H tp (.tup [.int h, .int k])) ⟨⟨_, _, rfl⟩, rfl⟩ (fun i σ H' _ q => by rw [q.2]; exact at_sqT upd_same) ?_ ?_
    · rintro i x σ H1 H2 hi ⟨⟨z3, z4, rfl⟩, rfl⟩ ⟨rfl, hx⟩
      obtain ⟨z, rfl, z0, z1⟩ : ∃ z, x = .int z ∧ 0 ≤ z ∧ z < (s.length : Int) := by
        have := List.mem_of_getElem? hx
        simp only [List.mem_cons, List.not_mem_nil, or_false] at this
        rcases this with rfl | rfl
        · exact ⟨h, rfl, h0, h1⟩
        · exact ⟨k, rfl, k0, k1⟩
      have hC1 : Clk K d.c_Clock (upd H tp (.tup [.int h, .int k])) (.ref cq) s := (by walk_at "kn")
      walk_at "rd"
      refine r_clkP hC1 fun _ eq => ?_
      cases eq
      refine ⟨_, _, rfl, hC1, ?_⟩
      walk_at "rd"
      refine ⟨_, _, rfl, ?_⟩
      rw [decide_eq_true z0, decide_eq_true z1]
      walk_at "rd"
      refine iteF ?_
      walk_at "rd"
      exact ⟨⟨_, _, rfl⟩, rfl⟩
    rintro σ H1 ⟨⟨z3, z4, rfl⟩, rfl⟩
    have hC1 : Clk K d.c_Clock (upd H tp (.tup [.int h, .int k])) (.ref cq) s := (by walk_at "kn")
    walk_at "rd"
    refine r_clkM hC1 ?_
    walk_at "rd"
    refine ⟨_, s, rfl, hC1, fun p H2 np e2 hp => ?_⟩
    walk_at "rd"
    have ha := at_cyc (ns := wds s) (by rw [wds_length]; exact hn) k
    rw [wds_length, Int.emod_eq_of_lt k0 k1, cyc_wds hn] at ha
    refine r_ixL (by walk_at "kn") ha ?_
    walk_at "rd"
    have hC2 : Clk K d.c_Clock H2 (.ref cq) s := (by walk_at "kn")
    refine r_clkP hC2 fun _ eq => ?_
    cases eq
    refine ⟨_, _, rfl, hC2, ?_⟩
    walk_at "rd"
    exact kk _ (by walk_at "ex")

/-! ### winds -/
theorem sc_winds : FnScope ["clock", "ring", "steps", "hour", "later"] ["clock", "ring"] (defScope s_winds) := ⟨rfl, rfl, rfl, by decide +kernel, rfl, by decide +kernel, by decide +kernel⟩

def sp_winds (K : PySem.W.Frag) (d : Ads) : Sp := fun vs H Q _ => ∃ (v : V) (l : Addr) (s r : List Int), vs = [v, .ref l] ∧ Clk K d.c_Clock H v s ∧ H l = some (.lst (r.map V.int)) ∧ r ≠ [] ∧ r.length ≤ 5000 ∧ (∀ k ∈ r, 0 ≤ k ∧ k < (s.length : Int)) ∧ ∀ H', Ex H H' → Q (.int (wnd s r)) H'
set_option maxHeartbeats 4000000 in
theorem ok_winds (T : Tx K mg d) : Okf P w K mg base 4 d.f_winds ["clock", "ring"] (sp_winds K d) := by
  refine okf_of T.d_winds sc_winds (fun vs H Q E h => ?_) (fun cdv A outer s H vs Q E hr h => ?_)
  · obtain ⟨v, l, s, r, rfl, hC, hl, hne, hle, hk, kk⟩ := h
    rfl
  · obtain ⟨v, l, s, r, rfl, hC, hl, hne, hle, hk, kk⟩ := h
    refine ⟨_, (pss_cons (ps_setLc (i := 2) (own := [("hour", 3), ("later", 4)]) rfl sc_winds.nd rfl rfl (sw_true rfl rfl rfl (by decide +kernel)) (k_piZ (K := K) rfl (by rfl) T.z_zip (pa_cons (pe_op op_cat (pe_slice (k_slL (K := K) rfl) (pv 1) (po_some (pe_un un_neg pe_int)) po_none) (pe_slice (k_slL (K := K) rfl) (pv 1) po_none (po_some (pe_un un_neg pe_int)))) (pa_cons (pv 1) pa_nil))) (blkOk_by (by kernel_rfl)) (fun _ _ _ _ _ => (k_gtup (K := K) (n := 2) rfl rfl (pgs_cons (pg_name (i := 3) sc_winds.nd rfl (by first | exact Or.inl rfl | exact Or.inr rfl)) (pgs_cons (pg_name (i := 4) sc_winds.nd rfl (by first | exact Or.inl rfl | exact Or.inr rfl)) pgs_nil)))) (fun _ _ _ _ _ => pts_nil) (fun _ _ _ _ _ => (pf_call (ok_step_hours T) (hr.mono (by decide)) (by rfl) T.g_step_hours T.d_step_hours.kp (pa_cons (pv 0) (pa_cons (pv 3) (pa_cons (pv 4) pa_nil))))))
      (pss_one (ps_ret (pe_op op_fdiv (pe_callB (k_sumS (K := K) rfl rfl) (by rfl) T.z_sum (by decide +kernel) (pa_cons (pv 2) pa_nil)) (pf_prop (ok_Clock_hours T) (hr.mono (by decide)) T.cl_Clock T.p_Clock_hours (pv 0)))))), ?_⟩
    have g := hC.good
    have hn := g.ne
    have hn8 := g.le
    have hr1 := ne_len hne
    obtain ⟨cq, dcq, acq, bcq, rfl, hcq, _⟩ := id hC
    obtain ⟨sh1, sh2⟩ := ring_shift hr1
    walk_at "rd"
    refine ⟨l, _, rfl, at_sqL hl, fun p1 np1 => ?_⟩
    rw [cut_last1 (by rw [List.length_map]; omega)]
    walk_at "rd"
    refine ⟨l, _, rfl, (by walk_at "kn"), fun p2 np2 => ?_⟩
    rw [cut_init (by rw [List.length_map]; omega)]
    walk_at "rd"
    refine ⟨p1, p2, _, _, rfl, rfl, (by walk_at "kn"), (by walk_at "kn"), ?_, fun p3 np3 => ?_⟩
    · rw [List.length_append] at sh1
      rw [sh1]
      exact Nat.le_trans (by omega : r.length ≤ 5000) (by decide)
    walk_at "rd"
    refine ⟨p3, l, _, _, rfl, (by walk_at "kn"), (by walk_at "kn"), lc_fun (walk_zip (n := r.length) (xs := (r.map V.int).drop ((r.map V.int).length - 1) ++ (r.map V.int).take ((r.map V.int).length - 1)) (ys := r.map V.int) (by rw [sh1, List.length_map]; omega)) (fun i => .int (stp s (prevH r i) (r.getD i 0))) (fun H' e => ⟨(by walk_at "kn"), (by walk_at "kn")⟩) (by omega) ?_ ?_⟩
    · rintro i x H1 H2 hi e ⟨T', x1, x2, rfl, nT, rfl, hx1, hx2⟩ kq hk2
      replace hx1 : ((r.map V.int).drop ((r.map V.int).length - 1) ++ (r.map V.int).take ((r.map V.int).length - 1))[i]? = some x1 := hx1
      rw [sh2 i hi] at hx1
      cases hx1
      obtain rfl := int_at hx2
      obtain ⟨⟨a0, a1⟩, b0, b1⟩ := prevH_in (n := s.length) hk hi
      refine r_pair ?_
      walk_at "rd"
      refine ⟨_, s, _, _, rfl, (by walk_at "kn"), a0, a1, b0, b1, fun H3 e3 => ?_⟩
      exact hk2 _ (by walk_at "ex")
    intro p H1 np e1 hp
    walk_at "rd"
    have hp' : H1 p = some (.lst (((List.range r.length).map fun i => stp s (prevH r i) (r.getD i 0)).map V.int)) := by
      rw [hp, List.map_map]
      rfl
    refine r_sumS (by walk_at "kn") ?_
    walk_at "rd"
    have hC2 : Clk K d.c_Clock H1 (.ref cq) s := (by walk_at "kn")
    refine r_clkP hC2 fun _ eq => ?_
    cases eq
    refine ⟨_, _, rfl, hC2, ?_⟩
    walk_at "rd"
    rw [wnd_list hne]
    exact kk _ (by walk_at "ex")

/-! ### ring_bound -/
theorem sc_ring_bound : FnScope ["clock", "needs", "ring", "hour"] ["clock", "needs", "ring"] (defScope s_ring_bound) := ⟨rfl, rfl, rfl, by decide +kernel, rfl, by decide +kernel, by decide +kernel⟩

def sp_ring_bound (K : PySem.W.Frag) (d : Ads) : Sp := fun vs H Q _ => ∃ (v u : V) (l : Addr) (s ns r : List Int), vs = [v, u, .ref l] ∧ Clk K d.c_Clock H v s ∧ Nd K d H u ns ∧ ns.length = s.length ∧ H l = some (.lst (r.map V.int)) ∧ r ≠ [] ∧ r.length ≤ 5000 ∧ (∀ k ∈ r, 0 ≤ k ∧ k < (s.length : Int)) ∧ ∀ H', Ex H H' → Q (.int (ringB s ns r)) H'
set_option maxHeartbeats 4000000 in
theorem ok_ring_bound (T : Tx K mg d) : Okf P w K mg base 5 d.f_ring_bound ["clock", "needs", "ring"] (sp_ring_bound K d) := by
  refine okf_of T.d_ring_bound sc_ring_bound (fun vs H Q E h => ?_) (fun cdv A outer s H vs Q E hr h => ?_)
  · obtain ⟨v, u, l, s, ns, r, rfl, hC, hN, hlen, hl, hne, hle, hk, kk⟩ := h
    rfl
  · obtain ⟨v, u, l, s, ns, r, rfl, hC, hN, hlen, hl, hne, hle, hk, kk⟩ := h
    refine ⟨_, (pss_one (ps_ret (pf_call (ok_up T) (hr.mono (by decide)) (by rfl) T.g_up T.d_up.kp (pa_cons (pe_callB (k_sumS (K := K) rfl rfl) (by rfl) T.z_sum (by decide +kernel) (pa_cons (pe_lc (own := [("hour", 3)]) rfl sc_ring_bound.nd (k_piL (K := K) rfl (pv 2)) (blkOk_by (by kernel_rfl)) (fun _ _ _ _ _ => (pg_name (i := 3) sc_ring_bound.nd rfl (by first | exact Or.inl rfl | exact Or.inr rfl))) (fun _ _ _ _ _ => pts_nil) (fun _ _ _ _ _ => (pe_ixB (ok_Needs___getitem__ T) (hr.mono (by decide)) T.m_Needs___getitem__.at_ T.fi_Needs___getitem__ T.m_Needs___getitem__.fn (pv 1) (pv 3)))) pa_nil)) (pa_cons (pf_call (ok_winds T) (hr.mono (by decide)) (by rfl) T.g_winds T.d_winds.kp (pa_cons (pv 0) (pa_cons (pv 2) pa_nil))) pa_nil))))), ?_⟩
    have g := hC.good
    obtain ⟨q, dq, aq, rfl, hq, _⟩ := id hN
    walk_at "rd"
    refine ⟨l, rfl, ⟨_, at_sqL hl⟩, ?_⟩
    refine lc_fun (walk_list (xs := r.map V.int)) (fun i => .int (cyc ns (r.getD i 0))) (fun _ e => at_sqL (e _ _ hl)) (by rw [List.length_map]; omega) ?_ ?_
    · rintro i x H1 H2 hi e ⟨rfl, hx⟩ kq hk2
      obtain rfl := int_at hx
      rw [List.length_map] at hi
      obtain ⟨_, b0, b1⟩ := prevH_in (n := s.length) hk hi
      walk_at "rd"
      refine r_rwG (C := d.c_Needs) (ns := ns) (by walk_at "kn") ?_
      refine ⟨_, ns, _, rfl, (by walk_at "kn"), b0, by omega, ?_⟩
      exact hk2 _ (Ex.refl _)
    intro p H1 np e1 hp
    have hp' : H1 p = some (.lst ((r.map (cyc ns)).map V.int)) := by
      rw [hp, List.length_map, List.map_map]
      exact congrArg (fun x => some (HO.lst x)) (map_range_int r fun z => V.int (cyc ns z))
    walk_at "rd"
    refine r_sumS (by walk_at "kn") ?_
    walk_at "rd"
    refine ⟨v, l, s, r, rfl, (by walk_at "kn"), (by walk_at "kn"), hne, hle, hk, fun H2 e2 => ?_⟩
    obtain ⟨_, w1⟩ := wnd_eq g hne
    refine ⟨_, _, rfl, w1, wnd_small g hne (by omega), ?_⟩
    exact kk _ (by walk_at "ex")

/-! ### fewest -/
theorem sc_fewest : FnScope ["clock", "needs", "ring"] ["clock", "needs"] (defScope s_fewest) := ⟨rfl, rfl, rfl, by decide +kernel, rfl, by decide +kernel, by decide +kernel⟩

theorem all_or {n : Nat} {f : Int → Int} : (∀ h : Nat, h < n → f h = 0) ∨ ∃ h : Nat, h < n ∧ f h ≠ 0 := by
  by_cases q : ∃ h : Nat, h < n ∧ f h ≠ 0
  · exact .inr q
  · exact .inl fun h hh => Decidable.byContradiction fun z => q ⟨h, hh, z⟩
def sp_fewest (K : PySem.W.Frag) (d : Ads) : Sp := fun vs H Q _ => ∃ (v u : V) (s ns : List Int), vs = [v, u] ∧ Clk K d.c_Clock H v s ∧ Nd K d H u ns ∧ ns.length = s.length ∧ ∀ F H', Few s ns F → Ex H H' → Q (.int F) H'
set_option maxHeartbeats 4000000 in
theorem ok_fewest (T : Tx K mg d) : Okf P w K mg base 7 d.f_fewest ["clock", "needs"] (sp_fewest K d) := by
  refine okf_of T.d_fewest sc_fewest (fun vs H Q E h => ?_) (fun cdv A outer s H vs Q E hr h => ?_)
  · obtain ⟨v, u, s, ns, rfl, hC, hN, hlen, k⟩ := h
    rfl
  · obtain ⟨v, u, s, ns, rfl, hC, hN, hlen, k⟩ := h
    refine ⟨_, (pss_cons (ps_expr (pf_call (ok_need_alike T) (hr.mono (by decide)) (by rfl) T.g_need_alike T.d_need_alike.kp (pa_cons (pv 0) (pa_cons (pv 1) pa_nil))))
      (pss_cons (ps_set (i := 2) sc_fewest.nd rfl (by first | exact Or.inl rfl | exact Or.inr rfl) (pf_call (ok_best_ring T) (hr.mono (by decide)) (by rfl) T.g_best_ring T.d_best_ring.kp (pa_cons (pv 0) (pa_cons (pv 1) pa_nil))))
      (pss_one (ps_ret (pe_ifExp (pt_cmpR k_notN (pv 2) pe_non (nomark _)) (pf_call (ok_ring_bound T) (hr.mono (by decide)) (by rfl) T.g_ring_bound T.d_ring_bound.kp (pa_cons (pv 0) (pa_cons (pv 1) (pa_cons (pv 2) pa_nil)))) pe_int))))), ?_⟩
    have g := hC.good
    have hn8 := g.le
    walk_at "rd"
    refine ⟨v, u, s, ns, rfl, hC, hN, hlen, ?_⟩
    walk_at "rd"
    refine ⟨v, u, s, ns, rfl, hC, hN, hlen, fun hz H1 e1 => ?_, fun r hne hr p H1 np e1 hp => ?_⟩
    · walk_at "rd"
      refine iteF ?_
      walk_at "rd"
      exact k 0 _ (few_zero g fun h hh => by rw [hz h hh]; exact Int.le_refl 0) e1
    · have B := hr.ok g
      have ble := B.le
      walk_at "rd"
      refine iteT ?_
      walk_at "rd"
      exact ⟨v, u, p, s, ns, r, rfl, (by walk_at "kn"), (by walk_at "kn"), hlen, hp, B.ne, by omega, B.hs, fun H2 e2 => k _ _ (best_few g B) (by walk_at "ex")⟩

/-! ### enough -/
theorem sc_enough : FnScope ["clock", "needs", "people"] ["clock", "needs", "people"] (defScope s_enough) := ⟨rfl, rfl, rfl, by decide +kernel, rfl, by decide +kernel, by decide +kernel⟩

def sp_enough (K : PySem.W.Frag) (d : Ads) : Sp := fun vs H Q _ => ∃ (v u : V) (s ns : List Int) (P : Int), vs = [v, u, .int P] ∧ Clk K d.c_Clock H v s ∧ Nd K d H u ns ∧ ns.length = s.length ∧ ∀ F H', Few s ns F → Ex H H' → Q (.bl (decide (P ≥ F))) H'
set_option maxHeartbeats 4000000 in
theorem ok_enough (T : Tx K mg d) : Okf P w K mg base 8 d.f_enough ["clock", "needs", "people"] (sp_enough K d) := by
  refine okf_of T.d_enough sc_enough (fun vs H Q E h => ?_) (fun cdv A outer s H vs Q E hr h => ?_)
  · obtain ⟨v, u, s, ns, P, rfl, hC, hN, hlen, k⟩ := h
    rfl
  · obtain ⟨v, u, s, ns, P, rfl, hC, hN, hlen, k⟩ := h
    refine ⟨_, (pss_one (ps_ret (pe_cmpR op_ge (pv 2) (pf_call (ok_fewest T) (hr.mono (by decide)) (by rfl) T.g_fewest T.d_fewest.kp (pa_cons (pv 0) (pa_cons (pv 1) pa_nil))) (nomark _)))), ?_⟩
    walk_at "rd"
    refine ⟨v, u, s, ns, rfl, hC, hN, hlen, fun F H1 hF e1 => ?_⟩
    walk_at "rd"
    exact k F _ hF e1

/-! ### Plan.__init__ -/
theorem sc_Plan___init__ : FnScope ["self", "begins"] ["self", "begins"] (defScope s_Plan___init__) := ⟨rfl, rfl, rfl, by decide +kernel, rfl, by decide +kernel, by decide +kernel⟩

def sp_Plan___init__ (K : PySem.W.Frag) (d : Ads) : Sp := spRwInit K d.c_Plan "kept_begins"
set_option maxHeartbeats 4000000 in
theorem ok_Plan___init__ (T : Tx K mg d) : Okf P w K mg base 5 d.f_Plan___init__ ["self", "begins"] (sp_Plan___init__ K d) := by
  refine okf_of T.d_Plan___init__ sc_Plan___init__ (fun vs H Q E h => ?_) (fun cdv A outer s H vs Q E hr h => ?_)
  · obtain ⟨H0, x, dx, a, s, rfl, rfl, nx, ndx, ne, hS, g, k⟩ := h
    rfl
  · obtain ⟨H0, x, dx, a, s, rfl, rfl, nx, ndx, ne, hS, g, k⟩ := h
    refine ⟨_, (pss_cons (ps_if (pt_not (pt_val (pf_call (ok_is_row T) (hr.mono (by decide)) (by rfl) T.g_is_row T.d_is_row.kp (pa_cons (pv 1) pa_nil)))) (pss_one ps_never) pss_nil)
      (pss_one (k_sfld (K := K) rfl (pv 0) (pe_callTy (k_tupOf (K := K) rfl) (by rfl) T.z_tuple (by decide +kernel) (pa_cons (pv 1) pa_nil))))), ?_⟩
    have e0 : Ex H0 (upd (upd H0 dx (.own x)) x (.ins d.c_Plan dx [])) := Ex.mut (Ex.new ndx) nx
    have hl := g.le
    walk_at "rd"
    refine ⟨a, s, rfl, hS.mono e0, by omega, fun H1 e1 => ?_⟩
    rw [okRow_iff.mpr g]
    walk_at "rd"
    refine iteF ?_
    have x1 : H1 x = some (.ins d.c_Plan dx []) := e1 _ _ upd_same
    have e01 : Ex H0 H1 := e0.trans e1
    walk_at "rd"
    refine r_tupOf (hS.mono e01) fun p H3 e3 hp => ?_
    walk_at "rd"
    refine ⟨x, _, dx, _, rfl, e3 _ _ x1, T.cl_Plan, T.n_Plan_kept_begins, by show 0 < 1000; decide, ?_⟩
    exact k _ (Ex.mut (e01.trans e3) nx) ⟨x, dx, p, rfl, upd_same, tup_ins (e3 _ _ x1) hp, g⟩

/-! ### plan_of -/
theorem sc_plan_of : FnScope ["people", "reached", "ends", "begin", "end"] ["people", "reached"] (defScope s_plan_of) := ⟨rfl, rfl, rfl, by decide +kernel, rfl, by decide +kernel, by decide +kernel⟩

def sp_plan_of (K : PySem.W.Frag) (d : Ads) : Sp := fun vs H Q _ => ∃ (n : Nat) (P : Int) (rp : Addr) (R : Nat → Int), vs = [.int P, .ref rp] ∧ H rp = some (.lst (rwO n fun v => some (R v))) ∧ 1 ≤ n ∧ n ≤ 48 ∧ mono n (potA n P R) ∧ ∀ u H', Ex H H' → Ps K d.c_Plan H' u n P (potA n P R) → Q u H'
theorem cut_from1 {xs : List V} : cutV xs (some 1) none = xs.drop 1 := by
  cases xs with
  | nil => rfl
  | cons x xs => exact cut_drop (by omega) (by rw [List.length_cons]; omega)
set_option maxHeartbeats 4000000 in
theorem ok_plan_of (T : Tx K mg d) : Okf P w K mg base 7 d.f_plan_of ["people", "reached"] (sp_plan_of K d) := by
  refine okf_of T.d_plan_of sc_plan_of (fun vs H Q E h => ?_) (fun cdv A outer s H vs Q E hr h => ?_)
  · obtain ⟨n, P, rp, R, rfl, hR, n1, n8, hm, k⟩ := h
    rfl
  · obtain ⟨n, P, rp, R, rfl, hR, n1, n8, hm, k⟩ := h
    refine ⟨_, (pss_cons (ps_set (i := 2) sc_plan_of.nd rfl (by first | exact Or.inl rfl | exact Or.inr rfl) (pe_op op_cat (pe_slice (k_slL (K := K) rfl) (pv 1) (po_some pe_int) po_none) (pe_lst (pa_cons (pe_op op_add (pe_ix (k_ixL (K := K) rfl) (pv 1) pe_int (fun _ _ => rfl)) (pv 0)) pa_nil))))
      (pss_one (ps_ret (pf_make (ok_Plan___init__ T) (hr.mono (by decide)) T.mk_Plan (by rfl) T.g_Plan (pa_cons (pe_lc (own := [("begin", 3), ("end", 4)]) rfl sc_plan_of.nd (k_piZ (K := K) rfl (by rfl) T.z_zip (pa_cons (pv 1) (pa_cons (pv 2) pa_nil))) (blkOk_by (by kernel_rfl)) (fun _ _ _ _ _ => (k_gtup (K := K) (n := 2) rfl rfl (pgs_cons (pg_name (i := 3) sc_plan_of.nd rfl (by first | exact Or.inl rfl | exact Or.inr rfl)) (pgs_cons (pg_name (i := 4) sc_plan_of.nd rfl (by first | exact Or.inl rfl | exact Or.inr rfl)) pgs_nil)))) (fun _ _ _ _ _ => pts_nil) (fun _ _ _ _ _ => (pe_op op_sub (pv 4) (pv 3)))) pa_nil))))), ?_⟩
    have hlen := rwO_length n fun v => some (R v)
    walk_at "rd"
    refine ⟨rp, _, rfl, at_sqL hR, fun p1 np1 => ?_⟩
    rw [cut_drop (by omega) (by rw [hlen]; omega)]
    walk_at "rd"
    refine r_ixL (by walk_at "kn") (at_rwS0 (by omega : 0 < n)) ?_
    walk_at "rd"
    refine ⟨szc rfl, fun p2 np2 => ?_⟩
    walk_at "rd"
    refine ⟨p1, p2, _, _, rfl, rfl, (by walk_at "kn"), (by walk_at "kn"), ?_, fun p3 np3 => ?_⟩
    · rw [List.length_drop, hlen, List.length_singleton]
      exact line_le (by omega)
    walk_at "rd"
    have l3 : ((rwO n fun v => some (R v)).drop (1 : Int).toNat ++ [V.int (R 0 + P)]).length = n := by
      rw [List.length_append, List.length_drop, hlen, List.length_singleton]
      show n - 1 + 1 = n
      omega
    refine ⟨rp, p3, _, _, rfl, (by walk_at "kn"), (by walk_at "kn"), lc_fun (walk_zip (n := n) (xs := rwO n fun v => some (R v)) (ys := (rwO n fun v => some (R v)).drop (1 : Int).toNat ++ [V.int (R 0 + P)]) (by rw [hlen, l3]; omega)) (fun i => .int (potA n P R ((i : Int) + 1) - potA n P R (i : Int))) (fun H' e => ⟨(by walk_at "kn"), (by walk_at "kn")⟩) (by omega) ?_ ?_⟩
    · rintro i x H1 H2 hi e ⟨T', x1, x2, rfl, nT, rfl, hx1, hx2⟩ kk hk
      replace hx1 : (rwO n fun v => some (R v))[i]? = some x1 := hx1
      rw [rwS_at hi] at hx1
      cases hx1
      have hx2' : x2 = .int (potA n P R ((i : Int) + 1) + R 0) := by
        replace hx2 : ((rwO n fun v => some (R v)).drop (1 : Int).toNat ++ [V.int (R 0 + P)])[i]? = some x2 := hx2
        by_cases hi2 : i + 1 < n
        · rw [List.getElem?_append_left (by rw [List.length_drop, hlen]; show i < n - 1; omega), List.getElem?_drop, show (1 : Int).toNat + i = i + 1 from Nat.add_comm 1 i, rwS_at hi2] at hx2
          cases hx2
          rw [show (i : Int) + 1 = ((i + 1 : Nat) : Int) by omega, potA_at hi2]
          rw [show R (i + 1) - R 0 + R 0 = R (i + 1) by omega]
        · rw [List.getElem?_append_right (by rw [List.length_drop, hlen]; show n - 1 ≤ i; omega), List.length_drop, hlen, show i - (n - (1 : Int).toNat) = 0 by show i - (n - 1) = 0; omega] at hx2
          cases hx2
          rw [show (i : Int) + 1 = (n : Int) by omega, potA_n, Int.add_comm]
      subst hx2'
      refine r_pair ?_
      walk_at "rd"
      rw [show potA n P R ((i : Int) + 1) + R 0 - R i = potA n P R ((i : Int) + 1) - potA n P R (i : Int) by rw [potA_at hi]; omega]
      exact hk _ (Ex.new nT)
    intro p H1 np e1 hp
    have hp' : H1 p = some (.lst ((byS n (potA n P R)).map V.int)) := by
      rw [hp]
      unfold byS
      rw [row_lit]
    walk_at "rd"
    refine mkRw ⟨p, _, rfl, (by walk_at "kn"), good_byS n1 n8 hm, fun u H' e hu => k _ _ (by walk_at "ex") ⟨hu, potA_0 n1, potA_n⟩⟩

/-! ### settled -/
theorem sc_settled : FnScope ["hours", "edges", "pace", "reached", "came"] ["hours", "edges", "pace", "reached"] (defScope s_settled) := ⟨rfl, rfl, rfl, by decide +kernel, rfl, by decide +kernel, by decide +kernel⟩

/-- what is reached in the end -/
def Sett (pa pb : Int) (es : List (Ed Stp)) (r0 r : Nat → Option Int) : Prop := Att pa pb es r0 r ∧ Stab pa pb es r ∧ Ge r0 r
def sp_settled (K : PySem.W.Frag) (d : Ads) : Sp := fun vs H Q _ => ∃ (n : Nat) (l pc rp : Addr) (es : List (Ed Stp)) (pa pb : Int) (r0 : Nat → Option Int) (X : Nat → Int), vs = [.int (n : Int), .ref l, .ref pc, .ref rp] ∧ EdL H l es ∧ SqT K H pc [.int pa, .int pb] ∧ H rp = some (.lst (rwO n r0)) ∧ l ≠ rp ∧ EdOk n es ∧ n ≤ 1000 ∧ -(2 ^ 64) < pb ∧ pb < 2 ^ 64 ∧
  (∀ e ∈ es, X e.f + gn pa pb e ≤ X e.l) ∧ (∃ C, Up X C r0) ∧ (∀ v x, r0 v = some x → x = 0) ∧ ∀ r H', Sett pa pb es r0 r → (∀ a o, a ≠ rp → H a = some o → H' a = some o) → H' rp = some (.lst (rwO n r)) → Q (.ref rp) H'
set_option maxHeartbeats 4000000 in
theorem ok_settled (T : Tx K mg d) : Okf P w K mg base 3 d.f_settled ["hours", "edges", "pace", "reached"] (sp_settled K d) := by
  refine okf_of T.d_settled sc_settled (fun vs H Q E h => ?_) (fun cdv A outer s H vs Q E hr h => ?_)
  · obtain ⟨n, l, pc, rp, es, pa, pb, r0, X, rfl, hE, hP, hR, nlr, ok, hn, b1, b2, hX, ⟨C, hC⟩, h00, k⟩ := h
    rfl
  · obtain ⟨n, l, pc, rp, es, pa, pb, r0, X, rfl, hE, hP, hR, nlr, ok, hn, b1, b2, hX, ⟨C, hC⟩, h00, k⟩ := h
    refine ⟨_, (pss_cons (ps_set (i := 4) sc_settled.nd rfl (by first | exact Or.inl rfl | exact Or.inr rfl) (pe_op op_rep (pe_lst (pa_cons pe_non pa_nil)) (pv 0)))
      (pss_cons (ps_while PassesOwn.never (pt_cmpR k_notN (pf_call (ok_further T) (hr.mono (by decide)) (by rfl) T.g_further T.d_further.kp (pa_cons (pv 1) (pa_cons (pv 2) (pa_cons (pv 3) (pa_cons (pv 4) pa_nil))))) pe_non (nomark _)) (pss_one (ps_set (i := 4) sc_settled.nd rfl (by first | exact Or.inl rfl | exact Or.inr rfl) (pe_op op_rep (pe_lst (pa_cons pe_non pa_nil)) (pv 0)))))
      (pss_one (ps_ret (pv 3))))), ?_⟩
    obtain ⟨G, G0, hG⟩ := gain_bd pa pb es
    have S0 : Set0 pa pb es n X C G r0 r0 := ⟨fun v x hx => ⟨v, x, [], hx, rfl, (fun _ h => nomatch h), by show x = x + 0; omega⟩, fun v x hx => by
      rw [h00 v x hx]
      have := Int.mul_nonneg (a := ((cnt n r0 : Nat) : Int)) (b := G) (by omega) G0
      omega, hC, fun v x hx => ⟨x, hx, Int.le_refl x⟩⟩
    have hX' : ∀ e ∈ es, e.l < n := fun e he => (ok e he).2.1
    obtain ⟨vs, hl, _⟩ := id hE
    walk_at "rd"
    refine ⟨szc rfl, fun p1 np1 => ?_⟩
    walk_at "rd"
    refine r_rep1 upd_same hn fun cp ncp => ?_
    walk_at "rd"
    have nrp : cp ≠ rp := fun z => by
      have b := Ex.new np1 (o := .lst [V.non]) _ _ hR
      rw [← z, ncp] at b
      cases b
    have H0 : ∀ a o, a ≠ rp → H a = some o → (upd (upd H p1 (.lst [V.non])) cp (.lst (List.replicate n V.non))) a = some o := fun a o _ ha => ((Ex.new np1).trans (Ex.new ncp)) _ _ ha
    have hxl : ∀ {H' : Hp}, (∀ a o, a ≠ rp → H a = some o → H' a = some o) → Xl H H' := fun m a o h n => m a o (ne_of h hR (by intro z; rw [z] at n; cases n)) h
    have hEd : ∀ {H' : Hp}, (∀ a o, a ≠ rp → H a = some o → H' a = some o) → EdL H' l es := fun m => by
      obtain ⟨vs, h1, h2, h3⟩ := hE
      exact ⟨vs, m _ _ nlr h1, h2, fun i v hv => let ⟨e, a, b⟩ := h3 i v hv; ⟨e, a, b.mono (hxl m)⟩⟩
    have hcp : ∀ {H' : Hp} {cp : Addr}, (∀ a o, a ≠ rp → H a = some o → H' a = some o) → H cp = none → l ≠ cp := fun m h z => by rw [z, h] at hl; cases hl
    refine r_while (fun q σ H' => ∃ r cp, σ = [some (.int (n : Int)), some (.ref l), some (.ref pc), some (.ref rp), some (.ref cp)] ∧ cp ≠ rp ∧ l ≠ cp ∧ H cp = none ∧ (∀ a o, a ≠ rp → H a = some o → H' a = some o) ∧ H' rp = some (.lst (rwO n r)) ∧ CamL H' cp n (fun _ => none) ∧ Set0 pa pb es n X C G r0 r ∧ mu0 n X C G r = q) (mu0 n X C G r0) ⟨r0, cp, rfl, nrp, hcp H0 (by walk_at "fr"), (by walk_at "fr"), H0, ?_, CamL.start upd_same, S0, rfl⟩ ?_
    · rw [upd_ne nrp.symm]
      exact Ex.new np1 _ _ hR
    rintro q σ H1 ⟨r, cp, rfl, n1, n2, fc, m1, hR1, hC1, S1, rfl⟩
    walk_at "rd"
    refine ⟨l, pc, rp, cp, es, pa, pb, n, r, _, rfl, hEd m1, tup_mono (hxl m1) hP, hR1, hC1, nlr, n2, n1.symm, ok, b1, b2, fun H2 m hr2 hc2 => ?_⟩
    have m2 : ∀ a o, a ≠ rp → H a = some o → H2 a = some o := fun a o na ha => m a o na (by intro z; rw [z, fc] at ha; cases ha) (m1 a o na ha)
    obtain ⟨S2, hmu⟩ := S1.pass (c := fun _ => none) hX hX' hG G0
    walk_at "rd"
    refine r_notN ?_
    walk_at "rd"
    cases z : (pass pa pb es r fun _ => none).ch with
    | some mk =>
      refine iteT (r_turn ?_)
      walk_at "rd"
      refine ⟨szc rfl, fun p3 np3 => ?_⟩
      walk_at "rd"
      refine r_rep1 upd_same hn fun cp2 ncp2 => ?_
      walk_at "rd"
      have e2 : Ex H2 (upd (upd H2 p3 (.lst [V.non])) cp2 (.lst (List.replicate n V.non))) := (Ex.new np3).trans (Ex.new ncp2)
      have f2 : H2 cp2 = none := fresh_back (Ex.new np3) ncp2
      have f0 : H cp2 = none := by
        cases w : H cp2 with
        | none => rfl
        | some o =>
          by_cases q : cp2 = rp
          · rw [q, hr2] at f2; cases f2
          · rw [m2 _ _ q w] at f2; cases f2
      have nn : cp2 ≠ rp := fun q => by rw [q, hr2] at f2; cases f2
      exact ⟨_, hmu (by rw [z]; intro z; cases z), _, cp2, rfl, nn, hcp m2 f0, f0, fun a o na ha => e2 _ _ (m2 a o na ha), e2 _ _ hr2, CamL.start upd_same, S2, rfl⟩
    | none =>
      refine iteF ?_
      walk_at "rd"
      obtain ⟨h1, h2⟩ := pass_stab z
      rw [h1] at hr2
      exact k r H2 ⟨S1.at_, h2, S1.ge⟩ m2 hr2

/-! ### plan_for -/
theorem sc_plan_for : FnScope ["clock", "needs", "people", "edges"] ["clock", "needs", "people"] (defScope s_plan_for) := ⟨rfl, rfl, rfl, by decide +kernel, rfl, by decide +kernel, by decide +kernel⟩

/-- the sums of the plan that plan_for tells -/
def PlanR (s d : List Int) (P : Int) (A : Int → Int) : Prop := ∃ R : Nat → Int, A = potA s.length P R ∧ Sett P 1 (needEs s d) (fun _ => some 0) (fun v => some (R v))
theorem PlanR.det {s d : List Int} {P : Int} {A B : Int → Int} (h : PlanR s d P A) (h' : PlanR s d P B) : A = B := by
  obtain ⟨R, rfl, a1, a2, a3⟩ := h
  obtain ⟨R', rfl, b1, b2, b3⟩ := h'
  have e := sett_uniq a1 b1 a2 b2 a3 b3
  have : R = R' := funext fun v => by
    have := congrFun e v
    exact Option.some.inj this
  rw [this]
theorem PlanR.enf {s d : List Int} {P : Int} {A : Int → Int} (g : Good s) (h : PlanR s d P A) : Enf s d P A := by
  obtain ⟨R, rfl, a1, a2, a3⟩ := h
  refine pot_enf g fun e he => ?_
  obtain ⟨y, h1, h2⟩ := a2 e he _ rfl
  cases h1
  exact h2
def sp_plan_for (K : PySem.W.Frag) (d : Ads) : Sp := fun vs H Q _ => ∃ (v u : V) (s ns : List Int) (P : Int), vs = [v, u, .int P] ∧ Clk K d.c_Clock H v s ∧ Nd K d H u ns ∧ ns.length = s.length ∧ (∃ A, Enf s ns P A) ∧ ∀ A w H', PlanR s ns P A → Ex H H' → Ps K d.c_Plan H' w s.length P A → Q w H'
set_option maxHeartbeats 4000000 in
theorem ok_plan_for (T : Tx K mg d) : Okf P w K mg base 9 d.f_plan_for ["clock", "needs", "people"] (sp_plan_for K d) := by
  refine okf_of T.d_plan_for sc_plan_for (fun vs H Q E h => ?_) (fun cdv A outer s H vs Q E hr h => ?_)
  · obtain ⟨v, u, s, ns, P, rfl, hC, hN, hlen, ⟨A0, hA0⟩, k⟩ := h
    rfl
  · obtain ⟨v, u, s, ns, P, rfl, hC, hN, hlen, ⟨A0, hA0⟩, k⟩ := h
    refine ⟨_, (pss_cons (ps_if (pt_not (pt_val (pf_call (ok_enough T) (hr.mono (by decide)) (by rfl) T.g_enough T.d_enough.kp (pa_cons (pv 0) (pa_cons (pv 1) (pa_cons (pv 2) pa_nil)))))) (pss_one ps_never) pss_nil)
      (pss_cons (ps_set (i := 3) sc_plan_for.nd rfl (by first | exact Or.inl rfl | exact Or.inr rfl) (pf_call (ok_need_edges T) (hr.mono (by decide)) (by rfl) T.g_need_edges T.d_need_edges.kp (pa_cons (pv 0) (pa_cons (pv 1) pa_nil))))
      (pss_one (ps_ret (pf_call (ok_plan_of T) (hr.mono (by decide)) (by rfl) T.g_plan_of T.d_plan_of.kp (pa_cons (pv 2) (pa_cons (pf_call (ok_settled T) (hr.mono (by decide)) (by rfl) T.g_settled T.d_settled.kp (pa_cons (pf_prop (ok_Clock_hours T) (hr.mono (by decide)) T.cl_Clock T.p_Clock_hours (pv 0)) (pa_cons (pv 3) (pa_cons (pe_tup (pa_cons (pv 2) (pa_cons pe_int pa_nil))) (pa_cons (pe_op op_rep (pe_lst (pa_cons pe_int pa_nil)) (pf_prop (ok_Clock_hours T) (hr.mono (by decide)) T.cl_Clock T.p_Clock_hours (pv 0))) pa_nil))))) pa_nil))))))), ?_⟩
    have g := hC.good
    have hn := g.ne
    have hn8 := g.le
    walk_at "rd"
    refine ⟨v, u, s, ns, P, rfl, hC, hN, hlen, fun F H1 hF e1 => ?_⟩
    have hFP : F ≤ P := hF.2 P A0 hA0
    walk_at "rd"
    refine r_same hFP ?_
    walk_at "rd"
    refine ⟨v, u, s, ns, rfl, (by walk_at "kn"), (by walk_at "kn"), hlen, fun p H2 np e2 hE => ?_⟩
    walk_at "rd"
    refine r_clkP (s := s) (by walk_at "kn") fun cq eq => ?_
    subst eq
    refine ⟨_, s, rfl, (by walk_at "kn"), ?_⟩
    walk_at "rd"
    refine ⟨szc rfl, fun pc npc => ?_⟩
    walk_at "rd"
    refine ⟨szc rfl, fun p0 np0 => ?_⟩
    walk_at "rd"
    refine r_clkP (s := s) (by walk_at "kn") fun _ eq => ?_
    cases eq
    refine ⟨_, s, rfl, (by walk_at "kn"), ?_⟩
    refine r_rep1 upd_same (by omega) fun rp nrp => ?_
    walk_at "rd"
    have hX := (enf_iff g hA0.1 hA0.2.1).mp hA0
    obtain ⟨C, hC0⟩ := zero_up s.length fun m => A0 (m : Int)
    obtain ⟨vs, hl, _⟩ := id hE
    have f2 : H2 rp = none := (by walk_at "fr")
    refine ⟨s.length, p, pc, rp, needEs s ns, P, 1, fun _ => some 0, fun m => if m < s.length then A0 (m : Int) else 0, rfl, hE.ex (by walk_at "ex"), (by walk_at "kn"), ?_, fun z => ?_, need_ok g, by omega, by omega, by omega, fun e he => ?_, ⟨C, fun v x hx => ?_⟩, fun v x hx => ?_, fun r H3 hS m3 hr3 => ?_⟩
    · rw [upd_same]
      show some (HO.lst (List.replicate s.length (V.int 0))) = some (HO.lst ((List.range s.length).map fun _ => V.int 0))
      congr 2
      rw [List.map_const', List.length_range]
    · rw [z, f2] at hl
      cases hl
    · obtain ⟨a1, a2⟩ := need_fl g e he
      show (if e.f < s.length then A0 ((e.f : Nat) : Int) else 0) + gn P 1 e ≤ (if e.l < s.length then A0 ((e.l : Nat) : Int) else 0)
      rw [if_pos a1, if_pos a2]
      exact hX e he
    · cases hx
      exact hC0 v
    · cases hx
      rfl
    obtain ⟨R, rfl⟩ : ∃ R : Nat → Int, r = fun v => some (R v) := by
      refine ⟨fun v => (r v).getD 0, funext fun v => ?_⟩
      obtain ⟨y, h1, _⟩ := hS.2.2 v 0 rfl
      show r v = some ((r v).getD 0)
      rw [h1]
      rfl
    have hPR : PlanR s ns P (potA s.length P R) := ⟨R, rfl, hS⟩
    have e3 : Ex H2 H3 := fun a o ha => m3 a o (fun z => by rw [z, f2] at ha; cases ha) (by
      have e : Ex H2 (upd (upd (upd H2 pc (.tup [.int P, .int 1])) p0 (.lst [.int 0])) rp (.lst (List.replicate s.length (.int 0)))) := (by walk_at "ex")
      exact e _ _ ha)
    refine ⟨s.length, P, rp, R, rfl, hr3, hn, hn8, (hPR.enf g).2.2.1, fun w H4 e4 hw => ?_⟩
    exact k _ w H4 hPR (by walk_at "ex") hw

/-! ### Plan.__eq__ -/
theorem sc_Plan___eq__ : FnScope ["self", "other"] ["self", "other"] (defScope s_Plan___eq__) := ⟨rfl, rfl, rfl, by decide +kernel, rfl, by decide +kernel, by decide +kernel⟩

def sp_Plan___eq__ (K : PySem.W.Frag) (d : Ads) : Sp := fun vs H Q _ => ∃ (v w : V) (s t : List Int), vs = [v, w] ∧ Pn K d H v s ∧ Pn K d H w t ∧ Q (.bl (decide (s = t))) H
set_option maxHeartbeats 4000000 in
theorem ok_Plan___eq__ (T : Tx K mg d) : Okf P w K mg base 1 d.f_Plan___eq__ ["self", "other"] (sp_Plan___eq__ K d) := by
  refine okf_of T.d_Plan___eq__ sc_Plan___eq__ (fun vs H Q E h => ?_) (fun cdv A outer s H vs Q E hr h => ?_)
  · obtain ⟨v, w, s, t, rfl, hN, hM, k⟩ := h
    rfl
  · obtain ⟨v, w, s, t, rfl, hN, hM, k⟩ := h
    refine ⟨_, (pss_one (ps_ret (pe_and (pe_callB (k_isi (K := K) rfl) (by rfl) T.z_isinstance (by decide +kernel) (pa_cons (pv 1) (pa_cons (pe_glob (v := .ref d.c_Plan) (by rfl) T.g_Plan rfl) pa_nil))) (pe_one (pe_cmpR (k_eqD (K := K) rfl hr.units) (k_fld (K := K) rfl (pv 0)) (k_fld (K := K) rfl (pv 1)) (nomark _)))))), ?_⟩
    obtain ⟨q, dq, b, rfl, hq, _⟩ := id hM
    walk_at "rd"
    refine r_isiOwn T.ic_Plan hq ?_
    walk_at "rd"
    refine iteT ?_
    walk_at "rd"
    refine r_rwF hN T.cl_Plan T.n_Plan_kept_begins fun a ha => ?_
    walk_at "rd"
    refine r_rwF hM T.cl_Plan T.n_Plan_kept_begins fun c hc => ?_
    exact r_eqT ha hc k

/-! ### _law_is_whole -/
theorem sc__law_is_whole : FnScope ["_law_thing"] ["_law_thing"] (defScope s__law_is_whole) := ⟨rfl, rfl, rfl, by decide +kernel, rfl, by decide +kernel, by decide +kernel⟩

def sp__law_is_whole (K : PySem.W.Frag) (d : Ads) : Sp := fun vs H Q _ => ∃ i : Int, vs = [.int i] ∧ Q (.bl true) H
set_option maxHeartbeats 4000000 in
theorem ok__law_is_whole (T : Tx K mg d) : Okf P w K mg base 1 d.f__law_is_whole ["_law_thing"] (sp__law_is_whole K d) := by
  refine okf_of T.d__law_is_whole sc__law_is_whole (fun vs H Q E h => ?_) (fun cdv A outer s H vs Q E hr h => ?_)
  · obtain ⟨i, rfl, k⟩ := h
    rfl
  · obtain ⟨i, rfl, k⟩ := h
    refine ⟨_, (pss_one (ps_ret (pe_and (pe_callB (k_isi (K := K) rfl) (by rfl) T.z_isinstance (by decide +kernel) (pa_cons (pv 0) (pa_cons (pe_bty (n := "int") (by rfl) T.z_int (by decide +kernel)) pa_nil))) (pe_one (pe_not (pe_callB (k_isi (K := K) rfl) (by rfl) T.z_isinstance (by decide +kernel) (pa_cons (pv 0) (pa_cons (pe_bty (n := "bool") (by rfl) T.z_bool (by decide +kernel)) pa_nil)))))))), ?_⟩
    walk_at "rd"
    refine r_isiInt ?_
    walk_at "rd"
    refine iteT ?_
    walk_at "rd"
    refine r_isiIntB ?_
    walk_at "rd"
    exact k

/-! ### _law_is_count -/
theorem sc__law_is_count : FnScope ["_law_thing"] ["_law_thing"] (defScope s__law_is_count) := ⟨rfl, rfl, rfl, by decide +kernel, rfl, by decide +kernel, by decide +kernel⟩

def sp__law_is_count (K : PySem.W.Frag) (d : Ads) : Sp := fun vs H Q _ => ∃ i : Int, vs = [.int i] ∧ Q (.bl (decide (0 ≤ i))) H
set_option maxHeartbeats 4000000 in
theorem ok__law_is_count (T : Tx K mg d) : Okf P w K mg base 2 d.f__law_is_count ["_law_thing"] (sp__law_is_count K d) := by
  refine okf_of T.d__law_is_count sc__law_is_count (fun vs H Q E h => ?_) (fun cdv A outer s H vs Q E hr h => ?_)
  · obtain ⟨i, rfl, k⟩ := h
    rfl
  · obtain ⟨i, rfl, k⟩ := h
    refine ⟨_, (pss_one (ps_ret (pe_and (pf_call (ok__law_is_whole T) (hr.mono (by decide)) (by rfl) T.g__law_is_whole T.d__law_is_whole.kp (pa_cons (pv 0) pa_nil)) (pe_one (pe_cmpR op_ge (pv 0) pe_int (nomark _)))))), ?_⟩
    walk_at "rd"
    refine ⟨i, rfl, ?_⟩
    walk_at "rd"
    refine iteT ?_
    walk_at "rd"
    exact k

/-! ### _law_serving -/
theorem sc__law_serving : FnScope ["_law_stays_here", "_law_hour", "_law_many", "_law_found", "_law_back"] ["_law_stays_here", "_law_hour"] (defScope s__law_serving) := ⟨rfl, rfl, rfl, by decide +kernel, rfl, by decide +kernel, by decide +kernel⟩

def sp__law_serving (K : PySem.W.Frag) (d : Ads) : Sp := fun vs H Q _ => ∃ (l : Addr) (s : List Int) (h : Int), vs = [.ref l, .int h] ∧ SqL K H l (s.map V.int) ∧ Good s ∧ RetN ((servingOf s h).map V.int) H Q
set_option maxHeartbeats 4000000 in
theorem ok__law_serving (T : Tx K mg d) : Okf P w K mg base 1 d.f__law_serving ["_law_stays_here", "_law_hour"] (sp__law_serving K d) := by
  refine okf_of T.d__law_serving sc__law_serving (fun vs H Q E h => ?_) (fun cdv A outer s H vs Q E hr h => ?_)
  · obtain ⟨l, s, h, rfl, hS, g, k⟩ := h
    rfl
  · obtain ⟨l, s, h, rfl, hS, g, k⟩ := h
    refine ⟨_, (pss_cons (ps_set (i := 2) sc__law_serving.nd rfl (by first | exact Or.inl rfl | exact Or.inr rfl) (pe_callB (k_len (K := K) rfl) (by rfl) T.z_len (by decide +kernel) (pa_cons (pv 0) pa_nil)))
      (pss_cons (ps_setLc (i := 3) (own := [("_law_back", 4)]) rfl sc__law_serving.nd rfl rfl (sw_true rfl rfl rfl (by decide +kernel)) (pi_range1 (by rfl) T.z_range (pa_cons (pv 2) pa_nil)) (blkOk_by (by kernel_rfl)) (fun _ _ _ _ _ => (pg_name (i := 4) sc__law_serving.nd rfl (by first | exact Or.inl rfl | exact Or.inr rfl))) (fun _ _ _ _ _ => (pts_one (pt_cmpR op_gt (pe_ix (k_ixL (K := K) rfl) (pv 0) (pe_op op_mod (pe_callTy k_int1 (by rfl) T.z_int (by decide +kernel) (pa_cons (pe_op op_sub (pv 1) (pv 4)) pa_nil)) (pv 2)) (fun _ _ => rfl)) (pv 4) (nomark _)))) (fun _ _ _ _ _ => (pe_op op_mod (pe_callTy k_int1 (by rfl) T.z_int (by decide +kernel) (pa_cons (pe_op op_sub (pv 1) (pv 4)) pa_nil)) (pv 2))))
      (pss_one (ps_ret (k_revL (K := K) rfl (pv 3)))))), ?_⟩
    have hne := g.ne
    have hle := g.le
    walk_at "rd"
    refine r_len (.inl hS) ?_
    rw [List.length_map]
    walk_at "rd"
    refine lc_filf walk_r0 (fun b => decide ((b : Int) < cyc s (h - (b : Int)))) (fun b => .int ((h - (b : Int)) % (s.length : Int))) (fun _ _ => trivial) (by omega) ?_ ?_
    · rintro i x H1 H2 hi e ⟨rfl, rfl⟩ kb kk hk1 hk2
      walk_at "rd"
      refine r_ixL (ex_l e hS) (at_cyc hne _) ?_
      walk_at "rd"
      refine r_ite (fun hc => ?_) (fun hc => ?_)
      · walk_at "rd"
        exact hk1 _ (decide_eq_true hc) (Ex.refl _)
      · exact hk2 _ (decide_eq_false hc) (Ex.refl _)
    · intro D H' nD e hD
      walk_at "rd"
      refine ⟨D, _, rfl, .inl (.inl hD), fun p np => ?_⟩
      refine k p _ (fresh_back e np) (e.trans (Ex.new np)) ?_
      rw [upd_same, Int.toNat_natCast, ← serving_filter g, List.map_reverse, List.map_map]
      rfl

/-! ### _law_there -/
theorem sc__law_there : FnScope ["_law_stays_here", "_law_begins", "_law_hour", "_law_first"] ["_law_stays_here", "_law_begins"] (defScope s__law_there) := ⟨rfl, rfl, rfl, by decide +kernel, rfl, by decide +kernel, by decide +kernel⟩

def sp__law_there (K : PySem.W.Frag) (d : Ads) : Sp := fun vs H Q _ => ∃ (l m : Addr) (s t : List Int), vs = [.ref l, .ref m] ∧ SqL K H l (s.map V.int) ∧ SqL K H m (t.map V.int) ∧ Good s ∧ t.length = s.length ∧ RetN ((thR s t).map V.int) H Q
set_option maxHeartbeats 4000000 in
theorem ok__law_there (T : Tx K mg d) : Okf P w K mg base 2 d.f__law_there ["_law_stays_here", "_law_begins"] (sp__law_there K d) := by
  refine okf_of T.d__law_there sc__law_there (fun vs H Q E h => ?_) (fun cdv A outer s H vs Q E hr h => ?_)
  · obtain ⟨l, m, s, t, rfl, hL, hM, g, hl, k⟩ := h
    rfl
  · obtain ⟨l, m, s, t, rfl, hL, hM, g, hl, k⟩ := h
    refine ⟨_, (pss_one (ps_ret (pe_lc (own := [("_law_hour", 2)]) rfl sc__law_there.nd (pi_range1 (by rfl) T.z_range (pa_cons (pe_callB (k_len (K := K) rfl) (by rfl) T.z_len (by decide +kernel) (pa_cons (pv 0) pa_nil)) pa_nil)) (blkOk_by (by kernel_rfl)) (fun _ _ _ _ _ => (pg_name (i := 2) sc__law_there.nd rfl (by first | exact Or.inl rfl | exact Or.inr rfl))) (fun _ _ _ _ _ => pts_nil) (fun _ _ _ _ _ => (pe_callB (k_sumS (K := K) rfl rfl) (by rfl) T.z_sum (by decide +kernel) (pa_cons (pe_lc (own := [("_law_first", 3)]) rfl sc__law_there.nd (k_piL (K := K) rfl (pf_call (ok__law_serving T) (hr.mono (by decide)) (by rfl) T.g__law_serving T.d__law_serving.kp (pa_cons (pv 0) (pa_cons (pv 2) pa_nil)))) (blkOk_by (by kernel_rfl)) (fun _ _ _ _ _ => (pg_name (i := 3) sc__law_there.nd rfl (by first | exact Or.inl rfl | exact Or.inr rfl))) (fun _ _ _ _ _ => pts_nil) (fun _ _ _ _ _ => (pe_ix (k_ixL (K := K) rfl) (pv 1) (pv 3) (fun _ _ => rfl)))) pa_nil)))))), ?_⟩
    have hne := g.ne
    have hle := g.le
    walk_at "rd"
    refine r_len (.inl hL) ?_
    rw [List.length_map]
    walk_at "rd"
    refine lc_fun walk_r0 (fun i => .int (thF s.length s (cyc t) (i : Int))) (fun _ _ => trivial) (by omega) ?_ ?_
    · rintro i x H1 H2 hi e ⟨rfl, rfl⟩ kk hk
      have hi' : i < s.length := by omega
      walk_at "rd"
      refine ⟨l, s, _, rfl, (by walk_at "kn"), g, fun p H3 np e3 hp => ?_⟩
      walk_at "rd"
      refine ⟨p, rfl, ⟨_, at_sqL hp⟩, lc_fun (walk_list (xs := (servingOf s (i : Int)).map V.int)) (fun j => .int (cyc t ((servingOf s (i : Int)).getD j 0))) (fun H' e => (by walk_at "kn")) ?_ ?_ ?_⟩
      · rw [List.length_map]
        have := serving_len s (i : Int)
        have := wd_le (s := s) (i : Int)
        omega
      · rintro j x H4 H5 hj e4 ⟨rfl, hx⟩ kk' hk'
        obtain rfl := int_at hx
        rw [List.length_map] at hj
        walk_at "rd"
        have hm : 0 ≤ (servingOf s (i : Int)).getD j 0 ∧ (servingOf s (i : Int)).getD j 0 < (t.length : Int) := by
          have := getD_mem' hj
          unfold servingOf at this
          obtain ⟨z, _, hz⟩ := List.mem_map.mp this
          unfold servingOf
          rw [← hz, hl]
          exact mod_bd g.ne _
        have ea := at_cyc (ns := t) (by omega) ((servingOf s (i : Int)).getD j 0)
        rw [Int.emod_eq_of_lt hm.1 hm.2] at ea
        refine r_ixL (by walk_at "kn") ea ?_
        exact hk' _ (Ex.refl _)
      intro D2 H4 nD2 e4 hD2
      rw [List.length_map, map_range_int (servingOf s (i : Int)) (fun z => V.int (cyc t z))] at hD2
      walk_at "rd"
      refine r_sumS (ns := (servingOf s (i : Int)).map (cyc t)) (sqL_sq (at_sqL (by rw [hD2, List.map_map]; rfl))) ?_
      rw [serving_sum g (fun j => by rw [← hl]; exact cyc_mod t j)]
      exact hk _ (by walk_at "ex")
    · intro D H2 nD e2 hD
      refine k D H2 nD e2 ?_
      rw [hD, Int.toNat_natCast]
      unfold thR
      rw [row_lit]

/-! ### _law_serves -/
theorem sc__law_serves : FnScope ["_law_stays_here", "_law_wants_here", "_law_begins", "_law_there_here", "_law_hour"] ["_law_stays_here", "_law_wants_here", "_law_begins"] (defScope s__law_serves) := ⟨rfl, rfl, rfl, by decide +kernel, rfl, by decide +kernel, by decide +kernel⟩

def sp__law_serves (K : PySem.W.Frag) (d : Ads) : Sp := fun vs H Q _ => ∃ (l q m : Addr) (s w t : List Int), vs = [.ref l, .ref q, .ref m] ∧ SqL K H l (s.map V.int) ∧ SqL K H q (w.map V.int) ∧ SqL K H m (t.map V.int) ∧ Good s ∧ t.length = s.length ∧ w.length = s.length ∧ ∀ H', Ex H H' → Q (.bl (Hn.enough s.length (thF s.length s (cyc t)) (cyc w))) H'
set_option maxHeartbeats 4000000 in
theorem ok__law_serves (T : Tx K mg d) : Okf P w K mg base 3 d.f__law_serves ["_law_stays_here", "_law_wants_here", "_law_begins"] (sp__law_serves K d) := by
  refine okf_of T.d__law_serves sc__law_serves (fun vs H Q E h => ?_) (fun cdv A outer s H vs Q E hr h => ?_)
  · obtain ⟨l, q, m, s, w, t, rfl, hL, hW, hM, g, hl, hw, k⟩ := h
    rfl
  · obtain ⟨l, q, m, s, w, t, rfl, hL, hW, hM, g, hl, hw, k⟩ := h
    refine ⟨_, (pss_cons (ps_set (i := 3) sc__law_serves.nd rfl (by first | exact Or.inl rfl | exact Or.inr rfl) (pf_call (ok__law_there T) (hr.mono (by decide)) (by rfl) T.g__law_there T.d__law_there.kp (pa_cons (pv 0) (pa_cons (pv 2) pa_nil))))
      (pss_one (ps_ret (pe_cmpR (k_eqD (K := K) rfl hr.units) (pe_lc (own := [("_law_hour", 4)]) rfl sc__law_serves.nd (pi_range1 (by rfl) T.z_range (pa_cons (pe_callB (k_len (K := K) rfl) (by rfl) T.z_len (by decide +kernel) (pa_cons (pv 0) pa_nil)) pa_nil)) (blkOk_by (by kernel_rfl)) (fun _ _ _ _ _ => (pg_name (i := 4) sc__law_serves.nd rfl (by first | exact Or.inl rfl | exact Or.inr rfl))) (fun _ _ _ _ _ => (pts_one (pt_cmpR op_lt (pe_ix (k_ixL (K := K) rfl) (pv 3) (pv 4) (fun _ _ => rfl)) (pe_ix (k_ixL (K := K) rfl) (pv 1) (pv 4) (fun _ _ => rfl)) (nomark _)))) (fun _ _ _ _ _ => (pv 4))) (pe_lst pa_nil) (nomark _))))), ?_⟩
    have hne := g.ne
    have hle := g.le
    walk_at "rd"
    refine ⟨l, m, s, t, rfl, hL, hM, g, hl, fun p H1 np e1 hp => ?_⟩
    walk_at "rd"
    refine r_len (by walk_at "kn") ?_
    rw [List.length_map]
    walk_at "rd"
    refine lc_filf walk_r0 (fun h => decide (thF s.length s (cyc t) (h : Int) < cyc w (h : Int))) (fun h => .int (h : Int)) (fun _ _ => trivial) (by omega) ?_ ?_
    · rintro i x H2 H3 hi e ⟨rfl, rfl⟩ kb kk hk1 hk2
      rw [Int.toNat_natCast] at hi
      walk_at "rd"
      have ea := at_cyc (ns := thR s t) (by rw [thR_length]; exact hne) (i : Int)
      rw [thR_length, Int.emod_eq_of_lt (by omega) (by omega), cyc_thR hi] at ea
      refine r_ixL (by walk_at "kn") ea ?_
      walk_at "rd"
      have eb := at_cyc (ns := w) (by omega) (i : Int)
      rw [Int.emod_eq_of_lt (by omega) (by omega)] at eb
      refine r_ixL (by walk_at "kn") eb ?_
      walk_at "rd"
      refine r_ite (fun hc => ?_) (fun hc => ?_)
      · walk_at "rd"
        exact hk1 _ (decide_eq_true hc) (Ex.refl _)
      · exact hk2 _ (decide_eq_false hc) (Ex.refl _)
    intro D2 H2 nD2 e2 hD2
    have hD' : H2 D2 = some (.lst ((lackL s.length (thF s.length s (cyc t)) (cyc w)).map V.int)) := by
      rw [hD2, Int.toNat_natCast]
      unfold lackL
      rw [List.map_map]
      rfl
    walk_at "rd"
    refine ⟨szc rfl, fun p3 np3 => ?_⟩
    walk_at "rd"
    refine r_eqL (ms := []) (by walk_at "kn") (by walk_at "kn") ?_
    rw [lack_nil]
    exact k _ (by walk_at "ex")

/-! ### _law_is_hour -/
theorem sc__law_is_hour : FnScope ["_law_many", "_law_thing"] ["_law_many", "_law_thing"] (defScope s__law_is_hour) := ⟨rfl, rfl, rfl, by decide +kernel, rfl, by decide +kernel, by decide +kernel⟩

def sp__law_is_hour (K : PySem.W.Frag) (d : Ads) : Sp := fun vs H Q _ => ∃ n i : Int, vs = [.int n, .int i] ∧ Q (.bl (decide (0 ≤ i) && decide (i < n))) H
set_option maxHeartbeats 4000000 in
theorem ok__law_is_hour (T : Tx K mg d) : Okf P w K mg base 2 d.f__law_is_hour ["_law_many", "_law_thing"] (sp__law_is_hour K d) := by
  refine okf_of T.d__law_is_hour sc__law_is_hour (fun vs H Q E h => ?_) (fun cdv A outer s H vs Q E hr h => ?_)
  · obtain ⟨n, i, rfl, k⟩ := h
    rfl
  · obtain ⟨n, i, rfl, k⟩ := h
    refine ⟨_, (pss_one (ps_ret (pe_and (pf_call (ok__law_is_whole T) (hr.mono (by decide)) (by rfl) T.g__law_is_whole T.d__law_is_whole.kp (pa_cons (pv 1) pa_nil)) (pe_one (pe_chain op_le op_lt pe_int (pv 1) (pv 0)))))), ?_⟩
    walk_at "rd"
    refine ⟨i, rfl, ?_⟩
    walk_at "rd"
    refine iteT ?_
    walk_at "rd"
    cases h0 : decide (0 ≤ i) with
    | true =>
      refine iteT ?_
      walk_at "rd"
      rw [h0] at k
      exact k
    | false =>
      refine iteF ?_
      rw [h0] at k
      exact k

/-! ### _law_is_ring -/
theorem sc__law_is_ring : FnScope ["_law_many", "_law_thing", "_law_one"] ["_law_many", "_law_thing"] (defScope s__law_is_ring) := ⟨rfl, rfl, rfl, by decide +kernel, rfl, by decide +kernel, by decide +kernel⟩

def sp__law_is_ring (K : PySem.W.Frag) (d : Ads) : Sp := fun vs H Q _ => ∃ (n : Nat) (l : Addr) (r : List Int), vs = [.int (n : Int), .ref l] ∧ H l = some (.lst (r.map V.int)) ∧ r ≠ [] ∧ r.length ≤ 5000 ∧ (∀ k ∈ r, 0 ≤ k ∧ k < (n : Int)) ∧ ∀ H', Ex H H' → Q (.bl true) H'
set_option maxHeartbeats 4000000 in
theorem ok__law_is_ring (T : Tx K mg d) : Okf P w K mg base 3 d.f__law_is_ring ["_law_many", "_law_thing"] (sp__law_is_ring K d) := by
  refine okf_of T.d__law_is_ring sc__law_is_ring (fun vs H Q E h => ?_) (fun cdv A outer s H vs Q E hr h => ?_)
  · obtain ⟨n, l, r, rfl, hl, hne, hle, hk, kk⟩ := h
    rfl
  · obtain ⟨n, l, r, rfl, hl, hne, hle, hk, kk⟩ := h
    refine ⟨_, (pss_cons (ps_if (PW.pt (pw_or (pt_not (pt_val (pe_callB (k_isi (K := K) rfl) (by rfl) T.z_isinstance (by decide +kernel) (pa_cons (pv 1) (pa_cons (pe_bty (n := "list") (by rfl) T.z_list (by decide +kernel)) pa_nil))))) (pw_or1 (pt_cmpR (k_eqD (K := K) rfl hr.units) (pv 1) (pe_lst pa_nil) (nomark _))))) (pss_one (ps_ret pe_bl)) pss_nil)
      (pss_one (ps_ret (pe_cmpR (k_eqD (K := K) rfl hr.units) (pe_lc (own := [("_law_one", 2)]) rfl sc__law_is_ring.nd (k_piL (K := K) rfl (pv 1)) (blkOk_by (by kernel_rfl)) (fun _ _ _ _ _ => (pg_name (i := 2) sc__law_is_ring.nd rfl (by first | exact Or.inl rfl | exact Or.inr rfl))) (fun _ _ _ _ _ => (pts_one (pt_not (pt_val (pf_call (ok__law_is_hour T) (hr.mono (by decide)) (by rfl) T.g__law_is_hour T.d__law_is_hour.kp (pa_cons (pv 0) (pa_cons (pv 2) pa_nil))))))) (fun _ _ _ _ _ => (pv 2))) (pe_lst pa_nil) (nomark _))))), ?_⟩
    walk_at "rd"
    refine r_isiLst hl ?_
    walk_at "rd"
    refine iteF ?_
    walk_at "rd"
    refine ⟨szc rfl, fun p np => ?_⟩
    walk_at "rd"
    refine r_eqL (ns := r) (ms := []) (by walk_at "kn") (by walk_at "kn") ?_
    rw [decide_eq_false hne]
    walk_at "rd"
    refine iteF ?_
    walk_at "rd"
    have hl1 : (upd H p (.lst [])) l = some (.lst (r.map V.int)) := (by walk_at "kn")
    refine ⟨l, rfl, ⟨_, at_sqL hl1⟩, ?_⟩
    refine lc_filf (walk_list (xs := r.map V.int)) (fun _ => false) (fun _ => .int 0) (fun _ e => at_sqL (e _ _ hl1)) (by rw [List.length_map]; omega) ?_ ?_
    · rintro i x H1 H2 hi e ⟨rfl, hx⟩ kb kq hk1 hk2
      obtain rfl := int_at hx
      rw [List.length_map] at hi
      obtain ⟨b0, b1⟩ := hk _ (gD_mem hi)
      walk_at "rd"
      refine ⟨_, _, rfl, ?_⟩
      rw [decide_eq_true b0, decide_eq_true b1]
      walk_at "rd"
      refine iteF ?_
      exact hk2 _ rfl (Ex.refl _)
    intro D2 H2 nD2 e2 hD2
    have hD' : H2 D2 = some (.lst (([] : List Int).map V.int)) := by
      rw [hD2]
      simp
    walk_at "rd"
    refine ⟨szc rfl, fun p3 np3 => ?_⟩
    walk_at "rd"
    refine r_eqL (ns := []) (ms := []) (by walk_at "kn") (by walk_at "kn") ?_
    exact kk _ (by walk_at "ex")

/-! ### _law_hop -/
theorem sc__law_hop : FnScope ["_law_stays_here", "_law_hour", "_law_later", "_law_many", "_law_wide", "_law_far"] ["_law_stays_here", "_law_hour", "_law_later"] (defScope s__law_hop) := ⟨rfl, rfl, rfl, by decide +kernel, rfl, by decide +kernel, by decide +kernel⟩

def sp__law_hop (K : PySem.W.Frag) (d : Ads) : Sp := fun vs H Q _ => ∃ (l : Addr) (s : List Int) (h k : Int), vs = [.ref l, .int h, .int k] ∧ SqL K H l (s.map V.int) ∧ Good s ∧ 0 ≤ h ∧ h < (s.length : Int) ∧ 0 ≤ k ∧ k < (s.length : Int) ∧ ∀ H', Ex H H' → Q (.int (stp s h k)) H'
set_option maxHeartbeats 4000000 in
theorem ok__law_hop (T : Tx K mg d) : Okf P w K mg base 2 d.f__law_hop ["_law_stays_here", "_law_hour", "_law_later"] (sp__law_hop K d) := by
  refine okf_of T.d__law_hop sc__law_hop (fun vs H Q E h => ?_) (fun cdv A outer s H vs Q E hr h => ?_)
  · obtain ⟨l, s, h, k, rfl, hS, g, h0, h1, k0, k1, kk⟩ := h
    rfl
  · obtain ⟨l, s, h, k, rfl, hS, g, h0, h1, k0, k1, kk⟩ := h
    refine ⟨_, (pss_cons (ps_asg (pe_tup (pa_cons (pe_callB (k_len (K := K) rfl) (by rfl) T.z_len (by decide +kernel) (pa_cons (pv 0) pa_nil)) (pa_cons (pe_callB (k_len (K := K) rfl) (by rfl) T.z_len (by decide +kernel) (pa_cons (pf_call (ok__law_serving T) (hr.mono (by decide)) (by rfl) T.g__law_serving T.d__law_serving.kp (pa_cons (pv 0) (pa_cons (pv 2) pa_nil))) pa_nil)) pa_nil))) (k_gtup (K := K) (n := 2) rfl rfl (pgs_cons (pg_name (i := 3) sc__law_hop.nd rfl (by first | exact Or.inl rfl | exact Or.inr rfl)) (pgs_cons (pg_name (i := 4) sc__law_hop.nd rfl (by first | exact Or.inl rfl | exact Or.inr rfl)) pgs_nil))))
      (pss_one (ps_ret (pe_ix (k_ixL (K := K) rfl) (pe_lc (own := [("_law_far", 5)]) rfl sc__law_hop.nd (pi_range2 (by rfl) T.z_range (pa_cons (pv 4) (pa_cons (pe_op op_add (pv 4) (pv 3)) pa_nil))) (blkOk_by (by kernel_rfl)) (fun _ _ _ _ _ => (pg_name (i := 5) sc__law_hop.nd rfl (by first | exact Or.inl rfl | exact Or.inr rfl))) (fun _ _ _ _ _ => (pts_one (pt_cmpR op_eq (pe_op op_mod (pe_callTy k_int1 (by rfl) T.z_int (by decide +kernel) (pa_cons (pe_op op_sub (pe_op op_add (pv 1) (pv 5)) (pv 2)) pa_nil)) (pv 3)) pe_int (nomark _)))) (fun _ _ _ _ _ => (pv 5))) pe_int (fun _ _ => rfl))))), ?_⟩
    have hn := g.ne
    have hn8 := g.le
    walk_at "rd"
    refine r_len (by walk_at "kn") ?_
    rw [List.length_map]
    walk_at "rd"
    refine ⟨l, s, _, rfl, (by walk_at "kn"), g, fun p H1 np e1 hp => ?_⟩
    walk_at "rd"
    refine r_len (by walk_at "kn") ?_
    rw [List.length_map, serving_len]
    have w1 := wd_pos g k
    have w2 := wd_le (s := s) k
    walk_at "rd"
    refine ⟨szc rfl, fun q nq => r_pair ?_⟩
    walk_at "rd"
    refine ⟨wd s k, wd s k + (s.length : Int), rfl, by omega, ?_⟩
    rw [show (wd s k + (s.length : Int) - wd s k).toNat = s.length by omega]
    refine lc_filf (walk_range (lo := wd s k)) (fun i => decide ((h - k + (wd s k + (i : Int))) % (s.length : Int) = 0)) (fun i => .int (wd s k + (i : Int))) (fun _ _ => trivial) (by omega) ?_ ?_
    · rintro i x H2 H3 hi e ⟨rfl, rfl⟩ kb kq hk1 hk2
      walk_at "rd"
      rw [show h + (wd s k + (i : Int)) - k = h - k + (wd s k + (i : Int)) by omega]
      refine r_ite (fun hc => ?_) (fun hc => ?_)
      · walk_at "rd"
        exact hk1 _ (decide_eq_true hc) (Ex.refl _)
      · exact hk2 _ (decide_eq_false hc) (Ex.refl _)
    intro D2 H2 nD2 e2 hD2
    have hD' : H2 D2 = some (.lst ([stp s h k].map V.int)) := by
      have e := hop_fil (n := s.length) (w := wd s k) (x := h - k) hn
      rw [hD2]
      have e' : stp s h k = wd s k + (-(h - k) - wd s k) % (s.length : Int) := by
        unfold stp
        rw [show k - wd s k - h = -(h - k) - wd s k by omega]
      rw [e', ← e, List.map_map]
      rfl
    walk_at "rd"
    refine r_ixL (xs := [V.int (stp s h k)]) (at_sqL hD') (atI_nat (j := 0) rfl) ?_
    exact kk _ (by walk_at "ex")

/-! ### _law_wound -/
theorem sc__law_wound : FnScope ["_law_stays_here", "_law_ring", "_law_k"] ["_law_stays_here", "_law_ring"] (defScope s__law_wound) := ⟨rfl, rfl, rfl, by decide +kernel, rfl, by decide +kernel, by decide +kernel⟩

def sp__law_wound (K : PySem.W.Frag) (d : Ads) : Sp := fun vs H Q _ => ∃ (l m : Addr) (s r : List Int), vs = [.ref l, .ref m] ∧ SqL K H l (s.map V.int) ∧ SqL K H m (r.map V.int) ∧ Good s ∧ r ≠ [] ∧ r.length ≤ 5000 ∧ (∀ k ∈ r, 0 ≤ k ∧ k < (s.length : Int)) ∧ ∀ H', Ex H H' → Q (.int (wnd s r)) H'
theorem at_prev {r : List Int} {i : Nat} (h : i < r.length) : atI (r.map V.int) ((i : Int) - 1) = some (.int (prevH r i)) := by
  unfold prevH
  by_cases q : i = 0
  · subst q
    rw [if_pos rfl]
    refine at_lastL (n := r.length - 1) ?_ (by rw [List.length_map]; omega)
    rw [List.getElem?_map, List.getElem?_eq_getElem (by omega), List.getD_eq_getElem?_getD, List.getElem?_eq_getElem (by omega)]
    rfl
  · rw [if_neg q, show (i : Int) - 1 = ((i - 1 : Nat) : Int) by omega, at_int (by omega) (by omega), Int.toNat_natCast]
set_option maxHeartbeats 4000000 in
theorem ok__law_wound (T : Tx K mg d) : Okf P w K mg base 3 d.f__law_wound ["_law_stays_here", "_law_ring"] (sp__law_wound K d) := by
  refine okf_of T.d__law_wound sc__law_wound (fun vs H Q E h => ?_) (fun cdv A outer s H vs Q E hr h => ?_)
  · obtain ⟨l, m, s, r, rfl, hL, hM, g, hne, hle, hk, kk⟩ := h
    rfl
  · obtain ⟨l, m, s, r, rfl, hL, hM, g, hne, hle, hk, kk⟩ := h
    refine ⟨_, (pss_one (ps_ret (pe_op op_fdiv (pe_callB (k_sumS (K := K) rfl rfl) (by rfl) T.z_sum (by decide +kernel) (pa_cons (pe_lc (own := [("_law_k", 2)]) rfl sc__law_wound.nd (pi_range1 (by rfl) T.z_range (pa_cons (pe_callB (k_len (K := K) rfl) (by rfl) T.z_len (by decide +kernel) (pa_cons (pv 1) pa_nil)) pa_nil)) (blkOk_by (by kernel_rfl)) (fun _ _ _ _ _ => (pg_name (i := 2) sc__law_wound.nd rfl (by first | exact Or.inl rfl | exact Or.inr rfl))) (fun _ _ _ _ _ => pts_nil) (fun _ _ _ _ _ => (pf_call (ok__law_hop T) (hr.mono (by decide)) (by rfl) T.g__law_hop T.d__law_hop.kp (pa_cons (pv 0) (pa_cons (pe_ix (k_ixL (K := K) rfl) (pv 1) (pe_op op_sub (pv 2) pe_int) (fun _ _ => rfl)) (pa_cons (pe_ix (k_ixL (K := K) rfl) (pv 1) (pv 2) (fun _ _ => rfl)) pa_nil)))))) pa_nil)) (pe_callB (k_len (K := K) rfl) (by rfl) T.z_len (by decide +kernel) (pa_cons (pv 0) pa_nil))))), ?_⟩
    have hn := g.ne
    have hn8 := g.le
    walk_at "rd"
    refine r_len (by walk_at "kn") ?_
    rw [List.length_map]
    walk_at "rd"
    refine lc_fun walk_r0 (fun i => .int (stp s (prevH r i) (r.getD i 0))) (fun _ _ => trivial) (by omega) ?_ ?_
    · rintro i x H1 H2 hi e ⟨rfl, rfl⟩ kq hk2
      rw [Int.toNat_natCast] at hi
      obtain ⟨⟨a0, a1⟩, b0, b1⟩ := prevH_in (n := s.length) hk hi
      walk_at "rd"
      refine r_ixL (by walk_at "kn") (at_prev hi) ?_
      walk_at "rd"
      refine r_ixL (by walk_at "kn") (at_int (by omega) (by omega)) ?_
      rw [Int.toNat_natCast]
      walk_at "rd"
      refine ⟨l, s, _, _, rfl, (by walk_at "kn"), g, a0, a1, b0, b1, fun H3 e3 => ?_⟩
      exact hk2 _ (by walk_at "ex")
    intro p H1 np e1 hp
    have hp' : H1 p = some (.lst (((List.range r.length).map fun i => stp s (prevH r i) (r.getD i 0)).map V.int)) := by
      rw [hp, Int.toNat_natCast, List.map_map]
      rfl
    walk_at "rd"
    refine r_sumS (by walk_at "kn") ?_
    walk_at "rd"
    refine r_len (by walk_at "kn") ?_
    rw [List.length_map]
    walk_at "rd"
    rw [wnd_list hne]
    exact kk _ (by walk_at "ex")

/-! ### _law_bound_of -/
theorem sc__law_bound_of : FnScope ["_law_stays_here", "_law_wants_here", "_law_ring", "_law_hour"] ["_law_stays_here", "_law_wants_here", "_law_ring"] (defScope s__law_bound_of) := ⟨rfl, rfl, rfl, by decide +kernel, rfl, by decide +kernel, by decide +kernel⟩

def sp__law_bound_of (K : PySem.W.Frag) (d : Ads) : Sp := fun vs H Q _ => ∃ (l q m : Addr) (s w r : List Int), vs = [.ref l, .ref q, .ref m] ∧ SqL K H l (s.map V.int) ∧ SqL K H q (w.map V.int) ∧ SqL K H m (r.map V.int) ∧ Good s ∧ w.length = s.length ∧ r ≠ [] ∧ r.length ≤ 5000 ∧ (∀ k ∈ r, 0 ≤ k ∧ k < (s.length : Int)) ∧ ∀ H', Ex H H' → Q (.int (ringB s w r)) H'
set_option maxHeartbeats 4000000 in
theorem ok__law_bound_of (T : Tx K mg d) : Okf P w K mg base 4 d.f__law_bound_of ["_law_stays_here", "_law_wants_here", "_law_ring"] (sp__law_bound_of K d) := by
  refine okf_of T.d__law_bound_of sc__law_bound_of (fun vs H Q E h => ?_) (fun cdv A outer s H vs Q E hr h => ?_)
  · obtain ⟨l, q, m, s, w, r, rfl, hL, hW, hM, g, hlen, hne, hle, hk, kk⟩ := h
    rfl
  · obtain ⟨l, q, m, s, w, r, rfl, hL, hW, hM, g, hlen, hne, hle, hk, kk⟩ := h
    refine ⟨_, (pss_one (ps_ret (pe_op op_sub pe_int (pe_op op_fdiv (pe_op op_sub pe_int (pe_callB (k_sumS (K := K) rfl rfl) (by rfl) T.z_sum (by decide +kernel) (pa_cons (pe_lc (own := [("_law_hour", 3)]) rfl sc__law_bound_of.nd (k_piL (K := K) rfl (pv 2)) (blkOk_by (by kernel_rfl)) (fun _ _ _ _ _ => (pg_name (i := 3) sc__law_bound_of.nd rfl (by first | exact Or.inl rfl | exact Or.inr rfl))) (fun _ _ _ _ _ => pts_nil) (fun _ _ _ _ _ => (pe_ix (k_ixL (K := K) rfl) (pv 1) (pv 3) (fun _ _ => rfl)))) pa_nil))) (pf_call (ok__law_wound T) (hr.mono (by decide)) (by rfl) T.g__law_wound T.d__law_wound.kp (pa_cons (pv 0) (pa_cons (pv 2) pa_nil))))))), ?_⟩
    have hn := g.ne
    walk_at "rd"
    refine ⟨m, rfl, ⟨_, hM⟩, ?_⟩
    refine lc_fun (walk_list (xs := r.map V.int)) (fun i => .int (cyc w (r.getD i 0))) (fun _ e => ex_l e hM) (by rw [List.length_map]; omega) ?_ ?_
    · rintro i x H1 H2 hi e ⟨rfl, hx⟩ kq hk2
      obtain rfl := int_at hx
      rw [List.length_map] at hi
      obtain ⟨_, b0, b1⟩ := prevH_in (n := s.length) hk hi
      walk_at "rd"
      have ea := at_cyc (ns := w) (by omega) (r.getD i 0)
      rw [Int.emod_eq_of_lt b0 (by omega)] at ea
      refine r_ixL (by walk_at "kn") ea ?_
      exact hk2 _ (Ex.refl _)
    intro p H1 np e1 hp
    have hp' : H1 p = some (.lst ((r.map (cyc w)).map V.int)) := by
      rw [hp, List.length_map, List.map_map]
      exact congrArg (fun x => some (HO.lst x)) (map_range_int r fun z => V.int (cyc w z))
    walk_at "rd"
    refine r_sumS (by walk_at "kn") ?_
    walk_at "rd"
    refine ⟨l, m, s, r, rfl, (by walk_at "kn"), (by walk_at "kn"), g, hne, hle, hk, fun H2 e2 => ?_⟩
    obtain ⟨_, w1⟩ := wnd_eq g hne
    have w2 := wnd_small g hne (by omega)
    walk_at "rd"
    rw [show (0 : Int) - (0 - (r.map (cyc w)).sum) / wnd s r = ringB s w r by
      unfold ringB upI sumD
      rw [Int.zero_sub, Int.zero_sub]]
    exact kk _ (by walk_at "ex")

/-! ### _law_shown -/
theorem sc__law_shown : FnScope ["_law_stays_here", "_law_wants_here", "_law_row", "_law_least"] ["_law_stays_here", "_law_wants_here", "_law_row", "_law_least"] (defScope s__law_shown) := ⟨rfl, rfl, rfl, by decide +kernel, rfl, by decide +kernel, by decide +kernel⟩

def sp__law_shown (K : PySem.W.Frag) (d : Ads) : Sp := fun vs H Q _ => ∃ (l q m : Addr) (s w r : List Int) (F : Int), vs = [.ref l, .ref q, .ref m, .int F] ∧ SqL K H l (s.map V.int) ∧ SqL K H q (w.map V.int) ∧ H m = some (.lst (r.map V.int)) ∧ Good s ∧ w.length = s.length ∧ r ≠ [] ∧ r.length ≤ 48 ∧ (∀ k ∈ r, 0 ≤ k ∧ k < (s.length : Int)) ∧ ringB s w r = F ∧ ∀ H', Ex H H' → Q (.bl true) H'
set_option maxHeartbeats 4000000 in
theorem ok__law_shown (T : Tx K mg d) : Okf P w K mg base 5 d.f__law_shown ["_law_stays_here", "_law_wants_here", "_law_row", "_law_least"] (sp__law_shown K d) := by
  refine okf_of T.d__law_shown sc__law_shown (fun vs H Q E h => ?_) (fun cdv A outer s H vs Q E hr h => ?_)
  · obtain ⟨l, q, m, s, w, r, F, rfl, hL, hW, hM, g, hlen, hne, hle, hk, hF, kk⟩ := h
    rfl
  · obtain ⟨l, q, m, s, w, r, F, rfl, hL, hW, hM, g, hlen, hne, hle, hk, hF, kk⟩ := h
    refine ⟨_, (pss_cons (ps_if (PW.pt (pw_or (pt_not (pt_val (pf_call (ok__law_is_ring T) (hr.mono (by decide)) (by rfl) T.g__law_is_ring T.d__law_is_ring.kp (pa_cons (pe_callB (k_len (K := K) rfl) (by rfl) T.z_len (by decide +kernel) (pa_cons (pv 0) pa_nil)) (pa_cons (pv 2) pa_nil))))) (pw_or1 (pt_cmpR op_gt (pe_callB (k_len (K := K) rfl) (by rfl) T.z_len (by decide +kernel) (pa_cons (pv 2) pa_nil)) pe_int (nomark _))))) (pss_one (ps_ret pe_bl)) pss_nil)
      (pss_one (ps_ret (pe_cmpR op_eq (pf_call (ok__law_bound_of T) (hr.mono (by decide)) (by rfl) T.g__law_bound_of T.d__law_bound_of.kp (pa_cons (pv 0) (pa_cons (pv 1) (pa_cons (pv 2) pa_nil)))) (pv 3) (nomark _))))), ?_⟩
    walk_at "rd"
    refine r_len (by walk_at "kn") ?_
    rw [List.length_map]
    walk_at "rd"
    refine ⟨s.length, m, r, rfl, hM, hne, by omega, hk, fun H1 e1 => ?_⟩
    walk_at "rd"
    refine iteF ?_
    walk_at "rd"
    refine r_len (xs := r.map V.int) (by walk_at "kn") ?_
    rw [List.length_map]
    walk_at "rd"
    refine r_noD (by omega) ?_
    walk_at "rd"
    refine ⟨l, q, m, s, w, r, rfl, (by walk_at "kn"), (by walk_at "kn"), (by walk_at "kn"), g, hlen, hne, by omega, hk, fun H2 e2 => ?_⟩
    walk_at "rd"
    rw [decide_eq_true hF]
    exact kk _ (by walk_at "ex")

/-! ### _law_alike -/
theorem sc__law_alike : FnScope ["_law_found", "_law_due"] ["_law_found", "_law_due"] (defScope s__law_alike) := ⟨rfl, rfl, rfl, by decide +kernel, rfl, by decide +kernel, by decide +kernel⟩

def sp__law_alike (K : PySem.W.Frag) (d : Ads) : Sp := fun vs H Q _ => ∃ (x y : V) (a : PyData) (n : Nat), vs = [x, y] ∧ Dp K H x a ∧ Dp K H y a ∧ SeqAt.shaped a = true ∧ Fine a n ∧ n ≤ 300000 ∧ Q (.bl true) H
set_option maxHeartbeats 4000000 in
theorem ok__law_alike (T : Tx K mg d) : OkP NoG P w K mg base 1 d.f__law_alike ["_law_found", "_law_due"] (sp__law_alike K d) := by
  refine okP_of T.d__law_alike sc__law_alike (fun vs H Q E h => ?_) (fun cdv A outer s H vs Q E hg hr h => ?_)
  · obtain ⟨x, y, a, n, rfl, hx, hy, hs, hf, hn, k⟩ := h
    rfl
  · obtain ⟨x, y, a, n, rfl, hx, hy, hs, hf, hn, k⟩ := h
    refine ⟨_, (pss_one (ps_ret (pe_and (pe_cmpR (k_eqD (K := K) rfl hr.units) (pv 0) (pv 1) (nomark _)) (pe_one (pe_cmpR op_eq (pe_callB (k_repr (K := K) (k := 0) rfl hg (hr.mono (by decide))) (by rfl) T.z_repr (by decide +kernel) (pa_cons (pv 0) pa_nil)) (pe_callB (k_repr (K := K) (k := 0) rfl hg (hr.mono (by decide))) (by rfl) T.z_repr (by decide +kernel) (pa_cons (pv 1) pa_nil)) (nomark _)))))), ?_⟩
    have hd := SeqAt.depth_of_shaped hs
    walk_at "rd"
    refine ⟨a, a, hx, hy, hs, hs, ?_⟩
    rw [SeqAt.eqv_refl a (SeqAt.canLay_of_shaped hs)]
    walk_at "rd"
    refine iteT ?_
    walk_at "rd"
    refine r_repr hx hf hn hd ?_
    walk_at "rd"
    refine r_repr hy hf hn hd ?_
    walk_at "rd"
    rw [decide_eq_true rfl]
    exact k

/-! ### _law_papers_right -/
theorem sc__law_papers_right : FnScope ["_law_clock_here", "_law_stays_here", "_law_wants_here", "_law_order", "_law_early", "_law_soon", "_law_least", "_law_row", "_law_plan", "_law_way", "_law_found", "_law_elder", "_law_begins", "_law_one"] ["_law_clock_here", "_law_stays_here", "_law_wants_here", "_law_order"] (defScope s__law_papers_right) := ⟨rfl, rfl, rfl, by decide +kernel, rfl, by decide +kernel, by decide +kernel⟩

/-- what ring_for tells, kept -/
def RowV (H : Hp) (s w : List Int) (v : V) : Prop := ((∀ h : Nat, h < s.length → cyc w h = 0) ∧ v = .non) ∨ ((∃ h : Nat, h < s.length ∧ cyc w h ≠ 0) ∧ ∃ p r, v = .ref p ∧ BestR s w r ∧ H p = some (.lst (r.map V.int)))
theorem RowV.ex {H H' : Hp} {s w : List Int} {v : V} (e : Ex H H') (h : RowV H s w v) : RowV H' s w v := by
  rcases h with h | ⟨h, p, r, rfl, hr, hp⟩
  · exact .inl h
  · exact .inr ⟨h, p, r, rfl, hr, e _ _ hp⟩
def SoonV (H : Hp) (s w : List Int) (v : V) : Prop := v = .non ∨ ∃ p t, v = .ref p ∧ H p = some (.lst (t.map V.int)) ∧ t.length = s.length ∧ t.sum = w.sum ∧ Hn.enough s.length (thF s.length s (cyc t)) (cyc w) = true
def sp__law_papers_right (K : PySem.W.Frag) (d : Ads) : Sp := fun vs H Q _ => ∃ (v : V) (l q o : Addr) (s w os : List Int), vs = [v, .ref l, .ref q, .ref o] ∧ Clk K d.c_Clock H v s ∧ SqL K H l (s.map V.int) ∧ SqL K H q (w.map V.int) ∧ H o = some (.lst (os.map V.int)) ∧ GoodN w ∧ w.length = s.length ∧ 1 ≤ os.length ∧ os.length ≤ 100 ∧ 1 ∈ os ∧ 2 ∈ os ∧ (∀ z ∈ os, z = 0 ∨ z = 1 ∨ z = 2) ∧ ∀ H', Ex H H' → Q (.bl true) H'
set_option maxHeartbeats 4000000 in
theorem ok__law_papers_right (T : Tx K mg d) : OkP NoG P w K mg base 10 d.f__law_papers_right ["_law_clock_here", "_law_stays_here", "_law_wants_here", "_law_order"] (sp__law_papers_right K d) := by
  refine okP_of T.d__law_papers_right sc__law_papers_right (fun vs H Q E h => ?_) (fun cdv A outer s H vs Q E hg hr h => ?_)
  · obtain ⟨v, l, q, o, s, w, os, rfl, hC, hL, hW, hO, gw, hlen, o1, o2, m1, m2, mo, kk⟩ := h
    rfl
  · obtain ⟨v, l, q, o, s, w, os, rfl, hC, hL, hW, hO, gw, hlen, o1, o2, m1, m2, mo, kk⟩ := h
    refine ⟨_, (pss_cons (ps_set (i := 4) sc__law_papers_right.nd rfl (by first | exact Or.inl rfl | exact Or.inr rfl) (pe_ifJ (pt_cmpR op_eq (pe_ix (k_ixL (K := K) rfl) (pv 3) pe_int (fun _ _ => rfl)) pe_int (nomark _)) (pf_call (ok_ring_for T) (hr.mono (by decide)) (by rfl) T.g_ring_for T.d_ring_for.kp (pa_cons (pv 0) (pa_cons (pf_make (ok_Needs___init__ T) (hr.mono (by decide)) T.mk_Needs (by rfl) T.g_Needs (pa_cons (pv 2) pa_nil)) pa_nil))) pe_non))
      (pss_cons (ps_set (i := 5) sc__law_papers_right.nd rfl (by first | exact Or.inl rfl | exact Or.inr rfl) (pe_ifJ (pt_cmpR op_eq (pe_ix (k_ixL (K := K) rfl) (pv 3) pe_int (fun _ _ => rfl)) pe_int (nomark _)) (pe_callTy (k_listO (K := K) rfl rfl ⟨T.m_Plan___iter__.at_, T.m_Plan___iter__.fn, T.m_Plan___len__.at_, T.m_Plan___len__.fn⟩ (ok_Plan___iter__ T) (ok_Plan___len__ T) (hr.mono (by decide))) (by rfl) T.z_list (by decide +kernel) (pa_cons (pf_call (ok_plan_for T) (hr.mono (by decide)) (by rfl) T.g_plan_for T.d_plan_for.kp (pa_cons (pv 0) (pa_cons (pf_make (ok_Needs___init__ T) (hr.mono (by decide)) T.mk_Needs (by rfl) T.g_Needs (pa_cons (pv 2) pa_nil)) (pa_cons (pe_callB (k_sumS (K := K) rfl rfl) (by rfl) T.z_sum (by decide +kernel) (pa_cons (pv 2) pa_nil)) pa_nil)))) pa_nil)) pe_non))
      (pss_cons (ps_par3 (i := 6) (j := 7) (l := 8) (by rfl) sc__law_papers_right.nd rfl rfl rfl (by decide) (by decide) (by decide) rfl rfl rfl (pa_cons (pf_call (ok_fewest T) (hr.mono (by decide)) (by rfl) T.g_fewest T.d_fewest.kp (pa_cons (pv 0) (pa_cons (pf_make (ok_Needs___init__ T) (hr.mono (by decide)) T.mk_Needs (by rfl) T.g_Needs (pa_cons (pv 2) pa_nil)) pa_nil))) (pa_cons pe_non (pa_cons pe_non pa_nil))) (by rfl))
      (pss_cons (ps_for PassesOwn.never rfl (k_piL (K := K) rfl (pv 3)) (pg_name (i := 9) sc__law_papers_right.nd rfl (by first | exact Or.inl rfl | exact Or.inr rfl)) (pss_cons (ps_if (PW.pt (pw_and (pt_cmpR op_eq (pv 9) pe_int (nomark _)) (pw_and1 (pt_cmpR op_ne (pf_call (ok_fewest T) (hr.mono (by decide)) (by rfl) T.g_fewest T.d_fewest.kp (pa_cons (pv 0) (pa_cons (pf_make (ok_Needs___init__ T) (hr.mono (by decide)) T.mk_Needs (by rfl) T.g_Needs (pa_cons (pv 2) pa_nil)) pa_nil))) (pv 6) (nomark _))))) (pss_one (ps_ret pe_bl)) pss_nil)
      (Evl.pss_cut (ps_if (pt_cmpR op_eq (pv 9) pe_int (nomark _)) (pss_cons (ps_set (i := 10) sc__law_papers_right.nd rfl (by first | exact Or.inl rfl | exact Or.inr rfl) (pf_call (ok_ring_for T) (hr.mono (by decide)) (by rfl) T.g_ring_for T.d_ring_for.kp (pa_cons (pv 0) (pa_cons (pf_make (ok_Needs___init__ T) (hr.mono (by decide)) T.mk_Needs (by rfl) T.g_Needs (pa_cons (pv 2) pa_nil)) pa_nil))))
      (pss_cons (ps_if (PW.pt (pw_and (pt_cmpR k_notN (pv 7) pe_non (nomark _)) (pw_and1 (pt_cmpR (k_neD (K := K) rfl hr.units) (pv 10) (pv 7) (nomark _))))) (pss_one (ps_ret pe_bl)) pss_nil)
      (pss_cons (ps_set (i := 7) sc__law_papers_right.nd rfl (by first | exact Or.inl rfl | exact Or.inr rfl) (pe_ifJ (pt_cmpR k_isN (pv 10) pe_non (nomark _)) (pv 10) (pe_callTy (k_listOf (K := K) rfl) (by rfl) T.z_list (by decide +kernel) (pa_cons (pv 10) pa_nil))))
      (pss_one (ps_if (pt_cmpR k_notN (pv 10) pe_non (nomark _)) (pss_one (ps_expr (pe_bm0 PySem.F.plainAttrs_list PySem.F.slot_list_clear PySem.F.type_list_clear mt_clear (pv 10)))) pss_nil))))) pss_nil)
      (pss_one (ps_if (pt_cmpR op_eq (pv 9) pe_int (nomark _)) (pss_cons (ps_par (i := 11) (j := 8) (by rfl) sc__law_papers_right.nd rfl rfl (by decide) rfl rfl (pa_cons (pv 8) (pa_cons (pf_call (ok_plan_for T) (hr.mono (by decide)) (by rfl) T.g_plan_for T.d_plan_for.kp (pa_cons (pv 0) (pa_cons (pf_make (ok_Needs___init__ T) (hr.mono (by decide)) T.mk_Needs (by rfl) T.g_Needs (pa_cons (pv 2) pa_nil)) (pa_cons (pv 6) pa_nil)))) pa_nil)) (by rfl))
      (pss_one (ps_if (PW.pt (pw_and (pt_cmpR k_notN (pv 11) pe_non (nomark _)) (pw_and1 (pt_cmpR (op_neB (ok_Plan___eq__ T) (hr.mono (by decide)) T.m_Plan___eq__.at_ T.m_Plan___eq__.fn T.ne_Plan.1 T.ne_Plan.2) (pv 11) (pv 8) (nomark _))))) (pss_one (ps_ret pe_bl)) pss_nil))) pss_nil)))))
      (pss_cons (ps_if (PW.pt (pw_or (pt_not (pt_val (pf_call (ok__law_is_count T) (hr.mono (by decide)) (by rfl) T.g__law_is_count T.d__law_is_count.kp (pa_cons (pv 6) pa_nil)))) (pw_or1 (pt_not (pt_val (pe_callB (k_isi (K := K) rfl) (by rfl) T.z_isinstance (by decide +kernel) (pa_cons (pv 8) (pa_cons (pe_glob (v := .ref d.c_Plan) (by rfl) T.g_Plan rfl) pa_nil)))))))) (pss_one (ps_ret pe_bl)) pss_nil)
      (pss_cons (ps_set (i := 12) sc__law_papers_right.nd rfl (by first | exact Or.inl rfl | exact Or.inr rfl) (pe_callTy (k_listO (K := K) rfl rfl ⟨T.m_Plan___iter__.at_, T.m_Plan___iter__.fn, T.m_Plan___len__.at_, T.m_Plan___len__.fn⟩ (ok_Plan___iter__ T) (ok_Plan___len__ T) (hr.mono (by decide))) (by rfl) T.z_list (by decide +kernel) (pa_cons (pv 8) pa_nil)))
      (pss_cons (ps_if (PW.pt (pw_or (pt_cmpR op_ne (pe_callB (k_len (K := K) rfl) (by rfl) T.z_len (by decide +kernel) (pa_cons (pv 12) pa_nil)) (pe_callB (k_len (K := K) rfl) (by rfl) T.z_len (by decide +kernel) (pa_cons (pv 1) pa_nil)) (nomark _)) (pw_or (pt_cmpR op_ne (pe_callB (k_sumS (K := K) rfl rfl) (by rfl) T.z_sum (by decide +kernel) (pa_cons (pv 12) pa_nil)) (pv 6) (nomark _)) (pw_or1 (pt_cmpR (k_neD (K := K) rfl hr.units) (pe_lc (own := [("_law_one", 13)]) rfl sc__law_papers_right.nd (k_piL (K := K) rfl (pv 12)) (blkOk_by (by kernel_rfl)) (fun _ _ _ _ _ => (pg_name (i := 13) sc__law_papers_right.nd rfl (by first | exact Or.inl rfl | exact Or.inr rfl))) (fun _ _ _ _ _ => (pts_one (pt_not (pt_val (pf_call (ok__law_is_count T) (hr.mono (by decide)) (by rfl) T.g__law_is_count T.d__law_is_count.kp (pa_cons (pv 13) pa_nil)))))) (fun _ _ _ _ _ => (pv 13))) (pe_lst pa_nil) (nomark _)))))) (pss_one (ps_ret pe_bl)) pss_nil)
      (pss_cons (ps_if (pt_not (pt_val (pf_call (ok__law_serves T) (hr.mono (by decide)) (by rfl) T.g__law_serves T.d__law_serves.kp (pa_cons (pv 1) (pa_cons (pv 2) (pa_cons (pv 12) pa_nil)))))) (pss_one (ps_ret pe_bl)) pss_nil)
      (pss_cons (ps_if (pt_cmpR op_eq (pe_callB (k_sumS (K := K) rfl rfl) (by rfl) T.z_sum (by decide +kernel) (pa_cons (pv 2) pa_nil)) pe_int (nomark _)) (pss_one (ps_ret (pe_and (pe_cmpR k_isN (pv 7) pe_non (nomark _)) (pe_one (pe_cmpR op_eq (pv 6) pe_int (nomark _)))))) pss_nil)
      (Evl.pss_cut (ps_if (PW.pt (pw_or (pt_not (pt_val (pf_call (ok__law_shown T) (hr.mono (by decide)) (by rfl) T.g__law_shown T.d__law_shown.kp (pa_cons (pv 1) (pa_cons (pv 2) (pa_cons (pv 7) (pa_cons (pv 6) pa_nil))))))) (pw_or1 (PW.pt (pw_and (pt_cmpR op_eq (pe_ix (k_ixL (K := K) rfl) (pv 3) pe_int (fun _ _ => rfl)) pe_int (nomark _)) (pw_and1 (pt_not (pt_val (pf_call (ok__law_shown T) (hr.mono (by decide)) (by rfl) T.g__law_shown T.d__law_shown.kp (pa_cons (pv 1) (pa_cons (pv 2) (pa_cons (pv 4) (pa_cons (pv 6) pa_nil))))))))))))) (pss_one (ps_ret pe_bl)) pss_nil)
      (Evl.pss_cut (ps_if (PW.pt (pw_and (pt_cmpR k_notN (pv 5) pe_non (nomark _)) (pw_and1 (pt_cmpR op_ne (pe_callB (k_sumS (K := K) rfl rfl) (by rfl) T.z_sum (by decide +kernel) (pa_cons (pv 5) pa_nil)) (pe_callB (k_sumS (K := K) rfl rfl) (by rfl) T.z_sum (by decide +kernel) (pa_cons (pv 2) pa_nil)) (nomark _))))) (pss_one (ps_ret pe_bl)) pss_nil)
      (Evl.pss_cut (ps_if (PW.pt (pw_and (pt_cmpR k_notN (pv 5) pe_non (nomark _)) (pw_and1 (pt_not (pt_val (pf_call (ok__law_serves T) (hr.mono (by decide)) (by rfl) T.g__law_serves T.d__law_serves.kp (pa_cons (pv 1) (pa_cons (pv 2) (pa_cons (pv 5) pa_nil))))))))) (pss_one (ps_ret pe_bl)) pss_nil)
      (pss_cons (ps_set (i := 10) sc__law_papers_right.nd rfl (by first | exact Or.inl rfl | exact Or.inr rfl) (pe_lst (pa_cons (pf_call (ok_enough T) (hr.mono (by decide)) (by rfl) T.g_enough T.d_enough.kp (pa_cons (pv 0) (pa_cons (pf_make (ok_Needs___init__ T) (hr.mono (by decide)) T.mk_Needs (by rfl) T.g_Needs (pa_cons (pv 2) pa_nil)) (pa_cons (pv 6) pa_nil)))) (pa_cons (pe_not (pf_call (ok_enough T) (hr.mono (by decide)) (by rfl) T.g_enough T.d_enough.kp (pa_cons (pv 0) (pa_cons (pf_make (ok_Needs___init__ T) (hr.mono (by decide)) T.mk_Needs (by rfl) T.g_Needs (pa_cons (pv 2) pa_nil)) (pa_cons (pe_op op_sub (pv 6) pe_int) pa_nil))))) pa_nil))))
      (pss_one (ps_ret (pg_call (ok__law_alike T) (fun _ => hg) (hr.mono (by decide)) (by rfl) T.g__law_alike T.d__law_alike.kp (pa_cons (pv 10) (pa_cons (pe_lst (pa_cons pe_bl (pa_cons pe_bl pa_nil))) pa_nil)))))))))))))))))), ?_⟩
    have g := hC.good
    have hn := g.ne
    have hn8 := g.le
    have at0 : atI (os.map V.int) 0 = some (.int (os.getD 0 0)) := at_int (i := 0) (by omega) (by omega)
    -- early
    walk_at "rd"
    refine r_ifJ (fun ev H' => Ex H H' ∧ (os.getD 0 0 = 1 → RowV H' s w ev)) (fun Q' hQ => ?_) fun ev H1 ⟨e1, hEv⟩ => ?_
    · walk_at "rd"
      refine r_ixL (at_sqL hO) at0 ?_
      walk_at "rd"
      refine r_ite (fun z => ?_) fun z => ?_
      · walk_at "rd"
        refine mkRw ⟨q, _, rfl, (by walk_at "kn"), gw, fun nd H1 e1 hN => ?_⟩
        refine ⟨v, _, s, w, rfl, (by walk_at "kn"), (by walk_at "kn"), hlen, fun hz H2 e2 => hQ _ _ ⟨(by walk_at "ex"), fun _ => .inl ⟨hz, rfl⟩⟩, fun r hne hr p H2 np e2 hp => hQ _ _ ⟨(by walk_at "ex"), fun _ => .inr ⟨hne, p, r, rfl, hr, hp⟩⟩⟩
      · walk_at "rd"
        exact hQ _ _ ⟨Ex.refl _, fun z' => absurd z' z⟩
    walk_at "rd"
    -- soon
    refine r_ifJ (fun sv H' => Ex H1 H' ∧ SoonV H' s w sv) (fun Q' hQ => ?_) fun sv H2 ⟨e2, hSv⟩ => ?_
    · walk_at "rd"
      refine r_ixL (by walk_at "kn") at0 ?_
      walk_at "rd"
      refine r_ite (fun z => ?_) fun z => ?_
      · walk_at "rd"
        refine mkRw ⟨q, _, rfl, (by walk_at "kn"), gw, fun nd H2 e2 hN => ?_⟩
        walk_at "rd"
        refine r_sumS (by walk_at "kn") ?_
        walk_at "rd"
        have hself : ∃ A, Enf s w w.sum A := ⟨_, self_enf g hlen gw.nn⟩
        refine ⟨v, _, s, w, _, rfl, (by walk_at "kn"), (by walk_at "kn"), hlen, hself, fun A pv H3 hPA e3 hPl => ?_⟩
        have eA := hPA.enf g
        have hA1 : Pn K d H3 pv (byS s.length A) := hPl.1
        refine r_list_Plan hA1 fun p np => ?_
        exact hQ _ _ ⟨(by walk_at "ex"), .inr ⟨p, _, rfl, upd_same, byS_length _ _, by rw [byS_sum, eA.1, eA.2.1]; omega, eA.2.2.2⟩⟩
      · walk_at "rd"
        exact hQ _ _ ⟨Ex.refl _, .inl rfl⟩
    walk_at "rd"
    refine mkRw ⟨q, _, rfl, (by walk_at "kn"), gw, fun nd H3 e3 hN => ?_⟩
    refine ⟨v, _, s, w, rfl, (by walk_at "kn"), (by walk_at "kn"), hlen, fun F H4 hF e4 => ?_⟩
    walk_at "rd"
    have hC4 : Clk K d.c_Clock H4 v s := (by walk_at "kn")
    have hL4 : SqL K H4 l (s.map V.int) := (by walk_at "kn")
    have hW4 : SqL K H4 q (w.map V.int) := (by walk_at "kn")
    have hO4 : H4 o = some (.lst (os.map V.int)) := (by walk_at "kn")
    have hEv4 : os.getD 0 0 = 1 → RowV H4 s w ev := fun z => (hEv z).ex (by walk_at "ex")
    have hSv4 : SoonV H4 s w sv := by
      rcases hSv with h | ⟨p, t, h1, h2, h3⟩
      · exact .inl h
      · exact .inr ⟨p, t, h1, mv_at h2 (by walk_at "ex"), h3⟩
    have eH4 : Ex H H4 := (by walk_at "ex")
    clear hC hL hW hO hEv hSv hN
    have Lp : ∀ {H' : Hp} {x : V} {A : Int → Int}, PlanR s w F A → Ps K d.c_Plan H' x s.length F A → Pn K d H' x (byS s.length A) := fun _ h => h.1
    refine ⟨o, rfl, ⟨_, at_sqL hO4⟩, ?_⟩
    refine for_w (walk_list (xs := os.map V.int)) (fun i σ H' => ∃ rv pv z9 z10 z11 z12 z13, σ = [some v, some (.ref l), some (.ref q), some (.ref o), some ev, some sv, some (.int F), some rv, some pv, z9, z10, z11, z12, z13] ∧ Ex H4 H' ∧ ((rv = .non ∧ ¬ (1 : Int) ∈ os.take i) ∨ RowV H' s w rv) ∧ ((pv = .non ∧ ¬ (2 : Int) ∈ os.take i) ∨ ∃ A, PlanR s w F A ∧ Ps K d.c_Plan H' pv s.length F A)) ⟨.non, .non, _, _, _, _, _, rfl, Ex.refl _, .inl ⟨rfl, fun z => nomatch z⟩, .inl ⟨rfl, fun z => nomatch z⟩⟩ (fun i σ H' _ ⟨_, _, _, _, _, _, _, _, e, _⟩ => at_sqL (e _ _ hO4)) ?_ ?_
    · rintro i x σ H5 H6 hi ⟨rv, pv, z9, z10, z11, z12, z13, rfl, e5, hR, hPv⟩ ⟨rfl, hx⟩
      obtain rfl := int_at hx
      rw [List.length_map] at hi
      have htk : os.take (i + 1) = os.take i ++ [os.getD i 0] := by
        rw [List.take_add_one, List.getD_eq_getElem?_getD, List.getElem?_eq_getElem hi]
        rfl
      have nin : ∀ c : Int, ¬ c ∈ os.take i → os.getD i 0 ≠ c → ¬ c ∈ os.take (i + 1) := fun c h1 h2 h3 => by
        rw [htk] at h3
        rcases List.mem_append.mp h3 with h | h
        · exact h1 h
        · exact h2 (List.mem_singleton.mp h).symm
      have hz := mo _ (gD_mem hi)
      generalize hx0 : os.getD i 0 = x0 at hz nin ⊢
      rcases hz with rfl | rfl | rfl
      · -- asked again
        walk_at "rd"
        refine r_yesD rfl ?_
        walk_at "rd"
        refine mkRw ⟨q, _, rfl, (by walk_at "kn"), gw, fun nd H7 e7 hN => ?_⟩
        refine ⟨v, _, s, w, rfl, (by walk_at "kn"), (by walk_at "kn"), hlen, fun F2 H8 hF2 e8 => ?_⟩
        obtain rfl := hF2.uniq hF
        walk_at "rd"
        refine r_same rfl ?_
        have e58 : Ex H6 H8 := (by walk_at "ex")
        walk_at "rd"
        refine ⟨fun σ H' => σ = [some v, some (.ref l), some (.ref q), some (.ref o), some ev, some sv, some (.int F2), some rv, some pv, some (.int 0), z10, z11, z12, z13] ∧ H' = H8, ?_, ?_⟩
        · walk_at "rd"
          refine r_noD (by decide) ?_
          walk_at "rd"
          exact ⟨rfl, rfl⟩
        rintro σ' H' ⟨rfl, rfl⟩
        walk_at "rd"
        refine r_noD (by decide) ?_
        walk_at "rd"
        refine ⟨rv, pv, _, _, _, _, _, rfl, (by walk_at "ex"), ?_, ?_⟩
        · rcases hR with ⟨a1, a2⟩ | a
          · exact .inl ⟨a1, nin 1 a2 (by decide)⟩
          · exact .inr (a.ex e58)
        · rcases hPv with ⟨a1, a2⟩ | ⟨A, a1, a2⟩
          · exact .inl ⟨a1, nin 2 a2 (by decide)⟩
          · exact .inr ⟨A, a1, (by walk_at "kn")⟩
      · -- the ring
        walk_at "rd"
        refine r_noD (by decide) ?_
        refine iteF ?_
        walk_at "rd"
        refine ⟨fun σ H' => ∃ rv' z10', σ = [some v, some (.ref l), some (.ref q), some (.ref o), some ev, some sv, some (.int F), some rv', some pv, some (.int 1), z10', z11, z12, z13] ∧ Ex H6 H' ∧ RowV H' s w rv', ?_, ?_⟩
        · walk_at "rd"
          refine r_yesD rfl ?_
          walk_at "rd"
          refine mkRw ⟨q, _, rfl, (by walk_at "kn"), gw, fun nd H7 e7 hN => ?_⟩
          refine ⟨v, _, s, w, rfl, (by walk_at "kn"), (by walk_at "kn"), hlen, fun hz H8 e8 => ?_, fun r hne hr p H8 np e8 hp => ?_⟩
          · have hrv : rv = .non := by
              rcases hR with ⟨a1, _⟩ | ⟨_, a1⟩ | ⟨⟨j, hj, hjn⟩, _⟩
              · exact a1
              · exact a1
              · exact absurd (hz j hj) hjn
            subst hrv
            walk_at "rd"
            refine iteF ?_
            refine iteF ?_
            walk_at "rd"
            refine r_ifJ (fun rv' H' => rv' = .non ∧ H' = H8) (fun Q' hQ => ?_) fun rv' H9 ⟨h1, h2⟩ => ?_
            · walk_at "rd"
              refine iteT ?_
              walk_at "rd"
              exact hQ _ _ ⟨rfl, rfl⟩
            subst h1 h2
            walk_at "rd"
            refine iteF ?_
            walk_at "rd"
            exact ⟨_, _, rfl, (by walk_at "ex"), .inl ⟨hz, rfl⟩⟩
          · have f6 : H6 p = none := (by walk_at "fr")
            have key : rv = .non ∨ ∃ rp, rv = .ref rp ∧ H8 rp = some (.lst (r.map V.int)) := by
              rcases hR with ⟨a1, _⟩ | ⟨_, a1⟩ | ⟨_, rp, r', a1, a2, a3⟩
              · exact .inl a1
              · exact .inl a1
              · obtain rfl := a2.det hr
                exact .inr ⟨rp, a1, mv_at a3 (by walk_at "ex")⟩
            rcases key with rfl | ⟨rp, rfl, hrp⟩
            · walk_at "rd"
              refine iteF ?_
              refine iteF ?_
              walk_at "rd"
              refine r_ifJ (fun rv' H' => ∃ p2, rv' = .ref p2 ∧ H8 p2 = none ∧ H' = upd H8 p2 (.lst (r.map V.int))) (fun Q' hQ => ?_) fun rv' H9 ⟨p2, h1, h2, h3⟩ => ?_
              · walk_at "rd"
                refine iteF ?_
                walk_at "rd"
                refine r_listOf (sqL_sq (at_sqL hp)) fun p2 np2 => ?_
                exact hQ _ _ ⟨p2, rfl, np2, rfl⟩
              subst h1 h3
              have np2 : p2 ≠ p := fun z => by rw [z, hp] at h2; cases h2
              walk_at "rd"
              refine iteT ?_
              walk_at "rd"
              refine ⟨ty_lst (mv_at hp (Ex.new h2)), ?_⟩
              refine ⟨p, _, rfl, rfl, mv_at hp (Ex.new h2), ?_⟩
              walk_at "rd"
              exact ⟨_, _, rfl, Ex.mut (by walk_at "ex") f6, .inr ⟨hne, p2, r, rfl, hr, by rw [upd_ne np2]; exact upd_same⟩⟩
            · walk_at "rd"
              refine iteT ?_
              walk_at "rd"
              refine r_neL (at_sqL hp) (at_sqL hrp) ?_
              rw [decide_eq_true rfl]
              walk_at "rd"
              refine iteF ?_
              walk_at "rd"
              refine r_ifJ (fun rv' H' => ∃ p2, rv' = .ref p2 ∧ H8 p2 = none ∧ H' = upd H8 p2 (.lst (r.map V.int))) (fun Q' hQ => ?_) fun rv' H9 ⟨p2, h1, h2, h3⟩ => ?_
              · walk_at "rd"
                refine iteF ?_
                walk_at "rd"
                refine r_listOf (sqL_sq (at_sqL hp)) fun p2 np2 => ?_
                exact hQ _ _ ⟨p2, rfl, np2, rfl⟩
              subst h1 h3
              have np2 : p2 ≠ p := fun z => by rw [z, hp] at h2; cases h2
              walk_at "rd"
              refine iteT ?_
              walk_at "rd"
              refine ⟨ty_lst (mv_at hp (Ex.new h2)), ?_⟩
              refine ⟨p, _, rfl, rfl, mv_at hp (Ex.new h2), ?_⟩
              walk_at "rd"
              exact ⟨_, _, rfl, Ex.mut (by walk_at "ex") f6, .inr ⟨hne, p2, r, rfl, hr, by rw [upd_ne np2]; exact upd_same⟩⟩
        rintro σ' H' ⟨rv', z10', rfl, e6, hR'⟩
        walk_at "rd"
        refine r_noD (by decide) ?_
        walk_at "rd"
        refine ⟨rv', pv, _, _, _, _, _, rfl, (by walk_at "ex"), .inr hR', ?_⟩
        rcases hPv with ⟨a1, a2⟩ | ⟨A, a1, a2⟩
        · exact .inl ⟨a1, nin 2 a2 (by decide)⟩
        · exact .inr ⟨A, a1, (by walk_at "kn")⟩
      · -- the plan
        walk_at "rd"
        refine r_noD (by decide) ?_
        refine iteF ?_
        walk_at "rd"
        refine ⟨fun σ H' => σ = [some v, some (.ref l), some (.ref q), some (.ref o), some ev, some sv, some (.int F), some rv, some pv, some (.int 2), z10, z11, z12, z13] ∧ H' = H6, ?_, ?_⟩
        · walk_at "rd"
          refine r_noD (by decide) ?_
          walk_at "rd"
          exact ⟨rfl, rfl⟩
        rintro σ' H' ⟨rfl, rfl⟩
        walk_at "rd"
        refine r_yesD rfl ?_
        walk_at "rd"
        refine mkRw ⟨q, _, rfl, (by walk_at "kn"), gw, fun nd H7 e7 hN => ?_⟩
        walk_at "rd"
        refine ⟨v, _, s, w, _, rfl, (by walk_at "kn"), (by walk_at "kn"), hlen, hF.1, fun A pv2 H8 hPA e8 hPl => ?_⟩
        have e68 : Ex H' H8 := (by walk_at "ex")
        have hA8 : Pn K d H8 pv2 (byS s.length A) := hPl.1
        walk_at "rd"
        refine r_notN ?_
        walk_at "rd"
        have hrow : (rv = .non ∧ ¬ (1 : Int) ∈ os.take (i + 1)) ∨ RowV H8 s w rv := by
          rcases hR with ⟨a1, a2⟩ | a
          · exact .inl ⟨a1, nin 1 a2 (by decide)⟩
          · exact .inr (a.ex e68)
        rcases hPv with ⟨rfl, a2⟩ | ⟨A', a1, a2⟩
        · refine iteF ?_
          refine iteF ?_
          walk_at "rd"
          exact ⟨rv, pv2, _, _, _, _, _, rfl, (by walk_at "ex"), hrow, .inr ⟨A, hPA, hPl⟩⟩
        · obtain rfl := a1.det hPA
          have hA6 : Pn K d H' pv (byS s.length A') := a2.1
          have pne : ¬ pv = .non := fun z => by
            obtain ⟨x, _, _, hx, _⟩ := hA6
            rw [z] at hx
            cases hx
          refine r_itn (fun _ => ?_) fun z => absurd z pne
          walk_at "rd"
          refine r_own2N (ns := byS s.length A') (ms := byS s.length A') (by walk_at "kn") (by walk_at "kn") ?_
          refine ⟨_, _, byS s.length A', byS s.length A', rfl, (by walk_at "kn"), (by walk_at "kn"), ?_⟩
          rw [decide_eq_true rfl]
          walk_at "rd"
          refine iteF ?_
          walk_at "rd"
          exact ⟨rv, pv2, _, _, _, _, _, rfl, (by walk_at "ex"), hrow, .inr ⟨A', hPA, hPl⟩⟩
    rintro σ H5 ⟨rv, pv, z9, z10, z11, z12, z13, rfl, e5, hR, hPv⟩
    rw [List.length_map, List.take_length] at hR hPv
    replace hR : RowV H5 s w rv := by
      rcases hR with ⟨_, a2⟩ | a
      · exact absurd m1 a2
      · exact a
    obtain ⟨A, hPA, hPl⟩ : ∃ A, PlanR s w F A ∧ Ps K d.c_Plan H5 pv s.length F A := by
      rcases hPv with ⟨_, a2⟩ | a
      · exact absurd m2 a2
      · exact a
    have eA := hPA.enf g
    have F0 := enf_nn eA
    have hA5 : Pn K d H5 pv (byS s.length A) := hPl.1
    have gA := hA5.good
    have lA : (byS s.length A).length = s.length := byS_length _ _
    have sA : (byS s.length A).sum = F := by rw [byS_sum, eA.1, eA.2.1]; omega
    obtain ⟨pq, dpq, apq, rfl, hpq, _⟩ := id hA5
    walk_at "rd"
    refine ⟨F, rfl, ?_⟩
    rw [decide_eq_true F0]
    walk_at "rd"
    refine iteF ?_
    walk_at "rd"
    refine r_isiOwn T.ic_Plan hpq ?_
    walk_at "rd"
    refine iteF ?_
    walk_at "rd"
    refine r_list_Plan hA5 fun p1 np1 => ?_
    walk_at "rd"
    refine r_len (xs := (byS s.length A).map V.int) (by walk_at "kn") ?_
    rw [List.length_map, lA]
    walk_at "rd"
    refine r_len (by walk_at "kn") ?_
    rw [List.length_map]
    walk_at "rd"
    refine r_same rfl ?_
    walk_at "rd"
    refine r_sumS (ns := byS s.length A) (by walk_at "kn") ?_
    rw [sA]
    walk_at "rd"
    refine r_same rfl ?_
    walk_at "rd"
    have hp1 : (upd H5 p1 (.lst ((byS s.length A).map V.int))) p1 = some (.lst ((byS s.length A).map V.int)) := upd_same
    refine ⟨p1, rfl, ⟨_, at_sqL hp1⟩, ?_⟩
    refine lc_filf (walk_list (xs := (byS s.length A).map V.int)) (fun _ => false) (fun _ => .int 0) (fun _ e => at_sqL (e _ _ hp1)) (by rw [List.length_map, lA]; omega) ?_ ?_
    · rintro i x H6 H7 hi e ⟨rfl, hx⟩ kb kq hk1 hk2
      obtain rfl := int_at hx
      rw [List.length_map] at hi
      have b0 := gA.mem _ (gD_mem hi)
      walk_at "rd"
      refine ⟨_, rfl, ?_⟩
      rw [decide_eq_true b0]
      walk_at "rd"
      refine iteF ?_
      exact hk2 _ rfl (Ex.refl _)
    intro D2 H6 nD2 e6 hD2
    have hD' : H6 D2 = some (.lst (([] : List Int).map V.int)) := by
      rw [hD2]
      simp
    walk_at "rd"
    refine ⟨szc rfl, fun p2 np2 => ?_⟩
    walk_at "rd"
    refine r_neL (ns := []) (ms := []) (by walk_at "kn") (by walk_at "kn") ?_
    walk_at "rd"
    refine r_same rfl ?_
    walk_at "rd"
    refine ⟨l, q, p1, s, w, byS s.length A, rfl, (by walk_at "kn"), (by walk_at "kn"), (by walk_at "kn"), g, lA, hlen, fun H7 e7 => ?_⟩
    rw [eA.2.2.2]
    walk_at "rd"
    refine iteF ?_
    walk_at "rd"
    refine r_sumS (by walk_at "kn") ?_
    walk_at "rd"
    have swz : w.sum = 0 ↔ ∀ h : Nat, h < s.length → cyc w h = 0 := by
      rw [sum_cyc, hlen]
      constructor
      · intro z h hh
        have a0 := gw.nn (h : Int)
        have e : Sg s.length (cyc w) = Sg s.length (fun i => if i = (h : Int) then cyc w i else 0) + Sg s.length (fun i => if i = (h : Int) then 0 else cyc w i) := by
          rw [← Sg_add]
          exact Sg_congr fun i _ _ => by split <;> omega
        have : 0 ≤ Sg s.length (fun i => if i = (h : Int) then 0 else cyc w i) := Sg_nn fun m _ => by
          have := gw.nn (m : Int)
          split <;> omega
        rw [Sg_one hh] at e
        omega
      · intro z
        rw [Sg_congr (g := fun _ => 0) fun i i0 i1 => ?_, Sg_zero]
        have := z i.toNat (by omega)
        rw [Int.toNat_of_nonneg i0] at this
        exact this
    refine r_ite (fun z => ?_) fun z => ?_
    · have hz := swz.mp z
      obtain rfl : rv = .non := by
        rcases hR with ⟨_, a1⟩ | ⟨⟨j, hj, hjn⟩, _⟩
        · exact a1
        · exact absurd (hz j hj) hjn
      have hF0 : F = 0 := hF.uniq (few_zero g fun h hh => by rw [hz h hh]; exact Int.le_refl 0)
      walk_at "rd"
      refine iteT ?_
      walk_at "rd"
      rw [decide_eq_true hF0]
      exact kk _ (by walk_at "ex")
    obtain ⟨rp, r, rfl, hr, hrp⟩ : ∃ rp r, rv = .ref rp ∧ BestR s w r ∧ H5 rp = some (.lst (r.map V.int)) := by
      rcases hR with ⟨hz, _⟩ | ⟨_, a⟩
      · exact absurd (swz.mpr hz) z
      · exact a
    have Bk := hr.ok g
    have ble := Bk.le
    have hrB : ringB s w r = F := (best_few g Bk).uniq hF
    refine r_cutE ?_ fun H8 e8 => ?_
    · walk_at "rd"
      refine ⟨l, q, rp, s, w, r, F, rfl, (by walk_at "kn"), (by walk_at "kn"), (by walk_at "kn"), g, hlen, Bk.ne, by omega, Bk.hs, hrB, fun H8 e8 => ?_⟩
      walk_at "rd"
      refine iteF ?_
      walk_at "rd"
      refine r_ixL (by walk_at "kn") at0 ?_
      walk_at "rd"
      refine r_ite (fun z1 => ?_) fun z1 => ?_
      · obtain ⟨ep, r', rfl, hr', hep⟩ : ∃ rp r, ev = .ref rp ∧ BestR s w r ∧ H4 rp = some (.lst (r.map V.int)) := by
          rcases hEv4 z1 with ⟨hz, _⟩ | ⟨_, a⟩
          · exact absurd (swz.mpr hz) z
          · exact a
        obtain rfl := hr'.det hr
        walk_at "rd"
        refine ⟨l, q, ep, s, w, r', F, rfl, (by walk_at "kn"), (by walk_at "kn"), (by walk_at "kn"), g, hlen, Bk.ne, by omega, Bk.hs, hrB, fun H9 e9 => ?_⟩
        walk_at "rd"
        refine iteF ?_
        walk_at "rd"
        exact ⟨rfl, (by walk_at "ex")⟩
      · refine iteF ?_
        walk_at "rd"
        exact ⟨rfl, (by walk_at "ex")⟩
    refine r_cutE ?_ fun H9 e9 => ?_
    · walk_at "rd"
      rcases hSv4 with rfl | ⟨sp, t, rfl, hsp, htl, hts, hte⟩
      · walk_at "rd"
        refine iteF ?_
        refine iteF ?_
        walk_at "rd"
        exact ⟨rfl, (by walk_at "ex")⟩
      · walk_at "rd"
        refine iteT ?_
        walk_at "rd"
        refine r_sumS (ns := t) (by walk_at "kn") ?_
        walk_at "rd"
        refine r_sumS (by walk_at "kn") ?_
        walk_at "rd"
        refine r_same hts ?_
        walk_at "rd"
        exact ⟨rfl, (by walk_at "ex")⟩
    refine r_cutE ?_ fun H10 e10 => ?_
    · walk_at "rd"
      rcases hSv4 with rfl | ⟨sp, t, rfl, hsp, htl, hts, hte⟩
      · walk_at "rd"
        refine iteF ?_
        refine iteF ?_
        walk_at "rd"
        exact ⟨rfl, (by walk_at "ex")⟩
      · walk_at "rd"
        refine iteT ?_
        walk_at "rd"
        refine ⟨l, q, sp, s, w, t, rfl, (by walk_at "kn"), (by walk_at "kn"), (by walk_at "kn"), g, htl, hlen, fun G1 f1 => ?_⟩
        rw [hte]
        walk_at "rd"
        refine iteF ?_
        walk_at "rd"
        exact ⟨rfl, (by walk_at "ex")⟩
    walk_at "rd"
    refine mkRw ⟨q, _, rfl, (by walk_at "kn"), gw, fun n1 G1 f1 hN1 => ?_⟩
    walk_at "rd"
    refine ⟨v, _, s, w, _, rfl, (by walk_at "kn"), (by walk_at "kn"), hlen, fun F2 G2 hF2 f2 => ?_⟩
    obtain rfl := hF2.uniq hF
    walk_at "rd"
    refine mkRw ⟨q, _, rfl, (by walk_at "kn"), gw, fun n2 G3 f3 hN2 => ?_⟩
    walk_at "rd"
    refine ⟨v, _, s, w, _, rfl, (by walk_at "kn"), (by walk_at "kn"), hlen, fun F3 G4 hF3 f4 => ?_⟩
    obtain rfl := hF3.uniq hF
    rw [decide_eq_true (Int.le_refl F3 : F3 ≥ F3), decide_eq_false (show ¬ F3 - 1 ≥ F3 by omega)]
    walk_at "rd"
    refine ⟨szc rfl, fun p3 np3 => ?_⟩
    walk_at "rd"
    refine ⟨szc rfl, fun p4 np4 => ?_⟩
    walk_at "rd"
    have b1 : SqL K (upd (upd G4 p3 (.lst ([true, true].map V.bl))) p4 (.lst ([true, true].map V.bl))) p3 ([true, true].map V.bl) := (by walk_at "kn")
    have b2 : SqL K (upd (upd G4 p3 (.lst ([true, true].map V.bl))) p4 (.lst ([true, true].map V.bl))) p4 ([true, true].map V.bl) := (by walk_at "kn")
    refine ⟨_, _, PySem.W.Datum.toD [true, true], 2 * 1, rfl, hd_bools b1, hd_bools b2, lay_sh (lay_list lay_bool) (by decide) _, fine_bools _, by decide, ?_⟩
    exact kk _ (by walk_at "ex")

/-! ### law -/
theorem sc_law : FnScope ["_law_script", "_law_bag_here", "_law_turn", "_law_many", "_law_stays_here", "_law_wants_here", "_law_clock_here", "_law_order", "_law_others", "_law_some"] ["_law_script"] (defScope s_law) := ⟨rfl, rfl, rfl, by decide +kernel, rfl, by decide +kernel, by decide +kernel⟩

def sp_law (K : PySem.W.Frag) (d : Ads) : Sp := spLaw K
theorem five : ∀ i : Nat, i < 5 → 1 ≤ ([24, 10, 8, 5, 3] : List Int).getD i 0 ∧ ([24, 10, 8, 5, 3] : List Int).getD i 0 ≤ 24 := by decide
theorem mix_of {xs : List Int} {ys : List V} (h : ys.Perm (xs.map V.int)) : ∃ os : List Int, ys = os.map V.int ∧ os.length = xs.length ∧ ∀ z, z ∈ os ↔ z ∈ xs := by
  obtain ⟨os, ho, rfl⟩ : ∃ ms : List Int, (∀ z ∈ ms, True) ∧ ys = ms.map V.int := ints_of fun v hv => by
    obtain ⟨z, _, rfl⟩ := List.mem_map.mp (h.mem_iff.mp hv)
    exact ⟨z, trivial, rfl⟩
  refine ⟨os, rfl, by simpa using h.length_eq, fun z => ?_⟩
  have e := h.mem_iff (a := V.int z)
  have key : ∀ l : List Int, V.int z ∈ l.map V.int ↔ z ∈ l := fun l => by
    constructor
    · intro q
      obtain ⟨y, hy, e⟩ := List.mem_map.mp q
      cases e
      exact hy
    · exact fun q => List.mem_map_of_mem q
  rw [key, key] at e
  exact e
set_option maxHeartbeats 4000000 in
theorem ok_law (T : Tx K mg d) : OkP NoG P w K mg base 11 d.f_law ["_law_script"] (sp_law K d) := by
  refine okP_of T.d_law sc_law (fun vs H Q E h => ?_) (fun cdv A outer s H vs Q E hg hr h => ?_)
  · obtain ⟨a, ns, rfl, hS, hl, k⟩ := h
    rfl
  · obtain ⟨a, ns, rfl, hS, hl, k⟩ := h
    refine ⟨_, (pss_cons (ps_set (i := 1) sc_law.nd rfl (by first | exact Or.inl rfl | exact Or.inr rfl) (pf_call (ok__law_bag T) (hr.mono (by decide)) (by rfl) T.g__law_bag T.d__law_bag.kp (pa_cons (pv 0) pa_nil)))
      (pss_cons (ps_for PassesOwn.never rfl (pi_range1 (by rfl) T.z_range (pa_cons pe_int pa_nil)) (pg_name (i := 2) sc_law.nd rfl (by first | exact Or.inl rfl | exact Or.inr rfl)) (pss_cons (ps_set (i := 3) sc_law.nd rfl (by first | exact Or.inl rfl | exact Or.inr rfl) (pe_op op_add pe_int (pf_call (ok__law_take T) (hr.mono (by decide)) (by rfl) T.g__law_take T.d__law_take.kp (pa_cons (pv 1) (pa_cons (pe_ix (k_ixL (K := K) rfl) (pe_lst (pa_cons pe_int (pa_cons pe_int (pa_cons pe_int (pa_cons pe_int (pa_cons pe_int pa_nil)))))) (pv 2) (fun _ _ => rfl)) pa_nil)))))
      (pss_cons (ps_par (i := 4) (j := 5) (by rfl) sc_law.nd rfl rfl (by decide) rfl rfl (pa_cons (pf_call (ok__law_stays T) (hr.mono (by decide)) (by rfl) T.g__law_stays T.d__law_stays.kp (pa_cons (pv 1) (pa_cons (pv 3) pa_nil))) (pa_cons (pf_call (ok__law_wants T) (hr.mono (by decide)) (by rfl) T.g__law_wants T.d__law_wants.kp (pa_cons (pv 1) (pa_cons (pv 3) pa_nil))) pa_nil)) (by rfl))
      (pss_cons (ps_set (i := 6) sc_law.nd rfl (by first | exact Or.inl rfl | exact Or.inr rfl) (pf_call (ok__law_clock T) (hr.mono (by decide)) (by rfl) T.g__law_clock T.d__law_clock.kp (pa_cons (pv 1) (pa_cons (pv 4) pa_nil))))
      (pss_cons (ps_set (i := 7) sc_law.nd rfl (by first | exact Or.inl rfl | exact Or.inr rfl) (pf_call (ok__law_mixed T) (hr.mono (by decide)) (by rfl) T.g__law_mixed T.d__law_mixed.kp (pa_cons (pv 1) (pa_cons (pe_ifJ (pt_cmpR op_eq (pv 2) pe_int (nomark _)) (pe_lst (pa_cons pe_int (pa_cons pe_int pa_nil))) (pe_lst (pa_cons pe_int (pa_cons pe_int (pa_cons pe_int (pa_cons pe_int (pa_cons pe_int (pa_cons pe_int pa_nil)))))))) pa_nil))))
      (pss_cons (ps_if (PW.pt (pw_or (pt_not (pt_val (pg_call (ok__law_papers_right T) (fun _ => hg) (hr.mono (by decide)) (by rfl) T.g__law_papers_right T.d__law_papers_right.kp (pa_cons (pv 6) (pa_cons (pv 4) (pa_cons (pv 5) (pa_cons (pv 7) pa_nil))))))) (pw_or1 (pt_cmpR (k_neD (K := K) rfl hr.units) (pf_meth0 (ok_Clock_stays T) (hr.mono (by decide)) T.cl_Clock T.m_Clock_stays (pv 6)) (pv 4) (nomark _))))) (pss_one (ps_ret pe_bl)) pss_nil)
      (pss_cons (ps_set (i := 8) sc_law.nd rfl (by first | exact Or.inl rfl | exact Or.inr rfl) (pf_call (ok__law_wants T) (hr.mono (by decide)) (by rfl) T.g__law_wants T.d__law_wants.kp (pa_cons (pv 1) (pa_cons (pv 3) pa_nil))))
      (pss_one (ps_for PassesOwn.never rfl (k_piL (K := K) rfl (pe_slice (k_slL (K := K) rfl) (pe_lst (pa_cons (pv 8) (pa_cons (pv 5) pa_nil))) po_none (po_some (pe_op op_mul pe_int (pe_callTy k_int1 (by rfl) T.z_int (by decide +kernel) (pa_cons (pe_cmpR op_gt (pv 2) pe_int (nomark _)) pa_nil)))))) (pg_name (i := 9) sc_law.nd rfl (by first | exact Or.inl rfl | exact Or.inr rfl)) (pss_one (ps_if (pt_not (pt_val (pg_call (ok__law_papers_right T) (fun _ => hg) (hr.mono (by decide)) (by rfl) T.g__law_papers_right T.d__law_papers_right.kp (pa_cons (pv 6) (pa_cons (pv 4) (pa_cons (pv 9) (pa_cons (pv 7) pa_nil))))))) (pss_one (ps_ret pe_bl)) pss_nil)))))))))))
      (pss_one (ps_ret (pe_cmpR (k_eqD (K := K) rfl hr.units) (pe_lst (pa_cons (pf_call (ok_fewest T) (hr.mono (by decide)) (by rfl) T.g_fewest T.d_fewest.kp (pa_cons (pf_make (ok_Clock___init__ T) (hr.mono (by decide)) T.mk_Clock (by rfl) T.g_Clock (pa_cons (pe_lst (pa_cons pe_int pa_nil)) pa_nil)) (pa_cons (pf_make (ok_Needs___init__ T) (hr.mono (by decide)) T.mk_Needs (by rfl) T.g_Needs (pa_cons (pe_lst (pa_cons pe_int pa_nil)) pa_nil)) pa_nil))) (pa_cons (pf_call (ok_ring_for T) (hr.mono (by decide)) (by rfl) T.g_ring_for T.d_ring_for.kp (pa_cons (pf_make (ok_Clock___init__ T) (hr.mono (by decide)) T.mk_Clock (by rfl) T.g_Clock (pa_cons (pe_lst (pa_cons pe_int (pa_cons pe_int pa_nil))) pa_nil)) (pa_cons (pf_make (ok_Needs___init__ T) (hr.mono (by decide)) T.mk_Needs (by rfl) T.g_Needs (pa_cons (pe_lst (pa_cons pe_int (pa_cons pe_int pa_nil))) pa_nil)) pa_nil))) pa_nil))) (pe_lst (pa_cons pe_int (pa_cons pe_non pa_nil))) (nomark _)))))), ?_⟩
    walk_at "rd"
    refine ⟨a, ns, rfl, hS, hl, fun b H1 e1 hB1 => ?_⟩
    walk_at "rd"
    refine for_w walk_r0 (fun i σ H' => (∃ y2 y3 y4 y5 y6 y7 y8 y9, σ = [some (.ref a), some (.ref b), y2, y3, y4, y5, y6, y7, y8, y9]) ∧ Bag H' b) ⟨⟨_, _, _, _, _, _, _, _, rfl⟩, hB1⟩ (fun _ _ _ _ _ => trivial) ?_ ?_
    · rintro i x σ H2 H3 hi ⟨⟨y2, y3, y4, y5, y6, y7, y8, y9, rfl⟩, hB⟩ ⟨rfl, rfl⟩
      have hi5 : i < 5 := hi
      walk_at "rd"
      refine ⟨szc rfl, fun l nl => ?_⟩
      walk_at "rd"
      refine r_ixL (SqL.of upd_same) (at_int (ns := [24, 10, 8, 5, 3]) (by omega) (by show (i : Int) < 5; omega)) ?_
      have hu := five i hi5
      rw [Int.toNat_natCast]
      refine ⟨b, _, rfl, (by walk_at "kn"), by omega, by omega, fun c c0 c1 => ?_⟩
      obtain ⟨n, hn⟩ : ∃ n : Nat, 1 + c = (n : Int) := ⟨(1 + c).toNat, by omega⟩
      have n1 : 1 ≤ n := by omega
      have n24 : n ≤ 24 := by omega
      walk_at "rd"
      rw [hn]
      refine ⟨b, n, rfl, (by walk_at "kn"), n1, by omega, fun s sl g ps H4 nps e4 hps => ?_⟩
      walk_at "rd"
      refine ⟨b, n, rfl, (by walk_at "kn"), n1, by omega, fun d1 dl1 dm1 p1 H5 np1 e5 hp1 => ?_⟩
      have g1 := good_of_mem dl1 n1 (by omega) dm1
      have l1 : d1.length = s.length := by omega
      walk_at "rd"
      refine ⟨b, ps, s, rfl, (by walk_at "kn"), (by walk_at "kn"), g, fun cv H7 e7 hC => ?_⟩
      walk_at "rd"
      refine r_ifJ (fun ov H' => Ex H7 H' ∧ ∃ op xs, ov = .ref op ∧ H' op = some (.lst ((xs : List Int).map V.int)) ∧ xs.length ≤ 6 ∧ 1 ≤ xs.length ∧ 1 ∈ xs ∧ 2 ∈ xs ∧ ∀ z ∈ xs, z = 0 ∨ z = 1 ∨ z = 2) (fun Q' hQ => ?_) fun ov H8 ⟨e8, op, xs, h1, h2, h3, h4, h5, h6, h7⟩ => ?_
      · walk_at "rd"
        refine r_ite (fun _ => ?_) fun _ => ?_
        · walk_at "rd"
          refine ⟨szc rfl, fun p np => ?_⟩
          exact hQ _ _ ⟨(by walk_at "ex"), p, [1, 2], rfl, upd_same, by decide, by decide, by decide, by decide, by decide⟩
        · walk_at "rd"
          refine ⟨szc rfl, fun p np => ?_⟩
          exact hQ _ _ ⟨(by walk_at "ex"), p, [0, 1, 2, 0, 1, 2], rfl, upd_same, by decide, by decide, by decide, by decide, by decide⟩
      subst h1
      walk_at "rd"
      refine ⟨b, op, _, rfl, (by walk_at "kn"), (by walk_at "kn"), by rw [List.length_map]; omega, fun ys hys p2 H9 np2 e9 hp2 => ?_⟩
      obtain ⟨os, rfl, ol, om⟩ := mix_of hys
      walk_at "rd"
      have o3 : ∀ z ∈ os, z = 0 ∨ z = 1 ∨ z = 2 := fun z hz => h7 z ((om z).mp hz)
      refine ⟨cv, ps, p1, p2, s, d1, os, rfl, (by walk_at "kn"), (by walk_at "kn"), (by walk_at "kn"), (by walk_at "kn"), g1, l1, by omega, by omega, (om 1).mpr h5, (om 2).mpr h6, o3, fun G1 f1 => ?_⟩
      walk_at "rd"
      refine iteF ?_
      walk_at "rd"
      refine r_clkM (s := s) (by walk_at "kn") ?_
      walk_at "rd"
      refine ⟨cv, s, rfl, (by walk_at "kn"), fun p3 G2 np3 f2 hp3 => ?_⟩
      walk_at "rd"
      refine r_neL (ns := s) (ms := s) (by walk_at "kn") (by walk_at "kn") ?_
      walk_at "rd"
      refine r_same rfl ?_
      walk_at "rd"
      refine ⟨b, n, rfl, (by walk_at "kn"), n1, by omega, fun d2 dl2 dm2 p4 G3 np4 f3 hp4 => ?_⟩
      have g2 := good_of_mem dl2 n1 (by omega) dm2
      have l2 : d2.length = s.length := by omega
      walk_at "rd"
      refine ⟨szc rfl, fun p5 np5 => ?_⟩
      walk_at "rd"
      have k1 : Clk K d.c_Clock G3 cv s := (by walk_at "kn")
      have k2 : SqL K G3 ps (s.map V.int) := (by walk_at "kn")
      have k3 : SqL K G3 p1 (d1.map V.int) := (by walk_at "kn")
      have k4 : SqL K G3 p4 (d2.map V.int) := (by walk_at "kn")
      have k5 : G3 p2 = some (.lst (os.map V.int)) := (by walk_at "kn")
      have k6 : Bag G3 b := (by walk_at "kn")
      have fin : ∀ (sl : Addr) (vs : List V) (G4 : Hp), Ex G3 G4 → G4 sl = some (.lst vs) → (∀ v ∈ vs, v = .ref p4 ∨ v = .ref p1) → vs.length ≤ 10 → True := fun _ _ _ _ _ _ _ => trivial
      clear hC hB
      rcases Nat.lt_or_ge 0 i with q | q
      · rw [if_pos (decide_eq_true (by omega : (0 : Int) < (i : Int)))]
        refine ⟨p5, _, rfl, (by walk_at "kn"), fun p6 np6 => ?_⟩
        rw [show cutV [V.ref p4, V.ref p1] none (some (2 * 1)) = [V.ref p4, V.ref p1] from cut_take (by decide) (by show (_ : Int) ≤ 2; decide)]
        walk_at "rd"
        refine ⟨p6, rfl, ⟨_, at_sqL upd_same⟩, ?_⟩
        have e6 : Ex G3 (upd (upd G3 p5 (.lst [V.ref p4, V.ref p1])) p6 (.lst [V.ref p4, V.ref p1])) := (by walk_at "ex")
        refine for_w (walk_list (xs := [V.ref p4, V.ref p1])) (fun j σ H' => (∃ y9, σ = [some (.ref a), some (.ref b), some (.int (i : Int)), some (.int (n : Int)), some (.ref ps), some (.ref p1), some cv, some (.ref p2), some (.ref p4), y9]) ∧ Ex (upd (upd G3 p5 (.lst [V.ref p4, V.ref p1])) p6 (.lst [V.ref p4, V.ref p1])) H') ⟨⟨_, rfl⟩, Ex.refl _⟩ (fun j σ H' _ q => at_sqL (q.2 _ _ upd_same)) ?_ ?_
        · rintro j x σ J1 J2 hj ⟨⟨y9, rfl⟩, ej⟩ ⟨rfl, hx⟩
          obtain ⟨px, dx, rfl, hpx, hlx, gx⟩ : ∃ px dx, x = .ref px ∧ SqL K G3 px ((dx : List Int).map V.int) ∧ dx.length = s.length ∧ GoodN dx := by
            have := List.mem_of_getElem? hx
            simp only [List.mem_cons, List.not_mem_nil, or_false] at this
            rcases this with rfl | rfl
            · exact ⟨p4, d2, rfl, k4, l2, g2⟩
            · exact ⟨p1, d1, rfl, k3, l1, g1⟩
          walk_at "rd"
          refine ⟨cv, ps, px, p2, s, dx, os, rfl, (by walk_at "kn"), (by walk_at "kn"), (by walk_at "kn"), (by walk_at "kn"), gx, hlx, by omega, by omega, (om 1).mpr h5, (om 2).mpr h6, o3, fun J3 j3 => ?_⟩
          walk_at "rd"
          refine iteF ?_
          walk_at "rd"
          exact ⟨⟨_, rfl⟩, (by walk_at "ex")⟩
        rintro σ J1 ⟨⟨y9, rfl⟩, ej⟩
        walk_at "rd"
        exact ⟨⟨_, _, _, _, _, _, _, _, rfl⟩, (by walk_at "kn")⟩
      · rw [if_neg (by rw [decide_eq_false (by omega : ¬ (0 : Int) < (i : Int))]; decide)]
        refine ⟨p5, _, rfl, (by walk_at "kn"), fun p6 np6 => ?_⟩
        rw [show cutV [V.ref p4, V.ref p1] none (some (2 * 0)) = [] from cut_take (by decide) (by show (_ : Int) ≤ 2; decide)]
        walk_at "rd"
        refine ⟨p6, rfl, ⟨_, at_sqL upd_same⟩, ?_⟩
        refine for_w (walk_list (xs := [])) (fun j σ H' => (∃ y9, σ = [some (.ref a), some (.ref b), some (.int (i : Int)), some (.int (n : Int)), some (.ref ps), some (.ref p1), some cv, some (.ref p2), some (.ref p4), y9]) ∧ H' = upd (upd G3 p5 (.lst [V.ref p4, V.ref p1])) p6 (.lst [])) ⟨⟨_, rfl⟩, rfl⟩ (fun j σ H' _ q => by rw [q.2]; exact at_sqL upd_same) ?_ ?_
        · rintro j x σ J1 J2 hj
          exact absurd hj (Nat.not_lt_zero _)
        rintro σ J1 ⟨⟨y9, rfl⟩, rfl⟩
        walk_at "rd"
        exact ⟨⟨_, _, _, _, _, _, _, _, rfl⟩, (by walk_at "kn")⟩
    rintro σ H2 ⟨⟨y2, y3, y4, y5, y6, y7, y8, y9, rfl⟩, hB⟩
    walk_at "rd"
    refine ⟨szc rfl, fun p1 np1 => ?_⟩
    walk_at "rd"
    refine mkClk ⟨p1, [1], rfl, (by walk_at "kn"), Good.const (n := 1) (c := 1) (by decide) (by decide) (by decide) (by decide), fun c1 H3 e3 hC1 => ?_⟩
    walk_at "rd"
    refine ⟨szc rfl, fun p2 np2 => ?_⟩
    walk_at "rd"
    refine mkRw ⟨p2, [5], rfl, (by walk_at "kn"), ⟨by decide, by decide, fun i => by rw [show ([5] : List Int) = List.replicate 1 5 from rfl, cyc_rep (by decide)]; decide⟩, fun v1 H4 e4 hN1 => ?_⟩
    refine ⟨_, _, [1], [5], rfl, (by walk_at "kn"), (by walk_at "kn"), rfl, fun F H5 hF e5 => ?_⟩
    have hF5 : F = 5 := even_few (n := 1) (w := 1) (c := 5) (by decide) (by decide) (by decide) (by decide) (by decide) hF
    subst hF5
    walk_at "rd"
    refine ⟨szc rfl, fun p3 np3 => ?_⟩
    walk_at "rd"
    have g21 : Good [2, 1] := Good.of (by decide) (by decide)
    refine mkClk ⟨p3, [2, 1], rfl, (by walk_at "kn"), g21, fun c2 H6 e6 hC2 => ?_⟩
    walk_at "rd"
    refine ⟨szc rfl, fun p4 np4 => ?_⟩
    walk_at "rd"
    refine mkRw ⟨p4, [0, 0], rfl, (by walk_at "kn"), ⟨by decide, by decide, fun i => by rw [show ([0, 0] : List Int) = List.replicate 2 0 from rfl, cyc_rep (by decide)]; decide⟩, fun v2 H7 e7 hN2 => ?_⟩
    refine ⟨_, _, [2, 1], [0, 0], rfl, (by walk_at "kn"), (by walk_at "kn"), rfl, fun hz H8 e8 => ?_, fun r ⟨h, hh, hne⟩ => absurd (by rw [show ([0, 0] : List Int) = List.replicate 2 0 from rfl, cyc_rep (by decide)]) hne⟩
    walk_at "rd"
    refine ⟨szc rfl, fun p5 np5 => ?_⟩
    walk_at "rd"
    refine ⟨szc rfl, fun p6 np6 => ?_⟩
    walk_at "rd"
    have dpl : ∀ {H : Hp} {p : Addr}, H p = some (.lst [V.int 5, V.non]) → Dp K H (.ref p) (.list [.int 5, .none]) := fun h => .lst (at_sqL h) (.cons (.int _) (.cons .non .nil))
    refine ⟨_, _, dpl (mv_at upd_same (Ex.new np6)), dpl upd_same, rfl, rfl, ?_⟩
    rw [SeqAt.eqv_refl _ (by rfl)]
    exact k _
end

theorem all_mk {P : Program} {w : World} {K : PySem.W.Frag} {h : Heap} {mg : Str → Option Value} {fa : Addr} (X : K.In h) (G : h.Ns mainGlobals mg) (hfa : mg "law" = some (.ref fa))
    {c_Clock c_Needs c_Plan f__law_bag f__law_take f__law_number f__law_numbers f__law_wants f__law_stays f_is_integer f_are_stays f_need_order f_width_of f_Clock___init__ f__law_clock f__law_mixed f_Clock_stays f_Clock_hours q_Clock_hours f_Needs_hours q_Needs_hours f_need_alike f_Clock_widths f_is_hour f_Needs___getitem__ f_need_edges f_Needs___len__ f_Needs___iter__ f_gain_of f_further f_closed_at f_gaining f_common f_fraction_of f_turn_of f_worth_of f_best_ring f_ring_for f_is_count f_are_counts f_is_row f_Needs___init__ f_Plan___len__ f_Plan___iter__ f_up f_step_hours f_winds f_ring_bound f_fewest f_enough f_Plan___init__ f_plan_of f_settled f_plan_for f_Plan___eq__ f__law_is_whole f__law_is_count f__law_serving f__law_there f__law_serves f__law_is_hour f__law_is_ring f__law_hop f__law_wound f__law_bound_of f__law_shown f__law_alike f__law_papers_right f_law : Addr}
    {od__law_bag an__law_bag : Option Addr} {sl__law_bag : Array (Option Value)} {oc__law_bag kV__law_bag dc__law_bag pm__law_bag cd__law_bag ct__law_bag : Value}
    {od__law_take an__law_take : Option Addr} {sl__law_take : Array (Option Value)} {oc__law_take kV__law_take dc__law_take pm__law_take cd__law_take ct__law_take : Value}
    {od__law_number an__law_number : Option Addr} {sl__law_number : Array (Option Value)} {oc__law_number kV__law_number dc__law_number pm__law_number cd__law_number ct__law_number : Value}
    {od__law_numbers an__law_numbers : Option Addr} {sl__law_numbers : Array (Option Value)} {oc__law_numbers kV__law_numbers dc__law_numbers pm__law_numbers cd__law_numbers ct__law_numbers : Value}
    {od__law_wants an__law_wants : Option Addr} {sl__law_wants : Array (Option Value)} {oc__law_wants kV__law_wants dc__law_wants pm__law_wants cd__law_wants ct__law_wants : Value}
    {od__law_stays an__law_stays : Option Addr} {sl__law_stays : Array (Option Value)} {oc__law_stays kV__law_stays dc__law_stays pm__law_stays cd__law_stays ct__law_stays : Value}
    {od_is_integer an_is_integer : Option Addr} {sl_is_integer : Array (Option Value)} {oc_is_integer kV_is_integer dc_is_integer pm_is_integer cd_is_integer ct_is_integer : Value}
    {od_are_stays an_are_stays : Option Addr} {sl_are_stays : Array (Option Value)} {oc_are_stays kV_are_stays dc_are_stays pm_are_stays cd_are_stays ct_are_stays : Value}
    {od_need_order an_need_order : Option Addr} {sl_need_order : Array (Option Value)} {oc_need_order kV_need_order dc_need_order pm_need_order cd_need_order ct_need_order : Value}
    {od_width_of an_width_of : Option Addr} {sl_width_of : Array (Option Value)} {oc_width_of kV_width_of dc_width_of pm_width_of cd_width_of ct_width_of : Value}
    {od_Clock___init__ an_Clock___init__ : Option Addr} {sl_Clock___init__ : Array (Option Value)} {oc_Clock___init__ kV_Clock___init__ dc_Clock___init__ pm_Clock___init__ cd_Clock___init__ ct_Clock___init__ : Value}
    {od__law_clock an__law_clock : Option Addr} {sl__law_clock : Array (Option Value)} {oc__law_clock kV__law_clock dc__law_clock pm__law_clock cd__law_clock ct__law_clock : Value}
    {od__law_mixed an__law_mixed : Option Addr} {sl__law_mixed : Array (Option Value)} {oc__law_mixed kV__law_mixed dc__law_mixed pm__law_mixed cd__law_mixed ct__law_mixed : Value}
    {od_Clock_stays an_Clock_stays : Option Addr} {sl_Clock_stays : Array (Option Value)} {oc_Clock_stays kV_Clock_stays dc_Clock_stays pm_Clock_stays cd_Clock_stays ct_Clock_stays : Value}
    {od_Clock_hours an_Clock_hours : Option Addr} {sl_Clock_hours : Array (Option Value)} {oc_Clock_hours kV_Clock_hours dc_Clock_hours pm_Clock_hours cd_Clock_hours ct_Clock_hours : Value}
    {rest_Clock_hours : List Value}
    {od_Needs_hours an_Needs_hours : Option Addr} {sl_Needs_hours : Array (Option Value)} {oc_Needs_hours kV_Needs_hours dc_Needs_hours pm_Needs_hours cd_Needs_hours ct_Needs_hours : Value}
    {rest_Needs_hours : List Value}
    {od_need_alike an_need_alike : Option Addr} {sl_need_alike : Array (Option Value)} {oc_need_alike kV_need_alike dc_need_alike pm_need_alike cd_need_alike ct_need_alike : Value}
    {od_Clock_widths an_Clock_widths : Option Addr} {sl_Clock_widths : Array (Option Value)} {oc_Clock_widths kV_Clock_widths dc_Clock_widths pm_Clock_widths cd_Clock_widths ct_Clock_widths : Value}
    {od_is_hour an_is_hour : Option Addr} {sl_is_hour : Array (Option Value)} {oc_is_hour kV_is_hour dc_is_hour pm_is_hour cd_is_hour ct_is_hour : Value}
    {od_Needs___getitem__ an_Needs___getitem__ : Option Addr} {sl_Needs___getitem__ : Array (Option Value)} {oc_Needs___getitem__ kV_Needs___getitem__ dc_Needs___getitem__ pm_Needs___getitem__ cd_Needs___getitem__ ct_Needs___getitem__ : Value}
    {od_need_edges an_need_edges : Option Addr} {sl_need_edges : Array (Option Value)} {oc_need_edges kV_need_edges dc_need_edges pm_need_edges cd_need_edges ct_need_edges : Value}
    {od_Needs___len__ an_Needs___len__ : Option Addr} {sl_Needs___len__ : Array (Option Value)} {oc_Needs___len__ kV_Needs___len__ dc_Needs___len__ pm_Needs___len__ cd_Needs___len__ ct_Needs___len__ : Value}
    {od_Needs___iter__ an_Needs___iter__ : Option Addr} {sl_Needs___iter__ : Array (Option Value)} {oc_Needs___iter__ kV_Needs___iter__ dc_Needs___iter__ pm_Needs___iter__ cd_Needs___iter__ ct_Needs___iter__ : Value}
    {od_gain_of an_gain_of : Option Addr} {sl_gain_of : Array (Option Value)} {oc_gain_of kV_gain_of dc_gain_of pm_gain_of cd_gain_of ct_gain_of : Value}
    {od_further an_further : Option Addr} {sl_further : Array (Option Value)} {oc_further kV_further dc_further pm_further cd_further ct_further : Value}
    {od_closed_at an_closed_at : Option Addr} {sl_closed_at : Array (Option Value)} {oc_closed_at kV_closed_at dc_closed_at pm_closed_at cd_closed_at ct_closed_at : Value}
    {od_gaining an_gaining : Option Addr} {sl_gaining : Array (Option Value)} {oc_gaining kV_gaining dc_gaining pm_gaining cd_gaining ct_gaining : Value}
    {od_common an_common : Option Addr} {sl_common : Array (Option Value)} {oc_common kV_common dc_common pm_common cd_common ct_common : Value}
    {od_fraction_of an_fraction_of : Option Addr} {sl_fraction_of : Array (Option Value)} {oc_fraction_of kV_fraction_of dc_fraction_of pm_fraction_of cd_fraction_of ct_fraction_of : Value}
    {od_turn_of an_turn_of : Option Addr} {sl_turn_of : Array (Option Value)} {oc_turn_of kV_turn_of dc_turn_of pm_turn_of cd_turn_of ct_turn_of : Value}
    {od_worth_of an_worth_of : Option Addr} {sl_worth_of : Array (Option Value)} {oc_worth_of kV_worth_of dc_worth_of pm_worth_of cd_worth_of ct_worth_of : Value}
    {od_best_ring an_best_ring : Option Addr} {sl_best_ring : Array (Option Value)} {oc_best_ring kV_best_ring dc_best_ring pm_best_ring cd_best_ring ct_best_ring : Value}
    {od_ring_for an_ring_for : Option Addr} {sl_ring_for : Array (Option Value)} {oc_ring_for kV_ring_for dc_ring_for pm_ring_for cd_ring_for ct_ring_for : Value}
    {od_is_count an_is_count : Option Addr} {sl_is_count : Array (Option Value)} {oc_is_count kV_is_count dc_is_count pm_is_count cd_is_count ct_is_count : Value}
    {od_are_counts an_are_counts : Option Addr} {sl_are_counts : Array (Option Value)} {oc_are_counts kV_are_counts dc_are_counts pm_are_counts cd_are_counts ct_are_counts : Value}
    {od_is_row an_is_row : Option Addr} {sl_is_row : Array (Option Value)} {oc_is_row kV_is_row dc_is_row pm_is_row cd_is_row ct_is_row : Value}
    {od_Needs___init__ an_Needs___init__ : Option Addr} {sl_Needs___init__ : Array (Option Value)} {oc_Needs___init__ kV_Needs___init__ dc_Needs___init__ pm_Needs___init__ cd_Needs___init__ ct_Needs___init__ : Value}
    {od_Plan___len__ an_Plan___len__ : Option Addr} {sl_Plan___len__ : Array (Option Value)} {oc_Plan___len__ kV_Plan___len__ dc_Plan___len__ pm_Plan___len__ cd_Plan___len__ ct_Plan___len__ : Value}
    {od_Plan___iter__ an_Plan___iter__ : Option Addr} {sl_Plan___iter__ : Array (Option Value)} {oc_Plan___iter__ kV_Plan___iter__ dc_Plan___iter__ pm_Plan___iter__ cd_Plan___iter__ ct_Plan___iter__ : Value}
    {od_up an_up : Option Addr} {sl_up : Array (Option Value)} {oc_up kV_up dc_up pm_up cd_up ct_up : Value}
    {od_step_hours an_step_hours : Option Addr} {sl_step_hours : Array (Option Value)} {oc_step_hours kV_step_hours dc_step_hours pm_step_hours cd_step_hours ct_step_hours : Value}
    {od_winds an_winds : Option Addr} {sl_winds : Array (Option Value)} {oc_winds kV_winds dc_winds pm_winds cd_winds ct_winds : Value}
    {od_ring_bound an_ring_bound : Option Addr} {sl_ring_bound : Array (Option Value)} {oc_ring_bound kV_ring_bound dc_ring_bound pm_ring_bound cd_ring_bound ct_ring_bound : Value}
    {od_fewest an_fewest : Option Addr} {sl_fewest : Array (Option Value)} {oc_fewest kV_fewest dc_fewest pm_fewest cd_fewest ct_fewest : Value}
    {od_enough an_enough : Option Addr} {sl_enough : Array (Option Value)} {oc_enough kV_enough dc_enough pm_enough cd_enough ct_enough : Value}
    {od_Plan___init__ an_Plan___init__ : Option Addr} {sl_Plan___init__ : Array (Option Value)} {oc_Plan___init__ kV_Plan___init__ dc_Plan___init__ pm_Plan___init__ cd_Plan___init__ ct_Plan___init__ : Value}
    {od_plan_of an_plan_of : Option Addr} {sl_plan_of : Array (Option Value)} {oc_plan_of kV_plan_of dc_plan_of pm_plan_of cd_plan_of ct_plan_of : Value}
    {od_settled an_settled : Option Addr} {sl_settled : Array (Option Value)} {oc_settled kV_settled dc_settled pm_settled cd_settled ct_settled : Value}
    {od_plan_for an_plan_for : Option Addr} {sl_plan_for : Array (Option Value)} {oc_plan_for kV_plan_for dc_plan_for pm_plan_for cd_plan_for ct_plan_for : Value}
    {od_Plan___eq__ an_Plan___eq__ : Option Addr} {sl_Plan___eq__ : Array (Option Value)} {oc_Plan___eq__ kV_Plan___eq__ dc_Plan___eq__ pm_Plan___eq__ cd_Plan___eq__ ct_Plan___eq__ : Value}
    {od__law_is_whole an__law_is_whole : Option Addr} {sl__law_is_whole : Array (Option Value)} {oc__law_is_whole kV__law_is_whole dc__law_is_whole pm__law_is_whole cd__law_is_whole ct__law_is_whole : Value}
    {od__law_is_count an__law_is_count : Option Addr} {sl__law_is_count : Array (Option Value)} {oc__law_is_count kV__law_is_count dc__law_is_count pm__law_is_count cd__law_is_count ct__law_is_count : Value}
    {od__law_serving an__law_serving : Option Addr} {sl__law_serving : Array (Option Value)} {oc__law_serving kV__law_serving dc__law_serving pm__law_serving cd__law_serving ct__law_serving : Value}
    {od__law_there an__law_there : Option Addr} {sl__law_there : Array (Option Value)} {oc__law_there kV__law_there dc__law_there pm__law_there cd__law_there ct__law_there : Value}
    {od__law_serves an__law_serves : Option Addr} {sl__law_serves : Array (Option Value)} {oc__law_serves kV__law_serves dc__law_serves pm__law_serves cd__law_serves ct__law_serves : Value}
    {od__law_is_hour an__law_is_hour : Option Addr} {sl__law_is_hour : Array (Option Value)} {oc__law_is_hour kV__law_is_hour dc__law_is_hour pm__law_is_hour cd__law_is_hour ct__law_is_hour : Value}
    {od__law_is_ring an__law_is_ring : Option Addr} {sl__law_is_ring : Array (Option Value)} {oc__law_is_ring kV__law_is_ring dc__law_is_ring pm__law_is_ring cd__law_is_ring ct__law_is_ring : Value}
    {od__law_hop an__law_hop : Option Addr} {sl__law_hop : Array (Option Value)} {oc__law_hop kV__law_hop dc__law_hop pm__law_hop cd__law_hop ct__law_hop : Value}
    {od__law_wound an__law_wound : Option Addr} {sl__law_wound : Array (Option Value)} {oc__law_wound kV__law_wound dc__law_wound pm__law_wound cd__law_wound ct__law_wound : Value}
    {od__law_bound_of an__law_bound_of : Option Addr} {sl__law_bound_of : Array (Option Value)} {oc__law_bound_of kV__law_bound_of dc__law_bound_of pm__law_bound_of cd__law_bound_of ct__law_bound_of : Value}
    {od__law_shown an__law_shown : Option Addr} {sl__law_shown : Array (Option Value)} {oc__law_shown kV__law_shown dc__law_shown pm__law_shown cd__law_shown ct__law_shown : Value}
    {od__law_alike an__law_alike : Option Addr} {sl__law_alike : Array (Option Value)} {oc__law_alike kV__law_alike dc__law_alike pm__law_alike cd__law_alike ct__law_alike : Value}
    {od__law_papers_right an__law_papers_right : Option Addr} {sl__law_papers_right : Array (Option Value)} {oc__law_papers_right kV__law_papers_right dc__law_papers_right pm__law_papers_right cd__law_papers_right ct__law_papers_right : Value}
    {od_law an_law : Option Addr} {sl_law : Array (Option Value)} {oc_law kV_law dc_law pm_law cd_law ct_law : Value}
    {t_MOST_HOURS : Tok}
    (a_Clock : PySem.W.nsIn K mainGlobals "Clock" = some (some (.ref c_Clock)))
    (pg_Clock : PySem.W.plainGet K c_Clock Str.empty = true)
    (hd_Clock : PySem.W.hasDictIn K c_Clock = true)
    (po_Clock : PySem.W.plainOver K c_Clock = true)
    (sa_Clock : PySem.W.findIn K (.ref c_Clock) "__setattr__" = some (some (.builtin "object.__setattr__")))
    (sf_Clock : PySem.W.selfFirst K c_Clock = true)
    (a_Needs : PySem.W.nsIn K mainGlobals "Needs" = some (some (.ref c_Needs)))
    (pg_Needs : PySem.W.plainGet K c_Needs Str.empty = true)
    (hd_Needs : PySem.W.hasDictIn K c_Needs = true)
    (po_Needs : PySem.W.plainOver K c_Needs = true)
    (sa_Needs : PySem.W.findIn K (.ref c_Needs) "__setattr__" = some (some (.builtin "object.__setattr__")))
    (sf_Needs : PySem.W.selfFirst K c_Needs = true)
    (a_Plan : PySem.W.nsIn K mainGlobals "Plan" = some (some (.ref c_Plan)))
    (pg_Plan : PySem.W.plainGet K c_Plan Str.empty = true)
    (hd_Plan : PySem.W.hasDictIn K c_Plan = true)
    (po_Plan : PySem.W.plainOver K c_Plan = true)
    (sa_Plan : PySem.W.findIn K (.ref c_Plan) "__setattr__" = some (some (.builtin "object.__setattr__")))
    (sf_Plan : PySem.W.selfFirst K c_Plan = true)
    (n_Clock_kept_stays : PySem.W.findIn K (.ref c_Clock) "kept_stays" = some none)
    (n_Clock_kept_widths : PySem.W.findIn K (.ref c_Clock) "kept_widths" = some none)
    (n_Needs_kept_row : PySem.W.findIn K (.ref c_Needs) "kept_row" = some none)
    (n_Plan_kept_begins : PySem.W.findIn K (.ref c_Plan) "kept_begins" = some none)
    (a__law_bag : PySem.W.nsIn K mainGlobals "_law_bag" = some (some (.ref f__law_bag)))
    (l__law_bag : K.lookup f__law_bag = some ⟨oc__law_bag, od__law_bag, .func (PySem.W.fnOf "_law_bag" "_law_bag" (defArgs s__law_bag) (defBody s__law_bag) (defScope s__law_bag) .none kV__law_bag dc__law_bag pm__law_bag an__law_bag cd__law_bag ct__law_bag), sl__law_bag⟩)
    (c__law_bag : PySem.W.codeIn K cd__law_bag "_law_bag" = true)
    (k__law_bag : PySem.W.keepIn K (.ref f__law_bag) = true)
    (a__law_take : PySem.W.nsIn K mainGlobals "_law_take" = some (some (.ref f__law_take)))
    (l__law_take : K.lookup f__law_take = some ⟨oc__law_take, od__law_take, .func (PySem.W.fnOf "_law_take" "_law_take" (defArgs s__law_take) (defBody s__law_take) (defScope s__law_take) .none kV__law_take dc__law_take pm__law_take an__law_take cd__law_take ct__law_take), sl__law_take⟩)
    (c__law_take : PySem.W.codeIn K cd__law_take "_law_take" = true)
    (k__law_take : PySem.W.keepIn K (.ref f__law_take) = true)
    (a__law_number : PySem.W.nsIn K mainGlobals "_law_number" = some (some (.ref f__law_number)))
    (l__law_number : K.lookup f__law_number = some ⟨oc__law_number, od__law_number, .func (PySem.W.fnOf "_law_number" "_law_number" (defArgs s__law_number) (defBody s__law_number) (defScope s__law_number) .none kV__law_number dc__law_number pm__law_number an__law_number cd__law_number ct__law_number), sl__law_number⟩)
    (c__law_number : PySem.W.codeIn K cd__law_number "_law_number" = true)
    (k__law_number : PySem.W.keepIn K (.ref f__law_number) = true)
    (a__law_numbers : PySem.W.nsIn K mainGlobals "_law_numbers" = some (some (.ref f__law_numbers)))
    (l__law_numbers : K.lookup f__law_numbers = some ⟨oc__law_numbers, od__law_numbers, .func (PySem.W.fnOf "_law_numbers" "_law_numbers" (defArgs s__law_numbers) (defBody s__law_numbers) (defScope s__law_numbers) .none kV__law_numbers dc__law_numbers pm__law_numbers an__law_numbers cd__law_numbers ct__law_numbers), sl__law_numbers⟩)
    (c__law_numbers : PySem.W.codeIn K cd__law_numbers "_law_numbers" = true)
    (k__law_numbers : PySem.W.keepIn K (.ref f__law_numbers) = true)
    (a__law_wants : PySem.W.nsIn K mainGlobals "_law_wants" = some (some (.ref f__law_wants)))
    (l__law_wants : K.lookup f__law_wants = some ⟨oc__law_wants, od__law_wants, .func (PySem.W.fnOf "_law_wants" "_law_wants" (defArgs s__law_wants) (defBody s__law_wants) (defScope s__law_wants) .none kV__law_wants dc__law_wants pm__law_wants an__law_wants cd__law_wants ct__law_wants), sl__law_wants⟩)
    (c__law_wants : PySem.W.codeIn K cd__law_wants "_law_wants" = true)
    (k__law_wants : PySem.W.keepIn K (.ref f__law_wants) = true)
    (a__law_stays : PySem.W.nsIn K mainGlobals "_law_stays" = some (some (.ref f__law_stays)))
    (l__law_stays : K.lookup f__law_stays = some ⟨oc__law_stays, od__law_stays, .func (PySem.W.fnOf "_law_stays" "_law_stays" (defArgs s__law_stays) (defBody s__law_stays) (defScope s__law_stays) .none kV__law_stays dc__law_stays pm__law_stays an__law_stays cd__law_stays ct__law_stays), sl__law_stays⟩)
    (c__law_stays : PySem.W.codeIn K cd__law_stays "_law_stays" = true)
    (k__law_stays : PySem.W.keepIn K (.ref f__law_stays) = true)
    (a_is_integer : PySem.W.nsIn K mainGlobals "is_integer" = some (some (.ref f_is_integer)))
    (l_is_integer : K.lookup f_is_integer = some ⟨oc_is_integer, od_is_integer, .func (PySem.W.fnOf "is_integer" "is_integer" (defArgs s_is_integer) (defBody s_is_integer) (defScope s_is_integer) .none kV_is_integer dc_is_integer pm_is_integer an_is_integer cd_is_integer ct_is_integer), sl_is_integer⟩)
    (c_is_integer : PySem.W.codeIn K cd_is_integer "is_integer" = true)
    (k_is_integer : PySem.W.keepIn K (.ref f_is_integer) = true)
    (a_are_stays : PySem.W.nsIn K mainGlobals "are_stays" = some (some (.ref f_are_stays)))
    (l_are_stays : K.lookup f_are_stays = some ⟨oc_are_stays, od_are_stays, .func (PySem.W.fnOf "are_stays" "are_stays" (defArgs s_are_stays) (defBody s_are_stays) (defScope s_are_stays) .none kV_are_stays dc_are_stays pm_are_stays an_are_stays cd_are_stays ct_are_stays), sl_are_stays⟩)
    (c_are_stays : PySem.W.codeIn K cd_are_stays "are_stays" = true)
    (k_are_stays : PySem.W.keepIn K (.ref f_are_stays) = true)
    (a_need_order : PySem.W.nsIn K mainGlobals "need_order" = some (some (.ref f_need_order)))
    (l_need_order : K.lookup f_need_order = some ⟨oc_need_order, od_need_order, .func (PySem.W.fnOf "need_order" "need_order" (defArgs s_need_order) (defBody s_need_order) (defScope s_need_order) .none kV_need_order dc_need_order pm_need_order an_need_order cd_need_order ct_need_order), sl_need_order⟩)
    (c_need_order : PySem.W.codeIn K cd_need_order "need_order" = true)
    (k_need_order : PySem.W.keepIn K (.ref f_need_order) = true)
    (a_width_of : PySem.W.nsIn K mainGlobals "width_of" = some (some (.ref f_width_of)))
    (l_width_of : K.lookup f_width_of = some ⟨oc_width_of, od_width_of, .func (PySem.W.fnOf "width_of" "width_of" (defArgs s_width_of) (defBody s_width_of) (defScope s_width_of) .none kV_width_of dc_width_of pm_width_of an_width_of cd_width_of ct_width_of), sl_width_of⟩)
    (c_width_of : PySem.W.codeIn K cd_width_of "width_of" = true)
    (k_width_of : PySem.W.keepIn K (.ref f_width_of) = true)
    (a_Clock___init__ : PySem.W.findIn K (.ref c_Clock) "__init__" = some (some (.ref f_Clock___init__)))
    (i_Clock___init__ : PySem.W.isFn K (.ref f_Clock___init__) = true)
    (mm_Clock : PySem.W.makesIn K c_Clock = true)
    (mc_Clock : PySem.W.keepIn K (.ref c_Clock) = true)
    (l_Clock___init__ : K.lookup f_Clock___init__ = some ⟨oc_Clock___init__, od_Clock___init__, .func (PySem.W.fnOf "__init__" "Clock.__init__" (defArgs s_Clock___init__) (defBody s_Clock___init__) (defScope s_Clock___init__) .none kV_Clock___init__ dc_Clock___init__ pm_Clock___init__ an_Clock___init__ cd_Clock___init__ ct_Clock___init__), sl_Clock___init__⟩)
    (c_Clock___init__ : PySem.W.codeIn K cd_Clock___init__ "Clock.__init__" = true)
    (k_Clock___init__ : PySem.W.keepIn K (.ref f_Clock___init__) = true)
    (a__law_clock : PySem.W.nsIn K mainGlobals "_law_clock" = some (some (.ref f__law_clock)))
    (l__law_clock : K.lookup f__law_clock = some ⟨oc__law_clock, od__law_clock, .func (PySem.W.fnOf "_law_clock" "_law_clock" (defArgs s__law_clock) (defBody s__law_clock) (defScope s__law_clock) .none kV__law_clock dc__law_clock pm__law_clock an__law_clock cd__law_clock ct__law_clock), sl__law_clock⟩)
    (c__law_clock : PySem.W.codeIn K cd__law_clock "_law_clock" = true)
    (k__law_clock : PySem.W.keepIn K (.ref f__law_clock) = true)
    (a__law_mixed : PySem.W.nsIn K mainGlobals "_law_mixed" = some (some (.ref f__law_mixed)))
    (l__law_mixed : K.lookup f__law_mixed = some ⟨oc__law_mixed, od__law_mixed, .func (PySem.W.fnOf "_law_mixed" "_law_mixed" (defArgs s__law_mixed) (defBody s__law_mixed) (defScope s__law_mixed) .none kV__law_mixed dc__law_mixed pm__law_mixed an__law_mixed cd__law_mixed ct__law_mixed), sl__law_mixed⟩)
    (c__law_mixed : PySem.W.codeIn K cd__law_mixed "_law_mixed" = true)
    (k__law_mixed : PySem.W.keepIn K (.ref f__law_mixed) = true)
    (a_Clock_stays : PySem.W.findIn K (.ref c_Clock) "stays" = some (some (.ref f_Clock_stays)))
    (i_Clock_stays : PySem.W.isFn K (.ref f_Clock_stays) = true)
    (l_Clock_stays : K.lookup f_Clock_stays = some ⟨oc_Clock_stays, od_Clock_stays, .func (PySem.W.fnOf "stays" "Clock.stays" (defArgs s_Clock_stays) (defBody s_Clock_stays) (defScope s_Clock_stays) .none kV_Clock_stays dc_Clock_stays pm_Clock_stays an_Clock_stays cd_Clock_stays ct_Clock_stays), sl_Clock_stays⟩)
    (c_Clock_stays : PySem.W.codeIn K cd_Clock_stays "Clock.stays" = true)
    (k_Clock_stays : PySem.W.keepIn K (.ref f_Clock_stays) = true)
    (pa_Clock_hours : PySem.W.findIn K (.ref c_Clock) "hours" = some (some (.ref q_Clock_hours)))
    (pb_Clock_hours : PySem.W.specialIn K (.ref q_Clock_hours) "__get__" = some (some (.builtin "property.__get__")))
    (pc_Clock_hours : PySem.W.takesIn K (.ref q_Clock_hours) = some true)
    (pd_Clock_hours : PySem.W.recIn K q_Clock_hours "property" = some (.ref f_Clock_hours :: rest_Clock_hours))
    (l_Clock_hours : K.lookup f_Clock_hours = some ⟨oc_Clock_hours, od_Clock_hours, .func (PySem.W.fnOf "hours" "Clock.hours" (defArgs s_Clock_hours) (defBody s_Clock_hours) (defScope s_Clock_hours) .none kV_Clock_hours dc_Clock_hours pm_Clock_hours an_Clock_hours cd_Clock_hours ct_Clock_hours), sl_Clock_hours⟩)
    (c_Clock_hours : PySem.W.codeIn K cd_Clock_hours "Clock.hours" = true)
    (k_Clock_hours : PySem.W.keepIn K (.ref f_Clock_hours) = true)
    (pa_Needs_hours : PySem.W.findIn K (.ref c_Needs) "hours" = some (some (.ref q_Needs_hours)))
    (pb_Needs_hours : PySem.W.specialIn K (.ref q_Needs_hours) "__get__" = some (some (.builtin "property.__get__")))
    (pc_Needs_hours : PySem.W.takesIn K (.ref q_Needs_hours) = some true)
    (pd_Needs_hours : PySem.W.recIn K q_Needs_hours "property" = some (.ref f_Needs_hours :: rest_Needs_hours))
    (l_Needs_hours : K.lookup f_Needs_hours = some ⟨oc_Needs_hours, od_Needs_hours, .func (PySem.W.fnOf "hours" "Needs.hours" (defArgs s_Needs_hours) (defBody s_Needs_hours) (defScope s_Needs_hours) .none kV_Needs_hours dc_Needs_hours pm_Needs_hours an_Needs_hours cd_Needs_hours ct_Needs_hours), sl_Needs_hours⟩)
    (c_Needs_hours : PySem.W.codeIn K cd_Needs_hours "Needs.hours" = true)
    (k_Needs_hours : PySem.W.keepIn K (.ref f_Needs_hours) = true)
    (a_need_alike : PySem.W.nsIn K mainGlobals "need_alike" = some (some (.ref f_need_alike)))
    (l_need_alike : K.lookup f_need_alike = some ⟨oc_need_alike, od_need_alike, .func (PySem.W.fnOf "need_alike" "need_alike" (defArgs s_need_alike) (defBody s_need_alike) (defScope s_need_alike) .none kV_need_alike dc_need_alike pm_need_alike an_need_alike cd_need_alike ct_need_alike), sl_need_alike⟩)
    (c_need_alike : PySem.W.codeIn K cd_need_alike "need_alike" = true)
    (k_need_alike : PySem.W.keepIn K (.ref f_need_alike) = true)
    (a_Clock_widths : PySem.W.findIn K (.ref c_Clock) "widths" = some (some (.ref f_Clock_widths)))
    (i_Clock_widths : PySem.W.isFn K (.ref f_Clock_widths) = true)
    (l_Clock_widths : K.lookup f_Clock_widths = some ⟨oc_Clock_widths, od_Clock_widths, .func (PySem.W.fnOf "widths" "Clock.widths" (defArgs s_Clock_widths) (defBody s_Clock_widths) (defScope s_Clock_widths) .none kV_Clock_widths dc_Clock_widths pm_Clock_widths an_Clock_widths cd_Clock_widths ct_Clock_widths), sl_Clock_widths⟩)
    (c_Clock_widths : PySem.W.codeIn K cd_Clock_widths "Clock.widths" = true)
    (k_Clock_widths : PySem.W.keepIn K (.ref f_Clock_widths) = true)
    (a_is_hour : PySem.W.nsIn K mainGlobals "is_hour" = some (some (.ref f_is_hour)))
    (l_is_hour : K.lookup f_is_hour = some ⟨oc_is_hour, od_is_hour, .func (PySem.W.fnOf "is_hour" "is_hour" (defArgs s_is_hour) (defBody s_is_hour) (defScope s_is_hour) .none kV_is_hour dc_is_hour pm_is_hour an_is_hour cd_is_hour ct_is_hour), sl_is_hour⟩)
    (c_is_hour : PySem.W.codeIn K cd_is_hour "is_hour" = true)
    (k_is_hour : PySem.W.keepIn K (.ref f_is_hour) = true)
    (a_Needs___getitem__ : PySem.W.findIn K (.ref c_Needs) "__getitem__" = some (some (.ref f_Needs___getitem__)))
    (i_Needs___getitem__ : PySem.W.isFn K (.ref f_Needs___getitem__) = true)
    (fi_Needs___getitem__ : PySem.W.fnIn K f_Needs___getitem__ = true)
    (l_Needs___getitem__ : K.lookup f_Needs___getitem__ = some ⟨oc_Needs___getitem__, od_Needs___getitem__, .func (PySem.W.fnOf "__getitem__" "Needs.__getitem__" (defArgs s_Needs___getitem__) (defBody s_Needs___getitem__) (defScope s_Needs___getitem__) .none kV_Needs___getitem__ dc_Needs___getitem__ pm_Needs___getitem__ an_Needs___getitem__ cd_Needs___getitem__ ct_Needs___getitem__), sl_Needs___getitem__⟩)
    (c_Needs___getitem__ : PySem.W.codeIn K cd_Needs___getitem__ "Needs.__getitem__" = true)
    (k_Needs___getitem__ : PySem.W.keepIn K (.ref f_Needs___getitem__) = true)
    (a_need_edges : PySem.W.nsIn K mainGlobals "need_edges" = some (some (.ref f_need_edges)))
    (l_need_edges : K.lookup f_need_edges = some ⟨oc_need_edges, od_need_edges, .func (PySem.W.fnOf "need_edges" "need_edges" (defArgs s_need_edges) (defBody s_need_edges) (defScope s_need_edges) .none kV_need_edges dc_need_edges pm_need_edges an_need_edges cd_need_edges ct_need_edges), sl_need_edges⟩)
    (c_need_edges : PySem.W.codeIn K cd_need_edges "need_edges" = true)
    (k_need_edges : PySem.W.keepIn K (.ref f_need_edges) = true)
    (a_Needs___len__ : PySem.W.findIn K (.ref c_Needs) "__len__" = some (some (.ref f_Needs___len__)))
    (i_Needs___len__ : PySem.W.isFn K (.ref f_Needs___len__) = true)
    (l_Needs___len__ : K.lookup f_Needs___len__ = some ⟨oc_Needs___len__, od_Needs___len__, .func (PySem.W.fnOf "__len__" "Needs.__len__" (defArgs s_Needs___len__) (defBody s_Needs___len__) (defScope s_Needs___len__) .none kV_Needs___len__ dc_Needs___len__ pm_Needs___len__ an_Needs___len__ cd_Needs___len__ ct_Needs___len__), sl_Needs___len__⟩)
    (c_Needs___len__ : PySem.W.codeIn K cd_Needs___len__ "Needs.__len__" = true)
    (k_Needs___len__ : PySem.W.keepIn K (.ref f_Needs___len__) = true)
    (a_Needs___iter__ : PySem.W.findIn K (.ref c_Needs) "__iter__" = some (some (.ref f_Needs___iter__)))
    (i_Needs___iter__ : PySem.W.isFn K (.ref f_Needs___iter__) = true)
    (l_Needs___iter__ : K.lookup f_Needs___iter__ = some ⟨oc_Needs___iter__, od_Needs___iter__, .func (PySem.W.fnOf "__iter__" "Needs.__iter__" (defArgs s_Needs___iter__) (defBody s_Needs___iter__) (defScope s_Needs___iter__) .none kV_Needs___iter__ dc_Needs___iter__ pm_Needs___iter__ an_Needs___iter__ cd_Needs___iter__ ct_Needs___iter__), sl_Needs___iter__⟩)
    (c_Needs___iter__ : PySem.W.codeIn K cd_Needs___iter__ "Needs.__iter__" = true)
    (k_Needs___iter__ : PySem.W.keepIn K (.ref f_Needs___iter__) = true)
    (a_gain_of : PySem.W.nsIn K mainGlobals "gain_of" = some (some (.ref f_gain_of)))
    (l_gain_of : K.lookup f_gain_of = some ⟨oc_gain_of, od_gain_of, .func (PySem.W.fnOf "gain_of" "gain_of" (defArgs s_gain_of) (defBody s_gain_of) (defScope s_gain_of) .none kV_gain_of dc_gain_of pm_gain_of an_gain_of cd_gain_of ct_gain_of), sl_gain_of⟩)
    (c_gain_of : PySem.W.codeIn K cd_gain_of "gain_of" = true)
    (k_gain_of : PySem.W.keepIn K (.ref f_gain_of) = true)
    (a_further : PySem.W.nsIn K mainGlobals "further" = some (some (.ref f_further)))
    (l_further : K.lookup f_further = some ⟨oc_further, od_further, .func (PySem.W.fnOf "further" "further" (defArgs s_further) (defBody s_further) (defScope s_further) .none kV_further dc_further pm_further an_further cd_further ct_further), sl_further⟩)
    (c_further : PySem.W.codeIn K cd_further "further" = true)
    (k_further : PySem.W.keepIn K (.ref f_further) = true)
    (a_closed_at : PySem.W.nsIn K mainGlobals "closed_at" = some (some (.ref f_closed_at)))
    (l_closed_at : K.lookup f_closed_at = some ⟨oc_closed_at, od_closed_at, .func (PySem.W.fnOf "closed_at" "closed_at" (defArgs s_closed_at) (defBody s_closed_at) (defScope s_closed_at) .none kV_closed_at dc_closed_at pm_closed_at an_closed_at cd_closed_at ct_closed_at), sl_closed_at⟩)
    (c_closed_at : PySem.W.codeIn K cd_closed_at "closed_at" = true)
    (k_closed_at : PySem.W.keepIn K (.ref f_closed_at) = true)
    (a_gaining : PySem.W.nsIn K mainGlobals "gaining" = some (some (.ref f_gaining)))
    (l_gaining : K.lookup f_gaining = some ⟨oc_gaining, od_gaining, .func (PySem.W.fnOf "gaining" "gaining" (defArgs s_gaining) (defBody s_gaining) (defScope s_gaining) .none kV_gaining dc_gaining pm_gaining an_gaining cd_gaining ct_gaining), sl_gaining⟩)
    (c_gaining : PySem.W.codeIn K cd_gaining "gaining" = true)
    (k_gaining : PySem.W.keepIn K (.ref f_gaining) = true)
    (a_common : PySem.W.nsIn K mainGlobals "common" = some (some (.ref f_common)))
    (l_common : K.lookup f_common = some ⟨oc_common, od_common, .func (PySem.W.fnOf "common" "common" (defArgs s_common) (defBody s_common) (defScope s_common) .none kV_common dc_common pm_common an_common cd_common ct_common), sl_common⟩)
    (c_common : PySem.W.codeIn K cd_common "common" = true)
    (k_common : PySem.W.keepIn K (.ref f_common) = true)
    (a_fraction_of : PySem.W.nsIn K mainGlobals "fraction_of" = some (some (.ref f_fraction_of)))
    (l_fraction_of : K.lookup f_fraction_of = some ⟨oc_fraction_of, od_fraction_of, .func (PySem.W.fnOf "fraction_of" "fraction_of" (defArgs s_fraction_of) (defBody s_fraction_of) (defScope s_fraction_of) .none kV_fraction_of dc_fraction_of pm_fraction_of an_fraction_of cd_fraction_of ct_fraction_of), sl_fraction_of⟩)
    (c_fraction_of : PySem.W.codeIn K cd_fraction_of "fraction_of" = true)
    (k_fraction_of : PySem.W.keepIn K (.ref f_fraction_of) = true)
    (a_turn_of : PySem.W.nsIn K mainGlobals "turn_of" = some (some (.ref f_turn_of)))
    (l_turn_of : K.lookup f_turn_of = some ⟨oc_turn_of, od_turn_of, .func (PySem.W.fnOf "turn_of" "turn_of" (defArgs s_turn_of) (defBody s_turn_of) (defScope s_turn_of) .none kV_turn_of dc_turn_of pm_turn_of an_turn_of cd_turn_of ct_turn_of), sl_turn_of⟩)
    (c_turn_of : PySem.W.codeIn K cd_turn_of "turn_of" = true)
    (k_turn_of : PySem.W.keepIn K (.ref f_turn_of) = true)
    (a_worth_of : PySem.W.nsIn K mainGlobals "worth_of" = some (some (.ref f_worth_of)))
    (l_worth_of : K.lookup f_worth_of = some ⟨oc_worth_of, od_worth_of, .func (PySem.W.fnOf "worth_of" "worth_of" (defArgs s_worth_of) (defBody s_worth_of) (defScope s_worth_of) .none kV_worth_of dc_worth_of pm_worth_of an_worth_of cd_worth_of ct_worth_of), sl_worth_of⟩)
    (c_worth_of : PySem.W.codeIn K cd_worth_of "worth_of" = true)
    (k_worth_of : PySem.W.keepIn K (.ref f_worth_of) = true)
    (a_best_ring : PySem.W.nsIn K mainGlobals "best_ring" = some (some (.ref f_best_ring)))
    (l_best_ring : K.lookup f_best_ring = some ⟨oc_best_ring, od_best_ring, .func (PySem.W.fnOf "best_ring" "best_ring" (defArgs s_best_ring) (defBody s_best_ring) (defScope s_best_ring) .none kV_best_ring dc_best_ring pm_best_ring an_best_ring cd_best_ring ct_best_ring), sl_best_ring⟩)
    (c_best_ring : PySem.W.codeIn K cd_best_ring "best_ring" = true)
    (k_best_ring : PySem.W.keepIn K (.ref f_best_ring) = true)
    (a_ring_for : PySem.W.nsIn K mainGlobals "ring_for" = some (some (.ref f_ring_for)))
    (l_ring_for : K.lookup f_ring_for = some ⟨oc_ring_for, od_ring_for, .func (PySem.W.fnOf "ring_for" "ring_for" (defArgs s_ring_for) (defBody s_ring_for) (defScope s_ring_for) .none kV_ring_for dc_ring_for pm_ring_for an_ring_for cd_ring_for ct_ring_for), sl_ring_for⟩)
    (c_ring_for : PySem.W.codeIn K cd_ring_for "ring_for" = true)
    (k_ring_for : PySem.W.keepIn K (.ref f_ring_for) = true)
    (a_is_count : PySem.W.nsIn K mainGlobals "is_count" = some (some (.ref f_is_count)))
    (l_is_count : K.lookup f_is_count = some ⟨oc_is_count, od_is_count, .func (PySem.W.fnOf "is_count" "is_count" (defArgs s_is_count) (defBody s_is_count) (defScope s_is_count) .none kV_is_count dc_is_count pm_is_count an_is_count cd_is_count ct_is_count), sl_is_count⟩)
    (c_is_count : PySem.W.codeIn K cd_is_count "is_count" = true)
    (k_is_count : PySem.W.keepIn K (.ref f_is_count) = true)
    (a_are_counts : PySem.W.nsIn K mainGlobals "are_counts" = some (some (.ref f_are_counts)))
    (l_are_counts : K.lookup f_are_counts = some ⟨oc_are_counts, od_are_counts, .func (PySem.W.fnOf "are_counts" "are_counts" (defArgs s_are_counts) (defBody s_are_counts) (defScope s_are_counts) .none kV_are_counts dc_are_counts pm_are_counts an_are_counts cd_are_counts ct_are_counts), sl_are_counts⟩)
    (c_are_counts : PySem.W.codeIn K cd_are_counts "are_counts" = true)
    (k_are_counts : PySem.W.keepIn K (.ref f_are_counts) = true)
    (a_is_row : PySem.W.nsIn K mainGlobals "is_row" = some (some (.ref f_is_row)))
    (l_is_row : K.lookup f_is_row = some ⟨oc_is_row, od_is_row, .func (PySem.W.fnOf "is_row" "is_row" (defArgs s_is_row) (defBody s_is_row) (defScope s_is_row) .none kV_is_row dc_is_row pm_is_row an_is_row cd_is_row ct_is_row), sl_is_row⟩)
    (c_is_row : PySem.W.codeIn K cd_is_row "is_row" = true)
    (k_is_row : PySem.W.keepIn K (.ref f_is_row) = true)
    (a_Needs___init__ : PySem.W.findIn K (.ref c_Needs) "__init__" = some (some (.ref f_Needs___init__)))
    (i_Needs___init__ : PySem.W.isFn K (.ref f_Needs___init__) = true)
    (mm_Needs : PySem.W.makesIn K c_Needs = true)
    (mc_Needs : PySem.W.keepIn K (.ref c_Needs) = true)
    (l_Needs___init__ : K.lookup f_Needs___init__ = some ⟨oc_Needs___init__, od_Needs___init__, .func (PySem.W.fnOf "__init__" "Needs.__init__" (defArgs s_Needs___init__) (defBody s_Needs___init__) (defScope s_Needs___init__) .none kV_Needs___init__ dc_Needs___init__ pm_Needs___init__ an_Needs___init__ cd_Needs___init__ ct_Needs___init__), sl_Needs___init__⟩)
    (c_Needs___init__ : PySem.W.codeIn K cd_Needs___init__ "Needs.__init__" = true)
    (k_Needs___init__ : PySem.W.keepIn K (.ref f_Needs___init__) = true)
    (a_Plan___len__ : PySem.W.findIn K (.ref c_Plan) "__len__" = some (some (.ref f_Plan___len__)))
    (i_Plan___len__ : PySem.W.isFn K (.ref f_Plan___len__) = true)
    (l_Plan___len__ : K.lookup f_Plan___len__ = some ⟨oc_Plan___len__, od_Plan___len__, .func (PySem.W.fnOf "__len__" "Plan.__len__" (defArgs s_Plan___len__) (defBody s_Plan___len__) (defScope s_Plan___len__) .none kV_Plan___len__ dc_Plan___len__ pm_Plan___len__ an_Plan___len__ cd_Plan___len__ ct_Plan___len__), sl_Plan___len__⟩)
    (c_Plan___len__ : PySem.W.codeIn K cd_Plan___len__ "Plan.__len__" = true)
    (k_Plan___len__ : PySem.W.keepIn K (.ref f_Plan___len__) = true)
    (a_Plan___iter__ : PySem.W.findIn K (.ref c_Plan) "__iter__" = some (some (.ref f_Plan___iter__)))
    (i_Plan___iter__ : PySem.W.isFn K (.ref f_Plan___iter__) = true)
    (l_Plan___iter__ : K.lookup f_Plan___iter__ = some ⟨oc_Plan___iter__, od_Plan___iter__, .func (PySem.W.fnOf "__iter__" "Plan.__iter__" (defArgs s_Plan___iter__) (defBody s_Plan___iter__) (defScope s_Plan___iter__) .none kV_Plan___iter__ dc_Plan___iter__ pm_Plan___iter__ an_Plan___iter__ cd_Plan___iter__ ct_Plan___iter__), sl_Plan___iter__⟩)
    (c_Plan___iter__ : PySem.W.codeIn K cd_Plan___iter__ "Plan.__iter__" = true)
    (k_Plan___iter__ : PySem.W.keepIn K (.ref f_Plan___iter__) = true)
    (a_up : PySem.W.nsIn K mainGlobals "up" = some (some (.ref f_up)))
    (l_up : K.lookup f_up = some ⟨oc_up, od_up, .func (PySem.W.fnOf "up" "up" (defArgs s_up) (defBody s_up) (defScope s_up) .none kV_up dc_up pm_up an_up cd_up ct_up), sl_up⟩)
    (c_up : PySem.W.codeIn K cd_up "up" = true)
    (k_up : PySem.W.keepIn K (.ref f_up) = true)
    (a_step_hours : PySem.W.nsIn K mainGlobals "step_hours" = some (some (.ref f_step_hours)))
    (l_step_hours : K.lookup f_step_hours = some ⟨oc_step_hours, od_step_hours, .func (PySem.W.fnOf "step_hours" "step_hours" (defArgs s_step_hours) (defBody s_step_hours) (defScope s_step_hours) .none kV_step_hours dc_step_hours pm_step_hours an_step_hours cd_step_hours ct_step_hours), sl_step_hours⟩)
    (c_step_hours : PySem.W.codeIn K cd_step_hours "step_hours" = true)
    (k_step_hours : PySem.W.keepIn K (.ref f_step_hours) = true)
    (a_winds : PySem.W.nsIn K mainGlobals "winds" = some (some (.ref f_winds)))
    (l_winds : K.lookup f_winds = some ⟨oc_winds, od_winds, .func (PySem.W.fnOf "winds" "winds" (defArgs s_winds) (defBody s_winds) (defScope s_winds) .none kV_winds dc_winds pm_winds an_winds cd_winds ct_winds), sl_winds⟩)
    (c_winds : PySem.W.codeIn K cd_winds "winds" = true)
    (k_winds : PySem.W.keepIn K (.ref f_winds) = true)
    (a_ring_bound : PySem.W.nsIn K mainGlobals "ring_bound" = some (some (.ref f_ring_bound)))
    (l_ring_bound : K.lookup f_ring_bound = some ⟨oc_ring_bound, od_ring_bound, .func (PySem.W.fnOf "ring_bound" "ring_bound" (defArgs s_ring_bound) (defBody s_ring_bound) (defScope s_ring_bound) .none kV_ring_bound dc_ring_bound pm_ring_bound an_ring_bound cd_ring_bound ct_ring_bound), sl_ring_bound⟩)
    (c_ring_bound : PySem.W.codeIn K cd_ring_bound "ring_bound" = true)
    (k_ring_bound : PySem.W.keepIn K (.ref f_ring_bound) = true)
    (a_fewest : PySem.W.nsIn K mainGlobals "fewest" = some (some (.ref f_fewest)))
    (l_fewest : K.lookup f_fewest = some ⟨oc_fewest, od_fewest, .func (PySem.W.fnOf "fewest" "fewest" (defArgs s_fewest) (defBody s_fewest) (defScope s_fewest) .none kV_fewest dc_fewest pm_fewest an_fewest cd_fewest ct_fewest), sl_fewest⟩)
    (c_fewest : PySem.W.codeIn K cd_fewest "fewest" = true)
    (k_fewest : PySem.W.keepIn K (.ref f_fewest) = true)
    (a_enough : PySem.W.nsIn K mainGlobals "enough" = some (some (.ref f_enough)))
    (l_enough : K.lookup f_enough = some ⟨oc_enough, od_enough, .func (PySem.W.fnOf "enough" "enough" (defArgs s_enough) (defBody s_enough) (defScope s_enough) .none kV_enough dc_enough pm_enough an_enough cd_enough ct_enough), sl_enough⟩)
    (c_enough : PySem.W.codeIn K cd_enough "enough" = true)
    (k_enough : PySem.W.keepIn K (.ref f_enough) = true)
    (a_Plan___init__ : PySem.W.findIn K (.ref c_Plan) "__init__" = some (some (.ref f_Plan___init__)))
    (i_Plan___init__ : PySem.W.isFn K (.ref f_Plan___init__) = true)
    (mm_Plan : PySem.W.makesIn K c_Plan = true)
    (mc_Plan : PySem.W.keepIn K (.ref c_Plan) = true)
    (l_Plan___init__ : K.lookup f_Plan___init__ = some ⟨oc_Plan___init__, od_Plan___init__, .func (PySem.W.fnOf "__init__" "Plan.__init__" (defArgs s_Plan___init__) (defBody s_Plan___init__) (defScope s_Plan___init__) .none kV_Plan___init__ dc_Plan___init__ pm_Plan___init__ an_Plan___init__ cd_Plan___init__ ct_Plan___init__), sl_Plan___init__⟩)
    (c_Plan___init__ : PySem.W.codeIn K cd_Plan___init__ "Plan.__init__" = true)
    (k_Plan___init__ : PySem.W.keepIn K (.ref f_Plan___init__) = true)
    (a_plan_of : PySem.W.nsIn K mainGlobals "plan_of" = some (some (.ref f_plan_of)))
    (l_plan_of : K.lookup f_plan_of = some ⟨oc_plan_of, od_plan_of, .func (PySem.W.fnOf "plan_of" "plan_of" (defArgs s_plan_of) (defBody s_plan_of) (defScope s_plan_of) .none kV_plan_of dc_plan_of pm_plan_of an_plan_of cd_plan_of ct_plan_of), sl_plan_of⟩)
    (c_plan_of : PySem.W.codeIn K cd_plan_of "plan_of" = true)
    (k_plan_of : PySem.W.keepIn K (.ref f_plan_of) = true)
    (a_settled : PySem.W.nsIn K mainGlobals "settled" = some (some (.ref f_settled)))
    (l_settled : K.lookup f_settled = some ⟨oc_settled, od_settled, .func (PySem.W.fnOf "settled" "settled" (defArgs s_settled) (defBody s_settled) (defScope s_settled) .none kV_settled dc_settled pm_settled an_settled cd_settled ct_settled), sl_settled⟩)
    (c_settled : PySem.W.codeIn K cd_settled "settled" = true)
    (k_settled : PySem.W.keepIn K (.ref f_settled) = true)
    (a_plan_for : PySem.W.nsIn K mainGlobals "plan_for" = some (some (.ref f_plan_for)))
    (l_plan_for : K.lookup f_plan_for = some ⟨oc_plan_for, od_plan_for, .func (PySem.W.fnOf "plan_for" "plan_for" (defArgs s_plan_for) (defBody s_plan_for) (defScope s_plan_for) .none kV_plan_for dc_plan_for pm_plan_for an_plan_for cd_plan_for ct_plan_for), sl_plan_for⟩)
    (c_plan_for : PySem.W.codeIn K cd_plan_for "plan_for" = true)
    (k_plan_for : PySem.W.keepIn K (.ref f_plan_for) = true)
    (a_Plan___eq__ : PySem.W.findIn K (.ref c_Plan) "__eq__" = some (some (.ref f_Plan___eq__)))
    (i_Plan___eq__ : PySem.W.isFn K (.ref f_Plan___eq__) = true)
    (l_Plan___eq__ : K.lookup f_Plan___eq__ = some ⟨oc_Plan___eq__, od_Plan___eq__, .func (PySem.W.fnOf "__eq__" "Plan.__eq__" (defArgs s_Plan___eq__) (defBody s_Plan___eq__) (defScope s_Plan___eq__) .none kV_Plan___eq__ dc_Plan___eq__ pm_Plan___eq__ an_Plan___eq__ cd_Plan___eq__ ct_Plan___eq__), sl_Plan___eq__⟩)
    (c_Plan___eq__ : PySem.W.codeIn K cd_Plan___eq__ "Plan.__eq__" = true)
    (k_Plan___eq__ : PySem.W.keepIn K (.ref f_Plan___eq__) = true)
    (a__law_is_whole : PySem.W.nsIn K mainGlobals "_law_is_whole" = some (some (.ref f__law_is_whole)))
    (l__law_is_whole : K.lookup f__law_is_whole = some ⟨oc__law_is_whole, od__law_is_whole, .func (PySem.W.fnOf "_law_is_whole" "_law_is_whole" (defArgs s__law_is_whole) (defBody s__law_is_whole) (defScope s__law_is_whole) .none kV__law_is_whole dc__law_is_whole pm__law_is_whole an__law_is_whole cd__law_is_whole ct__law_is_whole), sl__law_is_whole⟩)
    (c__law_is_whole : PySem.W.codeIn K cd__law_is_whole "_law_is_whole" = true)
    (k__law_is_whole : PySem.W.keepIn K (.ref f__law_is_whole) = true)
    (a__law_is_count : PySem.W.nsIn K mainGlobals "_law_is_count" = some (some (.ref f__law_is_count)))
    (l__law_is_count : K.lookup f__law_is_count = some ⟨oc__law_is_count, od__law_is_count, .func (PySem.W.fnOf "_law_is_count" "_law_is_count" (defArgs s__law_is_count) (defBody s__law_is_count) (defScope s__law_is_count) .none kV__law_is_count dc__law_is_count pm__law_is_count an__law_is_count cd__law_is_count ct__law_is_count), sl__law_is_count⟩)
    (c__law_is_count : PySem.W.codeIn K cd__law_is_count "_law_is_count" = true)
    (k__law_is_count : PySem.W.keepIn K (.ref f__law_is_count) = true)
    (a__law_serving : PySem.W.nsIn K mainGlobals "_law_serving" = some (some (.ref f__law_serving)))
    (l__law_serving : K.lookup f__law_serving = some ⟨oc__law_serving, od__law_serving, .func (PySem.W.fnOf "_law_serving" "_law_serving" (defArgs s__law_serving) (defBody s__law_serving) (defScope s__law_serving) .none kV__law_serving dc__law_serving pm__law_serving an__law_serving cd__law_serving ct__law_serving), sl__law_serving⟩)
    (c__law_serving : PySem.W.codeIn K cd__law_serving "_law_serving" = true)
    (k__law_serving : PySem.W.keepIn K (.ref f__law_serving) = true)
    (a__law_there : PySem.W.nsIn K mainGlobals "_law_there" = some (some (.ref f__law_there)))
    (l__law_there : K.lookup f__law_there = some ⟨oc__law_there, od__law_there, .func (PySem.W.fnOf "_law_there" "_law_there" (defArgs s__law_there) (defBody s__law_there) (defScope s__law_there) .none kV__law_there dc__law_there pm__law_there an__law_there cd__law_there ct__law_there), sl__law_there⟩)
    (c__law_there : PySem.W.codeIn K cd__law_there "_law_there" = true)
    (k__law_there : PySem.W.keepIn K (.ref f__law_there) = true)
    (a__law_serves : PySem.W.nsIn K mainGlobals "_law_serves" = some (some (.ref f__law_serves)))
    (l__law_serves : K.lookup f__law_serves = some ⟨oc__law_serves, od__law_serves, .func (PySem.W.fnOf "_law_serves" "_law_serves" (defArgs s__law_serves) (defBody s__law_serves) (defScope s__law_serves) .none kV__law_serves dc__law_serves pm__law_serves an__law_serves cd__law_serves ct__law_serves), sl__law_serves⟩)
    (c__law_serves : PySem.W.codeIn K cd__law_serves "_law_serves" = true)
    (k__law_serves : PySem.W.keepIn K (.ref f__law_serves) = true)
    (a__law_is_hour : PySem.W.nsIn K mainGlobals "_law_is_hour" = some (some (.ref f__law_is_hour)))
    (l__law_is_hour : K.lookup f__law_is_hour = some ⟨oc__law_is_hour, od__law_is_hour, .func (PySem.W.fnOf "_law_is_hour" "_law_is_hour" (defArgs s__law_is_hour) (defBody s__law_is_hour) (defScope s__law_is_hour) .none kV__law_is_hour dc__law_is_hour pm__law_is_hour an__law_is_hour cd__law_is_hour ct__law_is_hour), sl__law_is_hour⟩)
    (c__law_is_hour : PySem.W.codeIn K cd__law_is_hour "_law_is_hour" = true)
    (k__law_is_hour : PySem.W.keepIn K (.ref f__law_is_hour) = true)
    (a__law_is_ring : PySem.W.nsIn K mainGlobals "_law_is_ring" = some (some (.ref f__law_is_ring)))
    (l__law_is_ring : K.lookup f__law_is_ring = some ⟨oc__law_is_ring, od__law_is_ring, .func (PySem.W.fnOf "_law_is_ring" "_law_is_ring" (defArgs s__law_is_ring) (defBody s__law_is_ring) (defScope s__law_is_ring) .none kV__law_is_ring dc__law_is_ring pm__law_is_ring an__law_is_ring cd__law_is_ring ct__law_is_ring), sl__law_is_ring⟩)
    (c__law_is_ring : PySem.W.codeIn K cd__law_is_ring "_law_is_ring" = true)
    (k__law_is_ring : PySem.W.keepIn K (.ref f__law_is_ring) = true)
    (a__law_hop : PySem.W.nsIn K mainGlobals "_law_hop" = some (some (.ref f__law_hop)))
    (l__law_hop : K.lookup f__law_hop = some ⟨oc__law_hop, od__law_hop, .func (PySem.W.fnOf "_law_hop" "_law_hop" (defArgs s__law_hop) (defBody s__law_hop) (defScope s__law_hop) .none kV__law_hop dc__law_hop pm__law_hop an__law_hop cd__law_hop ct__law_hop), sl__law_hop⟩)
    (c__law_hop : PySem.W.codeIn K cd__law_hop "_law_hop" = true)
    (k__law_hop : PySem.W.keepIn K (.ref f__law_hop) = true)
    (a__law_wound : PySem.W.nsIn K mainGlobals "_law_wound" = some (some (.ref f__law_wound)))
    (l__law_wound : K.lookup f__law_wound = some ⟨oc__law_wound, od__law_wound, .func (PySem.W.fnOf "_law_wound" "_law_wound" (defArgs s__law_wound) (defBody s__law_wound) (defScope s__law_wound) .none kV__law_wound dc__law_wound pm__law_wound an__law_wound cd__law_wound ct__law_wound), sl__law_wound⟩)
    (c__law_wound : PySem.W.codeIn K cd__law_wound "_law_wound" = true)
    (k__law_wound : PySem.W.keepIn K (.ref f__law_wound) = true)
    (a__law_bound_of : PySem.W.nsIn K mainGlobals "_law_bound_of" = some (some (.ref f__law_bound_of)))
    (l__law_bound_of : K.lookup f__law_bound_of = some ⟨oc__law_bound_of, od__law_bound_of, .func (PySem.W.fnOf "_law_bound_of" "_law_bound_of" (defArgs s__law_bound_of) (defBody s__law_bound_of) (defScope s__law_bound_of) .none kV__law_bound_of dc__law_bound_of pm__law_bound_of an__law_bound_of cd__law_bound_of ct__law_bound_of), sl__law_bound_of⟩)
    (c__law_bound_of : PySem.W.codeIn K cd__law_bound_of "_law_bound_of" = true)
    (k__law_bound_of : PySem.W.keepIn K (.ref f__law_bound_of) = true)
    (a__law_shown : PySem.W.nsIn K mainGlobals "_law_shown" = some (some (.ref f__law_shown)))
    (l__law_shown : K.lookup f__law_shown = some ⟨oc__law_shown, od__law_shown, .func (PySem.W.fnOf "_law_shown" "_law_shown" (defArgs s__law_shown) (defBody s__law_shown) (defScope s__law_shown) .none kV__law_shown dc__law_shown pm__law_shown an__law_shown cd__law_shown ct__law_shown), sl__law_shown⟩)
    (c__law_shown : PySem.W.codeIn K cd__law_shown "_law_shown" = true)
    (k__law_shown : PySem.W.keepIn K (.ref f__law_shown) = true)
    (a__law_alike : PySem.W.nsIn K mainGlobals "_law_alike" = some (some (.ref f__law_alike)))
    (l__law_alike : K.lookup f__law_alike = some ⟨oc__law_alike, od__law_alike, .func (PySem.W.fnOf "_law_alike" "_law_alike" (defArgs s__law_alike) (defBody s__law_alike) (defScope s__law_alike) .none kV__law_alike dc__law_alike pm__law_alike an__law_alike cd__law_alike ct__law_alike), sl__law_alike⟩)
    (c__law_alike : PySem.W.codeIn K cd__law_alike "_law_alike" = true)
    (k__law_alike : PySem.W.keepIn K (.ref f__law_alike) = true)
    (a__law_papers_right : PySem.W.nsIn K mainGlobals "_law_papers_right" = some (some (.ref f__law_papers_right)))
    (l__law_papers_right : K.lookup f__law_papers_right = some ⟨oc__law_papers_right, od__law_papers_right, .func (PySem.W.fnOf "_law_papers_right" "_law_papers_right" (defArgs s__law_papers_right) (defBody s__law_papers_right) (defScope s__law_papers_right) .none kV__law_papers_right dc__law_papers_right pm__law_papers_right an__law_papers_right cd__law_papers_right ct__law_papers_right), sl__law_papers_right⟩)
    (c__law_papers_right : PySem.W.codeIn K cd__law_papers_right "_law_papers_right" = true)
    (k__law_papers_right : PySem.W.keepIn K (.ref f__law_papers_right) = true)
    (a_law : PySem.W.nsIn K mainGlobals "law" = some (some (.ref f_law)))
    (l_law : K.lookup f_law = some ⟨oc_law, od_law, .func (PySem.W.fnOf "law" "law" (defArgs s_law) (defBody s_law) (defScope s_law) .none kV_law dc_law pm_law an_law cd_law ct_law), sl_law⟩)
    (c_law : PySem.W.codeIn K cd_law "law" = true)
    (k_law : PySem.W.keepIn K (.ref f_law) = true)
    (z_abs : PySem.W.nsIn K mainGlobals "abs" = some none)
    (z_all : PySem.W.nsIn K mainGlobals "all" = some none)
    (z_bool : PySem.W.nsIn K mainGlobals "bool" = some none)
    (z_enumerate : PySem.W.nsIn K mainGlobals "enumerate" = some none)
    (z_int : PySem.W.nsIn K mainGlobals "int" = some none)
    (z_isinstance : PySem.W.nsIn K mainGlobals "isinstance" = some none)
    (z_iter : PySem.W.nsIn K mainGlobals "iter" = some none)
    (z_len : PySem.W.nsIn K mainGlobals "len" = some none)
    (z_list : PySem.W.nsIn K mainGlobals "list" = some none)
    (z_max : PySem.W.nsIn K mainGlobals "max" = some none)
    (z_min : PySem.W.nsIn K mainGlobals "min" = some none)
    (z_range : PySem.W.nsIn K mainGlobals "range" = some none)
    (z_repr : PySem.W.nsIn K mainGlobals "repr" = some none)
    (z_sum : PySem.W.nsIn K mainGlobals "sum" = some none)
    (z_tuple : PySem.W.nsIn K mainGlobals "tuple" = some none)
    (z_zip : PySem.W.nsIn K mainGlobals "zip" = some none)
    (k_MOST_HOURS : PySem.W.nsIn K mainGlobals "MOST_HOURS" = some (some (.int 48 t_MOST_HOURS)))
    (ia_Plan : PySem.W.findIn K (.ref c_Plan) "__class__" = some (some (.builtin "object.__class__")))
    (gn_obj : PySem.W.specialIn K (.builtin "object.__class__") "__get__" = some (some (.builtin "getset_descriptor.__get__")))
    (tk_obj : PySem.W.takesIn K (.builtin "object.__class__") = some true)
    (im_Plan : PySem.W.mroIn K c_Plan (.type "object") = some true)
    (ne_Plan : PySem.W.findIn K (.ref c_Plan) "__ne__" = some (some (.builtin "object.__ne__")))
    (mr_Plan : PySem.W.mroIn K c_Plan (.type "object") = some true) :
    ∀ base : Heap, K.In base → base.Ns mainGlobals mg → OkP NoG P w K mg base 11 fa ["_law_script"] (fun vs H Q E => spLaw K vs H Q E) := by
  have e := hfa.symm.trans (PySem.W.mg_of X G a_law)
  cases e
  have T : Tx K mg ⟨c_Clock, c_Needs, c_Plan, f__law_bag, f__law_take, f__law_number, f__law_numbers, f__law_wants, f__law_stays, f_is_integer, f_are_stays, f_need_order, f_width_of, f_Clock___init__, f__law_clock, f__law_mixed, f_Clock_stays, f_Clock_hours, q_Clock_hours, f_Needs_hours, q_Needs_hours, f_need_alike, f_Clock_widths, f_is_hour, f_Needs___getitem__, f_need_edges, f_Needs___len__, f_Needs___iter__, f_gain_of, f_further, f_closed_at, f_gaining, f_common, f_fraction_of, f_turn_of, f_worth_of, f_best_ring, f_ring_for, f_is_count, f_are_counts, f_is_row, f_Needs___init__, f_Plan___len__, f_Plan___iter__, f_up, f_step_hours, f_winds, f_ring_bound, f_fewest, f_enough, f_Plan___init__, f_plan_of, f_settled, f_plan_for, f_Plan___eq__, f__law_is_whole, f__law_is_count, f__law_serving, f__law_there, f__law_serves, f__law_is_hour, f__law_is_ring, f__law_hop, f__law_wound, f__law_bound_of, f__law_shown, f__law_alike, f__law_papers_right, fa⟩ := {
    g_Clock := PySem.W.mg_of X G a_Clock,
    cl_Clock := ⟨pg_Clock, hd_Clock, po_Clock, sa_Clock⟩,
    sf_Clock := sf_Clock,
    g_Needs := PySem.W.mg_of X G a_Needs,
    cl_Needs := ⟨pg_Needs, hd_Needs, po_Needs, sa_Needs⟩,
    sf_Needs := sf_Needs,
    g_Plan := PySem.W.mg_of X G a_Plan,
    cl_Plan := ⟨pg_Plan, hd_Plan, po_Plan, sa_Plan⟩,
    sf_Plan := sf_Plan,
    n_Clock_kept_stays := n_Clock_kept_stays,
    n_Clock_kept_widths := n_Clock_kept_widths,
    n_Needs_kept_row := n_Needs_kept_row,
    n_Plan_kept_begins := n_Plan_kept_begins,
    g__law_bag := PySem.W.mg_of X G a__law_bag,
    d__law_bag := ⟨_, fun_mk l__law_bag c__law_bag k__law_bag, (fun_mk (st := s__law_bag) l__law_bag c__law_bag k__law_bag).binds (ps := ["_law_script"]) fun _ _ _ _ _ _ us hl => match us, hl with | [_], _ => rfl⟩,
    g__law_take := PySem.W.mg_of X G a__law_take,
    d__law_take := ⟨_, fun_mk l__law_take c__law_take k__law_take, (fun_mk (st := s__law_take) l__law_take c__law_take k__law_take).binds (ps := ["_law_bag_here", "_law_upto"]) fun _ _ _ _ _ _ us hl => match us, hl with | [_, _], _ => rfl⟩,
    g__law_number := PySem.W.mg_of X G a__law_number,
    d__law_number := ⟨_, fun_mk l__law_number c__law_number k__law_number, (fun_mk (st := s__law_number) l__law_number c__law_number k__law_number).binds (ps := ["_law_bag_here"]) fun _ _ _ _ _ _ us hl => match us, hl with | [_], _ => rfl⟩,
    g__law_numbers := PySem.W.mg_of X G a__law_numbers,
    d__law_numbers := ⟨_, fun_mk l__law_numbers c__law_numbers k__law_numbers, (fun_mk (st := s__law_numbers) l__law_numbers c__law_numbers k__law_numbers).binds (ps := ["_law_bag_here", "_law_many"]) fun _ _ _ _ _ _ us hl => match us, hl with | [_, _], _ => rfl⟩,
    g__law_wants := PySem.W.mg_of X G a__law_wants,
    d__law_wants := ⟨_, fun_mk l__law_wants c__law_wants k__law_wants, (fun_mk (st := s__law_wants) l__law_wants c__law_wants k__law_wants).binds (ps := ["_law_bag_here", "_law_many"]) fun _ _ _ _ _ _ us hl => match us, hl with | [_, _], _ => rfl⟩,
    g__law_stays := PySem.W.mg_of X G a__law_stays,
    d__law_stays := ⟨_, fun_mk l__law_stays c__law_stays k__law_stays, (fun_mk (st := s__law_stays) l__law_stays c__law_stays k__law_stays).binds (ps := ["_law_bag_here", "_law_many"]) fun _ _ _ _ _ _ us hl => match us, hl with | [_, _], _ => rfl⟩,
    g_is_integer := PySem.W.mg_of X G a_is_integer,
    d_is_integer := ⟨_, fun_mk l_is_integer c_is_integer k_is_integer, (fun_mk (st := s_is_integer) l_is_integer c_is_integer k_is_integer).binds (ps := ["thing"]) fun _ _ _ _ _ _ us hl => match us, hl with | [_], _ => rfl⟩,
    g_are_stays := PySem.W.mg_of X G a_are_stays,
    d_are_stays := ⟨_, fun_mk l_are_stays c_are_stays k_are_stays, (fun_mk (st := s_are_stays) l_are_stays c_are_stays k_are_stays).binds (ps := ["thing"]) fun _ _ _ _ _ _ us hl => match us, hl with | [_], _ => rfl⟩,
    g_need_order := PySem.W.mg_of X G a_need_order,
    d_need_order := ⟨_, fun_mk l_need_order c_need_order k_need_order, (fun_mk (st := s_need_order) l_need_order c_need_order k_need_order).binds (ps := ["stays"]) fun _ _ _ _ _ _ us hl => match us, hl with | [_], _ => rfl⟩,
    g_width_of := PySem.W.mg_of X G a_width_of,
    d_width_of := ⟨_, fun_mk l_width_of c_width_of k_width_of, (fun_mk (st := s_width_of) l_width_of c_width_of k_width_of).binds (ps := ["stays", "hour"]) fun _ _ _ _ _ _ us hl => match us, hl with | [_, _], _ => rfl⟩,
    mk_Clock := ⟨mm_Clock, a_Clock___init__, i_Clock___init__, mc_Clock⟩,
    d_Clock___init__ := ⟨_, fun_mk l_Clock___init__ c_Clock___init__ k_Clock___init__, (fun_mk (st := s_Clock___init__) l_Clock___init__ c_Clock___init__ k_Clock___init__).binds (ps := ["self", "stays"]) fun _ _ _ _ _ _ us hl => match us, hl with | [_, _], _ => rfl⟩,
    g__law_clock := PySem.W.mg_of X G a__law_clock,
    d__law_clock := ⟨_, fun_mk l__law_clock c__law_clock k__law_clock, (fun_mk (st := s__law_clock) l__law_clock c__law_clock k__law_clock).binds (ps := ["_law_bag_here", "_law_stays_here"]) fun _ _ _ _ _ _ us hl => match us, hl with | [_, _], _ => rfl⟩,
    g__law_mixed := PySem.W.mg_of X G a__law_mixed,
    d__law_mixed := ⟨_, fun_mk l__law_mixed c__law_mixed k__law_mixed, (fun_mk (st := s__law_mixed) l__law_mixed c__law_mixed k__law_mixed).binds (ps := ["_law_bag_here", "_law_things"]) fun _ _ _ _ _ _ us hl => match us, hl with | [_, _], _ => rfl⟩,
    m_Clock_stays := ⟨a_Clock_stays, i_Clock_stays, k_Clock_stays⟩,
    d_Clock_stays := ⟨_, fun_mk l_Clock_stays c_Clock_stays k_Clock_stays, (fun_mk (st := s_Clock_stays) l_Clock_stays c_Clock_stays k_Clock_stays).binds (ps := ["self"]) fun _ _ _ _ _ _ us hl => match us, hl with | [_], _ => rfl⟩,
    p_Clock_hours := ⟨pa_Clock_hours, pb_Clock_hours, pc_Clock_hours, ⟨_, pd_Clock_hours⟩⟩,
    d_Clock_hours := ⟨_, fun_mk l_Clock_hours c_Clock_hours k_Clock_hours, (fun_mk (st := s_Clock_hours) l_Clock_hours c_Clock_hours k_Clock_hours).binds (ps := ["self"]) fun _ _ _ _ _ _ us hl => match us, hl with | [_], _ => rfl⟩,
    p_Needs_hours := ⟨pa_Needs_hours, pb_Needs_hours, pc_Needs_hours, ⟨_, pd_Needs_hours⟩⟩,
    d_Needs_hours := ⟨_, fun_mk l_Needs_hours c_Needs_hours k_Needs_hours, (fun_mk (st := s_Needs_hours) l_Needs_hours c_Needs_hours k_Needs_hours).binds (ps := ["self"]) fun _ _ _ _ _ _ us hl => match us, hl with | [_], _ => rfl⟩,
    g_need_alike := PySem.W.mg_of X G a_need_alike,
    d_need_alike := ⟨_, fun_mk l_need_alike c_need_alike k_need_alike, (fun_mk (st := s_need_alike) l_need_alike c_need_alike k_need_alike).binds (ps := ["clock", "needs"]) fun _ _ _ _ _ _ us hl => match us, hl with | [_, _], _ => rfl⟩,
    m_Clock_widths := ⟨a_Clock_widths, i_Clock_widths, k_Clock_widths⟩,
    d_Clock_widths := ⟨_, fun_mk l_Clock_widths c_Clock_widths k_Clock_widths, (fun_mk (st := s_Clock_widths) l_Clock_widths c_Clock_widths k_Clock_widths).binds (ps := ["self"]) fun _ _ _ _ _ _ us hl => match us, hl with | [_], _ => rfl⟩,
    g_is_hour := PySem.W.mg_of X G a_is_hour,
    d_is_hour := ⟨_, fun_mk l_is_hour c_is_hour k_is_hour, (fun_mk (st := s_is_hour) l_is_hour c_is_hour k_is_hour).binds (ps := ["hours", "thing"]) fun _ _ _ _ _ _ us hl => match us, hl with | [_, _], _ => rfl⟩,
    m_Needs___getitem__ := ⟨a_Needs___getitem__, i_Needs___getitem__, k_Needs___getitem__⟩,
    fi_Needs___getitem__ := fi_Needs___getitem__,
    d_Needs___getitem__ := ⟨_, fun_mk l_Needs___getitem__ c_Needs___getitem__ k_Needs___getitem__, (fun_mk (st := s_Needs___getitem__) l_Needs___getitem__ c_Needs___getitem__ k_Needs___getitem__).binds (ps := ["self", "hour"]) fun _ _ _ _ _ _ us hl => match us, hl with | [_, _], _ => rfl⟩,
    g_need_edges := PySem.W.mg_of X G a_need_edges,
    d_need_edges := ⟨_, fun_mk l_need_edges c_need_edges k_need_edges, (fun_mk (st := s_need_edges) l_need_edges c_need_edges k_need_edges).binds (ps := ["clock", "needs"]) fun _ _ _ _ _ _ us hl => match us, hl with | [_, _], _ => rfl⟩,
    m_Needs___len__ := ⟨a_Needs___len__, i_Needs___len__, k_Needs___len__⟩,
    d_Needs___len__ := ⟨_, fun_mk l_Needs___len__ c_Needs___len__ k_Needs___len__, (fun_mk (st := s_Needs___len__) l_Needs___len__ c_Needs___len__ k_Needs___len__).binds (ps := ["self"]) fun _ _ _ _ _ _ us hl => match us, hl with | [_], _ => rfl⟩,
    m_Needs___iter__ := ⟨a_Needs___iter__, i_Needs___iter__, k_Needs___iter__⟩,
    d_Needs___iter__ := ⟨_, fun_mk l_Needs___iter__ c_Needs___iter__ k_Needs___iter__, (fun_mk (st := s_Needs___iter__) l_Needs___iter__ c_Needs___iter__ k_Needs___iter__).binds (ps := ["self"]) fun _ _ _ _ _ _ us hl => match us, hl with | [_], _ => rfl⟩,
    g_gain_of := PySem.W.mg_of X G a_gain_of,
    d_gain_of := ⟨_, fun_mk l_gain_of c_gain_of k_gain_of, (fun_mk (st := s_gain_of) l_gain_of c_gain_of k_gain_of).binds (ps := ["edge", "pace"]) fun _ _ _ _ _ _ us hl => match us, hl with | [_, _], _ => rfl⟩,
    g_further := PySem.W.mg_of X G a_further,
    d_further := ⟨_, fun_mk l_further c_further k_further, (fun_mk (st := s_further) l_further c_further k_further).binds (ps := ["edges", "pace", "reached", "came"]) fun _ _ _ _ _ _ us hl => match us, hl with | [_, _, _, _], _ => rfl⟩,
    g_closed_at := PySem.W.mg_of X G a_closed_at,
    d_closed_at := ⟨_, fun_mk l_closed_at c_closed_at k_closed_at, (fun_mk (st := s_closed_at) l_closed_at c_closed_at k_closed_at).binds (ps := ["hours", "came", "mark"]) fun _ _ _ _ _ _ us hl => match us, hl with | [_, _, _], _ => rfl⟩,
    g_gaining := PySem.W.mg_of X G a_gaining,
    d_gaining := ⟨_, fun_mk l_gaining c_gaining k_gaining, (fun_mk (st := s_gaining) l_gaining c_gaining k_gaining).binds (ps := ["hours", "edges", "pace"]) fun _ _ _ _ _ _ us hl => match us, hl with | [_, _, _], _ => rfl⟩,
    g_common := PySem.W.mg_of X G a_common,
    d_common := ⟨_, fun_mk l_common c_common k_common, (fun_mk (st := s_common) l_common c_common k_common).binds (ps := ["one", "other"]) fun _ _ _ _ _ _ us hl => match us, hl with | [_, _], _ => rfl⟩,
    g_fraction_of := PySem.W.mg_of X G a_fraction_of,
    d_fraction_of := ⟨_, fun_mk l_fraction_of c_fraction_of k_fraction_of, (fun_mk (st := s_fraction_of) l_fraction_of c_fraction_of k_fraction_of).binds (ps := ["above", "below"]) fun _ _ _ _ _ _ us hl => match us, hl with | [_, _], _ => rfl⟩,
    g_turn_of := PySem.W.mg_of X G a_turn_of,
    d_turn_of := ⟨_, fun_mk l_turn_of c_turn_of k_turn_of, (fun_mk (st := s_turn_of) l_turn_of c_turn_of k_turn_of).binds (ps := ["walk"]) fun _ _ _ _ _ _ us hl => match us, hl with | [_], _ => rfl⟩,
    g_worth_of := PySem.W.mg_of X G a_worth_of,
    d_worth_of := ⟨_, fun_mk l_worth_of c_worth_of k_worth_of, (fun_mk (st := s_worth_of) l_worth_of c_worth_of k_worth_of).binds (ps := ["walk"]) fun _ _ _ _ _ _ us hl => match us, hl with | [_], _ => rfl⟩,
    g_best_ring := PySem.W.mg_of X G a_best_ring,
    d_best_ring := ⟨_, fun_mk l_best_ring c_best_ring k_best_ring, (fun_mk (st := s_best_ring) l_best_ring c_best_ring k_best_ring).binds (ps := ["clock", "needs"]) fun _ _ _ _ _ _ us hl => match us, hl with | [_, _], _ => rfl⟩,
    g_ring_for := PySem.W.mg_of X G a_ring_for,
    d_ring_for := ⟨_, fun_mk l_ring_for c_ring_for k_ring_for, (fun_mk (st := s_ring_for) l_ring_for c_ring_for k_ring_for).binds (ps := ["clock", "needs"]) fun _ _ _ _ _ _ us hl => match us, hl with | [_, _], _ => rfl⟩,
    g_is_count := PySem.W.mg_of X G a_is_count,
    d_is_count := ⟨_, fun_mk l_is_count c_is_count k_is_count, (fun_mk (st := s_is_count) l_is_count c_is_count k_is_count).binds (ps := ["thing"]) fun _ _ _ _ _ _ us hl => match us, hl with | [_], _ => rfl⟩,
    g_are_counts := PySem.W.mg_of X G a_are_counts,
    d_are_counts := ⟨_, fun_mk l_are_counts c_are_counts k_are_counts, (fun_mk (st := s_are_counts) l_are_counts c_are_counts k_are_counts).binds (ps := ["hours", "thing"]) fun _ _ _ _ _ _ us hl => match us, hl with | [_, _], _ => rfl⟩,
    g_is_row := PySem.W.mg_of X G a_is_row,
    d_is_row := ⟨_, fun_mk l_is_row c_is_row k_is_row, (fun_mk (st := s_is_row) l_is_row c_is_row k_is_row).binds (ps := ["thing"]) fun _ _ _ _ _ _ us hl => match us, hl with | [_], _ => rfl⟩,
    mk_Needs := ⟨mm_Needs, a_Needs___init__, i_Needs___init__, mc_Needs⟩,
    d_Needs___init__ := ⟨_, fun_mk l_Needs___init__ c_Needs___init__ k_Needs___init__, (fun_mk (st := s_Needs___init__) l_Needs___init__ c_Needs___init__ k_Needs___init__).binds (ps := ["self", "row"]) fun _ _ _ _ _ _ us hl => match us, hl with | [_, _], _ => rfl⟩,
    m_Plan___len__ := ⟨a_Plan___len__, i_Plan___len__, k_Plan___len__⟩,
    d_Plan___len__ := ⟨_, fun_mk l_Plan___len__ c_Plan___len__ k_Plan___len__, (fun_mk (st := s_Plan___len__) l_Plan___len__ c_Plan___len__ k_Plan___len__).binds (ps := ["self"]) fun _ _ _ _ _ _ us hl => match us, hl with | [_], _ => rfl⟩,
    m_Plan___iter__ := ⟨a_Plan___iter__, i_Plan___iter__, k_Plan___iter__⟩,
    d_Plan___iter__ := ⟨_, fun_mk l_Plan___iter__ c_Plan___iter__ k_Plan___iter__, (fun_mk (st := s_Plan___iter__) l_Plan___iter__ c_Plan___iter__ k_Plan___iter__).binds (ps := ["self"]) fun _ _ _ _ _ _ us hl => match us, hl with | [_], _ => rfl⟩,
    g_up := PySem.W.mg_of X G a_up,
    d_up := ⟨_, fun_mk l_up c_up k_up, (fun_mk (st := s_up) l_up c_up k_up).binds (ps := ["above", "below"]) fun _ _ _ _ _ _ us hl => match us, hl with | [_, _], _ => rfl⟩,
    g_step_hours := PySem.W.mg_of X G a_step_hours,
    d_step_hours := ⟨_, fun_mk l_step_hours c_step_hours k_step_hours, (fun_mk (st := s_step_hours) l_step_hours c_step_hours k_step_hours).binds (ps := ["clock", "hour", "later"]) fun _ _ _ _ _ _ us hl => match us, hl with | [_, _, _], _ => rfl⟩,
    g_winds := PySem.W.mg_of X G a_winds,
    d_winds := ⟨_, fun_mk l_winds c_winds k_winds, (fun_mk (st := s_winds) l_winds c_winds k_winds).binds (ps := ["clock", "ring"]) fun _ _ _ _ _ _ us hl => match us, hl with | [_, _], _ => rfl⟩,
    g_ring_bound := PySem.W.mg_of X G a_ring_bound,
    d_ring_bound := ⟨_, fun_mk l_ring_bound c_ring_bound k_ring_bound, (fun_mk (st := s_ring_bound) l_ring_bound c_ring_bound k_ring_bound).binds (ps := ["clock", "needs", "ring"]) fun _ _ _ _ _ _ us hl => match us, hl with | [_, _, _], _ => rfl⟩,
    g_fewest := PySem.W.mg_of X G a_fewest,
    d_fewest := ⟨_, fun_mk l_fewest c_fewest k_fewest, (fun_mk (st := s_fewest) l_fewest c_fewest k_fewest).binds (ps := ["clock", "needs"]) fun _ _ _ _ _ _ us hl => match us, hl with | [_, _], _ => rfl⟩,
    g_enough := PySem.W.mg_of X G a_enough,
    d_enough := ⟨_, fun_mk l_enough c_enough k_enough, (fun_mk (st := s_enough) l_enough c_enough k_enough).binds (ps := ["clock", "needs", "people"]) fun _ _ _ _ _ _ us hl => match us, hl with | [_, _, _], _ => rfl⟩,
    mk_Plan := ⟨mm_Plan, a_Plan___init__, i_Plan___init__, mc_Plan⟩,
    d_Plan___init__ := ⟨_, fun_mk l_Plan___init__ c_Plan___init__ k_Plan___init__, (fun_mk (st := s_Plan___init__) l_Plan___init__ c_Plan___init__ k_Plan___init__).binds (ps := ["self", "begins"]) fun _ _ _ _ _ _ us hl => match us, hl with | [_, _], _ => rfl⟩,
    g_plan_of := PySem.W.mg_of X G a_plan_of,
    d_plan_of := ⟨_, fun_mk l_plan_of c_plan_of k_plan_of, (fun_mk (st := s_plan_of) l_plan_of c_plan_of k_plan_of).binds (ps := ["people", "reached"]) fun _ _ _ _ _ _ us hl => match us, hl with | [_, _], _ => rfl⟩,
    g_settled := PySem.W.mg_of X G a_settled,
    d_settled := ⟨_, fun_mk l_settled c_settled k_settled, (fun_mk (st := s_settled) l_settled c_settled k_settled).binds (ps := ["hours", "edges", "pace", "reached"]) fun _ _ _ _ _ _ us hl => match us, hl with | [_, _, _, _], _ => rfl⟩,
    g_plan_for := PySem.W.mg_of X G a_plan_for,
    d_plan_for := ⟨_, fun_mk l_plan_for c_plan_for k_plan_for, (fun_mk (st := s_plan_for) l_plan_for c_plan_for k_plan_for).binds (ps := ["clock", "needs", "people"]) fun _ _ _ _ _ _ us hl => match us, hl with | [_, _, _], _ => rfl⟩,
    m_Plan___eq__ := ⟨a_Plan___eq__, i_Plan___eq__, k_Plan___eq__⟩,
    d_Plan___eq__ := ⟨_, fun_mk l_Plan___eq__ c_Plan___eq__ k_Plan___eq__, (fun_mk (st := s_Plan___eq__) l_Plan___eq__ c_Plan___eq__ k_Plan___eq__).binds (ps := ["self", "other"]) fun _ _ _ _ _ _ us hl => match us, hl with | [_, _], _ => rfl⟩,
    g__law_is_whole := PySem.W.mg_of X G a__law_is_whole,
    d__law_is_whole := ⟨_, fun_mk l__law_is_whole c__law_is_whole k__law_is_whole, (fun_mk (st := s__law_is_whole) l__law_is_whole c__law_is_whole k__law_is_whole).binds (ps := ["_law_thing"]) fun _ _ _ _ _ _ us hl => match us, hl with | [_], _ => rfl⟩,
    g__law_is_count := PySem.W.mg_of X G a__law_is_count,
    d__law_is_count := ⟨_, fun_mk l__law_is_count c__law_is_count k__law_is_count, (fun_mk (st := s__law_is_count) l__law_is_count c__law_is_count k__law_is_count).binds (ps := ["_law_thing"]) fun _ _ _ _ _ _ us hl => match us, hl with | [_], _ => rfl⟩,
    g__law_serving := PySem.W.mg_of X G a__law_serving,
    d__law_serving := ⟨_, fun_mk l__law_serving c__law_serving k__law_serving, (fun_mk (st := s__law_serving) l__law_serving c__law_serving k__law_serving).binds (ps := ["_law_stays_here", "_law_hour"]) fun _ _ _ _ _ _ us hl => match us, hl with | [_, _], _ => rfl⟩,
    g__law_there := PySem.W.mg_of X G a__law_there,
    d__law_there := ⟨_, fun_mk l__law_there c__law_there k__law_there, (fun_mk (st := s__law_there) l__law_there c__law_there k__law_there).binds (ps := ["_law_stays_here", "_law_begins"]) fun _ _ _ _ _ _ us hl => match us, hl with | [_, _], _ => rfl⟩,
    g__law_serves := PySem.W.mg_of X G a__law_serves,
    d__law_serves := ⟨_, fun_mk l__law_serves c__law_serves k__law_serves, (fun_mk (st := s__law_serves) l__law_serves c__law_serves k__law_serves).binds (ps := ["_law_stays_here", "_law_wants_here", "_law_begins"]) fun _ _ _ _ _ _ us hl => match us, hl with | [_, _, _], _ => rfl⟩,
    g__law_is_hour := PySem.W.mg_of X G a__law_is_hour,
    d__law_is_hour := ⟨_, fun_mk l__law_is_hour c__law_is_hour k__law_is_hour, (fun_mk (st := s__law_is_hour) l__law_is_hour c__law_is_hour k__law_is_hour).binds (ps := ["_law_many", "_law_thing"]) fun _ _ _ _ _ _ us hl => match us, hl with | [_, _], _ => rfl⟩,
    g__law_is_ring := PySem.W.mg_of X G a__law_is_ring,
    d__law_is_ring := ⟨_, fun_mk l__law_is_ring c__law_is_ring k__law_is_ring, (fun_mk (st := s__law_is_ring) l__law_is_ring c__law_is_ring k__law_is_ring).binds (ps := ["_law_many", "_law_thing"]) fun _ _ _ _ _ _ us hl => match us, hl with | [_, _], _ => rfl⟩,
    g__law_hop := PySem.W.mg_of X G a__law_hop,
    d__law_hop := ⟨_, fun_mk l__law_hop c__law_hop k__law_hop, (fun_mk (st := s__law_hop) l__law_hop c__law_hop k__law_hop).binds (ps := ["_law_stays_here", "_law_hour", "_law_later"]) fun _ _ _ _ _ _ us hl => match us, hl with | [_, _, _], _ => rfl⟩,
    g__law_wound := PySem.W.mg_of X G a__law_wound,
    d__law_wound := ⟨_, fun_mk l__law_wound c__law_wound k__law_wound, (fun_mk (st := s__law_wound) l__law_wound c__law_wound k__law_wound).binds (ps := ["_law_stays_here", "_law_ring"]) fun _ _ _ _ _ _ us hl => match us, hl with | [_, _], _ => rfl⟩,
    g__law_bound_of := PySem.W.mg_of X G a__law_bound_of,
    d__law_bound_of := ⟨_, fun_mk l__law_bound_of c__law_bound_of k__law_bound_of, (fun_mk (st := s__law_bound_of) l__law_bound_of c__law_bound_of k__law_bound_of).binds (ps := ["_law_stays_here", "_law_wants_here", "_law_ring"]) fun _ _ _ _ _ _ us hl => match us, hl with | [_, _, _], _ => rfl⟩,
    g__law_shown := PySem.W.mg_of X G a__law_shown,
    d__law_shown := ⟨_, fun_mk l__law_shown c__law_shown k__law_shown, (fun_mk (st := s__law_shown) l__law_shown c__law_shown k__law_shown).binds (ps := ["_law_stays_here", "_law_wants_here", "_law_row", "_law_least"]) fun _ _ _ _ _ _ us hl => match us, hl with | [_, _, _, _], _ => rfl⟩,
    g__law_alike := PySem.W.mg_of X G a__law_alike,
    d__law_alike := ⟨_, fun_mk l__law_alike c__law_alike k__law_alike, (fun_mk (st := s__law_alike) l__law_alike c__law_alike k__law_alike).binds (ps := ["_law_found", "_law_due"]) fun _ _ _ _ _ _ us hl => match us, hl with | [_, _], _ => rfl⟩,
    g__law_papers_right := PySem.W.mg_of X G a__law_papers_right,
    d__law_papers_right := ⟨_, fun_mk l__law_papers_right c__law_papers_right k__law_papers_right, (fun_mk (st := s__law_papers_right) l__law_papers_right c__law_papers_right k__law_papers_right).binds (ps := ["_law_clock_here", "_law_stays_here", "_law_wants_here", "_law_order"]) fun _ _ _ _ _ _ us hl => match us, hl with | [_, _, _, _], _ => rfl⟩,
    d_law := ⟨_, fun_mk l_law c_law k_law, (fun_mk (st := s_law) l_law c_law k_law).binds (ps := ["_law_script"]) fun _ _ _ _ _ _ us hl => match us, hl with | [_], _ => rfl⟩,
    z_abs := PySem.W.mg_none_of X G z_abs,
    z_all := PySem.W.mg_none_of X G z_all,
    z_bool := PySem.W.mg_none_of X G z_bool,
    z_enumerate := PySem.W.mg_none_of X G z_enumerate,
    z_int := PySem.W.mg_none_of X G z_int,
    z_isinstance := PySem.W.mg_none_of X G z_isinstance,
    z_iter := PySem.W.mg_none_of X G z_iter,
    z_len := PySem.W.mg_none_of X G z_len,
    z_list := PySem.W.mg_none_of X G z_list,
    z_max := PySem.W.mg_none_of X G z_max,
    z_min := PySem.W.mg_none_of X G z_min,
    z_range := PySem.W.mg_none_of X G z_range,
    z_repr := PySem.W.mg_none_of X G z_repr,
    z_sum := PySem.W.mg_none_of X G z_sum,
    z_tuple := PySem.W.mg_none_of X G z_tuple,
    z_zip := PySem.W.mg_none_of X G z_zip,
    k_MOST_HOURS := ⟨_, PySem.W.mg_of X G k_MOST_HOURS⟩,
    ic_Plan := ⟨⟨pg_Plan, hd_Plan, po_Plan, sa_Plan⟩, ia_Plan, gn_obj, tk_obj, im_Plan⟩,
    ne_Plan := ⟨ne_Plan, mr_Plan⟩ }
  intro base _ _
  exact ok_law (d := ⟨c_Clock, c_Needs, c_Plan, f__law_bag, f__law_take, f__law_number, f__law_numbers, f__law_wants, f__law_stays, f_is_integer, f_are_stays, f_need_order, f_width_of, f_Clock___init__, f__law_clock, f__law_mixed, f_Clock_stays, f_Clock_hours, q_Clock_hours, f_Needs_hours, q_Needs_hours, f_need_alike, f_Clock_widths, f_is_hour, f_Needs___getitem__, f_need_edges, f_Needs___len__, f_Needs___iter__, f_gain_of, f_further, f_closed_at, f_gaining, f_common, f_fraction_of, f_turn_of, f_worth_of, f_best_ring, f_ring_for, f_is_count, f_are_counts, f_is_row, f_Needs___init__, f_Plan___len__, f_Plan___iter__, f_up, f_step_hours, f_winds, f_ring_bound, f_fewest, f_enough, f_Plan___init__, f_plan_of, f_settled, f_plan_for, f_Plan___eq__, f__law_is_whole, f__law_is_count, f__law_serving, f__law_there, f__law_serves, f__law_is_hour, f__law_is_ring, f__law_hop, f__law_wound, f__law_bound_of, f__law_shown, f__law_alike, f__law_papers_right, fa⟩) T
def fas0 : List (PySem.W.Frag → Bool) := [
  fun K => decide (PySem.W.nsIn K mainGlobals "Clock" = some (some (.ref (He.ga K "Clock")))),
  fun K => PySem.W.plainGet K (He.ga K "Clock") Str.empty,
  fun K => PySem.W.hasDictIn K (He.ga K "Clock"),
  fun K => PySem.W.plainOver K (He.ga K "Clock"),
  fun K => decide (PySem.W.findIn K (.ref (He.ga K "Clock")) "__setattr__" = some (some (.builtin "object.__setattr__"))),
  fun K => PySem.W.selfFirst K (He.ga K "Clock"),
  fun K => decide (PySem.W.nsIn K mainGlobals "Needs" = some (some (.ref (He.ga K "Needs")))),
  fun K => PySem.W.plainGet K (He.ga K "Needs") Str.empty,
  fun K => PySem.W.hasDictIn K (He.ga K "Needs"),
  fun K => PySem.W.plainOver K (He.ga K "Needs"),
  fun K => decide (PySem.W.findIn K (.ref (He.ga K "Needs")) "__setattr__" = some (some (.builtin "object.__setattr__"))),
  fun K => PySem.W.selfFirst K (He.ga K "Needs"),
  fun K => decide (PySem.W.nsIn K mainGlobals "Plan" = some (some (.ref (He.ga K "Plan")))),
  fun K => PySem.W.plainGet K (He.ga K "Plan") Str.empty,
  fun K => PySem.W.hasDictIn K (He.ga K "Plan"),
  fun K => PySem.W.plainOver K (He.ga K "Plan"),
  fun K => decide (PySem.W.findIn K (.ref (He.ga K "Plan")) "__setattr__" = some (some (.builtin "object.__setattr__"))),
  fun K => PySem.W.selfFirst K (He.ga K "Plan"),
  fun K => decide (PySem.W.findIn K (.ref (He.ga K "Clock")) "kept_stays" = some none),
  fun K => decide (PySem.W.findIn K (.ref (He.ga K "Clock")) "kept_widths" = some none),
  fun K => decide (PySem.W.findIn K (.ref (He.ga K "Needs")) "kept_row" = some none),
  fun K => decide (PySem.W.findIn K (.ref (He.ga K "Plan")) "kept_begins" = some none),
  fun K => decide (PySem.W.nsIn K mainGlobals "_law_bag" = some (some (.ref (He.ga K "_law_bag")))),
  fun K => decide (PySem.W.nsIn K mainGlobals "_law_take" = some (some (.ref (He.ga K "_law_take")))),
  fun K => decide (PySem.W.nsIn K mainGlobals "_law_number" = some (some (.ref (He.ga K "_law_number")))),
  fun K => decide (PySem.W.nsIn K mainGlobals "_law_numbers" = some (some (.ref (He.ga K "_law_numbers")))),
  fun K => decide (PySem.W.nsIn K mainGlobals "_law_wants" = some (some (.ref (He.ga K "_law_wants")))),
  fun K => decide (PySem.W.nsIn K mainGlobals "_law_stays" = some (some (.ref (He.ga K "_law_stays")))),
  fun K => decide (PySem.W.nsIn K mainGlobals "is_integer" = some (some (.ref (He.ga K "is_integer")))),
  fun K => decide (PySem.W.nsIn K mainGlobals "are_stays" = some (some (.ref (He.ga K "are_stays")))),
  fun K => decide (PySem.W.nsIn K mainGlobals "need_order" = some (some (.ref (He.ga K "need_order")))),
  fun K => decide (PySem.W.nsIn K mainGlobals "width_of" = some (some (.ref (He.ga K "width_of")))),
  fun K => decide (PySem.W.findIn K (.ref (He.ga K "Clock")) "__init__" = some (some (.ref (He.ma K (He.ga K "Clock") "__init__")))),
  fun K => PySem.W.isFn K (.ref (He.ma K (He.ga K "Clock") "__init__")),
  fun K => PySem.W.makesIn K (He.ga K "Clock"),
  fun K => PySem.W.keepIn K (.ref (He.ga K "Clock")),
  fun K => decide (PySem.W.nsIn K mainGlobals "_law_clock" = some (some (.ref (He.ga K "_law_clock")))),
  fun K => decide (PySem.W.nsIn K mainGlobals "_law_mixed" = some (some (.ref (He.ga K "_law_mixed")))),
  fun K => decide (PySem.W.findIn K (.ref (He.ga K "Clock")) "stays" = some (some (.ref (He.ma K (He.ga K "Clock") "stays")))),
  fun K => PySem.W.isFn K (.ref (He.ma K (He.ga K "Clock") "stays"))]
def fas1 : List (PySem.W.Frag → Bool) := [
  fun K => decide (PySem.W.findIn K (.ref (He.ga K "Clock")) "hours" = some (some (.ref (He.ma K (He.ga K "Clock") "hours")))),
  fun K => decide (PySem.W.specialIn K (.ref (He.ma K (He.ga K "Clock") "hours")) "__get__" = some (some (.builtin "property.__get__"))),
  fun K => decide (PySem.W.takesIn K (.ref (He.ma K (He.ga K "Clock") "hours")) = some true),
  fun K => rcB K (He.ma K (He.ga K "Clock") "hours") "property",
  fun K => decide (PySem.W.findIn K (.ref (He.ga K "Needs")) "hours" = some (some (.ref (He.ma K (He.ga K "Needs") "hours")))),
  fun K => decide (PySem.W.specialIn K (.ref (He.ma K (He.ga K "Needs") "hours")) "__get__" = some (some (.builtin "property.__get__"))),
  fun K => decide (PySem.W.takesIn K (.ref (He.ma K (He.ga K "Needs") "hours")) = some true),
  fun K => rcB K (He.ma K (He.ga K "Needs") "hours") "property",
  fun K => decide (PySem.W.nsIn K mainGlobals "need_alike" = some (some (.ref (He.ga K "need_alike")))),
  fun K => decide (PySem.W.findIn K (.ref (He.ga K "Clock")) "widths" = some (some (.ref (He.ma K (He.ga K "Clock") "widths")))),
  fun K => PySem.W.isFn K (.ref (He.ma K (He.ga K "Clock") "widths")),
  fun K => decide (PySem.W.nsIn K mainGlobals "is_hour" = some (some (.ref (He.ga K "is_hour")))),
  fun K => decide (PySem.W.findIn K (.ref (He.ga K "Needs")) "__getitem__" = some (some (.ref (He.ma K (He.ga K "Needs") "__getitem__")))),
  fun K => PySem.W.isFn K (.ref (He.ma K (He.ga K "Needs") "__getitem__")),
  fun K => PySem.W.fnIn K (He.ma K (He.ga K "Needs") "__getitem__"),
  fun K => decide (PySem.W.nsIn K mainGlobals "need_edges" = some (some (.ref (He.ga K "need_edges")))),
  fun K => decide (PySem.W.findIn K (.ref (He.ga K "Needs")) "__len__" = some (some (.ref (He.ma K (He.ga K "Needs") "__len__")))),
  fun K => PySem.W.isFn K (.ref (He.ma K (He.ga K "Needs") "__len__")),
  fun K => decide (PySem.W.findIn K (.ref (He.ga K "Needs")) "__iter__" = some (some (.ref (He.ma K (He.ga K "Needs") "__iter__")))),
  fun K => PySem.W.isFn K (.ref (He.ma K (He.ga K "Needs") "__iter__")),
  fun K => decide (PySem.W.nsIn K mainGlobals "gain_of" = some (some (.ref (He.ga K "gain_of")))),
  fun K => decide (PySem.W.nsIn K mainGlobals "further" = some (some (.ref (He.ga K "further")))),
  fun K => decide (PySem.W.nsIn K mainGlobals "closed_at" = some (some (.ref (He.ga K "closed_at")))),
  fun K => decide (PySem.W.nsIn K mainGlobals "gaining" = some (some (.ref (He.ga K "gaining")))),
  fun K => decide (PySem.W.nsIn K mainGlobals "common" = some (some (.ref (He.ga K "common")))),
  fun K => decide (PySem.W.nsIn K mainGlobals "fraction_of" = some (some (.ref (He.ga K "fraction_of")))),
  fun K => decide (PySem.W.nsIn K mainGlobals "turn_of" = some (some (.ref (He.ga K "turn_of")))),
  fun K => decide (PySem.W.nsIn K mainGlobals "worth_of" = some (some (.ref (He.ga K "worth_of")))),
  fun K => decide (PySem.W.nsIn K mainGlobals "best_ring" = some (some (.ref (He.ga K "best_ring")))),
  fun K => decide (PySem.W.nsIn K mainGlobals "ring_for" = some (some (.ref (He.ga K "ring_for")))),
  fun K => decide (PySem.W.nsIn K mainGlobals "is_count" = some (some (.ref (He.ga K "is_count")))),
  fun K => decide (PySem.W.nsIn K mainGlobals "are_counts" = some (some (.ref (He.ga K "are_counts")))),
  fun K => decide (PySem.W.nsIn K mainGlobals "is_row" = some (some (.ref (He.ga K "is_row")))),
  fun K => decide (PySem.W.findIn K (.ref (He.ga K "Needs")) "__init__" = some (some (.ref (He.ma K (He.ga K "Needs") "__init__")))),
  fun K => PySem.W.isFn K (.ref (He.ma K (He.ga K "Needs") "__init__")),
  fun K => PySem.W.makesIn K (He.ga K "Needs"),
  fun K => PySem.W.keepIn K (.ref (He.ga K "Needs")),
  fun K => decide (PySem.W.findIn K (.ref (He.ga K "Plan")) "__len__" = some (some (.ref (He.ma K (He.ga K "Plan") "__len__")))),
  fun K => PySem.W.isFn K (.ref (He.ma K (He.ga K "Plan") "__len__")),
  fun K => decide (PySem.W.findIn K (.ref (He.ga K "Plan")) "__iter__" = some (some (.ref (He.ma K (He.ga K "Plan") "__iter__"))))]
def fas2 : List (PySem.W.Frag → Bool) := [
  fun K => PySem.W.isFn K (.ref (He.ma K (He.ga K "Plan") "__iter__")),
  fun K => decide (PySem.W.nsIn K mainGlobals "up" = some (some (.ref (He.ga K "up")))),
  fun K => decide (PySem.W.nsIn K mainGlobals "step_hours" = some (some (.ref (He.ga K "step_hours")))),
  fun K => decide (PySem.W.nsIn K mainGlobals "winds" = some (some (.ref (He.ga K "winds")))),
  fun K => decide (PySem.W.nsIn K mainGlobals "ring_bound" = some (some (.ref (He.ga K "ring_bound")))),
  fun K => decide (PySem.W.nsIn K mainGlobals "fewest" = some (some (.ref (He.ga K "fewest")))),
  fun K => decide (PySem.W.nsIn K mainGlobals "enough" = some (some (.ref (He.ga K "enough")))),
  fun K => decide (PySem.W.findIn K (.ref (He.ga K "Plan")) "__init__" = some (some (.ref (He.ma K (He.ga K "Plan") "__init__")))),
  fun K => PySem.W.isFn K (.ref (He.ma K (He.ga K "Plan") "__init__")),
  fun K => PySem.W.makesIn K (He.ga K "Plan"),
  fun K => PySem.W.keepIn K (.ref (He.ga K "Plan")),
  fun K => decide (PySem.W.nsIn K mainGlobals "plan_of" = some (some (.ref (He.ga K "plan_of")))),
  fun K => decide (PySem.W.nsIn K mainGlobals "settled" = some (some (.ref (He.ga K "settled")))),
  fun K => decide (PySem.W.nsIn K mainGlobals "plan_for" = some (some (.ref (He.ga K "plan_for")))),
  fun K => decide (PySem.W.findIn K (.ref (He.ga K "Plan")) "__eq__" = some (some (.ref (He.ma K (He.ga K "Plan") "__eq__")))),
  fun K => PySem.W.isFn K (.ref (He.ma K (He.ga K "Plan") "__eq__")),
  fun K => decide (PySem.W.nsIn K mainGlobals "_law_is_whole" = some (some (.ref (He.ga K "_law_is_whole")))),
  fun K => decide (PySem.W.nsIn K mainGlobals "_law_is_count" = some (some (.ref (He.ga K "_law_is_count")))),
  fun K => decide (PySem.W.nsIn K mainGlobals "_law_serving" = some (some (.ref (He.ga K "_law_serving")))),
  fun K => decide (PySem.W.nsIn K mainGlobals "_law_there" = some (some (.ref (He.ga K "_law_there")))),
  fun K => decide (PySem.W.nsIn K mainGlobals "_law_serves" = some (some (.ref (He.ga K "_law_serves")))),
  fun K => decide (PySem.W.nsIn K mainGlobals "_law_is_hour" = some (some (.ref (He.ga K "_law_is_hour")))),
  fun K => decide (PySem.W.nsIn K mainGlobals "_law_is_ring" = some (some (.ref (He.ga K "_law_is_ring")))),
  fun K => decide (PySem.W.nsIn K mainGlobals "_law_hop" = some (some (.ref (He.ga K "_law_hop")))),
  fun K => decide (PySem.W.nsIn K mainGlobals "_law_wound" = some (some (.ref (He.ga K "_law_wound")))),
  fun K => decide (PySem.W.nsIn K mainGlobals "_law_bound_of" = some (some (.ref (He.ga K "_law_bound_of")))),
  fun K => decide (PySem.W.nsIn K mainGlobals "_law_shown" = some (some (.ref (He.ga K "_law_shown")))),
  fun K => decide (PySem.W.nsIn K mainGlobals "_law_alike" = some (some (.ref (He.ga K "_law_alike")))),
  fun K => decide (PySem.W.nsIn K mainGlobals "_law_papers_right" = some (some (.ref (He.ga K "_law_papers_right")))),
  fun K => decide (PySem.W.nsIn K mainGlobals "law" = some (some (.ref (He.ga K "law")))),
  fun K => decide (PySem.W.nsIn K mainGlobals "abs" = some none),
  fun K => decide (PySem.W.nsIn K mainGlobals "all" = some none),
  fun K => decide (PySem.W.nsIn K mainGlobals "bool" = some none),
  fun K => decide (PySem.W.nsIn K mainGlobals "enumerate" = some none),
  fun K => decide (PySem.W.nsIn K mainGlobals "int" = some none),
  fun K => decide (PySem.W.nsIn K mainGlobals "isinstance" = some none),
  fun K => decide (PySem.W.nsIn K mainGlobals "iter" = some none),
  fun K => decide (PySem.W.nsIn K mainGlobals "len" = some none),
  fun K => decide (PySem.W.nsIn K mainGlobals "list" = some none),
  fun K => decide (PySem.W.nsIn K mainGlobals "max" = some none)]
def fas3 : List (PySem.W.Frag → Bool) := [
  fun K => decide (PySem.W.nsIn K mainGlobals "min" = some none),
  fun K => decide (PySem.W.nsIn K mainGlobals "range" = some none),
  fun K => decide (PySem.W.nsIn K mainGlobals "repr" = some none),
  fun K => decide (PySem.W.nsIn K mainGlobals "sum" = some none),
  fun K => decide (PySem.W.nsIn K mainGlobals "tuple" = some none),
  fun K => decide (PySem.W.nsIn K mainGlobals "zip" = some none),
  fun K => itB (PySem.W.nsIn K mainGlobals "MOST_HOURS") 48,
  fun K => decide (PySem.W.findIn K (.ref (He.ga K "Plan")) "__class__" = some (some (.builtin "object.__class__"))),
  fun K => decide (PySem.W.specialIn K (.builtin "object.__class__") "__get__" = some (some (.builtin "getset_descriptor.__get__"))),
  fun K => decide (PySem.W.takesIn K (.builtin "object.__class__") = some true),
  fun K => decide (PySem.W.mroIn K (He.ga K "Plan") (.type "object") = some true),
  fun K => decide (PySem.W.findIn K (.ref (He.ga K "Plan")) "__ne__" = some (some (.builtin "object.__ne__"))),
  fun K => decide (PySem.W.mroIn K (He.ga K "Plan") (.type "object") = some true)]
def fas : List (PySem.W.Frag → Bool) := fas0 ++ fas1 ++ fas2 ++ fas3
def fns0 : List DefH := [
  ⟨fun K => (He.ga K "_law_bag"), "_law_bag", "_law_bag", s__law_bag⟩,
  ⟨fun K => (He.ga K "_law_take"), "_law_take", "_law_take", s__law_take⟩,
  ⟨fun K => (He.ga K "_law_number"), "_law_number", "_law_number", s__law_number⟩,
  ⟨fun K => (He.ga K "_law_numbers"), "_law_numbers", "_law_numbers", s__law_numbers⟩,
  ⟨fun K => (He.ga K "_law_wants"), "_law_wants", "_law_wants", s__law_wants⟩,
  ⟨fun K => (He.ga K "_law_stays"), "_law_stays", "_law_stays", s__law_stays⟩,
  ⟨fun K => (He.ga K "is_integer"), "is_integer", "is_integer", s_is_integer⟩,
  ⟨fun K => (He.ga K "are_stays"), "are_stays", "are_stays", s_are_stays⟩,
  ⟨fun K => (He.ga K "need_order"), "need_order", "need_order", s_need_order⟩,
  ⟨fun K => (He.ga K "width_of"), "width_of", "width_of", s_width_of⟩,
  ⟨fun K => (He.ma K (He.ga K "Clock") "__init__"), "__init__", "Clock.__init__", s_Clock___init__⟩,
  ⟨fun K => (He.ga K "_law_clock"), "_law_clock", "_law_clock", s__law_clock⟩,
  ⟨fun K => (He.ga K "_law_mixed"), "_law_mixed", "_law_mixed", s__law_mixed⟩,
  ⟨fun K => (He.ma K (He.ga K "Clock") "stays"), "stays", "Clock.stays", s_Clock_stays⟩,
  ⟨fun K => (rcA K (He.ma K (He.ga K "Clock") "hours") "property"), "hours", "Clock.hours", s_Clock_hours⟩,
  ⟨fun K => (rcA K (He.ma K (He.ga K "Needs") "hours") "property"), "hours", "Needs.hours", s_Needs_hours⟩,
  ⟨fun K => (He.ga K "need_alike"), "need_alike", "need_alike", s_need_alike⟩,
  ⟨fun K => (He.ma K (He.ga K "Clock") "widths"), "widths", "Clock.widths", s_Clock_widths⟩,
  ⟨fun K => (He.ga K "is_hour"), "is_hour", "is_hour", s_is_hour⟩,
  ⟨fun K => (He.ma K (He.ga K "Needs") "__getitem__"), "__getitem__", "Needs.__getitem__", s_Needs___getitem__⟩,
  ⟨fun K => (He.ga K "need_edges"), "need_edges", "need_edges", s_need_edges⟩,
  ⟨fun K => (He.ma K (He.ga K "Needs") "__len__"), "__len__", "Needs.__len__", s_Needs___len__⟩,
  ⟨fun K => (He.ma K (He.ga K "Needs") "__iter__"), "__iter__", "Needs.__iter__", s_Needs___iter__⟩,
  ⟨fun K => (He.ga K "gain_of"), "gain_of", "gain_of", s_gain_of⟩,
  ⟨fun K => (He.ga K "further"), "further", "further", s_further⟩,
  ⟨fun K => (He.ga K "closed_at"), "closed_at", "closed_at", s_closed_at⟩,
  ⟨fun K => (He.ga K "gaining"), "gaining", "gaining", s_gaining⟩,
  ⟨fun K => (He.ga K "common"), "common", "common", s_common⟩,
  ⟨fun K => (He.ga K "fraction_of"), "fraction_of", "fraction_of", s_fraction_of⟩,
  ⟨fun K => (He.ga K "turn_of"), "turn_of", "turn_of", s_turn_of⟩,
  ⟨fun K => (He.ga K "worth_of"), "worth_of", "worth_of", s_worth_of⟩,
  ⟨fun K => (He.ga K "best_ring"), "best_ring", "best_ring", s_best_ring⟩,
  ⟨fun K => (He.ga K "ring_for"), "ring_for", "ring_for", s_ring_for⟩,
  ⟨fun K => (He.ga K "is_count"), "is_count", "is_count", s_is_count⟩,
  ⟨fun K => (He.ga K "are_counts"), "are_counts", "are_counts", s_are_counts⟩,
  ⟨fun K => (He.ga K "is_row"), "is_row", "is_row", s_is_row⟩,
  ⟨fun K => (He.ma K (He.ga K "Needs") "__init__"), "__init__", "Needs.__init__", s_Needs___init__⟩,
  ⟨fun K => (He.ma K (He.ga K "Plan") "__len__"), "__len__", "Plan.__len__", s_Plan___len__⟩,
  ⟨fun K => (He.ma K (He.ga K "Plan") "__iter__"), "__iter__", "Plan.__iter__", s_Plan___iter__⟩,
  ⟨fun K => (He.ga K "up"), "up", "up", s_up⟩]
def fns1 : List DefH := [
  ⟨fun K => (He.ga K "step_hours"), "step_hours", "step_hours", s_step_hours⟩,
  ⟨fun K => (He.ga K "winds"), "winds", "winds", s_winds⟩,
  ⟨fun K => (He.ga K "ring_bound"), "ring_bound", "ring_bound", s_ring_bound⟩,
  ⟨fun K => (He.ga K "fewest"), "fewest", "fewest", s_fewest⟩,
  ⟨fun K => (He.ga K "enough"), "enough", "enough", s_enough⟩,
  ⟨fun K => (He.ma K (He.ga K "Plan") "__init__"), "__init__", "Plan.__init__", s_Plan___init__⟩,
  ⟨fun K => (He.ga K "plan_of"), "plan_of", "plan_of", s_plan_of⟩,
  ⟨fun K => (He.ga K "settled"), "settled", "settled", s_settled⟩,
  ⟨fun K => (He.ga K "plan_for"), "plan_for", "plan_for", s_plan_for⟩,
  ⟨fun K => (He.ma K (He.ga K "Plan") "__eq__"), "__eq__", "Plan.__eq__", s_Plan___eq__⟩,
  ⟨fun K => (He.ga K "_law_is_whole"), "_law_is_whole", "_law_is_whole", s__law_is_whole⟩,
  ⟨fun K => (He.ga K "_law_is_count"), "_law_is_count", "_law_is_count", s__law_is_count⟩,
  ⟨fun K => (He.ga K "_law_serving"), "_law_serving", "_law_serving", s__law_serving⟩,
  ⟨fun K => (He.ga K "_law_there"), "_law_there", "_law_there", s__law_there⟩,
  ⟨fun K => (He.ga K "_law_serves"), "_law_serves", "_law_serves", s__law_serves⟩,
  ⟨fun K => (He.ga K "_law_is_hour"), "_law_is_hour", "_law_is_hour", s__law_is_hour⟩,
  ⟨fun K => (He.ga K "_law_is_ring"), "_law_is_ring", "_law_is_ring", s__law_is_ring⟩,
  ⟨fun K => (He.ga K "_law_hop"), "_law_hop", "_law_hop", s__law_hop⟩,
  ⟨fun K => (He.ga K "_law_wound"), "_law_wound", "_law_wound", s__law_wound⟩,
  ⟨fun K => (He.ga K "_law_bound_of"), "_law_bound_of", "_law_bound_of", s__law_bound_of⟩,
  ⟨fun K => (He.ga K "_law_shown"), "_law_shown", "_law_shown", s__law_shown⟩,
  ⟨fun K => (He.ga K "_law_alike"), "_law_alike", "_law_alike", s__law_alike⟩,
  ⟨fun K => (He.ga K "_law_papers_right"), "_law_papers_right", "_law_papers_right", s__law_papers_right⟩,
  ⟨fun K => (He.ga K "law"), "law", "law", s_law⟩]
def fns : List DefH := fns0 ++ fns1
def loose0 : List Str := [("_wall" : Str), ("NeedError" : Str), ("Wrong" : Str), ("Overtaken" : Str), ("NoHour" : Str), ("Unlike" : Str), ("NoBegin" : Str), ("TooFew" : Str), ("is_integer" : Str), ("is_count" : Str), ("is_hour" : Str), ("common" : Str), ("fraction_of" : Str), ("are_counts" : Str), ("up" : Str), ("MOST_HOURS" : Str)]
def loose1 : List Str := [("are_stays" : Str), ("need_order" : Str), ("width_of" : Str), ("Clock" : Str), ("is_row" : Str), ("pairs_of" : Str), ("Needs" : Str), ("sums_of" : Str), ("row_of" : Str), ("both_sums" : Str), ("Plan" : Str), ("need_alike" : Str), ("step_hours" : Str), ("winds" : Str), ("ring_bound" : Str), ("gain_of" : Str)]
def loose2 : List Str := [("further" : Str), ("closed_at" : Str), ("gaining" : Str), ("settled" : Str), ("turn_of" : Str), ("worth_of" : Str), ("plan_of" : Str), ("need_edges" : Str), ("best_ring" : Str), ("fewest" : Str), ("ring_for" : Str), ("enough" : Str), ("plan_for" : Str), ("_law_bag" : Str), ("_law_take" : Str), ("_law_mixed" : Str)]
def loose3 : List Str := [("_law_number" : Str), ("_law_stays" : Str), ("_law_serving" : Str), ("_law_there" : Str), ("_law_alike" : Str), ("_law_numbers" : Str), ("_law_is_whole" : Str), ("_law_is_count" : Str), ("_law_is_hour" : Str), ("_law_clock" : Str), ("_law_wants" : Str), ("_law_hop" : Str), ("_law_wound" : Str), ("_law_bound_of" : Str), ("_law_is_ring" : Str), ("_law_serves" : Str)]
def loose4 : List Str := [("_law_shown" : Str), ("_law_papers_right" : Str)]
def loose : List Str := loose0 ++ loose1 ++ loose2 ++ loose3 ++ loose4
theorem facts {P : Program} {w : World} {K : PySem.W.Frag} {h : Heap} {mg : Str → Option Value} {fa : Addr} (X : K.In h) (G : h.Ns mainGlobals mg) (hfa : mg "law" = some (.ref fa)) (c : SaysH fas fns K) :
    ∀ base : Heap, K.In base → base.Ns mainGlobals mg → OkP NoG P w K mg base 11 fa ["_law_script"] (fun vs H Q E => spLaw K vs H Q E) := by
  have a_Clock : PySem.W.nsIn K mainGlobals "Clock" = some (some (.ref (He.ga K "Clock"))) := dok (c.fact 0 rfl)
  have pg_Clock : PySem.W.plainGet K (He.ga K "Clock") Str.empty = true := (c.fact 1 rfl)
  have hd_Clock : PySem.W.hasDictIn K (He.ga K "Clock") = true := (c.fact 2 rfl)
  have po_Clock : PySem.W.plainOver K (He.ga K "Clock") = true := (c.fact 3 rfl)
  have sa_Clock : PySem.W.findIn K (.ref (He.ga K "Clock")) "__setattr__" = some (some (.builtin "object.__setattr__")) := dok (c.fact 4 rfl)
  have sf_Clock : PySem.W.selfFirst K (He.ga K "Clock") = true := (c.fact 5 rfl)
  have a_Needs : PySem.W.nsIn K mainGlobals "Needs" = some (some (.ref (He.ga K "Needs"))) := dok (c.fact 6 rfl)
  have pg_Needs : PySem.W.plainGet K (He.ga K "Needs") Str.empty = true := (c.fact 7 rfl)
  have hd_Needs : PySem.W.hasDictIn K (He.ga K "Needs") = true := (c.fact 8 rfl)
  have po_Needs : PySem.W.plainOver K (He.ga K "Needs") = true := (c.fact 9 rfl)
  have sa_Needs : PySem.W.findIn K (.ref (He.ga K "Needs")) "__setattr__" = some (some (.builtin "object.__setattr__")) := dok (c.fact 10 rfl)
  have sf_Needs : PySem.W.selfFirst K (He.ga K "Needs") = true := (c.fact 11 rfl)
  have a_Plan : PySem.W.nsIn K mainGlobals "Plan" = some (some (.ref (He.ga K "Plan"))) := dok (c.fact 12 rfl)
  have pg_Plan : PySem.W.plainGet K (He.ga K "Plan") Str.empty = true := (c.fact 13 rfl)
  have hd_Plan : PySem.W.hasDictIn K (He.ga K "Plan") = true := (c.fact 14 rfl)
  have po_Plan : PySem.W.plainOver K (He.ga K "Plan") = true := (c.fact 15 rfl)
  have sa_Plan : PySem.W.findIn K (.ref (He.ga K "Plan")) "__setattr__" = some (some (.builtin "object.__setattr__")) := dok (c.fact 16 rfl)
  have sf_Plan : PySem.W.selfFirst K (He.ga K "Plan") = true := (c.fact 17 rfl)
  have n_Clock_kept_stays : PySem.W.findIn K (.ref (He.ga K "Clock")) "kept_stays" = some none := dok (c.fact 18 rfl)
  have n_Clock_kept_widths : PySem.W.findIn K (.ref (He.ga K "Clock")) "kept_widths" = some none := dok (c.fact 19 rfl)
  have n_Needs_kept_row : PySem.W.findIn K (.ref (He.ga K "Needs")) "kept_row" = some none := dok (c.fact 20 rfl)
  have n_Plan_kept_begins : PySem.W.findIn K (.ref (He.ga K "Plan")) "kept_begins" = some none := dok (c.fact 21 rfl)
  have a__law_bag : PySem.W.nsIn K mainGlobals "_law_bag" = some (some (.ref (He.ga K "_law_bag"))) := dok (c.fact 22 rfl)
  have a__law_take : PySem.W.nsIn K mainGlobals "_law_take" = some (some (.ref (He.ga K "_law_take"))) := dok (c.fact 23 rfl)
  have a__law_number : PySem.W.nsIn K mainGlobals "_law_number" = some (some (.ref (He.ga K "_law_number"))) := dok (c.fact 24 rfl)
  have a__law_numbers : PySem.W.nsIn K mainGlobals "_law_numbers" = some (some (.ref (He.ga K "_law_numbers"))) := dok (c.fact 25 rfl)
  have a__law_wants : PySem.W.nsIn K mainGlobals "_law_wants" = some (some (.ref (He.ga K "_law_wants"))) := dok (c.fact 26 rfl)
  have a__law_stays : PySem.W.nsIn K mainGlobals "_law_stays" = some (some (.ref (He.ga K "_law_stays"))) := dok (c.fact 27 rfl)
  have a_is_integer : PySem.W.nsIn K mainGlobals "is_integer" = some (some (.ref (He.ga K "is_integer"))) := dok (c.fact 28 rfl)
  have a_are_stays : PySem.W.nsIn K mainGlobals "are_stays" = some (some (.ref (He.ga K "are_stays"))) := dok (c.fact 29 rfl)
  have a_need_order : PySem.W.nsIn K mainGlobals "need_order" = some (some (.ref (He.ga K "need_order"))) := dok (c.fact 30 rfl)
  have a_width_of : PySem.W.nsIn K mainGlobals "width_of" = some (some (.ref (He.ga K "width_of"))) := dok (c.fact 31 rfl)
  have a_Clock___init__ : PySem.W.findIn K (.ref (He.ga K "Clock")) "__init__" = some (some (.ref (He.ma K (He.ga K "Clock") "__init__"))) := dok (c.fact 32 rfl)
  have i_Clock___init__ : PySem.W.isFn K (.ref (He.ma K (He.ga K "Clock") "__init__")) = true := (c.fact 33 rfl)
  have mm_Clock : PySem.W.makesIn K (He.ga K "Clock") = true := (c.fact 34 rfl)
  have mc_Clock : PySem.W.keepIn K (.ref (He.ga K "Clock")) = true := (c.fact 35 rfl)
  have a__law_clock : PySem.W.nsIn K mainGlobals "_law_clock" = some (some (.ref (He.ga K "_law_clock"))) := dok (c.fact 36 rfl)
  have a__law_mixed : PySem.W.nsIn K mainGlobals "_law_mixed" = some (some (.ref (He.ga K "_law_mixed"))) := dok (c.fact 37 rfl)
  have a_Clock_stays : PySem.W.findIn K (.ref (He.ga K "Clock")) "stays" = some (some (.ref (He.ma K (He.ga K "Clock") "stays"))) := dok (c.fact 38 rfl)
  have i_Clock_stays : PySem.W.isFn K (.ref (He.ma K (He.ga K "Clock") "stays")) = true := (c.fact 39 rfl)
  have pa_Clock_hours : PySem.W.findIn K (.ref (He.ga K "Clock")) "hours" = some (some (.ref (He.ma K (He.ga K "Clock") "hours"))) := dok (c.fact 40 rfl)
  have pb_Clock_hours : PySem.W.specialIn K (.ref (He.ma K (He.ga K "Clock") "hours")) "__get__" = some (some (.builtin "property.__get__")) := dok (c.fact 41 rfl)
  have pc_Clock_hours : PySem.W.takesIn K (.ref (He.ma K (He.ga K "Clock") "hours")) = some true := dok (c.fact 42 rfl)
  obtain ⟨_, pd_Clock_hours⟩ := rcB_ok (c.fact 43 rfl)
  have pa_Needs_hours : PySem.W.findIn K (.ref (He.ga K "Needs")) "hours" = some (some (.ref (He.ma K (He.ga K "Needs") "hours"))) := dok (c.fact 44 rfl)
  have pb_Needs_hours : PySem.W.specialIn K (.ref (He.ma K (He.ga K "Needs") "hours")) "__get__" = some (some (.builtin "property.__get__")) := dok (c.fact 45 rfl)
  have pc_Needs_hours : PySem.W.takesIn K (.ref (He.ma K (He.ga K "Needs") "hours")) = some true := dok (c.fact 46 rfl)
  obtain ⟨_, pd_Needs_hours⟩ := rcB_ok (c.fact 47 rfl)
  have a_need_alike : PySem.W.nsIn K mainGlobals "need_alike" = some (some (.ref (He.ga K "need_alike"))) := dok (c.fact 48 rfl)
  have a_Clock_widths : PySem.W.findIn K (.ref (He.ga K "Clock")) "widths" = some (some (.ref (He.ma K (He.ga K "Clock") "widths"))) := dok (c.fact 49 rfl)
  have i_Clock_widths : PySem.W.isFn K (.ref (He.ma K (He.ga K "Clock") "widths")) = true := (c.fact 50 rfl)
  have a_is_hour : PySem.W.nsIn K mainGlobals "is_hour" = some (some (.ref (He.ga K "is_hour"))) := dok (c.fact 51 rfl)
  have a_Needs___getitem__ : PySem.W.findIn K (.ref (He.ga K "Needs")) "__getitem__" = some (some (.ref (He.ma K (He.ga K "Needs") "__getitem__"))) := dok (c.fact 52 rfl)
  have i_Needs___getitem__ : PySem.W.isFn K (.ref (He.ma K (He.ga K "Needs") "__getitem__")) = true := (c.fact 53 rfl)
  have fi_Needs___getitem__ : PySem.W.fnIn K (He.ma K (He.ga K "Needs") "__getitem__") = true := (c.fact 54 rfl)
  have a_need_edges : PySem.W.nsIn K mainGlobals "need_edges" = some (some (.ref (He.ga K "need_edges"))) := dok (c.fact 55 rfl)
  have a_Needs___len__ : PySem.W.findIn K (.ref (He.ga K "Needs")) "__len__" = some (some (.ref (He.ma K (He.ga K "Needs") "__len__"))) := dok (c.fact 56 rfl)
  have i_Needs___len__ : PySem.W.isFn K (.ref (He.ma K (He.ga K "Needs") "__len__")) = true := (c.fact 57 rfl)
  have a_Needs___iter__ : PySem.W.findIn K (.ref (He.ga K "Needs")) "__iter__" = some (some (.ref (He.ma K (He.ga K "Needs") "__iter__"))) := dok (c.fact 58 rfl)
  have i_Needs___iter__ : PySem.W.isFn K (.ref (He.ma K (He.ga K "Needs") "__iter__")) = true := (c.fact 59 rfl)
  have a_gain_of : PySem.W.nsIn K mainGlobals "gain_of" = some (some (.ref (He.ga K "gain_of"))) := dok (c.fact 60 rfl)
  have a_further : PySem.W.nsIn K mainGlobals "further" = some (some (.ref (He.ga K "further"))) := dok (c.fact 61 rfl)
  have a_closed_at : PySem.W.nsIn K mainGlobals "closed_at" = some (some (.ref (He.ga K "closed_at"))) := dok (c.fact 62 rfl)
  have a_gaining : PySem.W.nsIn K mainGlobals "gaining" = some (some (.ref (He.ga K "gaining"))) := dok (c.fact 63 rfl)
  have a_common : PySem.W.nsIn K mainGlobals "common" = some (some (.ref (He.ga K "common"))) := dok (c.fact 64 rfl)
  have a_fraction_of : PySem.W.nsIn K mainGlobals "fraction_of" = some (some (.ref (He.ga K "fraction_of"))) := dok (c.fact 65 rfl)
  have a_turn_of : PySem.W.nsIn K mainGlobals "turn_of" = some (some (.ref (He.ga K "turn_of"))) := dok (c.fact 66 rfl)
  have a_worth_of : PySem.W.nsIn K mainGlobals "worth_of" = some (some (.ref (He.ga K "worth_of"))) := dok (c.fact 67 rfl)
  have a_best_ring : PySem.W.nsIn K mainGlobals "best_ring" = some (some (.ref (He.ga K "best_ring"))) := dok (c.fact 68 rfl)
  have a_ring_for : PySem.W.nsIn K mainGlobals "ring_for" = some (some (.ref (He.ga K "ring_for"))) := dok (c.fact 69 rfl)
  have a_is_count : PySem.W.nsIn K mainGlobals "is_count" = some (some (.ref (He.ga K "is_count"))) := dok (c.fact 70 rfl)
  have a_are_counts : PySem.W.nsIn K mainGlobals "are_counts" = some (some (.ref (He.ga K "are_counts"))) := dok (c.fact 71 rfl)
  have a_is_row : PySem.W.nsIn K mainGlobals "is_row" = some (some (.ref (He.ga K "is_row"))) := dok (c.fact 72 rfl)
  have a_Needs___init__ : PySem.W.findIn K (.ref (He.ga K "Needs")) "__init__" = some (some (.ref (He.ma K (He.ga K "Needs") "__init__"))) := dok (c.fact 73 rfl)
  have i_Needs___init__ : PySem.W.isFn K (.ref (He.ma K (He.ga K "Needs") "__init__")) = true := (c.fact 74 rfl)
  have mm_Needs : PySem.W.makesIn K (He.ga K "Needs") = true := (c.fact 75 rfl)
  have mc_Needs : PySem.W.keepIn K (.ref (He.ga K "Needs")) = true := (c.fact 76 rfl)
  have a_Plan___len__ : PySem.W.findIn K (.ref (He.ga K "Plan")) "__len__" = some (some (.ref (He.ma K (He.ga K "Plan") "__len__"))) := dok (c.fact 77 rfl)
  have i_Plan___len__ : PySem.W.isFn K (.ref (He.ma K (He.ga K "Plan") "__len__")) = true := (c.fact 78 rfl)
  have a_Plan___iter__ : PySem.W.findIn K (.ref (He.ga K "Plan")) "__iter__" = some (some (.ref (He.ma K (He.ga K "Plan") "__iter__"))) := dok (c.fact 79 rfl)
  have i_Plan___iter__ : PySem.W.isFn K (.ref (He.ma K (He.ga K "Plan") "__iter__")) = true := (c.fact 80 rfl)
  have a_up : PySem.W.nsIn K mainGlobals "up" = some (some (.ref (He.ga K "up"))) := dok (c.fact 81 rfl)
  have a_step_hours : PySem.W.nsIn K mainGlobals "step_hours" = some (some (.ref (He.ga K "step_hours"))) := dok (c.fact 82 rfl)
  have a_winds : PySem.W.nsIn K mainGlobals "winds" = some (some (.ref (He.ga K "winds"))) := dok (c.fact 83 rfl)
  have a_ring_bound : PySem.W.nsIn K mainGlobals "ring_bound" = some (some (.ref (He.ga K "ring_bound"))) := dok (c.fact 84 rfl)
  have a_fewest : PySem.W.nsIn K mainGlobals "fewest" = some (some (.ref (He.ga K "fewest"))) := dok (c.fact 85 rfl)
  have a_enough : PySem.W.nsIn K mainGlobals "enough" = some (some (.ref (He.ga K "enough"))) := dok (c.fact 86 rfl)
  have a_Plan___init__ : PySem.W.findIn K (.ref (He.ga K "Plan")) "__init__" = some (some (.ref (He.ma K (He.ga K "Plan") "__init__"))) := dok (c.fact 87 rfl)
  have i_Plan___init__ : PySem.W.isFn K (.ref (He.ma K (He.ga K "Plan") "__init__")) = true := (c.fact 88 rfl)
  have mm_Plan : PySem.W.makesIn K (He.ga K "Plan") = true := (c.fact 89 rfl)
  have mc_Plan : PySem.W.keepIn K (.ref (He.ga K "Plan")) = true := (c.fact 90 rfl)
  have a_plan_of : PySem.W.nsIn K mainGlobals "plan_of" = some (some (.ref (He.ga K "plan_of"))) := dok (c.fact 91 rfl)
  have a_settled : PySem.W.nsIn K mainGlobals "settled" = some (some (.ref (He.ga K "settled"))) := dok (c.fact 92 rfl)
  have a_plan_for : PySem.W.nsIn K mainGlobals "plan_for" = some (some (.ref (He.ga K "plan_for"))) := dok (c.fact 93 rfl)
  have a_Plan___eq__ : PySem.W.findIn K (.ref (He.ga K "Plan")) "__eq__" = some (some (.ref (He.ma K (He.ga K "Plan") "__eq__"))) := dok (c.fact 94 rfl)
  have i_Plan___eq__ : PySem.W.isFn K (.ref (He.ma K (He.ga K "Plan") "__eq__")) = true := (c.fact 95 rfl)
  have a__law_is_whole : PySem.W.nsIn K mainGlobals "_law_is_whole" = some (some (.ref (He.ga K "_law_is_whole"))) := dok (c.fact 96 rfl)
  have a__law_is_count : PySem.W.nsIn K mainGlobals "_law_is_count" = some (some (.ref (He.ga K "_law_is_count"))) := dok (c.fact 97 rfl)
  have a__law_serving : PySem.W.nsIn K mainGlobals "_law_serving" = some (some (.ref (He.ga K "_law_serving"))) := dok (c.fact 98 rfl)
  have a__law_there : PySem.W.nsIn K mainGlobals "_law_there" = some (some (.ref (He.ga K "_law_there"))) := dok (c.fact 99 rfl)
  have a__law_serves : PySem.W.nsIn K mainGlobals "_law_serves" = some (some (.ref (He.ga K "_law_serves"))) := dok (c.fact 100 rfl)
  have a__law_is_hour : PySem.W.nsIn K mainGlobals "_law_is_hour" = some (some (.ref (He.ga K "_law_is_hour"))) := dok (c.fact 101 rfl)
  have a__law_is_ring : PySem.W.nsIn K mainGlobals "_law_is_ring" = some (some (.ref (He.ga K "_law_is_ring"))) := dok (c.fact 102 rfl)
  have a__law_hop : PySem.W.nsIn K mainGlobals "_law_hop" = some (some (.ref (He.ga K "_law_hop"))) := dok (c.fact 103 rfl)
  have a__law_wound : PySem.W.nsIn K mainGlobals "_law_wound" = some (some (.ref (He.ga K "_law_wound"))) := dok (c.fact 104 rfl)
  have a__law_bound_of : PySem.W.nsIn K mainGlobals "_law_bound_of" = some (some (.ref (He.ga K "_law_bound_of"))) := dok (c.fact 105 rfl)
  have a__law_shown : PySem.W.nsIn K mainGlobals "_law_shown" = some (some (.ref (He.ga K "_law_shown"))) := dok (c.fact 106 rfl)
  have a__law_alike : PySem.W.nsIn K mainGlobals "_law_alike" = some (some (.ref (He.ga K "_law_alike"))) := dok (c.fact 107 rfl)
  have a__law_papers_right : PySem.W.nsIn K mainGlobals "_law_papers_right" = some (some (.ref (He.ga K "_law_papers_right"))) := dok (c.fact 108 rfl)
  have a_law : PySem.W.nsIn K mainGlobals "law" = some (some (.ref (He.ga K "law"))) := dok (c.fact 109 rfl)
  have z_abs : PySem.W.nsIn K mainGlobals "abs" = some none := dok (c.fact 110 rfl)
  have z_all : PySem.W.nsIn K mainGlobals "all" = some none := dok (c.fact 111 rfl)
  have z_bool : PySem.W.nsIn K mainGlobals "bool" = some none := dok (c.fact 112 rfl)
  have z_enumerate : PySem.W.nsIn K mainGlobals "enumerate" = some none := dok (c.fact 113 rfl)
  have z_int : PySem.W.nsIn K mainGlobals "int" = some none := dok (c.fact 114 rfl)
  have z_isinstance : PySem.W.nsIn K mainGlobals "isinstance" = some none := dok (c.fact 115 rfl)
  have z_iter : PySem.W.nsIn K mainGlobals "iter" = some none := dok (c.fact 116 rfl)
  have z_len : PySem.W.nsIn K mainGlobals "len" = some none := dok (c.fact 117 rfl)
  have z_list : PySem.W.nsIn K mainGlobals "list" = some none := dok (c.fact 118 rfl)
  have z_max : PySem.W.nsIn K mainGlobals "max" = some none := dok (c.fact 119 rfl)
  have z_min : PySem.W.nsIn K mainGlobals "min" = some none := dok (c.fact 120 rfl)
  have z_range : PySem.W.nsIn K mainGlobals "range" = some none := dok (c.fact 121 rfl)
  have z_repr : PySem.W.nsIn K mainGlobals "repr" = some none := dok (c.fact 122 rfl)
  have z_sum : PySem.W.nsIn K mainGlobals "sum" = some none := dok (c.fact 123 rfl)
  have z_tuple : PySem.W.nsIn K mainGlobals "tuple" = some none := dok (c.fact 124 rfl)
  have z_zip : PySem.W.nsIn K mainGlobals "zip" = some none := dok (c.fact 125 rfl)
  obtain ⟨_, k_MOST_HOURS⟩ := itB_ok (c.fact 126 rfl)
  have ia_Plan : PySem.W.findIn K (.ref (He.ga K "Plan")) "__class__" = some (some (.builtin "object.__class__")) := dok (c.fact 127 rfl)
  have gn_obj : PySem.W.specialIn K (.builtin "object.__class__") "__get__" = some (some (.builtin "getset_descriptor.__get__")) := dok (c.fact 128 rfl)
  have tk_obj : PySem.W.takesIn K (.builtin "object.__class__") = some true := dok (c.fact 129 rfl)
  have im_Plan : PySem.W.mroIn K (He.ga K "Plan") (.type "object") = some true := dok (c.fact 130 rfl)
  have ne_Plan : PySem.W.findIn K (.ref (He.ga K "Plan")) "__ne__" = some (some (.builtin "object.__ne__")) := dok (c.fact 131 rfl)
  have mr_Plan : PySem.W.mroIn K (He.ga K "Plan") (.type "object") = some true := dok (c.fact 132 rfl)
  obtain ⟨_, _, _, _, _, _, _, _, _, l__law_bag, c__law_bag, k__law_bag⟩ := c.def_ 0 (d := ⟨fun K => (He.ga K "_law_bag"), "_law_bag", "_law_bag", s__law_bag⟩) rfl
  obtain ⟨_, _, _, _, _, _, _, _, _, l__law_take, c__law_take, k__law_take⟩ := c.def_ 1 (d := ⟨fun K => (He.ga K "_law_take"), "_law_take", "_law_take", s__law_take⟩) rfl
  obtain ⟨_, _, _, _, _, _, _, _, _, l__law_number, c__law_number, k__law_number⟩ := c.def_ 2 (d := ⟨fun K => (He.ga K "_law_number"), "_law_number", "_law_number", s__law_number⟩) rfl
  obtain ⟨_, _, _, _, _, _, _, _, _, l__law_numbers, c__law_numbers, k__law_numbers⟩ := c.def_ 3 (d := ⟨fun K => (He.ga K "_law_numbers"), "_law_numbers", "_law_numbers", s__law_numbers⟩) rfl
  obtain ⟨_, _, _, _, _, _, _, _, _, l__law_wants, c__law_wants, k__law_wants⟩ := c.def_ 4 (d := ⟨fun K => (He.ga K "_law_wants"), "_law_wants", "_law_wants", s__law_wants⟩) rfl
  obtain ⟨_, _, _, _, _, _, _, _, _, l__law_stays, c__law_stays, k__law_stays⟩ := c.def_ 5 (d := ⟨fun K => (He.ga K "_law_stays"), "_law_stays", "_law_stays", s__law_stays⟩) rfl
  obtain ⟨_, _, _, _, _, _, _, _, _, l_is_integer, c_is_integer, k_is_integer⟩ := c.def_ 6 (d := ⟨fun K => (He.ga K "is_integer"), "is_integer", "is_integer", s_is_integer⟩) rfl
  obtain ⟨_, _, _, _, _, _, _, _, _, l_are_stays, c_are_stays, k_are_stays⟩ := c.def_ 7 (d := ⟨fun K => (He.ga K "are_stays"), "are_stays", "are_stays", s_are_stays⟩) rfl
  obtain ⟨_, _, _, _, _, _, _, _, _, l_need_order, c_need_order, k_need_order⟩ := c.def_ 8 (d := ⟨fun K => (He.ga K "need_order"), "need_order", "need_order", s_need_order⟩) rfl
  obtain ⟨_, _, _, _, _, _, _, _, _, l_width_of, c_width_of, k_width_of⟩ := c.def_ 9 (d := ⟨fun K => (He.ga K "width_of"), "width_of", "width_of", s_width_of⟩) rfl
  obtain ⟨_, _, _, _, _, _, _, _, _, l_Clock___init__, c_Clock___init__, k_Clock___init__⟩ := c.def_ 10 (d := ⟨fun K => (He.ma K (He.ga K "Clock") "__init__"), "__init__", "Clock.__init__", s_Clock___init__⟩) rfl
  obtain ⟨_, _, _, _, _, _, _, _, _, l__law_clock, c__law_clock, k__law_clock⟩ := c.def_ 11 (d := ⟨fun K => (He.ga K "_law_clock"), "_law_clock", "_law_clock", s__law_clock⟩) rfl
  obtain ⟨_, _, _, _, _, _, _, _, _, l__law_mixed, c__law_mixed, k__law_mixed⟩ := c.def_ 12 (d := ⟨fun K => (He.ga K "_law_mixed"), "_law_mixed", "_law_mixed", s__law_mixed⟩) rfl
  obtain ⟨_, _, _, _, _, _, _, _, _, l_Clock_stays, c_Clock_stays, k_Clock_stays⟩ := c.def_ 13 (d := ⟨fun K => (He.ma K (He.ga K "Clock") "stays"), "stays", "Clock.stays", s_Clock_stays⟩) rfl
  obtain ⟨_, _, _, _, _, _, _, _, _, l_Clock_hours, c_Clock_hours, k_Clock_hours⟩ := c.def_ 14 (d := ⟨fun K => (rcA K (He.ma K (He.ga K "Clock") "hours") "property"), "hours", "Clock.hours", s_Clock_hours⟩) rfl
  obtain ⟨_, _, _, _, _, _, _, _, _, l_Needs_hours, c_Needs_hours, k_Needs_hours⟩ := c.def_ 15 (d := ⟨fun K => (rcA K (He.ma K (He.ga K "Needs") "hours") "property"), "hours", "Needs.hours", s_Needs_hours⟩) rfl
  obtain ⟨_, _, _, _, _, _, _, _, _, l_need_alike, c_need_alike, k_need_alike⟩ := c.def_ 16 (d := ⟨fun K => (He.ga K "need_alike"), "need_alike", "need_alike", s_need_alike⟩) rfl
  obtain ⟨_, _, _, _, _, _, _, _, _, l_Clock_widths, c_Clock_widths, k_Clock_widths⟩ := c.def_ 17 (d := ⟨fun K => (He.ma K (He.ga K "Clock") "widths"), "widths", "Clock.widths", s_Clock_widths⟩) rfl
  obtain ⟨_, _, _, _, _, _, _, _, _, l_is_hour, c_is_hour, k_is_hour⟩ := c.def_ 18 (d := ⟨fun K => (He.ga K "is_hour"), "is_hour", "is_hour", s_is_hour⟩) rfl
  obtain ⟨_, _, _, _, _, _, _, _, _, l_Needs___getitem__, c_Needs___getitem__, k_Needs___getitem__⟩ := c.def_ 19 (d := ⟨fun K => (He.ma K (He.ga K "Needs") "__getitem__"), "__getitem__", "Needs.__getitem__", s_Needs___getitem__⟩) rfl
  obtain ⟨_, _, _, _, _, _, _, _, _, l_need_edges, c_need_edges, k_need_edges⟩ := c.def_ 20 (d := ⟨fun K => (He.ga K "need_edges"), "need_edges", "need_edges", s_need_edges⟩) rfl
  obtain ⟨_, _, _, _, _, _, _, _, _, l_Needs___len__, c_Needs___len__, k_Needs___len__⟩ := c.def_ 21 (d := ⟨fun K => (He.ma K (He.ga K "Needs") "__len__"), "__len__", "Needs.__len__", s_Needs___len__⟩) rfl
  obtain ⟨_, _, _, _, _, _, _, _, _, l_Needs___iter__, c_Needs___iter__, k_Needs___iter__⟩ := c.def_ 22 (d := ⟨fun K => (He.ma K (He.ga K "Needs") "__iter__"), "__iter__", "Needs.__iter__", s_Needs___iter__⟩) rfl
  obtain ⟨_, _, _, _, _, _, _, _, _, l_gain_of, c_gain_of, k_gain_of⟩ := c.def_ 23 (d := ⟨fun K => (He.ga K "gain_of"), "gain_of", "gain_of", s_gain_of⟩) rfl
  obtain ⟨_, _, _, _, _, _, _, _, _, l_further, c_further, k_further⟩ := c.def_ 24 (d := ⟨fun K => (He.ga K "further"), "further", "further", s_further⟩) rfl
  obtain ⟨_, _, _, _, _, _, _, _, _, l_closed_at, c_closed_at, k_closed_at⟩ := c.def_ 25 (d := ⟨fun K => (He.ga K "closed_at"), "closed_at", "closed_at", s_closed_at⟩) rfl
  obtain ⟨_, _, _, _, _, _, _, _, _, l_gaining, c_gaining, k_gaining⟩ := c.def_ 26 (d := ⟨fun K => (He.ga K "gaining"), "gaining", "gaining", s_gaining⟩) rfl
  obtain ⟨_, _, _, _, _, _, _, _, _, l_common, c_common, k_common⟩ := c.def_ 27 (d := ⟨fun K => (He.ga K "common"), "common", "common", s_common⟩) rfl
  obtain ⟨_, _, _, _, _, _, _, _, _, l_fraction_of, c_fraction_of, k_fraction_of⟩ := c.def_ 28 (d := ⟨fun K => (He.ga K "fraction_of"), "fraction_of", "fraction_of", s_fraction_of⟩) rfl
  obtain ⟨_, _, _, _, _, _, _, _, _, l_turn_of, c_turn_of, k_turn_of⟩ := c.def_ 29 (d := ⟨fun K => (He.ga K "turn_of"), "turn_of", "turn_of", s_turn_of⟩) rfl
  obtain ⟨_, _, _, _, _, _, _, _, _, l_worth_of, c_worth_of, k_worth_of⟩ := c.def_ 30 (d := ⟨fun K => (He.ga K "worth_of"), "worth_of", "worth_of", s_worth_of⟩) rfl
  obtain ⟨_, _, _, _, _, _, _, _, _, l_best_ring, c_best_ring, k_best_ring⟩ := c.def_ 31 (d := ⟨fun K => (He.ga K "best_ring"), "best_ring", "best_ring", s_best_ring⟩) rfl
  obtain ⟨_, _, _, _, _, _, _, _, _, l_ring_for, c_ring_for, k_ring_for⟩ := c.def_ 32 (d := ⟨fun K => (He.ga K "ring_for"), "ring_for", "ring_for", s_ring_for⟩) rfl
  obtain ⟨_, _, _, _, _, _, _, _, _, l_is_count, c_is_count, k_is_count⟩ := c.def_ 33 (d := ⟨fun K => (He.ga K "is_count"), "is_count", "is_count", s_is_count⟩) rfl
  obtain ⟨_, _, _, _, _, _, _, _, _, l_are_counts, c_are_counts, k_are_counts⟩ := c.def_ 34 (d := ⟨fun K => (He.ga K "are_counts"), "are_counts", "are_counts", s_are_counts⟩) rfl
  obtain ⟨_, _, _, _, _, _, _, _, _, l_is_row, c_is_row, k_is_row⟩ := c.def_ 35 (d := ⟨fun K => (He.ga K "is_row"), "is_row", "is_row", s_is_row⟩) rfl
  obtain ⟨_, _, _, _, _, _, _, _, _, l_Needs___init__, c_Needs___init__, k_Needs___init__⟩ := c.def_ 36 (d := ⟨fun K => (He.ma K (He.ga K "Needs") "__init__"), "__init__", "Needs.__init__", s_Needs___init__⟩) rfl
  obtain ⟨_, _, _, _, _, _, _, _, _, l_Plan___len__, c_Plan___len__, k_Plan___len__⟩ := c.def_ 37 (d := ⟨fun K => (He.ma K (He.ga K "Plan") "__len__"), "__len__", "Plan.__len__", s_Plan___len__⟩) rfl
  obtain ⟨_, _, _, _, _, _, _, _, _, l_Plan___iter__, c_Plan___iter__, k_Plan___iter__⟩ := c.def_ 38 (d := ⟨fun K => (He.ma K (He.ga K "Plan") "__iter__"), "__iter__", "Plan.__iter__", s_Plan___iter__⟩) rfl
  obtain ⟨_, _, _, _, _, _, _, _, _, l_up, c_up, k_up⟩ := c.def_ 39 (d := ⟨fun K => (He.ga K "up"), "up", "up", s_up⟩) rfl
  obtain ⟨_, _, _, _, _, _, _, _, _, l_step_hours, c_step_hours, k_step_hours⟩ := c.def_ 40 (d := ⟨fun K => (He.ga K "step_hours"), "step_hours", "step_hours", s_step_hours⟩) rfl
  obtain ⟨_, _, _, _, _, _, _, _, _, l_winds, c_winds, k_winds⟩ := c.def_ 41 (d := ⟨fun K => (He.ga K "winds"), "winds", "winds", s_winds⟩) rfl
  obtain ⟨_, _, _, _, _, _, _, _, _, l_ring_bound, c_ring_bound, k_ring_bound⟩ := c.def_ 42 (d := ⟨fun K => (He.ga K "ring_bound"), "ring_bound", "ring_bound", s_ring_bound⟩) rfl
  obtain ⟨_, _, _, _, _, _, _, _, _, l_fewest, c_fewest, k_fewest⟩ := c.def_ 43 (d := ⟨fun K => (He.ga K "fewest"), "fewest", "fewest", s_fewest⟩) rfl
  obtain ⟨_, _, _, _, _, _, _, _, _, l_enough, c_enough, k_enough⟩ := c.def_ 44 (d := ⟨fun K => (He.ga K "enough"), "enough", "enough", s_enough⟩) rfl
  obtain ⟨_, _, _, _, _, _, _, _, _, l_Plan___init__, c_Plan___init__, k_Plan___init__⟩ := c.def_ 45 (d := ⟨fun K => (He.ma K (He.ga K "Plan") "__init__"), "__init__", "Plan.__init__", s_Plan___init__⟩) rfl
  obtain ⟨_, _, _, _, _, _, _, _, _, l_plan_of, c_plan_of, k_plan_of⟩ := c.def_ 46 (d := ⟨fun K => (He.ga K "plan_of"), "plan_of", "plan_of", s_plan_of⟩) rfl
  obtain ⟨_, _, _, _, _, _, _, _, _, l_settled, c_settled, k_settled⟩ := c.def_ 47 (d := ⟨fun K => (He.ga K "settled"), "settled", "settled", s_settled⟩) rfl
  obtain ⟨_, _, _, _, _, _, _, _, _, l_plan_for, c_plan_for, k_plan_for⟩ := c.def_ 48 (d := ⟨fun K => (He.ga K "plan_for"), "plan_for", "plan_for", s_plan_for⟩) rfl
  obtain ⟨_, _, _, _, _, _, _, _, _, l_Plan___eq__, c_Plan___eq__, k_Plan___eq__⟩ := c.def_ 49 (d := ⟨fun K => (He.ma K (He.ga K "Plan") "__eq__"), "__eq__", "Plan.__eq__", s_Plan___eq__⟩) rfl
  obtain ⟨_, _, _, _, _, _, _, _, _, l__law_is_whole, c__law_is_whole, k__law_is_whole⟩ := c.def_ 50 (d := ⟨fun K => (He.ga K "_law_is_whole"), "_law_is_whole", "_law_is_whole", s__law_is_whole⟩) rfl
  obtain ⟨_, _, _, _, _, _, _, _, _, l__law_is_count, c__law_is_count, k__law_is_count⟩ := c.def_ 51 (d := ⟨fun K => (He.ga K "_law_is_count"), "_law_is_count", "_law_is_count", s__law_is_count⟩) rfl
  obtain ⟨_, _, _, _, _, _, _, _, _, l__law_serving, c__law_serving, k__law_serving⟩ := c.def_ 52 (d := ⟨fun K => (He.ga K "_law_serving"), "_law_serving", "_law_serving", s__law_serving⟩) rfl
  obtain ⟨_, _, _, _, _, _, _, _, _, l__law_there, c__law_there, k__law_there⟩ := c.def_ 53 (d := ⟨fun K => (He.ga K "_law_there"), "_law_there", "_law_there", s__law_there⟩) rfl
  obtain ⟨_, _, _, _, _, _, _, _, _, l__law_serves, c__law_serves, k__law_serves⟩ := c.def_ 54 (d := ⟨fun K => (He.ga K "_law_serves"), "_law_serves", "_law_serves", s__law_serves⟩) rfl
  obtain ⟨_, _, _, _, _, _, _, _, _, l__law_is_hour, c__law_is_hour, k__law_is_hour⟩ := c.def_ 55 (d := ⟨fun K => (He.ga K "_law_is_hour"), "_law_is_hour", "_law_is_hour", s__law_is_hour⟩) rfl
  obtain ⟨_, _, _, _, _, _, _, _, _, l__law_is_ring, c__law_is_ring, k__law_is_ring⟩ := c.def_ 56 (d := ⟨fun K => (He.ga K "_law_is_ring"), "_law_is_ring", "_law_is_ring", s__law_is_ring⟩) rfl
  obtain ⟨_, _, _, _, _, _, _, _, _, l__law_hop, c__law_hop, k__law_hop⟩ := c.def_ 57 (d := ⟨fun K => (He.ga K "_law_hop"), "_law_hop", "_law_hop", s__law_hop⟩) rfl
  obtain ⟨_, _, _, _, _, _, _, _, _, l__law_wound, c__law_wound, k__law_wound⟩ := c.def_ 58 (d := ⟨fun K => (He.ga K "_law_wound"), "_law_wound", "_law_wound", s__law_wound⟩) rfl
  obtain ⟨_, _, _, _, _, _, _, _, _, l__law_bound_of, c__law_bound_of, k__law_bound_of⟩ := c.def_ 59 (d := ⟨fun K => (He.ga K "_law_bound_of"), "_law_bound_of", "_law_bound_of", s__law_bound_of⟩) rfl
  obtain ⟨_, _, _, _, _, _, _, _, _, l__law_shown, c__law_shown, k__law_shown⟩ := c.def_ 60 (d := ⟨fun K => (He.ga K "_law_shown"), "_law_shown", "_law_shown", s__law_shown⟩) rfl
  obtain ⟨_, _, _, _, _, _, _, _, _, l__law_alike, c__law_alike, k__law_alike⟩ := c.def_ 61 (d := ⟨fun K => (He.ga K "_law_alike"), "_law_alike", "_law_alike", s__law_alike⟩) rfl
  obtain ⟨_, _, _, _, _, _, _, _, _, l__law_papers_right, c__law_papers_right, k__law_papers_right⟩ := c.def_ 62 (d := ⟨fun K => (He.ga K "_law_papers_right"), "_law_papers_right", "_law_papers_right", s__law_papers_right⟩) rfl
  obtain ⟨_, _, _, _, _, _, _, _, _, l_law, c_law, k_law⟩ := c.def_ 63 (d := ⟨fun K => (He.ga K "law"), "law", "law", s_law⟩) rfl
  exact all_mk X G hfa a_Clock pg_Clock hd_Clock po_Clock sa_Clock sf_Clock a_Needs pg_Needs hd_Needs po_Needs sa_Needs sf_Needs a_Plan pg_Plan hd_Plan po_Plan sa_Plan sf_Plan n_Clock_kept_stays n_Clock_kept_widths n_Needs_kept_row n_Plan_kept_begins a__law_bag l__law_bag c__law_bag k__law_bag a__law_take l__law_take c__law_take k__law_take a__law_number l__law_number c__law_number k__law_number a__law_numbers l__law_numbers c__law_numbers k__law_numbers a__law_wants l__law_wants c__law_wants k__law_wants a__law_stays l__law_stays c__law_stays k__law_stays a_is_integer l_is_integer c_is_integer k_is_integer a_are_stays l_are_stays c_are_stays k_are_stays a_need_order l_need_order c_need_order k_need_order a_width_of l_width_of c_width_of k_width_of a_Clock___init__ i_Clock___init__ mm_Clock mc_Clock l_Clock___init__ c_Clock___init__ k_Clock___init__ a__law_clock l__law_clock c__law_clock k__law_clock a__law_mixed l__law_mixed c__law_mixed k__law_mixed a_Clock_stays i_Clock_stays l_Clock_stays c_Clock_stays k_Clock_stays pa_Clock_hours pb_Clock_hours pc_Clock_hours pd_Clock_hours l_Clock_hours c_Clock_hours k_Clock_hours pa_Needs_hours pb_Needs_hours pc_Needs_hours pd_Needs_hours l_Needs_hours c_Needs_hours k_Needs_hours a_need_alike l_need_alike c_need_alike k_need_alike a_Clock_widths i_Clock_widths l_Clock_widths c_Clock_widths k_Clock_widths a_is_hour l_is_hour c_is_hour k_is_hour a_Needs___getitem__ i_Needs___getitem__ fi_Needs___getitem__ l_Needs___getitem__ c_Needs___getitem__ k_Needs___getitem__ a_need_edges l_need_edges c_need_edges k_need_edges a_Needs___len__ i_Needs___len__ l_Needs___len__ c_Needs___len__ k_Needs___len__ a_Needs___iter__ i_Needs___iter__ l_Needs___iter__ c_Needs___iter__ k_Needs___iter__ a_gain_of l_gain_of c_gain_of k_gain_of a_further l_further c_further k_further a_closed_at l_closed_at c_closed_at k_closed_at a_gaining l_gaining c_gaining k_gaining a_common l_common c_common k_common a_fraction_of l_fraction_of c_fraction_of k_fraction_of a_turn_of l_turn_of c_turn_of k_turn_of a_worth_of l_worth_of c_worth_of k_worth_of a_best_ring l_best_ring c_best_ring k_best_ring a_ring_for l_ring_for c_ring_for k_ring_for a_is_count l_is_count c_is_count k_is_count a_are_counts l_are_counts c_are_counts k_are_counts a_is_row l_is_row c_is_row k_is_row a_Needs___init__ i_Needs___init__ mm_Needs mc_Needs l_Needs___init__ c_Needs___init__ k_Needs___init__ a_Plan___len__ i_Plan___len__ l_Plan___len__ c_Plan___len__ k_Plan___len__ a_Plan___iter__ i_Plan___iter__ l_Plan___iter__ c_Plan___iter__ k_Plan___iter__ a_up l_up c_up k_up a_step_hours l_step_hours c_step_hours k_step_hours a_winds l_winds c_winds k_winds a_ring_bound l_ring_bound c_ring_bound k_ring_bound a_fewest l_fewest c_fewest k_fewest a_enough l_enough c_enough k_enough a_Plan___init__ i_Plan___init__ mm_Plan mc_Plan l_Plan___init__ c_Plan___init__ k_Plan___init__ a_plan_of l_plan_of c_plan_of k_plan_of a_settled l_settled c_settled k_settled a_plan_for l_plan_for c_plan_for k_plan_for a_Plan___eq__ i_Plan___eq__ l_Plan___eq__ c_Plan___eq__ k_Plan___eq__ a__law_is_whole l__law_is_whole c__law_is_whole k__law_is_whole a__law_is_count l__law_is_count c__law_is_count k__law_is_count a__law_serving l__law_serving c__law_serving k__law_serving a__law_there l__law_there c__law_there k__law_there a__law_serves l__law_serves c__law_serves k__law_serves a__law_is_hour l__law_is_hour c__law_is_hour k__law_is_hour a__law_is_ring l__law_is_ring c__law_is_ring k__law_is_ring a__law_hop l__law_hop c__law_hop k__law_hop a__law_wound l__law_wound c__law_wound k__law_wound a__law_bound_of l__law_bound_of c__law_bound_of k__law_bound_of a__law_shown l__law_shown c__law_shown k__law_shown a__law_alike l__law_alike c__law_alike k__law_alike a__law_papers_right l__law_papers_right c__law_papers_right k__law_papers_right a_law l_law c_law k_law z_abs z_all z_bool z_enumerate z_int z_isinstance z_iter z_len z_list z_max z_min z_range z_repr z_sum z_tuple z_zip k_MOST_HOURS ia_Plan gn_obj tk_obj im_Plan ne_Plan mr_Plan
abbrev R : PySem.W.OpenRow := PySem.W.OpenLaw.row PySem.Challenge.rw_hourneeds_k33_fewest_with_both_papers
def agl0 : List Str := [("_law_bag" : Str), ("_law_take" : Str), ("_law_number" : Str), ("_law_numbers" : Str), ("_law_wants" : Str), ("_law_stays" : Str), ("is_integer" : Str), ("are_stays" : Str), ("need_order" : Str), ("width_of" : Str), ("_law_clock" : Str), ("_law_mixed" : Str), ("need_alike" : Str), ("is_hour" : Str), ("need_edges" : Str), ("gain_of" : Str)]
def agl1 : List Str := [("further" : Str), ("closed_at" : Str), ("gaining" : Str), ("common" : Str), ("fraction_of" : Str), ("turn_of" : Str), ("worth_of" : Str), ("best_ring" : Str), ("ring_for" : Str), ("is_count" : Str), ("are_counts" : Str), ("is_row" : Str), ("up" : Str), ("step_hours" : Str), ("winds" : Str), ("ring_bound" : Str)]
def agl2 : List Str := [("fewest" : Str), ("enough" : Str), ("plan_of" : Str), ("settled" : Str), ("plan_for" : Str), ("_law_is_whole" : Str), ("_law_is_count" : Str), ("_law_serving" : Str), ("_law_there" : Str), ("_law_serves" : Str), ("_law_is_hour" : Str), ("_law_is_ring" : Str), ("_law_hop" : Str), ("_law_wound" : Str), ("_law_bound_of" : Str), ("_law_shown" : Str)]
def agl3 : List Str := [("_law_alike" : Str), ("_law_papers_right" : Str), ("law" : Str)]
def agl : List Str := agl0 ++ agl1 ++ agl2 ++ agl3
def acl0 : List Str := [("Clock" : Str), ("Needs" : Str), ("Plan" : Str)]
def acl : List Str := acl0
def ame0 : List (Str × Str) := [(("Clock" : Str), ("__init__" : Str)), (("Clock" : Str), ("stays" : Str)), (("Clock" : Str), ("widths" : Str)), (("Needs" : Str), ("__getitem__" : Str)), (("Needs" : Str), ("__len__" : Str)), (("Needs" : Str), ("__iter__" : Str)), (("Needs" : Str), ("__init__" : Str)), (("Plan" : Str), ("__len__" : Str)), (("Plan" : Str), ("__iter__" : Str)), (("Plan" : Str), ("__init__" : Str)), (("Plan" : Str), ("__eq__" : Str))]
def ame : List (Str × Str) := ame0
def apr0 : List (Str × Str) := [(("Clock" : Str), ("hours" : Str)), (("Needs" : Str), ("hours" : Str))]
def apr : List (Str × Str) := apr0
def ast0 : List (Str × Str) := []
def ast : List (Str × Str) := ast0
def adrs (g : Addr → Option Obj) : List Addr := asH agl acl ame apr ast g
abbrev hk : PySem.W.Hook := hookH adrs fas fns
def ob (s : PySem.W.SharedT) : He.AlD := obsHG adrs fas fns (HandSHeadRun.getT s)
theorem ob_eq (s : PySem.W.SharedT) : ob s = hk.obs s.abs := obsHG_eq (HandSHeadRun.getT_eq s)
end Pf
namespace Pf
open PySem PySem.Spec PyProof.Rows L2 Evl Hn
set_option maxRecDepth 100000 in
set_option maxHeartbeats 0 in
theorem run (w : World) : HandSHeadRun.RunEq R (PySem.W.view R.prog [74]) hk ob 8000 loose w := by
  intro os
  kernel_rfl
end Pf
open PySem PySem.W PySem.Calls PyProof.Rows in
set_option maxRecDepth 100000 in
set_option maxHeartbeats 0 in
theorem PySem.Challenge.cw_hourneeds_k33_fewest_with_both_papers_holds : PySem.Challenge.rw_hourneeds_k33_fewest_with_both_papers.Holds := by
  w_on; o_law
  refine HandSHeadRun.head_any (r := (PySem.W.OpenLaw.row PySem.Challenge.rw_hourneeds_k33_fewest_with_both_papers)) (q := view (PySem.W.OpenLaw.row PySem.Challenge.rw_hourneeds_k33_fewest_with_both_papers).prog [74]) (H := Pf.hk) (ob := Pf.ob) (M := 8000) (loose := Pf.loose) (d := HandSHeadRun.topDef (PySem.W.OpenLaw.row PySem.Challenge.rw_hourneeds_k33_fewest_with_both_papers).prog 74) (kwd := []) Pf.ob_eq
    (by kernel_rfl) (fun s => by kernel_rfl) Pf.run (by kernel_rfl) (by kernel_rfl) (by kernel_rfl) (by rfl) (by first | assumption | decide +kernel) (by decide +kernel) ⟨rfl, rfl, rfl, rfl, rfl, by decide +kernel⟩ ?hw ?hc
  case hw => w_witness2
  case hc =>
    refine Hn.walkGE (l := PySem.Challenge.rw_hourneeds_k33_fewest_with_both_papers) (n := 63) (k := 11) (x := "_law_script") rfl (by decide) (by kernel_rfl) ⟨rfl, by decide, by decide⟩ ?F
    intro w mg fa h Y G hmg0
    obtain ⟨K, KX, c⟩ := Y
    have hmg : mg ("law" : PySem.Str) = some (.ref fa) := by
      have e : (HandSHeadRun.topDef (PySem.W.OpenLaw.row PySem.Challenge.rw_hourneeds_k33_fewest_with_both_papers).prog 74).name = ("law" : PySem.Str) := by kernel_rfl
      rw [← e]
      exact hmg0
    exact ⟨K, _, KX, fun H a ns hl hS => ⟨a, ns, rfl, hS, hl, fun _ => rfl⟩, Pf.facts (P := (PySem.Challenge.rw_hourneeds_k33_fewest_with_both_papers).prog) (w := w) KX G hmg c⟩
#print axioms PySem.Challenge.cw_hourneeds_k33_fewest_with_both_papers_holds
