import PyProof.Rows.All
import Wide.All
import OpenK.AllK
import Wide.FinOn
import HandS.ForMost
import HandS.ForExc
import HandS.Evl
import HandS.Walk
import HandS.Property
import HandS.IsInst
import HandS.Style
import HandS.More
import HandS.SetFor
import HandS.Zip
import HandS.TupAny
import HandS.Wide
import HandS.Deep
import KE.KOpsOwn
import KE.KDictZip
import KE.RegKIsAll
import KE.GoesEnum
import KE.Datum
import KE.IntTextLaws
import PyProof.StrBlock2
import KE.GoesMore
import KE.KItemsList
import HandS.ListItems
import KE.KTupSum
import OpenK.KOps
import HandS.OwnIter
import HandS.IterVal
import PyProof.ReprRoads
import PyProof.ReprLen
import PyProof.CallFns
import HandS.Conv
import HandS.ClsMeth
import HandS.TryOnly
import HandS.Text
import HandS.MakeKwOnly
import HandS.TupMul
import HandS.Defaults
import HandS.Lambda
import HandS.Dict
import HandS.Strs
import KE.GoesZip
import PyProof.P3Eq
import HandS.Exc
import KE.KExcSuper
import KE.KExcMake
import KE.KExcIs
import HandS.ExcIs
import HandS.WordsExc
import HandS.ExcOwn
import KE.LtData
import HandS.SortInts
import HandS.SortRule
import HandS.DeepEq
import PyProof.NeData
import HandS.HotCalls
import PyProof.EqAt
import PyProof.NeKinds
import HandS.Words
import HandS.HeadHook2
import HandS.Head2
import HandS.HeadEnd
import PySem.Challenge.RW_hourneeds_k13_clocks_refused
set_option Elab.async false
set_option linter.all false
set_option maxRecDepth 100000
set_option maxHeartbeats 2000000
namespace Hn
open PySem PySem.Spec PyProof.Rows L2 Evl
structure DefH where
  adr : PySem.W.Frag → Addr
  name : Str
  qual : Str
  st : Stmt
  sup : Bool
def fnA (K : PySem.W.Frag) (a : Addr) : He.FnW := match K.lookup a with
  | some ⟨_, _, .func fd, _⟩ => some (fd.name, fd.qualname, fd.params, fd.body, fd.scope, fd.globals, [], fd.builtins)
  | _ => none
def noC : List (Str × Addr) → Bool
  | [] => true
  | _ => false
def DefH.val (d : DefH) : He.FnW := some (d.name, d.qual, defArgs d.st, .stmts (defBody d.st), defScope d.st, mainGlobals, [], builtinsNs)
def nonV : Value → Bool
  | .none => true
  | _ => false
def DefH.ok (K : PySem.W.Frag) (d : DefH) : Bool := PySem.W.keepIn K (.ref (d.adr K)) && (match K.lookup (d.adr K) with
  | some ⟨_, _, .func fd, _⟩ => PySem.W.codeIn K fd.code d.qual && nonV fd.defaults && (d.sup || noC fd.closure)
  | _ => false)
theorem DefH.fun_ {K : PySem.W.Frag} {d : DefH} (e : fnA K (d.adr K) = d.val) (c : d.ok K = true) (hs : d.sup = false) : ∃ (oc : Value) (od : Option Addr) (kV doc pm : Value) (an : Option Addr) (cdv ct : Value) (osl : Array (Option Value)),
    K.lookup (d.adr K) = some ⟨oc, od, .func (PySem.W.fnOf d.name d.qual (defArgs d.st) (defBody d.st) (defScope d.st) .none kV doc pm an cdv ct), osl⟩ ∧ PySem.W.codeIn K cdv d.qual = true ∧ PySem.W.keepIn K (.ref (d.adr K)) = true := by
  obtain ⟨kp, c2⟩ := He.ba c
  unfold fnA at e
  cases q : K.lookup (d.adr K) with
  | none =>
    rw [q] at c2
    cases c2
  | some o =>
    obtain ⟨oc, od, dt, osl⟩ := o
    rw [q] at c2 e
    cases dt with
    | func fd =>
      obtain ⟨n1, n2, n3, n4, n5, n6, n7, n8, n9, n10, n11, n12, n13, n14, n15⟩ := fd
      have e2 : (some (n1, n2, n3, n4, n5, n6, [], n15) : He.FnW) = some (d.name, d.qual, defArgs d.st, .stmts (defBody d.st), defScope d.st, mainGlobals, [], builtinsNs) := e
      simp only [Option.some.injEq, Prod.mk.injEq] at e2
      obtain ⟨h1, h2, h3, h4, h5, h6, _, h8⟩ := e2
      subst h1 h2 h3 h4 h5 h6 h8
      have c3 : (PySem.W.codeIn K n13 d.qual && nonV n8 && (d.sup || noC n7)) = true := c2
      obtain ⟨c3, k3⟩ := He.ba c3
      obtain ⟨k1, k2⟩ := He.ba c3
      rw [hs] at k3
      cases n7 with
      | nil =>
        cases n8 with
        | none => exact ⟨oc, od, n9, n10, n11, n12, n13, n14, osl, rfl, k1, kp⟩
        | _ => cases k2
      | cons => cases k3
    | _ => cases c2
def flV (v : Option Value) (file : Str) : Bool := match v with
  | some (.str x _) => decide (x = file)
  | _ => false
def inB (K : PySem.W.Frag) (f c : Addr) (file : Str) : Bool := match K.lookup f with
  | some ⟨_, _, .func fd, _⟩ => nonV fd.kwdefaults && (match fd.closure with
    | [(x, a)] => decide (x = "__class__") && (match K.lookup a with
      | some ⟨_, _, .cell (some (.ref b)), _⟩ => decide (b = c)
      | _ => false)
    | _ => false) && (match fd.code with
    | .ref q => match K.lookup q with
      | some ⟨_, _, .fields vs, _⟩ => flV vs[2]? file
      | _ => false
    | _ => false)
  | _ => false
theorem DefH.sup_ {K : PySem.W.Frag} {d : DefH} {c : Addr} {file : Str} (e : fnA K (d.adr K) = d.val) (ok : d.ok K = true) (i : inB K (d.adr K) c file = true) :
    ∃ (oc : Value) (od : Option Addr) (doc pm : Value) (an : Option Addr) (q : Addr) (ct : Value) (osl : Array (Option Value)) (cc : Addr) (ccl cl : Value) (cdd cld : Option Addr) (vs : Array Value) (ccs csl : Array (Option Value)) (tf : Tok),
    K.lookup (d.adr K) = some ⟨oc, od, .func (PySem.W.ksFn d.name d.qual (defArgs d.st) (defBody d.st) (defScope d.st) .none .none doc pm an (.ref q) ct cc), osl⟩ ∧ PySem.W.codeIn K (.ref q) d.qual = true ∧
    K.lookup q = some ⟨ccl, cdd, .fields vs, ccs⟩ ∧ vs[2]? = some (.str file tf) ∧ K.lookup cc = some ⟨cl, cld, .cell (some (.ref c)), csl⟩ := by
  obtain ⟨kp, c2⟩ := He.ba ok
  unfold fnA at e
  unfold inB at i
  cases q : K.lookup (d.adr K) with
  | none =>
    rw [q] at c2
    cases c2
  | some o =>
    obtain ⟨oc, od, dt, osl⟩ := o
    rw [q] at c2 e i
    cases dt with
    | func fd =>
      obtain ⟨n1, n2, n3, n4, n5, n6, n7, n8, n9, n10, n11, n12, n13, n14, n15⟩ := fd
      have e2 : (some (n1, n2, n3, n4, n5, n6, [], n15) : He.FnW) = some (d.name, d.qual, defArgs d.st, .stmts (defBody d.st), defScope d.st, mainGlobals, [], builtinsNs) := e
      simp only [Option.some.injEq, Prod.mk.injEq] at e2
      obtain ⟨h1, h2, h3, h4, h5, h6, _, h8⟩ := e2
      subst h1 h2 h3 h4 h5 h6 h8
      have c3 : (PySem.W.codeIn K n13 d.qual && nonV n8 && (d.sup || noC n7)) = true := c2
      obtain ⟨c3, _⟩ := He.ba c3
      obtain ⟨k1, k2⟩ := He.ba c3
      simp only at i
      obtain ⟨i, i3⟩ := He.ba i
      obtain ⟨i1, i2⟩ := He.ba i
      cases n8 with
      | none =>
        cases n9 with
        | none =>
          match n7, i2 with
          | [(x, a)], i2 =>
            simp only at i2
            obtain ⟨j1, j2⟩ := He.ba i2
            obtain rfl : x = "__class__" := of_decide_eq_true j1
            split at j2
            · rename_i cl cld b csl qa
              obtain rfl : b = c := of_decide_eq_true j2
              cases n13 with
              | ref qq =>
                simp only at i3
                split at i3
                · rename_i ccl cdd vs ccs qc
                  unfold flV at i3
                  split at i3
                  · rename_i x tf qv
                    obtain rfl : x = file := of_decide_eq_true i3
                    exact ⟨oc, od, n10, n11, n12, qq, n14, osl, a, ccl, cl, cdd, cld, vs, ccs, csl, tf, rfl, k1, qc, qv, qa⟩
                  · cases i3
                · cases i3
              | _ => cases i3
            · cases j2
        | _ => cases i1
      | _ => cases k2
    | _ => cases c2
def exB (K : PySem.W.Frag) (c n : Addr) : Bool := match K.lookup c with
  | some ⟨t, _, .cls cd, sl⟩ => decide (t = .type "type") && decide (cd.mro = [.ref c, .ref n, .type "ValueError", .type "Exception", .type "BaseException", .type "object"]) && cd.hasDict && !cd.hasDel && (match sl.toList with
    | [_, _, _, _, some (.builtin b), _] => decide (b = "ValueError.__new__")
    | _ => false)
  | _ => false
theorem exB_ok {K : PySem.W.Frag} {c n : Addr} (h : exB K c n = true) : ∃ (nm qn : Str) (N : Addr) (bs : List Value) (sn : List Str) (sub : List Value) (ab : Bool) (col : Option Bool) (dd : Option Addr) (m0 m1 m2 m3 m5 : Option Value),
    K.lookup c = some (excClassObj nm qn c N bs [.ref n, .type "ValueError", .type "Exception", .type "BaseException", .type "object"] true sn sub ab col dd m0 m1 m2 m3 m5 "ValueError.__new__") := by
  unfold exB at h
  split at h
  · rename_i t dd cd sl q
    obtain ⟨h, h5⟩ := He.ba h
    obtain ⟨h, h4⟩ := He.ba h
    obtain ⟨h, h3⟩ := He.ba h
    obtain ⟨h1, h2⟩ := He.ba h
    obtain rfl : t = .type "type" := of_decide_eq_true h1
    obtain ⟨nm, bs, mro, N, qn, hd, sn, sub, ab, col, del⟩ := cd
    obtain rfl : mro = [.ref c, .ref n, .type "ValueError", .type "Exception", .type "BaseException", .type "object"] := of_decide_eq_true h2
    obtain rfl : hd = true := h3
    obtain rfl : del = false := by cases del <;> simp_all
    split at h5
    · rename_i m0 m1 m2 m3 b m5 e
      obtain rfl : b = "ValueError.__new__" := of_decide_eq_true h5
      have e2 : sl = #[m0, m1, m2, m3, some (.builtin "ValueError.__new__"), m5] := by
        cases sl with
        | mk l => exact congrArg Array.mk e
      subst e2
      exact ⟨nm, qn, N, bs, sn, sub, ab, col, dd, m0, m1, m2, m3, m5, q⟩
    · cases h5
  · cases h
def ceA (g : Addr → Option Obj) (a : Addr) : List Addr := match g a with
  | some ⟨_, _, .func fd, _⟩ => fd.closure.map (·.2)
  | _ => []
def obsH (fa : List (PySem.W.Frag → Bool)) (fn : List DefH) (K : PySem.W.Frag) : He.AlD := ((fa.all fun f => f K) && fn.all fun d => d.ok K, fn.map fun d => fnA K (d.adr K))
def valH (fn : List DefH) : He.AlD := (true, fn.map DefH.val)
def SaysH (fa : List (PySem.W.Frag → Bool)) (fn : List DefH) (K : PySem.W.Frag) : Prop := obsH fa fn K = valH fn
def rcA (K : PySem.W.Frag) (a : Addr) (t : String) : Addr := match PySem.W.recIn K a t with
  | some (.ref b :: _) => b
  | _ => 0
def rcB (K : PySem.W.Frag) (a : Addr) (t : String) : Bool := match PySem.W.recIn K a t with
  | some (.ref _ :: _) => true
  | _ => false
def stA (K : PySem.W.Frag) (C : Addr) (m : Str) : Addr := match PySem.W.findCls K (.ref C) (.type "type") m with
  | some (.get _ (.ref p) _ _) => p
  | _ => 0
def cdA (g : Addr → Option Obj) (a : Addr) : List Addr := match g a with
  | some ⟨_, _, .func fd, _⟩ => He.refV fd.code
  | _ => []
def clA (g : Addr → Option Obj) (a : Addr) : List Addr := match g a with
  | some ⟨_, _, .cls cd, _⟩ => cd.ns :: cd.mro.flatMap He.refV
  | _ => []
def asH (gs cs : List Str) (ms ps ss : List (Str × Str)) (g : Addr → Option Obj) : List Addr :=
  let K0 := He.frG g [mainGlobals]
  let a1 := gs.map (He.ga K0)
  let c1 := cs.map (He.ga K0)
  let a2 := c1.flatMap (clA g)
  let K2 := He.frG g (mainGlobals :: c1 ++ a2)
  let a3 := ms.map fun q => He.ma K2 (He.ga K2 q.1) q.2
  let p3 := ps.map fun q => He.ma K2 (He.ga K2 q.1) q.2
  let s3 := ss.map fun q => He.ma K2 (He.ga K2 q.1) q.2
  let K3 := He.frG g (p3 ++ s3)
  let a4 := p3.map fun a => rcA K3 a "property"
  let b4 := s3.map fun a => rcA K3 a "staticmethod"
  mainGlobals :: c1 ++ a2 ++ a3 ++ p3 ++ s3 ++ a4 ++ b4 ++ a1 ++ a3.flatMap (cdA g) ++ a4.flatMap (cdA g) ++ b4.flatMap (cdA g) ++ a1.flatMap (cdA g) ++ (match ss with | [] => [] | _ => [cStatics])
def obsHG (as : (Addr → Option Obj) → List Addr) (fa : List (PySem.W.Frag → Bool)) (fn : List DefH) (g : Addr → Option Obj) : He.AlD := obsH fa fn (He.frG g (as g))
def hookH (as : (Addr → Option Obj) → List Addr) (fa : List (PySem.W.Frag → Bool)) (fn : List DefH) : PySem.W.Hook where
  α := He.AlD
  obs := fun s => obsHG as fa fn s.heap.get?
  val := fun _ => valH fn
  says := fun _ h => ∃ K : PySem.W.Frag, K.In h ∧ SaysH fa fn K
  of := fun _ _ e => ⟨_, He.frG_in, e⟩
  keeps := fun _ _ _ ⟨K, hK, c⟩ k => ⟨K, PySem.W.Frag.In.keeps hK k, c⟩
theorem obsHG_eq {as : (Addr → Option Obj) → List Addr} {fa : List (PySem.W.Frag → Bool)} {fn : List DefH} {g : Addr → Option Obj} {s : Shared} (h : ∀ a, g a = s.heap.get? a) : obsHG as fa fn g = (hookH as fa fn).obs s := by
  have e : g = s.heap.get? := funext h
  rw [e] <;> rfl
section
variable {fa : List (PySem.W.Frag → Bool)} {fn : List DefH} {K : PySem.W.Frag}
theorem SaysH.all (c : SaysH fa fn K) : (fa.all fun f => f K) = true := (He.ba (show ((fa.all fun f => f K) && fn.all fun d => d.ok K) = true from congrArg (fun z : He.AlD => z.1) c)).1
theorem SaysH.fact (c : SaysH fa fn K) (i : Nat) {f : PySem.W.Frag → Bool} (h : fa[i]? = some f := by rfl) : f K = true := List.all_eq_true.mp c.all f (List.mem_of_getElem? h)
theorem SaysH.sup_ (c : SaysH fa fn K) (i : Nat) {d : DefH} {C : Addr} {file : Str} (hi : inB K (d.adr K) C file = true) (h : fn[i]? = some d := by rfl) :
    ∃ (oc : Value) (od : Option Addr) (doc pm : Value) (an : Option Addr) (q : Addr) (ct : Value) (osl : Array (Option Value)) (cc : Addr) (ccl cl : Value) (cdd cld : Option Addr) (vs : Array Value) (ccs csl : Array (Option Value)) (tf : Tok),
    K.lookup (d.adr K) = some ⟨oc, od, .func (PySem.W.ksFn d.name d.qual (defArgs d.st) (defBody d.st) (defScope d.st) .none .none doc pm an (.ref q) ct cc), osl⟩ ∧ PySem.W.codeIn K (.ref q) d.qual = true ∧
    K.lookup q = some ⟨ccl, cdd, .fields vs, ccs⟩ ∧ vs[2]? = some (.str file tf) ∧ K.lookup cc = some ⟨cl, cld, .cell (some (.ref C)), csl⟩ := by
  have c2 := (He.ba (show ((fa.all fun f => f K) && fn.all fun d => d.ok K) = true from congrArg (fun z : He.AlD => z.1) c)).2
  have e : fn.map (fun d => fnA K (d.adr K)) = fn.map DefH.val := congrArg (fun z : He.AlD => z.2) c
  have e2 : (fn.map fun d => fnA K (d.adr K))[i]? = (fn.map DefH.val)[i]? := by rw [e]
  rw [List.getElem?_map, List.getElem?_map, h] at e2
  exact DefH.sup_ (Option.some.inj e2) (List.all_eq_true.mp c2 d (List.mem_of_getElem? h)) hi
theorem SaysH.def_ (c : SaysH fa fn K) (i : Nat) {d : DefH} (h : fn[i]? = some d := by rfl) (hs : d.sup = false := by rfl) : ∃ (oc : Value) (od : Option Addr) (kV doc pm : Value) (an : Option Addr) (cdv ct : Value) (osl : Array (Option Value)),
    K.lookup (d.adr K) = some ⟨oc, od, .func (PySem.W.fnOf d.name d.qual (defArgs d.st) (defBody d.st) (defScope d.st) .none kV doc pm an cdv ct), osl⟩ ∧ PySem.W.codeIn K cdv d.qual = true ∧ PySem.W.keepIn K (.ref (d.adr K)) = true := by
  have c2 := (He.ba (show ((fa.all fun f => f K) && fn.all fun d => d.ok K) = true from congrArg (fun z : He.AlD => z.1) c)).2
  have e : fn.map (fun d => fnA K (d.adr K)) = fn.map DefH.val := congrArg (fun z : He.AlD => z.2) c
  have e2 : (fn.map fun d => fnA K (d.adr K))[i]? = (fn.map DefH.val)[i]? := by rw [e]
  rw [List.getElem?_map, List.getElem?_map, h] at e2
  exact DefH.fun_ (Option.some.inj e2) (List.all_eq_true.mp c2 d (List.mem_of_getElem? h)) hs
end
theorem rcB_ok {K : PySem.W.Frag} {a : Addr} {t : String} (h : rcB K a t = true) : ∃ rest, PySem.W.recIn K a t = some (.ref (rcA K a t) :: rest) := by
  unfold rcB at h
  unfold rcA
  cases e : PySem.W.recIn K a t with
  | none => rw [e] at h; cases h
  | some l =>
    rw [e] at h
    cases l with
    | nil => cases h
    | cons v r =>
      cases v with
      | ref b => exact ⟨r, rfl⟩
      | _ => cases h
def stB (K : PySem.W.Frag) (C : Addr) (m : Str) : Bool := match PySem.W.findCls K (.ref C) (.type "type") m with
  | some (.get (.builtin b) (.ref _) .none (.ref c)) => decide (b = "staticmethod.__get__") && decide (c = C)
  | _ => false
theorem stB_ok {K : PySem.W.Frag} {C : Addr} {m : Str} (h : stB K C m = true) : PySem.W.findCls K (.ref C) (.type "type") m = some (.get (.builtin "staticmethod.__get__") (.ref (stA K C m)) .none (.ref C)) := by
  unfold stB at h
  unfold stA
  split at h
  · rename_i b p c e
    obtain ⟨h1, h2⟩ := He.ba h
    obtain rfl : b = "staticmethod.__get__" := of_decide_eq_true h1
    obtain rfl : c = C := of_decide_eq_true h2
    rw [e]
  · cases h
def itB (x : Option (Option Value)) (i : Int) : Bool := match x with
  | some (some (.int j _)) => decide (j = i)
  | _ => false
theorem itB_ok {x : Option (Option Value)} {i : Int} (h : itB x i = true) : ∃ t, x = some (some (.int i t)) := by
  unfold itB at h
  split at h
  · rename_i j t
    obtain rfl : j = i := of_decide_eq_true h
    exact ⟨t, rfl⟩
  · cases h
theorem dok {p : Prop} [Decidable p] (h : decide p = true) : p := of_decide_eq_true h
end Hn
namespace Wx
open PySem PySem.Spec PyProof.Rows L2 Evl
def smB (K : PySem.W.Frag) : Bool := match K.lookup sysModules with
  | some ⟨.type "dict", _, _, _⟩ => true
  | _ => false
end Wx
namespace Pf
open PySem PySem.Spec PyProof.Rows L2 Evl Hn Wx
def top (i : Nat) : Stmt := PySem.Challenge.pw_hourneeds_k13_clocks_refused.main.body.getD i (.Pass ⟨0, 0, 0, 0⟩)
abbrev s__law_alike : Stmt := top 20
abbrev s__law_bag : Stmt := top 16
abbrev s__law_take : Stmt := top 17
abbrev s__law_stays : Stmt := top 19
abbrev s__law_one : Stmt := top 18
abbrev s__law_odd : Stmt := top 23
abbrev s__law_is_whole : Stmt := top 21
abbrev s__law_spoilt : Stmt := top 29
abbrev s_Clock_stays : Stmt := inClass (top 14) 3
abbrev s_is_integer : Stmt := top 7
abbrev s_are_stays : Stmt := top 11
abbrev s_need_order : Stmt := top 12
abbrev s_width_of : Stmt := top 13
abbrev s_Clock___init__ : Stmt := inClass (top 14) 0
abbrev s_Clock_even : Stmt := inClass (top 14) 2
abbrev s__law_caught : Stmt := top 26
abbrev s__law_tried : Stmt := top 27
abbrev s__law_first_over : Stmt := top 24
abbrev s__law_due : Stmt := top 25
abbrev s__law_is_hour : Stmt := top 22
abbrev s_is_hour : Stmt := top 8
abbrev s_Clock_hours : Stmt := inClass (top 14) 1
abbrev s_Clock_with_stay : Stmt := inClass (top 14) 8
abbrev s__law_changed : Stmt := top 28
abbrev s__law_stay_right : Stmt := top 30
abbrev s__law_even_due : Stmt := top 31
abbrev s_law : Stmt := top 32
def flX : Str := PySem.Challenge.pw_hourneeds_k13_clocks_refused.main.file
def fas0 : List (PySem.W.Frag → Bool) := [
  fun K => decide (PySem.W.nsIn K mainGlobals "Clock" = some (some (.ref (He.ga K "Clock")))),
  fun K => PySem.W.plainGet K (He.ga K "Clock") Str.empty,
  fun K => PySem.W.hasDictIn K (He.ga K "Clock"),
  fun K => PySem.W.plainOver K (He.ga K "Clock"),
  fun K => decide (PySem.W.findIn K (.ref (He.ga K "Clock")) "__setattr__" = some (some (.builtin "object.__setattr__"))),
  fun K => PySem.W.selfFirst K (He.ga K "Clock"),
  fun K => decide (PySem.W.findIn K (.ref (He.ga K "Clock")) "kept_stays" = some none),
  fun K => decide (PySem.W.findIn K (.ref (He.ga K "Clock")) "kept_widths" = some none),
  fun K => decide (PySem.W.nsIn K mainGlobals "_law_alike" = some (some (.ref (He.ga K "_law_alike")))),
  fun K => decide (PySem.W.nsIn K mainGlobals "_law_bag" = some (some (.ref (He.ga K "_law_bag")))),
  fun K => decide (PySem.W.nsIn K mainGlobals "_law_take" = some (some (.ref (He.ga K "_law_take")))),
  fun K => decide (PySem.W.nsIn K mainGlobals "_law_stays" = some (some (.ref (He.ga K "_law_stays")))),
  fun K => decide (PySem.W.nsIn K mainGlobals "_law_one" = some (some (.ref (He.ga K "_law_one")))),
  fun K => decide (PySem.W.nsIn K mainGlobals "_law_odd" = some (some (.ref (He.ga K "_law_odd")))),
  fun K => decide (PySem.W.nsIn K mainGlobals "_law_is_whole" = some (some (.ref (He.ga K "_law_is_whole")))),
  fun K => decide (PySem.W.nsIn K mainGlobals "_law_spoilt" = some (some (.ref (He.ga K "_law_spoilt")))),
  fun K => decide (PySem.W.findIn K (.ref (He.ga K "Clock")) "stays" = some (some (.ref (He.ma K (He.ga K "Clock") "stays")))),
  fun K => PySem.W.isFn K (.ref (He.ma K (He.ga K "Clock") "stays")),
  fun K => decide (PySem.W.nsIn K mainGlobals "is_integer" = some (some (.ref (He.ga K "is_integer")))),
  fun K => decide (PySem.W.nsIn K mainGlobals "are_stays" = some (some (.ref (He.ga K "are_stays")))),
  fun K => decide (PySem.W.nsIn K mainGlobals "need_order" = some (some (.ref (He.ga K "need_order")))),
  fun K => decide (PySem.W.nsIn K mainGlobals "width_of" = some (some (.ref (He.ga K "width_of")))),
  fun K => decide (PySem.W.findIn K (.ref (He.ga K "Clock")) "__init__" = some (some (.ref (He.ma K (He.ga K "Clock") "__init__")))),
  fun K => PySem.W.isFn K (.ref (He.ma K (He.ga K "Clock") "__init__")),
  fun K => PySem.W.makesIn K (He.ga K "Clock"),
  fun K => PySem.W.keepIn K (.ref (He.ga K "Clock")),
  fun K => PySem.W.readsIn K (He.ga K "Clock") (.type "type"),
  fun K => decide (PySem.W.specialIn K (.ref (He.ga K "Clock")) "__getattribute__" = some (some (.builtin "type.__getattribute__"))),
  fun K => stB K (He.ga K "Clock") "even",
  fun K => rcB K (stA K (He.ga K "Clock") "even") "staticmethod",
  fun K => decide (PySem.W.nsIn K mainGlobals "_law_caught" = some (some (.ref (He.ga K "_law_caught")))),
  fun K => decide (PySem.W.nsIn K mainGlobals "_law_tried" = some (some (.ref (He.ga K "_law_tried")))),
  fun K => decide (PySem.W.nsIn K mainGlobals "_law_first_over" = some (some (.ref (He.ga K "_law_first_over")))),
  fun K => decide (PySem.W.nsIn K mainGlobals "_law_due" = some (some (.ref (He.ga K "_law_due")))),
  fun K => decide (PySem.W.nsIn K mainGlobals "_law_is_hour" = some (some (.ref (He.ga K "_law_is_hour")))),
  fun K => decide (PySem.W.nsIn K mainGlobals "is_hour" = some (some (.ref (He.ga K "is_hour")))),
  fun K => decide (PySem.W.findIn K (.ref (He.ga K "Clock")) "hours" = some (some (.ref (He.ma K (He.ga K "Clock") "hours")))),
  fun K => decide (PySem.W.specialIn K (.ref (He.ma K (He.ga K "Clock") "hours")) "__get__" = some (some (.builtin "property.__get__"))),
  fun K => decide (PySem.W.takesIn K (.ref (He.ma K (He.ga K "Clock") "hours")) = some true),
  fun K => rcB K (He.ma K (He.ga K "Clock") "hours") "property"]
def fas1 : List (PySem.W.Frag → Bool) := [
  fun K => decide (PySem.W.findIn K (.ref (He.ga K "Clock")) "with_stay" = some (some (.ref (He.ma K (He.ga K "Clock") "with_stay")))),
  fun K => PySem.W.isFn K (.ref (He.ma K (He.ga K "Clock") "with_stay")),
  fun K => decide (PySem.W.nsIn K mainGlobals "_law_changed" = some (some (.ref (He.ga K "_law_changed")))),
  fun K => decide (PySem.W.nsIn K mainGlobals "_law_stay_right" = some (some (.ref (He.ga K "_law_stay_right")))),
  fun K => decide (PySem.W.nsIn K mainGlobals "_law_even_due" = some (some (.ref (He.ga K "_law_even_due")))),
  fun K => decide (PySem.W.nsIn K mainGlobals "law" = some (some (.ref (He.ga K "law")))),
  fun K => decide (PySem.W.nsIn K mainGlobals "abs" = some none),
  fun K => decide (PySem.W.nsIn K mainGlobals "all" = some none),
  fun K => decide (PySem.W.nsIn K mainGlobals "bool" = some none),
  fun K => decide (PySem.W.nsIn K mainGlobals "enumerate" = some none),
  fun K => decide (PySem.W.nsIn K mainGlobals "int" = some none),
  fun K => decide (PySem.W.nsIn K mainGlobals "isinstance" = some none),
  fun K => decide (PySem.W.nsIn K mainGlobals "len" = some none),
  fun K => decide (PySem.W.nsIn K mainGlobals "list" = some none),
  fun K => decide (PySem.W.nsIn K mainGlobals "max" = some none),
  fun K => decide (PySem.W.nsIn K mainGlobals "min" = some none),
  fun K => decide (PySem.W.nsIn K mainGlobals "range" = some none),
  fun K => decide (PySem.W.nsIn K mainGlobals "repr" = some none),
  fun K => decide (PySem.W.nsIn K mainGlobals "tuple" = some none),
  fun K => itB (PySem.W.nsIn K mainGlobals "MOST_HOURS") 48,
  fun K => decide (PySem.W.findIn K (.ref (He.ga K "Clock")) "__class__" = some (some (.builtin "object.__class__"))),
  fun K => decide (PySem.W.specialIn K (.builtin "object.__class__") "__get__" = some (some (.builtin "getset_descriptor.__get__"))),
  fun K => decide (PySem.W.takesIn K (.builtin "object.__class__") = some true),
  fun K => decide (PySem.W.mroIn K (He.ga K "Clock") (.type "object") = some true),
  fun K => decide (PySem.W.kitOne K (.ref (He.ga K "Clock")) (.type "int") = some false),
  fun K => decide (PySem.W.kitOne K (.ref (He.ga K "Clock")) (.type "list") = some false),
  fun K => decide (PySem.W.kitOne K (.ref (He.ga K "Clock")) (.type "tuple") = some false),
  fun K => Wx.smB K,
  fun K => decide (PySem.W.nsIn K mainGlobals "NeedError" = some (some (.ref (He.ga K "NeedError")))),
  fun K => decide (PySem.W.subIn K (.ref (He.ga K "NeedError")) (.type "BaseException") = some true),
  fun K => PySem.W.hasDictIn K (He.ga K "NeedError"),
  fun K => decide (PySem.W.typeIn K (.ref (He.ga K "NeedError")) = some (.type "type")),
  fun K => decide (PySem.W.nsIn K cStatics "thirdparty.any" = some none),
  fun K => decide (PySem.W.nsIn K mainGlobals "super" = some none),
  fun K => decide (PySem.W.nsIn K mainGlobals "NoHour" = some (some (.ref (He.ga K "NoHour")))),
  fun K => exB K (He.ga K "NoHour") (He.ga K "NeedError"),
  fun K => decide (PySem.W.findIn K (.ref (He.ga K "NoHour")) "__setattr__" = some (some (.builtin "object.__setattr__"))),
  fun K => decide (PySem.W.findIn K (.ref (He.ga K "NoHour")) "__getattribute__" = some (some (.builtin "BaseException.__getattribute__"))),
  fun K => decide (PySem.W.findIn K (.ref (He.ga K "NoHour")) "__getattr__" = some none),
  fun K => decide (PySem.W.findIn K (.ref (He.ga K "NoHour")) "hour" = some none)]
def fas2 : List (PySem.W.Frag → Bool) := [
  fun K => decide (PySem.W.findIn K (.ref (He.ga K "NoHour")) "__init__" = some (some (.ref (He.ma K (He.ga K "NoHour") "__init__")))),
  fun K => decide (PySem.W.findIn K (.ref (He.ga K "NoHour")) "__class__" = some (some (.builtin "object.__class__"))),
  fun K => decide (PySem.W.typeIn K (.ref (He.ma K (He.ga K "NoHour") "__init__")) = some (.type "function")),
  fun K => PySem.W.keepIn K (.ref (He.ga K "NoHour")),
  fun K => decide (PySem.W.subIn K (.ref (He.ga K "NoHour")) (.type "BaseException") = some true),
  fun K => decide (PySem.W.subIn K (.ref (He.ga K "NoHour")) (.type "ValueError") = some true),
  fun K => decide (PySem.W.subIn K (.ref (He.ga K "NoHour")) (.ref (He.ga K "NeedError")) = some true),
  fun K => decide (PySem.W.typeIn K (.ref (He.ga K "NoHour")) = some (.type "type")),
  fun K => PySem.W.hasDictIn K (He.ga K "NoHour"),
  fun K => decide (PySem.W.mroIn K (He.ga K "NoHour") (.ref (He.ga K "NoHour")) = some true),
  fun K => decide (PySem.W.mroIn K (He.ga K "NoHour") (.type "object") = some true),
  fun K => decide (PySem.W.ks_superIn K (He.ga K "NoHour") (He.ga K "NoHour") "__init__" = some (some (.builtin "ValueError.__init__"))),
  fun K => inB K (He.ma K (He.ga K "NoHour") "__init__") (He.ga K "NoHour") flX,
  fun K => decide (PySem.W.nsIn K mainGlobals "Overtaken" = some (some (.ref (He.ga K "Overtaken")))),
  fun K => exB K (He.ga K "Overtaken") (He.ga K "NeedError"),
  fun K => decide (PySem.W.findIn K (.ref (He.ga K "Overtaken")) "__setattr__" = some (some (.builtin "object.__setattr__"))),
  fun K => decide (PySem.W.findIn K (.ref (He.ga K "Overtaken")) "__getattribute__" = some (some (.builtin "BaseException.__getattribute__"))),
  fun K => decide (PySem.W.findIn K (.ref (He.ga K "Overtaken")) "__getattr__" = some none),
  fun K => decide (PySem.W.findIn K (.ref (He.ga K "Overtaken")) "hour" = some none),
  fun K => decide (PySem.W.findIn K (.ref (He.ga K "Overtaken")) "__init__" = some (some (.ref (He.ma K (He.ga K "Overtaken") "__init__")))),
  fun K => decide (PySem.W.findIn K (.ref (He.ga K "Overtaken")) "__class__" = some (some (.builtin "object.__class__"))),
  fun K => decide (PySem.W.typeIn K (.ref (He.ma K (He.ga K "Overtaken") "__init__")) = some (.type "function")),
  fun K => PySem.W.keepIn K (.ref (He.ga K "Overtaken")),
  fun K => decide (PySem.W.subIn K (.ref (He.ga K "Overtaken")) (.type "BaseException") = some true),
  fun K => decide (PySem.W.subIn K (.ref (He.ga K "Overtaken")) (.type "ValueError") = some true),
  fun K => decide (PySem.W.subIn K (.ref (He.ga K "Overtaken")) (.ref (He.ga K "NeedError")) = some true),
  fun K => decide (PySem.W.typeIn K (.ref (He.ga K "Overtaken")) = some (.type "type")),
  fun K => PySem.W.hasDictIn K (He.ga K "Overtaken"),
  fun K => decide (PySem.W.mroIn K (He.ga K "Overtaken") (.ref (He.ga K "Overtaken")) = some true),
  fun K => decide (PySem.W.mroIn K (He.ga K "Overtaken") (.type "object") = some true),
  fun K => decide (PySem.W.ks_superIn K (He.ga K "Overtaken") (He.ga K "Overtaken") "__init__" = some (some (.builtin "ValueError.__init__"))),
  fun K => inB K (He.ma K (He.ga K "Overtaken") "__init__") (He.ga K "Overtaken") flX,
  fun K => decide (PySem.W.nsIn K mainGlobals "Wrong" = some (some (.ref (He.ga K "Wrong")))),
  fun K => exB K (He.ga K "Wrong") (He.ga K "NeedError"),
  fun K => decide (PySem.W.findIn K (.ref (He.ga K "Wrong")) "__setattr__" = some (some (.builtin "object.__setattr__"))),
  fun K => decide (PySem.W.findIn K (.ref (He.ga K "Wrong")) "__getattribute__" = some (some (.builtin "BaseException.__getattribute__"))),
  fun K => decide (PySem.W.findIn K (.ref (He.ga K "Wrong")) "__getattr__" = some none),
  fun K => decide (PySem.W.findIn K (.ref (He.ga K "Wrong")) "place" = some none),
  fun K => decide (PySem.W.findIn K (.ref (He.ga K "Wrong")) "__init__" = some (some (.ref (He.ma K (He.ga K "Wrong") "__init__")))),
  fun K => decide (PySem.W.findIn K (.ref (He.ga K "Wrong")) "__class__" = some (some (.builtin "object.__class__")))]
def fas3 : List (PySem.W.Frag → Bool) := [
  fun K => decide (PySem.W.typeIn K (.ref (He.ma K (He.ga K "Wrong") "__init__")) = some (.type "function")),
  fun K => PySem.W.keepIn K (.ref (He.ga K "Wrong")),
  fun K => decide (PySem.W.subIn K (.ref (He.ga K "Wrong")) (.type "BaseException") = some true),
  fun K => decide (PySem.W.subIn K (.ref (He.ga K "Wrong")) (.type "ValueError") = some true),
  fun K => decide (PySem.W.subIn K (.ref (He.ga K "Wrong")) (.ref (He.ga K "NeedError")) = some true),
  fun K => decide (PySem.W.typeIn K (.ref (He.ga K "Wrong")) = some (.type "type")),
  fun K => PySem.W.hasDictIn K (He.ga K "Wrong"),
  fun K => decide (PySem.W.mroIn K (He.ga K "Wrong") (.ref (He.ga K "Wrong")) = some true),
  fun K => decide (PySem.W.mroIn K (He.ga K "Wrong") (.type "object") = some true),
  fun K => decide (PySem.W.ks_superIn K (He.ga K "Wrong") (He.ga K "Wrong") "__init__" = some (some (.builtin "ValueError.__init__"))),
  fun K => inB K (He.ma K (He.ga K "Wrong") "__init__") (He.ga K "Wrong") flX,
  fun K => decide (PySem.W.kitOne K (.ref (He.ga K "NoHour")) (.ref (He.ga K "NoHour")) = some true),
  fun K => decide (PySem.W.kitOne K (.ref (He.ga K "NoHour")) (.ref (He.ga K "Overtaken")) = some false),
  fun K => decide (PySem.W.kitOne K (.ref (He.ga K "NoHour")) (.ref (He.ga K "Wrong")) = some false),
  fun K => decide (PySem.W.kitOne K (.ref (He.ga K "Overtaken")) (.ref (He.ga K "NoHour")) = some false),
  fun K => decide (PySem.W.kitOne K (.ref (He.ga K "Overtaken")) (.ref (He.ga K "Overtaken")) = some true),
  fun K => decide (PySem.W.kitOne K (.ref (He.ga K "Overtaken")) (.ref (He.ga K "Wrong")) = some false),
  fun K => decide (PySem.W.kitOne K (.ref (He.ga K "Wrong")) (.ref (He.ga K "NoHour")) = some false),
  fun K => decide (PySem.W.kitOne K (.ref (He.ga K "Wrong")) (.ref (He.ga K "Overtaken")) = some false),
  fun K => decide (PySem.W.kitOne K (.ref (He.ga K "Wrong")) (.ref (He.ga K "Wrong")) = some true)]
def fas : List (PySem.W.Frag → Bool) := fas0 ++ fas1 ++ fas2 ++ fas3
def fns0 : List DefH := [
  ⟨fun K => (He.ga K "_law_alike"), "_law_alike", "_law_alike", s__law_alike, false⟩,
  ⟨fun K => (He.ga K "_law_bag"), "_law_bag", "_law_bag", s__law_bag, false⟩,
  ⟨fun K => (He.ga K "_law_take"), "_law_take", "_law_take", s__law_take, false⟩,
  ⟨fun K => (He.ga K "_law_stays"), "_law_stays", "_law_stays", s__law_stays, false⟩,
  ⟨fun K => (He.ga K "_law_one"), "_law_one", "_law_one", s__law_one, false⟩,
  ⟨fun K => (He.ga K "_law_odd"), "_law_odd", "_law_odd", s__law_odd, false⟩,
  ⟨fun K => (He.ga K "_law_is_whole"), "_law_is_whole", "_law_is_whole", s__law_is_whole, false⟩,
  ⟨fun K => (He.ga K "_law_spoilt"), "_law_spoilt", "_law_spoilt", s__law_spoilt, false⟩,
  ⟨fun K => (He.ma K (He.ga K "Clock") "stays"), "stays", "Clock.stays", s_Clock_stays, false⟩,
  ⟨fun K => (He.ga K "is_integer"), "is_integer", "is_integer", s_is_integer, false⟩,
  ⟨fun K => (He.ga K "are_stays"), "are_stays", "are_stays", s_are_stays, false⟩,
  ⟨fun K => (He.ga K "need_order"), "need_order", "need_order", s_need_order, false⟩,
  ⟨fun K => (He.ga K "width_of"), "width_of", "width_of", s_width_of, false⟩,
  ⟨fun K => (He.ma K (He.ga K "Clock") "__init__"), "__init__", "Clock.__init__", s_Clock___init__, false⟩,
  ⟨fun K => (rcA K (stA K (He.ga K "Clock") "even") "staticmethod"), "even", "Clock.even", s_Clock_even, false⟩,
  ⟨fun K => (He.ga K "_law_caught"), "_law_caught", "_law_caught", s__law_caught, false⟩,
  ⟨fun K => (He.ga K "_law_tried"), "_law_tried", "_law_tried", s__law_tried, false⟩,
  ⟨fun K => (He.ga K "_law_first_over"), "_law_first_over", "_law_first_over", s__law_first_over, false⟩,
  ⟨fun K => (He.ga K "_law_due"), "_law_due", "_law_due", s__law_due, false⟩,
  ⟨fun K => (He.ga K "_law_is_hour"), "_law_is_hour", "_law_is_hour", s__law_is_hour, false⟩,
  ⟨fun K => (He.ga K "is_hour"), "is_hour", "is_hour", s_is_hour, false⟩,
  ⟨fun K => (rcA K (He.ma K (He.ga K "Clock") "hours") "property"), "hours", "Clock.hours", s_Clock_hours, false⟩,
  ⟨fun K => (He.ma K (He.ga K "Clock") "with_stay"), "with_stay", "Clock.with_stay", s_Clock_with_stay, false⟩,
  ⟨fun K => (He.ga K "_law_changed"), "_law_changed", "_law_changed", s__law_changed, false⟩,
  ⟨fun K => (He.ga K "_law_stay_right"), "_law_stay_right", "_law_stay_right", s__law_stay_right, false⟩,
  ⟨fun K => (He.ga K "_law_even_due"), "_law_even_due", "_law_even_due", s__law_even_due, false⟩,
  ⟨fun K => (He.ga K "law"), "law", "law", s_law, false⟩,
  ⟨fun K => (He.ma K (He.ga K "NoHour") "__init__"), "__init__", "NoHour.__init__", (inClass (top 5) 0), true⟩,
  ⟨fun K => (He.ma K (He.ga K "Overtaken") "__init__"), "__init__", "Overtaken.__init__", (inClass (top 4) 0), true⟩,
  ⟨fun K => (He.ma K (He.ga K "Wrong") "__init__"), "__init__", "Wrong.__init__", (inClass (top 3) 0), true⟩]
def fns : List DefH := fns0
def loose0 : List Str := [("_wall" : Str), ("NeedError" : Str), ("Wrong" : Str), ("Overtaken" : Str), ("NoHour" : Str), ("is_integer" : Str), ("is_hour" : Str), ("MOST_HOURS" : Str), ("are_stays" : Str), ("need_order" : Str), ("width_of" : Str), ("Clock" : Str), ("_law_bag" : Str), ("_law_take" : Str), ("_law_one" : Str), ("_law_stays" : Str)]
def loose1 : List Str := [("_law_alike" : Str), ("_law_is_whole" : Str), ("_law_is_hour" : Str), ("_law_odd" : Str), ("_law_first_over" : Str), ("_law_due" : Str), ("_law_caught" : Str), ("_law_tried" : Str), ("_law_changed" : Str), ("_law_spoilt" : Str), ("_law_stay_right" : Str), ("_law_even_due" : Str)]
def loose : List Str := loose0 ++ loose1
abbrev R : PySem.W.OpenRow := PySem.W.OpenLaw.row PySem.Challenge.rw_hourneeds_k13_clocks_refused
def agl0 : List Str := [("_law_alike" : Str), ("_law_bag" : Str), ("_law_take" : Str), ("_law_stays" : Str), ("_law_one" : Str), ("_law_odd" : Str), ("_law_is_whole" : Str), ("_law_spoilt" : Str), ("is_integer" : Str), ("are_stays" : Str), ("need_order" : Str), ("width_of" : Str), ("_law_caught" : Str), ("_law_tried" : Str), ("_law_first_over" : Str), ("_law_due" : Str)]
def agl1 : List Str := [("_law_is_hour" : Str), ("is_hour" : Str), ("_law_changed" : Str), ("_law_stay_right" : Str), ("_law_even_due" : Str), ("law" : Str)]
def agl : List Str := agl0 ++ agl1
def acl0 : List Str := [("Clock" : Str), ("NeedError" : Str), ("NoHour" : Str), ("Overtaken" : Str), ("Wrong" : Str)]
def acl : List Str := acl0
def ame0 : List (Str × Str) := [(("Clock" : Str), ("stays" : Str)), (("Clock" : Str), ("__init__" : Str)), (("Clock" : Str), ("with_stay" : Str)), (("NoHour" : Str), ("__init__" : Str)), (("Overtaken" : Str), ("__init__" : Str)), (("Wrong" : Str), ("__init__" : Str))]
def ame : List (Str × Str) := ame0
def apr0 : List (Str × Str) := [(("Clock" : Str), ("hours" : Str))]
def apr : List (Str × Str) := apr0
def ast0 : List (Str × Str) := [(("Clock" : Str), ("even" : Str))]
def ast : List (Str × Str) := ast0
def adrs (g : Addr → Option Obj) : List Addr := let l := asH agl acl ame apr ast g ++ [sysModules]; l ++ l.flatMap (ceA g) ++ [cStatics]
abbrev hk : PySem.W.Hook := hookH adrs fas fns
def ob (s : PySem.W.SharedT) : He.AlD := obsHG adrs fas fns (HandSHeadRun.getT s)
theorem ob_eq (s : PySem.W.SharedT) : ob s = hk.obs s.abs := obsHG_eq (HandSHeadRun.getT_eq s)
set_option maxRecDepth 100000 in
set_option maxHeartbeats 0 in
theorem run (w : World) : HandSHeadRun.RunEq R (PySem.W.view R.prog [32]) hk ob 20000 loose w := by
  intro os
  kernel_rfl
end Pf
namespace Hn
open PySem PySem.Spec PyProof.Rows L2
theorem get_list {X : Cx} : PGet X (rIxL X.K) := by
  intro pins s σ H x y v u Q I rx ry h
  obtain ⟨p, xs, i, z, rfl, rfl, hq, he, q⟩ := h
  cases rx
  obtain ⟨t, rfl⟩ := ry
  obtain ⟨its, r, pl, hz⟩ := I.list hq
  obtain ⟨j, h1, h2, h3, h4, h5⟩ := atI_get he
  obtain ⟨w, ew, rw'⟩ := r.get h2
  have hl := r.length
  have hn := line63
  have fin : EP X pins σ Q w s := ⟨z, H, I, rw', q⟩
  by_cases h0 : 0 ≤ i
  · have hj : i.toNat = j := by
      rw [seqIndex_of h0 h5] at h1
      exact Option.some.inj h1
    exact wpAny_getItem_list pl.isList h0 (by omega) (by rw [hj]; simpa using ew) fin
  · have hj : (i + (its.toArray.size : Int)).toNat = j := by
      rw [seqIndex_neg (by omega) h4] at h1
      rw [List.size_toArray, ← hl]
      exact Option.some.inj h1
    exact wpAny_getItem_list_neg pl.isList (by omega) (by rw [List.size_toArray] <;> omega) (by omega) (by rw [hj]; simpa using ew) fin
section
variable {X : Cx} {CX : CXT} {k : Nat} {f C : Addr} {fd : FuncData} {ps : List Str} {sp : Sp} {E : XK}
section
open PySem.W
variable {prog : Program} {w : World} {A : Around} {E' : Value → Shared → Prop} {s : Shared} {K : Frag} {x L : Addr} {h0 : Heap} {m : Str → Option Value} {ox : Obj} {od : Option Obj} {b : Value}
end
end
end Hn
namespace Hn
open PySem PySem.Spec PyProof.Rows L2 Evl
def Okf (P : Program) (w : World) (K : PySem.W.Frag) (mg : Str → Option Value) (base : Heap) (k : Nat) (f : Addr) (ps : List Str) (sp : Sp) : Prop :=
  ∃ fd, FnOk P w K mg base (L2.CX P w) k f fd ps sp ∧ Binds K fd ps []
section
variable {P : Program} {w : World} {K : PySem.W.Frag} {mg : Str → Option Value} {base : Heap}
theorem Okf.mono {j k : Nat} {f : Addr} {ps : List Str} {sp : Sp} (F : Okf P w K mg base j f ps sp) (h : j ≤ k) : Okf P w K mg base k f ps sp :=
  let ⟨fd, a, b⟩ := F
  ⟨fd, a.mono h, b⟩
theorem Okf.imp {k : Nat} {f : Addr} {ps : List Str} {sp sp' : Sp} (F : Okf P w K mg base k f ps sp) (h : ∀ vs H Q E, sp' vs H Q E → sp vs H Q E) : Okf P w K mg base k f ps sp' :=
  let ⟨fd, a, b⟩ := F
  ⟨fd, a.imp h, b⟩
def Df (K : PySem.W.Frag) (x qual : Str) (st : Stmt) (f : Addr) (ps : List Str) : Prop := ∃ fd, Fun K x qual st f fd ∧ Binds K fd ps []
theorem Df.kp {x qual : Str} {st : Stmt} {f : Addr} {ps : List Str} (F : Df K x qual st f ps) : PySem.W.keepIn K (.ref f) = true := let ⟨_, a, _⟩ := F; a.kp
theorem fn_lift {CX : CXT} {k : Nat} {f : Addr} {fd : FuncData} {ps : List Str} {sp : Sp} (F : FnOk P w K mg base CX0 k f fd ps sp) : FnOk P w K mg base CX k f fd ps sp :=
  ⟨F.len, fun A outer s H args us vs Q E hr e0 hb r q => codeAny_mono (F.run A outer s H args us vs Q E hr e0 hb r q) fun rr s' hc => by
    cases rr with
    | error e => exact False.elim hc
    | ok fl => cases fl <;> exact hc⟩
theorem okf_of {x qual : Str} {st : Stmt} {f : Addr} {N ps : List Str} {k : Nat} {sp : Sp} (F : Df K x qual st f ps) (S : FnScope N ps (defScope st)) (len : ∀ vs H Q E, sp vs H Q E → vs.length = ps.length)
    (hbody : ∀ (cdv : Value) (A : Around) (outer : List Env) (s : Shared) (H : Hp) (vs : List V) (Q : VK) (E : XK), Room k (A.deeper (envOfC qual (defScope st) s.heap.objs.size f cdv)) → sp vs H Q E →
      ∃ t, PSs (cxOf CX0 P w K mg base N qual (defScope st) f cdv A outer s H E).nox (defBody st) t ∧ t { nx := fun _ H' => Q .non H', rt := Q } (start N vs) H) : Okf P w K mg base (k + 1) f ps sp :=
  let ⟨fd, a, b⟩ := F
  ⟨fd, fn_lift (a.ok S len hbody), b⟩
end
section
variable {X : Cx} {k : Nat} {f C : Addr} {ps : List Str} {sp : Sp} {x m : Str} {p pos apos : Pos} {e o : Expr} {es : List Expr} {ta : TE} {t : TA}
theorem pf_call (G : Okf X.prog X.w X.K X.mg X.base k f ps sp) (hr : Room k X.A) (hg : Gl X x) (hm : X.mg x = some (.ref f)) (hk : PySem.W.keepIn X.K (.ref f) = true)
    (ha : PA X (e :: es) t) (hdb : (x == ("__debug__" : Str)) = false := by decide) (he : starEach (e :: es) X.env = (false, eval e X.env) :: starEach es X.env := by rfl) (hpl : (backTo pos (starEach es X.env)).any (·.1) = false := by rfl) :
    PE X (.Call (.Name x p) (e :: es) [] pos) (tCall sp [] E0 t) :=
  let ⟨_, a, b⟩ := G
  pe_call a hr hg hm hk b .nil passL ha hdb he hpl
theorem pf_meth0 {pl : Sem Bool} (G : Okf X.prog X.w X.K X.mg X.base k f ps sp) (hr : Room k X.A) (c : Cls X.K C) (hm : Meth X.K C m f) (he : PE X o ta)
    (ht : eval (.Call (.Attribute o m apos) [] [] pos) X.env = (do
      let ov ← eval o X.env
      standAt apos.atName
      let (f, first) ← holding [ov] (getMethod ov m pl)
      callWith pos f first (backTo pos (starEach [] X.env)) (backToKw pos (keywordEach [] X.env))) := by rfl) :
    PE X (.Call (.Attribute o m apos) [] [] pos) (tMeth C m sp [] E0 ta tNil) :=
  let ⟨_, a, b⟩ := G
  pe_meth0 he c hm a hr b .nil passL ht
theorem pf_make (G : Okf X.prog X.w X.K X.mg X.base k f ps sp) (hr : Room (k + 1) X.A) (M : Mk X.K C f) (hg : Gl X x) (hm : X.mg x = some (.ref C))
    (ha : PA X (e :: es) t) (hdb : (x == ("__debug__" : Str)) = false := by decide) (he : starEach (e :: es) X.env = (false, eval e X.env) :: starEach es X.env := by rfl) (hpl : (backTo pos (starEach es X.env)).any (·.1) = false := by rfl) :
    PE X (.Call (.Name x p) (e :: es) [] pos) (tMake C sp [] E0 t) :=
  let ⟨_, a, b⟩ := G
  pe_make M a hr hg hm b .nil passL ha hdb he hpl
theorem passN {X : Cx} : Passes (L2.CX X.prog X.w) X.nox E0 := fun _ _ _ _ _ _ _ h => by
  obtain ⟨_, _, _, _, _, _, _, _, _, _, _, _, z⟩ := h
  exact z.elim
theorem pf_prop {q : Addr} (G : Okf X.prog X.w X.K X.mg X.base k f ps sp) (hr : Room (k + 1) X.A) (c : Cls X.K C) (hp : PropOf X.K C m q f) (he : PE X e ta)
    (hab : attributeBase e m X.env (eval e X.env) = eval e X.env := by rfl) : PE X (.Attribute e m pos) (tProp C sp [] E0 ta) :=
  let ⟨_, a, b⟩ := G
  pe_prop he c hp a hr b .nil passN hab
end
def Sq (K : PySem.W.Frag) (H : Hp) (a : Addr) (xs : List V) : Prop := SqL K H a xs ∨ SqT K H a xs
theorem Sq.mono {K : PySem.W.Frag} {H H' : Hp} {a : Addr} {xs : List V} (e : Ex H H') (h : Sq K H a xs) : Sq K H' a xs := h.elim (fun h => .inl (ex_l e h)) (fun h => .inr (ex_t e h))
theorem at_int {ns : List Int} {i : Int} (h0 : 0 ≤ i) (h1 : i < (ns.length : Int)) : atI (ns.map V.int) i = some (.int (ns.getD i.toNat 0)) := by
  obtain ⟨j, rfl⟩ : ∃ j : Nat, i = (j : Int) := ⟨i.toNat, by omega⟩
  have hj : j < ns.length := by omega
  refine atI_nat ?_
  rw [List.getElem?_map, List.getElem?_eq_getElem hj, Int.toNat_natCast, List.getD_eq_getElem?_getD, List.getElem?_eq_getElem hj]
  rfl
theorem int_at {ns : List Int} {i : Nat} {x : V} (h : (ns.map V.int)[i]? = some x) : x = .int (ns.getD i 0) := by
  rw [List.getElem?_map] at h
  rw [List.getD_eq_getElem?_getD]
  cases e : ns[i]? with
  | none => rw [e] at h; cases h
  | some u => rw [e] at h; exact (Option.some.inj h).symm
theorem gD_mem {ns : List Int} {j : Nat} (h : j < ns.length) : ns.getD j 0 ∈ ns := by
  rw [List.getD_eq_getElem?_getD, List.getElem?_eq_getElem h]
  exact List.getElem_mem h
def isLst : HO → Bool
  | .lst _ => true
  | _ => false
def Xl (H H' : Hp) : Prop := ∀ a o, H a = some o → isLst o = false → H' a = some o
theorem Xl.refl (H : Hp) : Xl H H := fun _ _ h _ => h
theorem Xl.trans {H H1 H2 : Hp} (a : Xl H H1) (b : Xl H1 H2) : Xl H H2 := fun x o h n => b x o (a x o h n) n
theorem Xl.of {H H' : Hp} (e : Ex H H') : Xl H H' := fun a o h _ => e a o h
theorem Xl.set {H : Hp} {l : Addr} {xs ys : List V} (h : H l = some (.lst xs)) : Xl H (upd H l (.lst ys)) := fun a o e n => by
  rw [upd_ne (ne_of e h (by intro z; rw [z] at n; cases n))]
  exact e
section
variable {J : It} {n : Nat} {G : Hp → Prop} {Y : Nat → Hp → V → Hp → Prop}
def LcTail (J : It) (H1 : Hp) (g : TG) (tt : TT) (te : TE) (vs : List Nat) (σ : L2.St) (Q : VK) : Prop :=
  ∀ D, H1 D = none → ∃ W : Nat → Nat → Hp → Prop, (∃ m, W 0 m (upd H1 D (.lst []))) ∧ ∀ i m H, W i m H →
      (J.stop i H ∧ Q (.ref D) H) ∨ (J.go i H ∧ ∃ Nx : Hp → Prop, (∀ H', Nx H' → ∃ m', m' < m ∧ W (i + 1) m' H') ∧ ∀ x H', J.yld i H x H' → g x (wipe σ vs) H' fun σ2 H2 => wipe σ2 vs = wipe σ vs ∧ tt σ2 H2 fun b H3 =>
        if b = true then te σ2 H3 fun y H4 => ∃ acc, H4 D = some (.lst acc) ∧ acc.length < sizeLine ∧ Nx (upd H4 D (.lst (acc ++ [y]))) else Nx H3)
theorem lc_fil (w : Walk J n G Y) {g : TG} {tt : TT} {te : TE} {vs : List Nat} {σ : L2.St} {H1 : Hp} {Q : VK} (p : Nat → Bool) (R : Addr → Nat → V → Hp → Prop) (hG : ∀ D H H', Ex H1 H' → Ex H H' → H1 D = none → (∃ xs, H D = some (.lst xs)) → G H')
    (hR1 : ∀ D i v H H', Ex H H' → R D i v H → R D i v H') (hR2 : ∀ D i v H xs ys, H D = some (.lst xs) → R D i v H → R D i v (upd H D (.lst ys))) (hn : n ≤ 100000)
    (turn : ∀ D i x H H', i < n → Ex H1 H → H1 D = none → (∃ xs, H D = some (.lst xs)) → Y i H x H' → ∀ k : Bool → Hp → Prop, ∀ kk : VK, (∀ y H4, p i = true → Ex H H4 → R D i y H4 → kk y H4) → (∀ H3, p i = false → Ex H H3 → k false H3) →
      g x (wipe σ vs) H' fun σ2 H2 => wipe σ2 vs = wipe σ vs ∧ tt σ2 H2 fun b H3 => if b = true then te σ2 H3 kk else k false H3)
    (fin : ∀ D H ys, H1 D = none → Ex H1 H → H D = some (.lst ys) → ys.length = ((List.range n).filter p).length → (∀ (j : Nat) (y : V) (i : Nat), ys[j]? = some y → ((List.range n).filter p)[j]? = some i → R D i y H) → Q (.ref D) H) :
    LcTail J H1 g tt te vs σ Q := by
  intro D hD
  refine lc_it w (fun i H => Ex H1 H ∧ ∃ ys, H D = some (.lst ys) ∧ ys.length = ((List.range i).filter p).length ∧ ∀ (j : Nat) (y : V) (i' : Nat), ys[j]? = some y → ((List.range i).filter p)[j]? = some i' → R D i' y H) ⟨Ex.new hD, [], upd_same, rfl, fun j y i h => by simp at h⟩ (fun i H _ q => hG D H H q.1 (Ex.refl H) hD (let ⟨ys, h, _⟩ := q.2; ⟨ys, h⟩)) (fun i x H H' hi q y => ?_) fun H q => ?_
  · obtain ⟨e, ys, hy, hl, hr⟩ := q
    have hlen : ys.length ≤ i := by
      rw [hl]
      have := List.length_filter_le p (List.range i)
      rw [List.length_range] at this
      exact this
    have T := turn D i x H H' hi e hD ⟨ys, hy⟩ y (fun _ H3 => Ex H1 H3 ∧ ∃ ys, H3 D = some (.lst ys) ∧ ys.length = ((List.range (i + 1)).filter p).length ∧ ∀ (j : Nat) (y : V) (i' : Nat), ys[j]? = some y → ((List.range (i + 1)).filter p)[j]? = some i' → R D i' y H3)
      (fun y H4 => ∃ acc, H4 D = some (.lst acc) ∧ acc.length < sizeLine ∧ Ex H1 (upd H4 D (.lst (acc ++ [y]))) ∧ ∃ ys, (upd H4 D (.lst (acc ++ [y]))) D = some (.lst ys) ∧ ys.length = ((List.range (i + 1)).filter p).length ∧ ∀ (j : Nat) (y' : V) (i' : Nat), ys[j]? = some y' → ((List.range (i + 1)).filter p)[j]? = some i' → R D i' y' (upd H4 D (.lst (acc ++ [y]))))
      ?_ ?_
    · exact T
    · intro z H4 pi e4 rz
      have hfil : (List.range (i + 1)).filter p = (List.range i).filter p ++ [i] := by
        rw [List.range_succ, List.filter_append, List.filter_cons, if_pos pi] <;> rfl
      have hD4 := e4 D _ hy
      refine ⟨ys, hD4, sz_lt (by omega), Ex.mut (e.trans e4) hD, ys ++ [z], upd_same, ?_, fun j u i' hj hi' => ?_⟩
      · rw [hfil, List.length_append, List.length_append, hl]
        rfl
      · rw [hfil] at hi'
        refine hR2 D i' u H4 ys _ hD4 ?_
        rcases Nat.lt_or_ge j ys.length with h | h
        · rw [List.getElem?_append_left h] at hj
          rw [List.getElem?_append_left (by omega)] at hi'
          exact hR1 D i' u H H4 e4 (hr j u i' hj hi')
        · have h0 : j = ys.length := by
            have := (List.getElem?_eq_some_iff.mp hj).1
            rw [List.length_append, List.length_singleton] at this
            omega
          subst h0
          rw [List.getElem?_append_right (Nat.le_refl _), Nat.sub_self] at hj
          rw [hl, List.getElem?_append_right (Nat.le_refl _), Nat.sub_self] at hi'
          have ej : z = u := by simpa using hj
          have ei : i = i' := by simpa using hi'
          rw [← ej, ← ei]
          exact rz
    · intro H3 pi e3
      have hfil : (List.range (i + 1)).filter p = (List.range i).filter p := by
        rw [List.range_succ, List.filter_append, List.filter_cons, if_neg (by rw [pi]; decide)]
        exact List.append_nil _
      rw [hfil]
      exact ⟨e.trans e3, ys, e3 D _ hy, hl, fun j u i' hj hi' => hR1 D i' u H H3 e3 (hr j u i' hj hi')⟩
  · obtain ⟨e, ys, hy, hl, hr⟩ := q
    exact fin D H ys hD e hy hl fun j y i h1 h2 => hr j y i h1 h2
theorem walk_r0 {n : Nat} : Walk (Itr 0 n) n (fun _ => True) (fun i H x H' => H' = H ∧ x = .int (i : Int)) :=
  ⟨fun _ _ hi _ => hi, fun _ _ => Nat.le_refl _, fun i _ x _ _ _ y => ⟨y.1, by rw [y.2, Int.zero_add]⟩⟩
theorem filter_all (n : Nat) : (List.range n).filter (fun _ => true) = List.range n := List.filter_eq_self.mpr fun _ _ => rfl
theorem lc_map (w : Walk J n G Y) {g : TG} {te : TE} {vs : List Nat} {σ : L2.St} {H1 : Hp} {Q : VK} (R : Addr → Nat → V → Hp → Prop) (hG : ∀ D H H', Ex H1 H' → Ex H H' → H1 D = none → (∃ xs, H D = some (.lst xs)) → G H')
    (hR1 : ∀ D i v H H', Ex H H' → R D i v H → R D i v H') (hR2 : ∀ D i v H xs ys, H D = some (.lst xs) → R D i v H → R D i v (upd H D (.lst ys))) (hn : n ≤ 100000)
    (turn : ∀ D i x H H', i < n → Ex H1 H → H1 D = none → (∃ xs, H D = some (.lst xs)) → Y i H x H' → ∀ k : VK, (∀ y H4, Ex H H4 → R D i y H4 → k y H4) → g x (wipe σ vs) H' fun σ2 H2 => wipe σ2 vs = wipe σ vs ∧ te σ2 H2 k)
    (fin : ∀ D H ys, H1 D = none → Ex H1 H → H D = some (.lst ys) → ys.length = n → (∀ (i : Nat) (y : V), ys[i]? = some y → R D i y H) → Q (.ref D) H) :
    LcTail J H1 g tYes te vs σ Q := by
  refine lc_fil w (fun _ => true) R hG hR1 hR2 hn (fun D i x H H' hi e hD hx y k kk h1 _ => turn D i x H H' hi e hD hx y kk fun z H4 e4 r => h1 z H4 rfl e4 r) fun D H ys hD e hy hl hr => ?_
  rw [filter_all, List.length_range] at hl
  refine fin D H ys hD e hy hl fun i y h => hr i y i h ?_
  have hi := (List.getElem?_eq_some_iff.mp h).1
  rw [filter_all, List.getElem?_range (by omega)]
theorem lc_val (w : Walk J n G Y) {g : TG} {te : TE} {vs : List Nat} {σ : L2.St} {H1 : Hp} {Q : VK} (R : Nat → V → Prop) (hG : ∀ H, Ex H1 H → G H) (hn : n ≤ 100000)
    (turn : ∀ i x H H', i < n → Ex H1 H → Y i H x H' → ∀ k : VK, (∀ y H4, Ex H H4 → R i y → k y H4) → g x (wipe σ vs) H' fun σ2 H2 => wipe σ2 vs = wipe σ vs ∧ te σ2 H2 k)
    (fin : ∀ D H ys, H1 D = none → Ex H1 H → H D = some (.lst ys) → ys.length = n → (∀ (i : Nat) (y : V), ys[i]? = some y → R i y) → Q (.ref D) H) : LcTail J H1 g tYes te vs σ Q :=
  lc_map w (fun _ i v _ => R i v) (fun _ _ H' e _ _ _ => hG H' e) (fun _ _ _ _ _ _ r => r) (fun _ _ _ _ _ _ _ r => r) hn (fun _ i x H H' hi e _ _ y k h => turn i x H H' hi e y k h) fun D H ys hD e hy hl hr => fin D H ys hD e hy hl hr
theorem lc_fun (w : Walk J n G Y) {g : TG} {te : TE} {vs : List Nat} {σ : L2.St} {H1 : Hp} {Q : VK} (f : Nat → V) (hG : ∀ H, Ex H1 H → G H) (hn : n ≤ 100000)
    (turn : ∀ i x H H', i < n → Ex H1 H → Y i H x H' → ∀ k : VK, (∀ H4, Ex H H4 → k (f i) H4) → g x (wipe σ vs) H' fun σ2 H2 => wipe σ2 vs = wipe σ vs ∧ te σ2 H2 k)
    (fin : ∀ D H, H1 D = none → Ex H1 H → H D = some (.lst ((List.range n).map f)) → Q (.ref D) H) : LcTail J H1 g tYes te vs σ Q :=
  lc_val w (fun i y => y = f i) hG hn (fun i x H H' hi e y k h => turn i x H H' hi e y k fun H4 e4 => h _ H4 e4 rfl) fun D H ys hD e hy hl hr => by
    refine fin D H hD e ?_
    rw [hy]
    congr 2
    refine List.ext_getElem? fun i => ?_
    rcases Nat.lt_or_ge i n with h | h
    · have h2 : i < ys.length := by omega
      rw [List.getElem?_eq_getElem h2, List.getElem?_map, List.getElem?_range h, hr i ys[i] (List.getElem?_eq_getElem h2)]
      rfl
    · rw [List.getElem?_eq_none (by omega), List.getElem?_eq_none (by rw [List.length_map, List.length_range]; omega)]
end
end Hn
namespace Hn
open PySem PySem.Spec PyProof.Rows L2 Evl
def BagV (l : Addr) (xs : List V) : Prop := ∃ c0 c1 c2 : Int, xs = [.int c0, .int c1, .int c2, .ref l] ∧ 0 ≤ c0 ∧ 0 ≤ c1 ∧ c1 < 2147483647 ∧ 0 ≤ c2
def BagO (b l : Addr) (h : Heap) : Prop := ∃ xs, BagV l xs ∧ ∃ (its : List Value) (n : Nat), Vals xs its ∧ h.get? b = some { cls := .type "list", data := .seq its.toArray n }
def Bag (H : Hp) (b : Addr) : Prop := ∃ (l : Addr) (o : Obj) (cs : List Int), H b = some (.ext (BagO b l)) ∧ H l = some (.frz o (.lst (cs.map V.int))) ∧ (∀ c ∈ cs, 0 ≤ c) ∧ cs.length ≤ 63
theorem Bag.mono {H H' : Hp} {b : Addr} (e : Xl H H') (h : Bag H b) : Bag H' b :=
  let ⟨l, o, cs, h1, h2, h3, h4⟩ := h
  ⟨l, o, cs, e _ _ h1 rfl, e _ _ h2 rfl, h3, h4⟩
section
variable {P : Program} {w : World} {K : PySem.W.Frag} {mg : Str → Option Value} {base : Heap} {CX : CXT}
theorem fn_alt {k : Nat} {f : Addr} {fd : FuncData} {ps : List Str} {sp sp' : Sp} (F : FnOk P w K mg base CX k f fd ps sp)
    (h : ∀ vs H Q E, sp' vs H Q E → sp vs H (fun v H1 => ∀ h' : Heap, HOk P w H1 h' → ∃ H2 : Hp, HOk P w H2 h' ∧ (∀ a, H1 a = none → H2 a = none) ∧ (∀ b xs, H b = some (.tup xs) → H2 b = some (.tup xs)) ∧
      (∀ b o u, H b = some (.frz o u) → H2 b = some (.frz o u)) ∧ (∀ b qs, H b = some (.tbl qs) → ∃ more, H2 b = some (.tbl (qs ++ more))) ∧ Q v H2) E) : FnOk P w K mg base CX k f fd ps sp' := by
  refine ⟨fun vs H Q E q => F.len _ _ _ _ (h vs H Q E q), fun A outer s H args us vs Q E hr e0 hb r q => ?_⟩
  refine codeAny_mono (F.run A outer s H args us vs _ E hr e0 hb r (h vs H Q E q)) fun rr s' hc => ?_
  cases rr with
  | error e => exact hc
  | ok fl =>
    cases fl with
    | ret u =>
      obtain ⟨v, H1, h1, h2, un, hok, rv, q⟩ := hc
      obtain ⟨H2, k1, k2, k3, k4, k5, k6⟩ := q s'.heap hok
      exact ⟨v, H2, h1, h2, ⟨un.keep, un.slot, fun b o e n x => k2 b (un.free b o e n x), un.there, k3, k4, k5⟩, k1, rv, k6⟩
    | next => exact False.elim hc
    | brk => exact False.elim hc
    | cont => exact False.elim hc
theorem okf_alt {k : Nat} {f : Addr} {ps : List Str} {sp sp' : Sp} (F : Okf P w K mg base k f ps sp)
    (h : ∀ vs H Q E, sp' vs H Q E → sp vs H (fun v H1 => ∀ h' : Heap, HOk P w H1 h' → ∃ H2 : Hp, HOk P w H2 h' ∧ (∀ a, H1 a = none → H2 a = none) ∧ (∀ b xs, H b = some (.tup xs) → H2 b = some (.tup xs)) ∧
      (∀ b o u, H b = some (.frz o u) → H2 b = some (.frz o u)) ∧ (∀ b qs, H b = some (.tbl qs) → ∃ more, H2 b = some (.tbl (qs ++ more))) ∧ Q v H2) E) : Okf P w K mg base k f ps sp' :=
  let ⟨fd, a, b⟩ := F
  ⟨fd, fn_alt a h, b⟩
theorem hok_put {H : Hp} {h : Heap} {a : Addr} {o u : HO} (x : HOk P w H h) (ha : H a = some o) (hm : Mut (some o)) (hu : ObjOk P w (upd H a u) h a u) : HOk P w (upd H a u) h := fun b q e => by
  by_cases hb : b = a
  · subst hb
    rw [upd_same] at e
    cases e
    exact hu
  · rw [upd_ne hb] at e
    refine (x b q e).stay (fun _ _ _ z => z) (fun c z => ?_) fun c xs z => ?_
    · rw [upd_ne (ne_of z ha (by intro q; rw [← q] at hm; exact hm))]
      exact z
    · rw [upd_ne (ne_of z ha (by intro q; rw [← q] at hm; exact hm))]
      exact z
theorem ext_ok {H : Hp} {h : Heap} {b l : Addr} {xs : List V} (hx : BagV l xs) (ok : ObjOk P w H h b (.lst xs)) (H' : Hp) : ObjOk P w H' h b (.ext (BagO b l)) := by
  obtain ⟨_, its, n, r, e⟩ := ok
  refine ⟨⟨xs, hx, its, n, r, e⟩, ⟨_, e⟩, fun h1 h2 q k => ?_⟩
  obtain ⟨xs', hx', its', n', r', e'⟩ := q
  exact ⟨xs', hx', its', n', r', k _ e'⟩
def spTakeL : Sp := fun vs H Q _ => ∃ (b l : Addr) (u : Int) (o : Obj) (cs : List Int) (xs : List V), vs = [.ref b, .int u] ∧ H b = some (.lst xs) ∧ BagV l xs ∧ H l = some (.frz o (.lst (cs.map V.int))) ∧ (∀ c ∈ cs, 0 ≤ c) ∧ cs.length ≤ 63 ∧ 0 < u ∧ u < 1000000000000000000000000000000000000000000000000000 ∧
  ∀ (n : Int) (ys : List V), 0 ≤ n → n < u → BagV l ys → Q (.int n) (upd H b (.lst ys))
def spTake : Sp := fun vs H Q _ => ∃ (b : Addr) (u : Int), vs = [.ref b, .int u] ∧ Bag H b ∧ 0 < u ∧ u < 1000000000000000000000000000000000000000000000000000 ∧ ∀ n : Int, 0 ≤ n → n < u → Q (.int n) H
theorem take_ok {k : Nat} {f : Addr} {ps : List Str} (F : Okf P w K mg base k f ps spTakeL) (hl : ps.length = 2) : Okf P w K mg base k f ps spTake := by
  obtain ⟨fd, F, hb⟩ := F
  refine ⟨fd, ⟨fun vs H Q E q => ?_, fun A outer s H args us vs Q E hr e0 hbd r q => ?_⟩, hb⟩
  · obtain ⟨b, u, rfl, _⟩ := q
    exact hl.symm
  · obtain ⟨b, u, rfl, ⟨l, o, cs, hB, hL, hc, hcl⟩, hu0, hu1, k⟩ := q
    obtain ⟨⟨xs, hx, its, n, rv, hobj⟩, _, _⟩ := e0.hok b _ hB
    have hz : xs.length ≤ sizeLine := by
      obtain ⟨c0, c1, c2, rfl, _⟩ := hx
      show 4 ≤ sizeLine
      decide
    have ok1 : HOk P w (upd H b (.lst xs)) s.heap := hok_put e0.hok hB trivial ⟨hz, its, n, rv, hobj⟩
    have nb : ∀ c, H c = none → c ≠ b := fun c z y => by rw [y, hB] at z; cases z
    have e1 : Env0 P w K mg base A outer s (upd H b (.lst xs)) :=
      ⟨e0.frames, e0.mod, fun c q e => ⟨(e0.bs c q e).1, by rw [upd_ne (nb c (e0.bs c q e).2)]; exact (e0.bs c q e).2⟩, e0.bsz, e0.funs, fun c hc' => by rw [upd_ne (nb c (e0.frf c hc'))]; exact e0.frf c hc', ok1, e0.bare⟩
    have nl : l ≠ b := ne_of hL hB (by intro z; cases z)
    refine codeAny_mono (F.run A outer s (upd H b (.lst xs)) args us [.ref b, .int u] (fun v H' => ∃ m ys, v = .int m ∧ 0 ≤ m ∧ m < u ∧ BagV l ys ∧ H' = upd H b (.lst ys)) E0 hr e1 hbd r
      ⟨b, l, u, o, cs, xs, rfl, upd_same, hx, by rw [upd_ne nl]; exact hL, hc, hcl, hu0, hu1, fun m ys h0 h1 hy => ⟨m, ys, rfl, h0, h1, hy, upd_upd⟩⟩) fun rr s' hc' => ?_
    cases rr with
    | error e =>
      obtain ⟨_, _, _, _, _, _, _, _, _, _, _, _, z⟩ := hc'
      exact z.elim
    | ok fl =>
      cases fl with
      | ret uu =>
        obtain ⟨v, H1, h1, h2, un, hok, rv', m, ys, rfl, m0, m1, hy, rfl⟩ := hc'
        refine ⟨.int m, H, h1, h2, ⟨fun c q e n hf hx' => ?_, fun c q e n hf hx' => ?_, fun c q e n hx' => n, un.there, fun _ _ z => z, fun _ _ _ z => z, fun c qs z => ⟨#[], by rw [z]; simp⟩⟩, ?_, rv', k m m0 m1⟩
        · exact un.keep c q e (by rw [upd_ne (nb c n)]; exact n) hf hx'
        · exact un.slot c q e (by rw [upd_ne (nb c n)]; exact n) hf hx'
        · have ok2 := hok_put hok (upd_same (H := H)) trivial (u := .ext (BagO b l)) (ext_ok hy (hok b _ upd_same) _)
          rw [upd_upd] at ok2
          have eH : upd H b (.ext (BagO b l)) = H := by
            funext c
            by_cases hcb : c = b
            · subst hcb
              rw [upd_same, hB]
            · rw [upd_ne hcb]
          rw [eH] at ok2
          exact ok2
      | next => exact False.elim hc'
      | brk => exact False.elim hc'
      | cont => exact False.elim hc'
def spBagL (K : PySem.W.Frag) : Sp := fun vs H Q _ => ∃ (a : Addr) (ns : List Int), vs = [.ref a] ∧ SqL K H a (ns.map V.int) ∧ ns.length ≤ 63 ∧
  ∀ (b l : Addr) (cs : List Int) (H' : Hp), Ex H H' → H b = none → H l = none → H' b = some (.lst [.int 0, .int 1234567891, .int 0, .ref l]) → H' l = some (.lst (cs.map V.int)) → (∀ c ∈ cs, 0 ≤ c) → cs.length ≤ 63 → Q (.ref b) H'
def spBag (K : PySem.W.Frag) : Sp := fun vs H Q _ => ∃ (a : Addr) (ns : List Int), vs = [.ref a] ∧ SqL K H a (ns.map V.int) ∧ ns.length ≤ 63 ∧ ∀ (b : Addr) (H' : Hp), Ex H H' → Bag H' b → Q (.ref b) H'
theorem bag_ok {k : Nat} {f : Addr} {ps : List Str} (F : Okf P w K mg base k f ps (spBagL K)) : Okf P w K mg base k f ps (spBag K) := by
  refine okf_alt F fun vs H Q E q => ?_
  obtain ⟨a, ns, rfl, hS, hl, k⟩ := q
  refine ⟨a, ns, rfl, hS, hl, fun b l cs H' e nb nl hb hL h0 hcl h' hok => ?_⟩
  have nlb : l ≠ b := ne_of hL hb (by
    intro z
    have z' : cs.map V.int = [.int 0, .int 1234567891, .int 0, .ref l] := by injection z
    have := congrArg (fun z => z[3]?) z'
    rw [List.getElem?_map] at this
    cases hh : cs[3]? with
    | none => rw [hh] at this; simp at this
    | some q => rw [hh] at this; simp at this)
  obtain ⟨hz, its, n, r, hobj⟩ := hok l _ hL
  have ok1 : HOk P w (upd H' l (.frz { cls := .type "list", data := .seq its.toArray n } (.lst (cs.map V.int)))) h' := hok_put hok hL trivial ⟨hobj, hz, its, n, r, hobj⟩
  have hb1 : upd H' l (.frz { cls := .type "list", data := .seq its.toArray n } (.lst (cs.map V.int))) b = some (.lst [.int 0, .int 1234567891, .int 0, .ref l]) := by rw [upd_ne nlb.symm]; exact hb
  have hv : BagV l [.int 0, .int 1234567891, .int 0, .ref l] := ⟨0, 1234567891, 0, rfl, by decide, by decide, by decide, by decide⟩
  have ok2 := hok_put ok1 hb1 trivial (u := .ext (BagO b l)) (ext_ok hv (ok1 b _ hb1) _)
  have e2 : Ex H (upd (upd H' l (.frz { cls := .type "list", data := .seq its.toArray n } (.lst (cs.map V.int)))) b (.ext (BagO b l))) := Ex.mut (Ex.mut e nl) nb
  refine ⟨_, ok2, fun c hc => ?_, fun c xs z => e2 _ _ z, fun c o u z => e2 _ _ z, fun c qs z => ⟨#[], by rw [e2 _ _ z]; simp⟩, k b _ e2 ⟨l, _, cs, upd_same, by rw [upd_ne nlb]; exact upd_same, h0, hcl⟩⟩
  have c1 : c ≠ b := fun z => by rw [z, hb] at hc; cases hc
  have c2 : c ≠ l := fun z => by rw [z, hL] at hc; cases hc
  rw [upd_ne c1, upd_ne c2]
  exact hc
end
end Hn
namespace Hn
open PySem PySem.Spec PyProof.Rows L2 Evl
section
variable {X : Cx} {k : Nat} {f C : Addr} {ps : List Str} {sp : Sp}
theorem pe_gint {x : Str} {i : Int} {pos : Pos} (hg : Gl X x) (hm : ∃ t : Tok, X.mg x = some (.int i t)) (hd : (x == ("__debug__" : Str)) = false := by decide) : PE X (.Name x pos) (tC (.int i)) :=
  let ⟨t, h⟩ := hm
  pe_glob hg h ⟨t, rfl⟩ hd
end
end Hn
namespace Hn
open PySem PySem.Spec PyProof.Rows L2 Evl
section
variable {K : PySem.W.Frag} {σ : L2.St} {H : Hp} {Q : VK} {QB : Bool → Hp → Prop} {D : Ends} {ta tb tc te : TE} {t u : TS} {tt tu : TT} {ar : TA} {QA : List V → Hp → Prop} {r r' : R2} {x y v : V} {i j : Int} {n : Nat} {wi : TI} {g : TG} {R : It → Hp → Prop} {vs : List Nat}
theorem r_seq (h : t { D with nx := u D } σ H) : tSeq t u D σ H := h
theorem r_next (h : D.nx σ H) : tNext D σ H := h
theorem r_asg (h : te σ H fun x H1 => g x σ H1 D.nx) : tAsg te g D σ H := h
theorem r_name {q : L2.St → Hp → Prop} (h : q (σ.set n (some v)) H) : gName n v σ H q := h
theorem r_ret (h : te σ H D.rt) : tRet te D σ H := h
theorem r_retN (h : D.rt .non H) : tRetN D σ H := h
theorem r_drop (h : te σ H fun _ H1 => D.nx σ H1) : tDrop te D σ H := h
theorem r_ifS (h : tt σ H fun b H1 => if b = true then t D σ H1 else u D σ H1) : tIfS tt t u D σ H := h
theorem r_test (h : te σ H fun x H' => ∃ k, x = .bl k ∧ QB k H') : tTest te σ H QB := h
theorem r_B (h : te σ H fun x H' => ∃ k, x = .bl k ∧ QB k H') : tB te σ H QB := h
theorem r_and (h : tt σ H fun c H1 => if c = true then tu σ H1 QB else QB false H1) : tAnd tt tu σ H QB := h
theorem r_or (h : tt σ H fun c H1 => if c = true then QB true H1 else tu σ H1 QB) : tOr tt tu σ H QB := h
theorem r_not (h : tt σ H fun c H1 => QB (!c) H1) : tNot tt σ H QB := h
theorem r_andV (h : ta σ H fun x H1 => ∃ c, x = .bl c ∧ if c = true then tb σ H1 Q else Q (.bl false) H1) : tAndV ta tb σ H Q := h
theorem r_orV (h : ta σ H fun x H1 => ∃ c, x = .bl c ∧ if c = true then Q (.bl true) H1 else tb σ H1 Q) : tOrV ta tb σ H Q := h
theorem r_notV (h : ta σ H fun x H1 => ∃ c, x = .bl c ∧ Q (.bl (!c)) H1) : tNotV ta σ H Q := h
theorem r_if (h : tt σ H fun c H1 => if c = true then ta σ H1 Q else tb σ H1 Q) : tIf tt ta tb σ H Q := h
theorem r_var (h : σ[n]? = some (some v)) (q : Q v H) : tVar n σ H Q := ⟨v, h, q⟩
theorem r_c (q : Q v H) : tC v σ H Q := q
theorem r_op (h : ta σ H fun x H1 => tb σ H1 fun y H2 => r x y H2 Q) : tOp r ta tb σ H Q := h
theorem r_un {ru : V → Hp → VK → Prop} (h : ta σ H fun x H1 => ru x H1 Q) : tUn ru ta σ H Q := h
theorem r_chain (h : ta σ H fun x H1 => tb σ H1 fun y H2 => r x y H2 fun z H3 => ∃ k, z = .bl k ∧ (if k = true then tc σ H3 fun w' H4 => r' y w' H4 Q else Q (.bl false) H3)) : tChain r r' ta tb tc σ H Q := h
theorem r_lst (h : ar σ H fun xs H1 => xs.length ≤ sizeLine ∧ ∀ p, H1 p = none → Q (.ref p) (upd H1 p (.lst xs))) : tLst ar σ H Q := h
theorem r_tup (h : ar σ H fun xs H1 => xs.length ≤ sizeLine ∧ ∀ p, H1 p = none → Q (.ref p) (upd H1 p (.tup xs))) : tTup ar σ H Q := h
theorem r_nil (h : QA [] H) : tNil σ H QA := h
theorem r_cons (h : ta σ H fun x H1 => ar σ H1 fun xs H2 => QA (x :: xs) H2) : tCons ta ar σ H QA := h
theorem r_call {sp : Sp} {dvs : List V} {E : XK} (h : ar σ H fun vs H1 => sp (vs ++ dvs) H1 Q E) : tCall sp dvs E ar σ H Q := h
theorem r_call1 {sp : Sp} {E : XK} {ws : List V} (h : sp ws H Q E) : sp (ws ++ []) H Q E := by rw [List.append_nil]; exact h
theorem r_meth {sp : Sp} {C : Addr} {m : Str} {E : XK} (h : ta σ H fun x H1 => ∃ a dx fs, x = .ref a ∧ H1 a = some (.ins C dx fs) ∧ fs.lookup m = none ∧ ar σ H1 fun vs H2 => sp (x :: (vs ++ [])) H2 Q E) : tMeth C m sp [] E ta ar σ H Q := h
theorem r_make {sp : Sp} {C : Addr} {E : XK} (h : ar σ H fun vs H1 => ∀ x dx, H1 x = none → H1 dx = none → dx ≠ x → sp (.ref x :: (vs ++ [])) (upd (upd H1 dx (.own x)) x (.ins C dx [])) (fun v H2 => v = .non ∧ Q (.ref x) H2) E) : tMake C sp [] E ar σ H Q := h
theorem r_prop {sp : Sp} {C : Addr} {E : XK} (h : ta σ H fun x H1 => ∃ a dx fs, x = .ref a ∧ H1 a = some (.ins C dx fs) ∧ sp [.ref a] H1 Q E) : tProp C sp [] E ta σ H Q := h
theorem r_cb {rc : List V → Hp → VK → Prop} (h : ar σ H fun vs H1 => rc vs H1 Q) : tCB rc ar σ H Q := h
theorem r_bm {T : String} {rm : V → List V → Hp → VK → Prop} (h : te σ H fun x H1 => tyV K T x H1 ∧ ar σ H1 fun xs H2 => rm x xs H2 Q) : tBM K T rm te ar σ H Q := h
theorem r_bm0 {T : String} {rm : V → List V → Hp → VK → Prop} (h : te σ H fun x H1 => tyV K T x H1 ∧ rm x [] H1 Q) : tBM0 K T rm te σ H Q := h
theorem r_sl {rs : V → Option Int → Option Int → Hp → VK → Prop} {tl th : TO} (h : te σ H fun x H1 => tl σ H1 fun l H2 => th σ H2 fun u H3 => rs x l u H3 Q) : L2.tSl rs te tl th σ H Q := h
theorem r_noPart {q : Option Int → Hp → Prop} (h : q none H) : tNoPart σ H q := h
theorem r_part {q : Option Int → Hp → Prop} (h : te σ H fun x H1 => ∃ i, x = .int i ∧ q (some i) H1) : tPart te σ H q := h
theorem r_int1 {p : Int → Prop} (h : p i) : ∃ k, V.int i = .int k ∧ p k := ⟨i, rfl, h⟩
theorem r_bl1 {b : Bool} {p : Bool → Prop} (h : p b) : ∃ k, V.bl b = .bl k ∧ p k := ⟨b, rfl, h⟩
theorem r_revL (h : te σ H fun x H1 => ∃ a xs, x = .ref a ∧ SqL K H1 a xs ∧ ∀ p, H1 p = none → Q (.ref p) (upd H1 p (.lst xs.reverse))) : tRevL K te σ H Q := h
theorem r_lc (h : wi σ H fun J H1 => LcTail J H1 g tt te vs σ Q) : tLc wi g tt te vs σ H Q := h
theorem r_par {n m : Nat} (h : ar σ H fun vs H1 => ∃ v w, vs = [v, w] ∧ D.nx ((σ.set n (some v)).set m (some w)) H1) : tPar n m ar D σ H := h
theorem r_par3 {n m l : Nat} (h : ar σ H fun vs H1 => ∃ u v w, vs = [u, v, w] ∧ D.nx (((σ.set n (some u)).set m (some v)).set l (some w)) H1) : tPar3 n m l ar D σ H := h
theorem r_two {p : V → V → Prop} {a b : V} (h : p a b) : ∃ v w, [a, b] = [v, w] ∧ p v w := ⟨a, b, rfl, h⟩
theorem r_three {p : V → V → V → Prop} {a b c : V} (h : p a b c) : ∃ u v w, [a, b, c] = [u, v, w] ∧ p u v w := ⟨a, b, c, rfl, h⟩
theorem r_aug {ti : TIp} {x : V} (h : σ[n]? = some (some x)) (q : te σ H fun y H1 => ti x y H1 fun z H2 => D.nx (σ.set n (some z)) H2) : tAug n te ti D σ H := ⟨x, h, q⟩
theorem r_augS {ti te' : TE} {tget : V → V → Hp → VK → Prop} {tip : TIp} {tset : TSet} (h : ta σ H fun o H1 => ti σ H1 fun i H2 => tget o i H2 fun x H3 => te' σ H3 fun y H4 => tip x y H4 fun z H5 => tset o i z H5 fun H6 => D.nx σ H6) : tAugS ta ti te' tget tip tset D σ H := h
theorem r_sub {tset : TSet} {q : L2.St → Hp → Prop} (h : ta σ H fun o H1 => tb σ H1 fun i H2 => tset o i v H2 fun H3 => q σ H3) : gSub ta tb tset v σ H q := h
theorem r_fld {f : Str} (h : ta σ H fun x H1 => ∃ a C dx fs v, x = .ref a ∧ H1 a = some (.ins C dx fs) ∧ Cls K C ∧ NoAttr K C f ∧ fs.lookup f = some v ∧ Q v H1) : tFld K ta f σ H Q := h
theorem r_sfld {f : Str} (h : tb σ H fun y H1 => ta σ H1 fun x H2 => ∃ a C dx fs, x = .ref a ∧ H2 a = some (.ins C dx fs) ∧ Cls K C ∧ NoAttr K C f ∧ fs.length < 1000 ∧ D.nx σ (upd H2 a (.ins C dx (putF f y fs)))) : sFld K ta tb f D σ H := h
theorem r_iList (h : te σ H fun x H1 => ∃ a, x = .ref a ∧ (∃ xs, SqL K H1 a xs) ∧ R (Itl K a) H1) : iList K te σ H R := h
theorem r_iTup (h : te σ H fun x H1 => ∃ a, x = .ref a ∧ (∃ xs, SqT K H1 a xs) ∧ R (Itt K a) H1) : iTup K te σ H R := h
theorem r_iRng1 (h : ar σ H fun vs H1 => ∃ j : Int, vs = [.int j] ∧ -(2 ^ 62) ≤ j ∧ j < 2 ^ 62 ∧ R (Itr 0 j.toNat) H1) : iRng1 ar σ H R := h
theorem r_iRng2 (h : ar σ H fun vs H1 => ∃ i j : Int, vs = [.int i, .int j] ∧ (-(2 ^ 62) ≤ i ∧ i < 2 ^ 62 ∧ -(2 ^ 62) ≤ j ∧ j < 2 ^ 62) ∧ R (Itr i (j - i).toNat) H1) : iRng2 ar σ H R := h
theorem r_iEnum (h : ar σ H fun vs H1 => ∃ a xs, vs = [.ref a] ∧ SqL K H1 a xs ∧ R (Ite K a) H1) : iEnum K ar σ H R := h
theorem r_iZip (h : ar σ H fun vs H1 => ∃ a b xs ys, vs = [.ref a, .ref b] ∧ SqL K H1 a xs ∧ SqL K H1 b ys ∧ R (Itz K a b) H1) : iZip K ar σ H R := h
theorem r_range1 {p : Int → Prop} (h0 : -(2 ^ 62) ≤ i) (h1 : i < 2 ^ 62) (h : p i) : ∃ j : Int, [V.int i] = [.int j] ∧ -(2 ^ 62) ≤ j ∧ j < 2 ^ 62 ∧ p j := ⟨i, rfl, h0, h1, h⟩
theorem r_yes (h : QB true H) : tYes σ H QB := h
theorem r_wipe {σ2 : L2.St} {p : Prop} (e : wipe σ2 vs = wipe σ vs) (h : p) : wipe σ2 vs = wipe σ vs ∧ p := ⟨e, h⟩
theorem r_I0 {f : Int → Int → V} (q : Q (f i j) H) : rI0 f (.int i) (.int j) H Q := ⟨i, j, rfl, rfl, q⟩
theorem r_I {C : Int → Int → Prop} {f : Int → Int → V} (c : C i j) (q : Q (f i j) H) : rI C f (.int i) (.int j) H Q := ⟨i, j, rfl, rfl, c, q⟩
theorem r_U {f : Int → V} (q : Q (f i) H) : rU f (.int i) H Q := ⟨i, rfl, q⟩
theorem r_eqI (q : Q (.bl (decide (i = j))) H) : rEq (.int i) (.int j) H Q := by
  refine ⟨rfl, ?_⟩
  have e : decide (V.int i = V.int j) = decide (i = j) := by rw [Bool.eq_iff_iff]; simp
  rw [e]
  exact q
theorem r_neI (q : Q (.bl (!decide (i = j))) H) : rNe (.int i) (.int j) H Q := by
  refine ⟨rfl, ?_⟩
  have e : decide (V.int i = V.int j) = decide (i = j) := by rw [Bool.eq_iff_iff]; simp
  rw [e]
  exact q
theorem r_eqB {a b : Bool} (q : Q (.bl (decide (a = b))) H) : rEq (.bl a) (.bl b) H Q := by
  refine ⟨rfl, ?_⟩
  have e : decide (V.bl a = V.bl b) = decide (a = b) := by rw [Bool.eq_iff_iff]; simp
  rw [e]
  exact q
theorem r_neB {a b : Bool} (q : Q (.bl (!decide (a = b))) H) : rNe (.bl a) (.bl b) H Q := by
  refine ⟨rfl, ?_⟩
  have e : decide (V.bl a = V.bl b) = decide (a = b) := by rw [Bool.eq_iff_iff]; simp
  rw [e]
  exact q
theorem r_ipI {f : Int → Int → Int} (q : Q (.int (f i j)) H) : ipI f (.int i) (.int j) H Q := ⟨i, j, rfl, rfl, q⟩
theorem r_ixL {p : Addr} {xs : List V} (h : SqL K H p xs) (ha : atI xs i = some v) (q : Q v H) : rIxL K (.ref p) (.int i) H Q := ⟨p, xs, i, v, rfl, rfl, h, ha, q⟩
theorem r_ite {p A B : Prop} [Decidable p] (h1 : p → A) (h2 : ¬ p → B) : if decide p = true then A else B := ite2 (fun h => h1 (of_decide_eq_true h)) fun h => h2 fun z => h (decide_eq_true z)
theorem r_itn {p A B : Prop} [Decidable p] (h1 : ¬ p → A) (h2 : p → B) : if (!decide p) = true then A else B := by
  by_cases h : p
  · rw [decide_eq_true h]
    exact iteF (h2 h)
  · rw [decide_eq_false h]
    exact iteT (h1 h)
theorem r_itb {b : Bool} {A B : Prop} (h1 : b = true → A) (h2 : b = false → B) : if b = true then A else B := by
  cases b
  · exact iteF (h2 rfl)
  · exact iteT (h1 rfl)
def ForTail (J : It) (H1 : Hp) (g : TG) (tb : TS) (D : Ends) (σ : L2.St) : Prop := ∃ W : Nat → Nat → L2.St → Hp → Prop, (∃ m, W 0 m σ H1) ∧ ∀ i m σ H, W i m σ H →
  (J.stop i H ∧ D.nx σ H) ∨ (J.go i H ∧ ∃ N : L2.St → Hp → Prop, (∀ σ' H', N σ' H' → ∃ m', m' < m ∧ W (i + 1) m' σ' H') ∧ ∀ x H', J.yld i H x H' → g x σ H' fun σ2 H2 => tb { D with nx := N, ct := N, bk := D.nx } σ2 H2)
theorem r_for (h : wi σ H fun J H1 => ForTail J H1 g t D σ) : tFor wi g t D σ H := h
end
end Hn
namespace Hn
open PySem PySem.Spec PyProof.Rows L2 Evl
theorem meets_enum1 {v : Value} {o : Obj} {P : Heap → Prop} (B : Begins v o P) :
    Meets (Builtin.«enumerate.__new__» ⟨[.type "enumerate", v], []⟩) (fun _ R s => P s.heap ∧
      R (.ok (.ret (.ref (s.heap.push o).objs.size))) { s with heap := (s.heap.push o).push { cls := .type "enumerate", data := .fields #[.none, .bool false, .ref s.heap.objs.size, rawInt 0, .none, .none] } }) :=
  .of_wp fun prog w A R s h => by
    obtain ⟨hp, g, d, tk, os⟩ := s
    obtain ⟨h1, h⟩ := h
    have hsub := sub_enumerate
    have q1 : ∀ {A' : Around} {E : Value → Shared → Prop} {Q : Value → Shared → Prop}, Q (.ref hp.objs.size) ⟨hp.push o, g, d, tk, os⟩ → wpAny (model prog w) A' (pyIter v) Q E ⟨hp, g, d, tk, os⟩ := fun q => B.iter prog w _ _ ⟨hp, g, d, tk, os⟩ _ h1 q
    wp_walk using q1
    refine wpAny_stack_any fun st => wpAny_pure ?_
    split
    · rename_i c _ _ _ _ _
      cases (c == Value.type "enumerate") <;> (wp_walk using q1; exact ⟨_, rfl, h⟩)
    · wp_walk using q1
      exact ⟨_, rfl, h⟩
theorem call_enum1 {prog : Program} {w : World} {A : Around} {E : Value → Shared → Prop} {s : Shared} {v : Value} {o : Obj} {P : Heap → Prop} {Q : Value → Shared → Prop} (B : Begins v o P) (h1 : P s.heap)
    (h : ∀ h' : Heap, IsEnum h' (s.heap.objs.size + 1) s.heap.objs.size 0 .none → h'.get? s.heap.objs.size = some o → (∀ b o, s.heap.get? b = some o → h'.get? b = some o) → Q (.ref (s.heap.objs.size + 1)) { s with heap := h' }) :
    wpAny (model prog w) A (call (.type "enumerate") [v]) Q E s := by
  refine callType_new F.called_enumerate (by decide) (F.typeCall_enumerate_1 _) (F.newCall_enumerate_1 _) (fun obj => F.args_object_init_2 obj _) F.entry_enumerate_new (meets_enum1 B) ⟨h1, ?_⟩
  have hz : (s.heap.push o).objs.size = s.heap.objs.size + 1 := Heap.size_push ..
  have hg := Heap.get?_push_size (s.heap.push o) (o := { cls := .type "enumerate", data := .fields #[.none, .bool false, .ref s.heap.objs.size, rawInt 0, .none, .none] }) rfl
  rw [hz] at hg
  show _ ∧ _
  rw [hz]
  exact ⟨⟨_, hg, rfl⟩, h _ hg (Heap.get?_push_of_some _ (Heap.get?_push_size _ B.free)) fun b o x => Heap.get?_push_of_some _ (Heap.get?_push_of_some _ x)⟩
def Itet (K : PySem.W.Frag) (a : Addr) : It :=
  ⟨fun i H => ∃ (xs : List V) (x : V), SqT K H a xs ∧ xs[i]? = some x, fun i H v H' => ∃ T x, v = .ref T ∧ H T = none ∧ H' = upd H T (.tup [.int (i : Nat), x]) ∧ ∀ xs, SqT K H a xs → xs[i]? = some x, fun i H => ∃ xs : List V, SqT K H a xs ∧ xs.length = i⟩
theorem walk_enumT {K : PySem.W.Frag} {a : Addr} {xs : List V} : Walk (Itet K a) xs.length (fun H => SqT K H a xs) (YPair (fun i => some (.int (i : Nat))) (fun i => xs[i]?)) := by
  refine ⟨fun i _ hi q => ⟨xs, xs[i], q, by simp [hi]⟩, fun _ q => ⟨xs, q, rfl⟩, fun i H v H' _ q y => ?_⟩
  obtain ⟨T, x, h1, h2, h3, h4⟩ := y
  exact ⟨T, _, x, h1, h2, h3, rfl, h4 xs q⟩
theorem turn_enumT {P : Program} {w : World} {K : PySem.W.Frag} {elts : List Expr} {kk : Nat} {tpos : Pos} (a e it : Addr) (hne : e ≠ it) (ha : a ≠ it) (hae : e ≠ a) :
    Turn P w K (.Tuple elts kk tpos) (Itet K a) [e, it] e (fun i h => (∃ old, IsEnum h e it ((i : Nat) : Int) old) ∧ h.IsTupleIter it a i) where
  mem := by simp
  obj := fun i h st b hb => by
    obtain ⟨⟨old, he⟩, ⟨o, ho, hc, hd⟩⟩ := st
    rcases (show b = e ∨ b = it by simpa using hb) with z | z
    · rw [z]
      exact ⟨_, he, fun v q => nomatch q⟩
    · rw [z]
      exact ⟨o, ho, fun v q => by rw [hd] at q; cases q⟩
  keep := fun i h h' st k => by
    obtain ⟨⟨old, he⟩, hi⟩ := st
    exact ⟨⟨old, k e (by simp) _ he⟩, hi.at fun o q => k it (by simp) o q⟩
  item := by
    intro X hP hw hK hc i pins s σ H E I hf st hg
    subst hP hw hK
    obtain ⟨⟨old, he⟩, hit⟩ := st
    obtain ⟨xs, x, hq, hx⟩ := hg
    obtain ⟨its, rv, p, hz⟩ := I.tuple hq
    obtain ⟨u, hu, ru⟩ := rv.get hx
    have hel : e < s.heap.objs.size := Heap.lt_size he
    have hil : it < s.heap.objs.size := by obtain ⟨_, q, _⟩ := hit; exact Heap.lt_size q
    have hn : i < its.toArray.size := by
      rw [List.size_toArray]
      exact (List.getElem?_eq_some_iff.mp hu).1
    have D := Draws.tuple (prog := X.prog) (w := X.w) (A := X.A.in1) (I.ok.hd hc) it a ha its.toArray
    refine wpAny_pyNext_enum_itemC D he ⟨hit, p⟩ hn hne (by simp [hne, hae]) fun x' h' tk hx' ho hst' hT hsz hk => ?_
    have ex : x' = u := by
      have z : its.toArray[i]? = some u := by simpa using hu
      rw [z] at hx'
      exact (Option.some.inj hx').symm
    subst ex
    refine ⟨_, rfl, wpAny_letOwnedTupleGo_enum (s := { s with heap := h', toks := tk + 1 }) ho fun h'' he' sb => ?_⟩
    have hT2 : h''.get? s.heap.objs.size = some { cls := .type "tuple", data := .seq #[.int i tk, x'] } := (sb.2 _ (Nat.ne_of_gt hel)).trans hT
    have new : ObjOk X.prog X.w (upd H s.heap.objs.size (.tup [.int (i : Nat), x])) h'' s.heap.objs.size (.tup [.int (i : Nat), x]) :=
      ⟨by show 2 ≤ sizeLine; decide, [.int i tk, x'], .cons ⟨_, rfl⟩ (.cons ru .nil), ⟨_, hT2, rfl, _, rfl⟩⟩
    have I1 : Inv X pins σ (upd H s.heap.objs.size (.tup [.int (i : Nat), x])) { s with heap := h'', toks := tk + 1 } :=
      I.turnedNew (ch := [e, it]) (fun b ob hb q => (sb.2 b (fun z => hb (by simp [z]))).trans (hk b ob (fun z => hb (by simp [z])) (fun z => hb (by simp [z])) q)) hf (Nat.le_refl _) new
    refine ⟨.ref s.heap.objs.size, _, I1, rfl, ⟨_, x, rfl, I.hok.fresh (Nat.le_refl _), rfl, fun ys hy => ?_⟩, ⟨⟨x', ?_⟩, hst'.1.at fun o q => (sb.2 it (Ne.symm hne)).trans q⟩, fun b hb => ?_⟩
    · rw [I.tuple_inj hy hq]
      exact hx
    · have e1 : ((i + 1 : Nat) : Int) = (i : Int) + 1 := by omega
      rw [e1]
      exact he'
    · have hb' : b < s.heap.objs.size := by
        rcases (show b = e ∨ b = it by simpa using hb) with z | z
        · rw [z]; exact hel
        · rw [z]; exact hil
      rw [upd_ne (Nat.ne_of_lt hb')]
      exact (hf b hb).1
  done := by
    intro X hP hw hK hc i pins s σ H E I hf st hg
    subst hP hw hK
    obtain ⟨⟨old, he⟩, hit⟩ := st
    obtain ⟨xs, hq, hx⟩ := hg
    obtain ⟨its, rv, p, hz⟩ := I.tuple hq
    obtain ⟨f0, f1, f2, f3, f4, f5⟩ := hf it (by simp)
    have hl : its.toArray.size = i := by
      rw [List.size_toArray, ← rv.length]
      exact hx
    have D := Draws.tuple (prog := X.prog) (w := X.w) (A := X.A.in1) (I.ok.hd hc) it a ha its.toArray
    refine wpAny_pyNext_enum_endD D he ⟨by rw [hl]; exact hit, p⟩ fun h' eb => ?_
    exact ⟨rfl, I.turned (t' := s.toks) (fun b o hb q => eb b o hb q) f0 f1 f3 f4 f5⟩
  self := fun A i s Q E st h => by
    obtain ⟨⟨_, he⟩, _⟩ := st
    exact wpAny_pyIter_enum he h
section
variable {X : Cx} {tg : Expr}
def Goes1 (H1 : Hp) (n : Nat) (Y : Nat → Hp → V → Hp → Prop) (J : It) : Prop := ∃ G : Hp → Prop, Walk J n G Y ∧ ∀ H, Ex H1 H → G H
def iSeq (K : PySem.W.Frag) (tl : TE) : TI := fun σ H R => tl σ H fun x H1 => ∃ a xs H0, x = .ref a ∧ Sq K H0 a xs ∧ Ex H0 H1 ∧ ∀ J, Goes1 H0 xs.length (YAt xs) J → R J H1
theorem new1 {pins : List (Addr × Obj)} {σ : L2.St} {H : Hp} {s : Shared} (I : Inv X pins σ H s) : (∀ b ∈ [s.heap.objs.size], FpOk X pins H b) ∧ ∀ o, Inv X pins σ H { s with heap := s.heap.push o } :=
  ⟨fun b hb => by
    obtain rfl : b = s.heap.objs.size := by simpa using hb
    exact I.fpOk (Nat.le_refl _) (I.hok.fresh (Nat.le_refl _)), fun o => I.kept (t' := s.toks) fun b o e => Heap.get?_push_of_some _ e⟩
theorem pi_seq {l : Expr} {tl : TE} (hl : PE X l tl) : PI X tg l (iSeq X.K tl) := by
  refine ⟨fun pins s σ H R I h => ?_⟩
  refine thn (hl.run pins s σ H _ I h) fun v s1 ⟨x, H1, I1, r1, a, xs, H0, ex, hq0, e0, q⟩ => ?_
  subst ex
  cases r1
  obtain ⟨fp, kp⟩ := new1 I1
  rcases hq0 with hq | hq
  · obtain ⟨its, rv, p, hz⟩ := I1.list (ex_l e0 hq)
    refine wpAny_pyIter_list p.isList ?_
    exact ⟨s1.heap.objs.size, [s1.heap.objs.size], _, _, H1, rfl, kp _, turn_list a _, ⟨_, Heap.get?_push_size _ rfl, rfl, rfl⟩, fp, q _ ⟨_, walk_list, fun H' e => ex_l e hq⟩⟩
  · obtain ⟨its, rv, p, hz⟩ := I1.tuple (ex_t e0 hq)
    refine wpAny_pyIter_tuple (show s1.heap.IsTuple a its.toArray from p) ?_
    exact ⟨s1.heap.objs.size, [s1.heap.objs.size], _, _, H1, rfl, kp _, turn_tuple a _, ⟨_, Heap.get?_push_size _ rfl, rfl, rfl⟩, fp, q _ ⟨_, walk_tup, fun H' e => ex_t e hq⟩⟩
def YEnum (xs : List V) : Nat → Hp → V → Hp → Prop := YPair (fun i => some (.int (i : Nat))) (fun i => xs[i]?)
def iEnumS (K : PySem.W.Frag) (ta : TA) : TI := fun σ H R => ta σ H fun vs H1 => ∃ a xs H0, vs = [.ref a] ∧ Sq K H0 a xs ∧ Ex H0 H1 ∧ ∀ J, Goes1 H0 xs.length (YEnum xs) J → R J H1
theorem pi_enumS {e : Expr} {ta : TA} {p pos tpos : Pos} {elts : List Expr} {kk : Nat} (hg : Gl X "enumerate") (hm : X.mg "enumerate" = none) (ha : PA X [e] ta) (hs : starEach [e] X.env = [(false, eval e X.env)] := by rfl) :
    PI X (.Tuple elts kk tpos) (.Call (.Name "enumerate" p) [e] [] pos) (iEnumS X.K ta) := by
  refine ⟨fun pins s σ H R I h => ?_⟩
  refine Call_ (ld_blt I hg hm boot_enumerate (PyProof.Rows.callWith_type1 (thn (ha.run pos pins s σ H _ I h) fun us s1 ⟨vs, H1, I1, r1, a, xs, H0, ex, hq0, e0, q⟩ => ?_) hs rfl))
  subst ex
  obtain rfl := Vals.ref1 r1
  have fp : ∀ b ∈ [s1.heap.objs.size + 1, s1.heap.objs.size], FpOk X pins H1 b := fun b hb => by
    have hle : s1.heap.objs.size ≤ b := by
      rcases (show b = s1.heap.objs.size + 1 ∨ b = s1.heap.objs.size by simpa using hb) with z | z <;> omega
    exact I1.fpOk hle (I1.hok.fresh hle)
  rcases hq0 with hq | hq
  · obtain ⟨its, rv, p', hz⟩ := I1.list (ex_l e0 hq)
    refine call_enumerate_list p'.isList fun h' he hit hsz hk => wpAny_pyIter_enum he ?_
    exact ⟨s1.heap.objs.size + 1, [s1.heap.objs.size + 1, s1.heap.objs.size], _, _, H1, rfl, I1.kept (t' := s1.toks) hk, turn_enum a (s1.heap.objs.size + 1) s1.heap.objs.size, ⟨⟨.none, he⟩, hit, Nat.succ_ne_self _⟩, fp, q _ ⟨_, walk_enum, fun H' e => ex_l e hq⟩⟩
  · obtain ⟨its, rv, p', hz⟩ := I1.tuple (ex_t e0 hq)
    have hlt : a < s1.heap.objs.size := by obtain ⟨o, ho, _⟩ := id p'; exact Heap.lt_size ho
    refine call_enum1 (begins_tuple a its.toArray) p' fun h' he hit hk => wpAny_pyIter_enum he ?_
    exact ⟨s1.heap.objs.size + 1, [s1.heap.objs.size + 1, s1.heap.objs.size], _, _, H1, rfl, I1.kept (t' := s1.toks) hk, turn_enumT a (s1.heap.objs.size + 1) s1.heap.objs.size (Nat.succ_ne_self _) (Nat.ne_of_lt hlt) (Nat.ne_of_gt (Nat.lt_succ_of_lt hlt)), ⟨⟨.none, he⟩, ⟨_, hit, rfl, rfl⟩⟩, fp, q _ ⟨_, walk_enumT, fun H' e => ex_t e hq⟩⟩
end
section
variable {K : PySem.W.Frag} {σ : L2.St} {H : Hp} {te : TE} {ar : TA} {R : It → Hp → Prop}
theorem r_iSeq (h : te σ H fun x H1 => ∃ a xs H0, x = .ref a ∧ Sq K H0 a xs ∧ Ex H0 H1 ∧ ∀ J, Goes1 H0 xs.length (YAt xs) J → R J H1) : iSeq K te σ H R := h
theorem r_iEnumS (h : ar σ H fun vs H1 => ∃ a xs H0, vs = [.ref a] ∧ Sq K H0 a xs ∧ Ex H0 H1 ∧ ∀ J, Goes1 H0 xs.length (YEnum xs) J → R J H1) : iEnumS K ar σ H R := h
end
section
open HT
variable {prog : Program} {w : World} {A : Around} {E : Value → Shared → Prop} {s : Shared}
end
section
variable {X : Cx}
def tRevT (K : PySem.W.Frag) (te : TE) : TE := fun σ H Q => te σ H fun x H1 => ∃ a xs, x = .ref a ∧ SqT K H1 a xs ∧ ∀ p, H1 p = none → Q (.ref p) (upd H1 p (.tup xs.reverse))
theorem r_revT {K : PySem.W.Frag} {σ : L2.St} {H : Hp} {te : TE} {Q : VK} (h : te σ H fun x H1 => ∃ a xs, x = .ref a ∧ SqT K H1 a xs ∧ ∀ p, H1 p = none → Q (.ref p) (upd H1 p (.tup xs.reverse))) : tRevT K te σ H Q := h
variable {k : Nat} {f C : Addr} {ps : List Str} {sp : Sp}
def tIxO (C : Addr) (sp : Sp) (ta tb : TE) : TE := fun σ H Q => ta σ H fun x H1 => tb σ H1 fun y H2 => ∃ a dx fs, x = .ref a ∧ H2 a = some (.ins C dx fs) ∧ sp [x, y] H2 Q E0
theorem r_ixO {C : Addr} {sp : Sp} {σ : L2.St} {H : Hp} {ta tb : TE} {Q : VK} (h : ta σ H fun x H1 => tb σ H1 fun y H2 => ∃ a dx fs, x = .ref a ∧ H2 a = some (.ins C dx fs) ∧ sp [x, y] H2 Q E0) : tIxO C sp ta tb σ H Q := h
end
end Hn
namespace Hn
def cyc (s : List Int) (i : Int) : Int := s.getD (i % (s.length : Int)).toNat 0
def wd (s : List Int) (h : Int) : Int := (((List.range s.length).filter fun (b : Nat) => decide ((b : Int) < cyc s (h - (b : Int)))).length : Int)
def wds (s : List Int) : List Int := (List.range s.length).map fun (h : Nat) => wd s h
def okStays (s : List Int) : Bool := decide (1 ≤ s.length) && decide (s.length ≤ 48) && s.all fun x => decide (1 ≤ x) && decide (x ≤ (s.length : Int))
structure Good (s : List Int) : Prop where
  ne : 1 ≤ s.length
  le : s.length ≤ 48
  lo : ∀ i : Int, 1 ≤ cyc s i
  hi : ∀ i : Int, cyc s i ≤ (s.length : Int)
  od : ∀ i : Int, cyc s i ≤ 1 + cyc s (i + 1)
theorem mod_bd {n : Nat} (h : 1 ≤ n) (i : Int) : 0 ≤ i % (n : Int) ∧ i % (n : Int) < (n : Int) := ⟨Int.emod_nonneg _ (by omega), Int.emod_lt_of_pos _ (by omega)⟩
theorem cyc_mem {s : List Int} (h : 1 ≤ s.length) (i : Int) : cyc s i ∈ s := by
  have := mod_bd h i
  unfold cyc
  rw [List.getD_eq_getElem?_getD, List.getElem?_eq_getElem (by omega)]
  exact List.getElem_mem _
theorem cyc_at {s : List Int} {j : Nat} (h : j < s.length) : cyc s (j : Int) = s.getD j 0 := by
  unfold cyc
  rw [Int.emod_eq_of_lt (by omega) (by omega), Int.toNat_natCast]
theorem cyc_mod (s : List Int) (i : Int) : cyc s (i % (s.length : Int)) = cyc s i := by
  unfold cyc
  rw [Int.emod_emod_of_dvd _ (Int.dvd_refl _)]
theorem cyc_congr {s : List Int} {i j : Int} (h : i % (s.length : Int) = j % (s.length : Int)) : cyc s i = cyc s j := by
  unfold cyc
  rw [h]
theorem okStays_iff {s : List Int} : okStays s = true ↔ (1 ≤ s.length ∧ s.length ≤ 48 ∧ ∀ x ∈ s, 1 ≤ x ∧ x ≤ (s.length : Int)) := by
  unfold okStays
  simp only [Bool.and_eq_true, decide_eq_true_eq, List.all_eq_true]
  constructor
  · rintro ⟨⟨a, b⟩, c⟩
    exact ⟨a, b, c⟩
  · rintro ⟨a, b, c⟩
    exact ⟨⟨a, b⟩, c⟩
theorem Good.ok {s : List Int} (g : Good s) : okStays s = true := by
  refine okStays_iff.mpr ⟨g.ne, g.le, fun x hx => ?_⟩
  obtain ⟨j, hj, rfl⟩ := List.mem_iff_getElem.mp hx
  have e : cyc s (j : Int) = s[j] := by
    rw [cyc_at hj, List.getD_eq_getElem?_getD, List.getElem?_eq_getElem hj]
    rfl
  rw [← e]
  exact ⟨g.lo _, g.hi _⟩
theorem Good.of {s : List Int} (h : okStays s = true) (o : ∀ j : Nat, j < s.length → s.getD j 0 ≤ 1 + cyc s ((j : Int) + 1)) : Good s := by
  obtain ⟨h1, h2, h3⟩ := okStays_iff.mp h
  refine ⟨h1, h2, fun i => (h3 _ (cyc_mem h1 i)).1, fun i => (h3 _ (cyc_mem h1 i)).2, fun i => ?_⟩
  have hb := mod_bd h1 i
  have e1 := o (i % (s.length : Int)).toNat (by omega)
  have e2 : (((i % (s.length : Int)).toNat : Nat) : Int) = i % (s.length : Int) := by omega
  rw [e2] at e1
  have e3 : cyc s (i % (s.length : Int) + 1) = cyc s (i + 1) := cyc_congr (by rw [Int.emod_add_emod])
  rw [e3] at e1
  exact e1
end Hn
namespace Hn
open PySem PySem.Spec PyProof.Rows L2 Evl
section
variable {K : PySem.W.Frag} {σ : L2.St} {H : Hp} {Q : VK} {a : Addr} {xs : List V} {i : Int}
theorem ty_lst (h : H a = some (.lst xs)) : tyV K "list" (.ref a) H := .inl ⟨rfl, xs, .inl (.inl h)⟩
theorem szc (h : Nat.ble xs.length 1000 = true) : xs.length ≤ sizeLine := by
  have : (1000 : Nat) ≤ sizeLine := by decide
  have := Nat.le_of_ble_eq_true h
  omega
def RetN (xs : List V) (H : Hp) (Q : VK) : Prop := ∀ p H', H p = none → Ex H H' → H' p = some (.lst xs) → Q (.ref p) H'
theorem tup_mono {H' : Hp} (e : Xl H H') (h : SqT K H a xs) : SqT K H' a xs := by
  rcases h with (h | ⟨o, h⟩) | h
  · exact .inl (.inl (e _ _ h rfl))
  · exact .inl (.inr ⟨o, e _ _ h rfl⟩)
  · exact .inr h
end
end Hn
namespace Hn
open PySem PySem.Spec PyProof.Rows L2 Evl
section
variable {X : Cx} {K : PySem.W.Frag} {tg l e : Expr} {tl te : TE} {ar : TA}
theorem k_ixL (h : X.K = K) : IxR X (rIxL K) := h ▸ ix_list
theorem k_ixS (h : X.K = K) : IxR X (rIx K) := h ▸ ix_seq
theorem k_getL (h : X.K = K) : PGet X (rIxL K) := h ▸ get_list
def rLen (K : PySem.W.Frag) : List V → Hp → VK → Prop := fun xs H Q => ∃ p ys, xs = [.ref p] ∧ (SqL K H p ys ∨ SqT K H p ys) ∧ Q (.int ys.length) H
def rListOf (K : PySem.W.Frag) : List V → Hp → VK → Prop := fun xs H Q => ∃ p ys, xs = [.ref p] ∧ (SqL K H p ys ∨ SqT K H p ys) ∧ ∀ l, H l = none → Q (.ref l) (upd H l (.lst ys))
def rTupOf (K : PySem.W.Frag) : List V → Hp → VK → Prop := fun xs H Q => ∃ p ys, xs = [.ref p] ∧ ((SqL K H p ys ∧ ∀ l, H l = none → Q (.ref l) (upd H l (.tup ys))) ∨ (SqT K H p ys ∧ Q (.ref p) H))
def rAbs : List V → Hp → VK → Prop := fun xs H Q => ∃ i, xs = [.int i] ∧ Q (.int (if i < 0 then -i else i)) H
def rInt1 : List V → Hp → VK → Prop := fun xs H Q => (∃ i, xs = [.int i] ∧ Q (.int i) H) ∨ ∃ k, xs = [.bl k] ∧ Q (.int (if k then 1 else 0)) H
def rIsNon : R2 := fun x y H Q => y = .non ∧ Q (.bl (decide (x = .non))) H
def rNotNon : R2 := fun x y H Q => y = .non ∧ Q (.bl (!decide (x = .non))) H
def rInsert : V → List V → Hp → VK → Prop := fun x vs H Q => ∃ (l : Addr) (xs : List V) (i : Int) (y : V), x = .ref l ∧ vs = [.int i, y] ∧ H l = some (.lst xs) ∧ xs.length < sizeLine ∧ 0 ≤ i ∧ i < 2 ^ 63 ∧
    Q .non (upd H l (.lst (xs.take i.toNat ++ [y] ++ xs.drop i.toNat)))
def rMin2 : List V → Hp → VK → Prop := fun xs H Q => ∃ i j, xs = [.int i, .int j] ∧ Q (.int (if j < i then j else i)) H
def rMx2 : List V → Hp → VK → Prop := fun xs H Q => ∃ i j, xs = [.int i, .int j] ∧ Q (.int (if j > i then j else i)) H
theorem k_len (h : X.K = K) : CallR X (.builtin "len") (rLen K) := h ▸ call_len_seq
theorem k_listOf (h : X.K = K) : CallR X (.type "list") (rListOf K) := h ▸ call_list_of
theorem k_tupOf (h : X.K = K) : CallR X (.type "tuple") (rTupOf K) := h ▸ call_tuple_of
theorem k_abs : CallR X (.builtin "abs") rAbs := call_abs
theorem k_int1 : CallR X (.type "int") rInt1 := call_int1
theorem k_isN : OpR X (compareOp .Is) rIsNon := op_isN
theorem k_insert : MtR X "list.insert" rInsert := mt_insert
theorem k_min2 (hc : X.calm = true) : CallR X (.builtin "min") rMin2 := call_min2 hc
theorem k_max2 (hc : X.calm = true) : CallR X (.builtin "max") rMx2 := call_max2 hc
section
variable {H : Hp} {Q : VK} {i j : Int} {x : V} {a : Addr} {xs : List V}
theorem r_len (h : Sq K H a xs) (q : Q (.int (xs.length : Int)) H) : rLen K [.ref a] H Q := ⟨a, xs, rfl, h, q⟩
theorem r_listOf (h : Sq K H a xs) (q : ∀ l, H l = none → Q (.ref l) (upd H l (.lst xs))) : rListOf K [.ref a] H Q := ⟨a, xs, rfl, h, q⟩
theorem r_abs (q : Q (.int (if i < 0 then -i else i)) H) : rAbs [.int i] H Q := ⟨i, rfl, q⟩
theorem r_intP (q : Q (.int i) H) : rInt1 [.int i] H Q := .inl ⟨i, rfl, q⟩
theorem r_intB {b : Bool} (q : Q (.int (if b then 1 else 0)) H) : rInt1 [.bl b] H Q := .inr ⟨b, rfl, q⟩
theorem r_min2 (q : Q (.int (if j < i then j else i)) H) : rMin2 [.int i, .int j] H Q := ⟨i, j, rfl, q⟩
theorem r_max2 (q : Q (.int (if j > i then j else i)) H) : rMx2 [.int i, .int j] H Q := ⟨i, j, rfl, q⟩
theorem r_isNi (q : Q (.bl false) H) : rIsNon (.int i) .non H Q := ⟨rfl, q⟩
theorem r_isNr (q : Q (.bl false) H) : rIsNon (.ref a) .non H Q := ⟨rfl, q⟩
theorem r_isNn (q : Q (.bl true) H) : rIsNon .non .non H Q := ⟨rfl, q⟩
theorem r_notNi (q : Q (.bl true) H) : rNotNon (.int i) .non H Q := ⟨rfl, q⟩
theorem r_notNr (q : Q (.bl true) H) : rNotNon (.ref a) .non H Q := ⟨rfl, q⟩
theorem r_notNn (q : Q (.bl false) H) : rNotNon .non .non H Q := ⟨rfl, q⟩
end
theorem k_all (h : X.K = K) (hc : X.calm = true) : CallR X (.builtin "all") (rAll K) := h ▸ cr_all hc
theorem k_min (h : X.K = K) (hc : X.calm = true) : CallR X (.builtin "min") (rMin K) := h ▸ cr_min hc
theorem k_isi (h : X.K = K) : CallR X (.builtin "isinstance") (rIsi K) := h ▸ call_isi
theorem k_isiT (h : X.K = K) : CallR X (.builtin "isinstance") (rIsiT K) := h ▸ call_isiT
theorem k_slL (h : X.K = K) : SlR X (rSlL K) := h ▸ sl_list
theorem k_piL (h : X.K = K) (hl : PE X l tl) : PI X tg l (iList K tl) := h ▸ pi_list hl
theorem k_piS (h : X.K = K) (hl : PE X l tl) : PI X tg l (iSeq K tl) := h ▸ pi_seq hl
theorem k_piE {p pos tpos : Pos} {elts : List Expr} {kk : Nat} (h : X.K = K) (hg : Gl X "enumerate") (hm : X.mg "enumerate" = none) (ha : PA X [e] ar) (hs : starEach [e] X.env = [(false, eval e X.env)] := by rfl) :
    PI X (.Tuple elts kk tpos) (.Call (.Name "enumerate" p) [e] [] pos) (iEnumS K ar) := h ▸ pi_enumS hg hm ha hs
theorem k_fld {f : Str} {pos : Pos} (h : X.K = K) (he : PE X e te) (hb : attributeBase e f X.env (eval e X.env) = eval e X.env := by rfl) : PE X (.Attribute e f pos) (tFld K te f) := h ▸ pe_fld he hb
theorem k_sfld {o : Expr} {ta : TE} {f : Str} {pos pos' : Pos} (h : X.K = K) (ha : PE X o ta) (hv : PE X e te) (hs : swapsWith e (some (.Attribute o f pos')) pos.line X.env = pure false := by rfl) : PS X (.Assign [.Attribute o f pos'] e pos) (sFld K ta te f) := h ▸ ps_fld ha hv hs
theorem k_revL {k : Nat} {p1 p2 p3 pos : Pos} (h : X.K = K) (he : PE X e te) : PE X (.Subscript e (.Slice none none (some (.UnaryOp .USub (.Constant (.int 1) k p1) p2)) p3) pos) (tRevL K te) := h ▸ pe_revL he
theorem k_gtup {es : List Expr} {k : Nat} {t : TGs} {n : Nat} {pos : Pos} (h : X.K = K) (hc : X.calm = true) (hh : PGs X es t)
    (hn : (assignEach es X.env).length = n := by rfl) (hst : (assignEach es X.env).findIdx? (·.1) = none := by rfl) : PG X (.Tuple es k pos) (gTup K n t) := h ▸ pg_tup hc hh hn hst
theorem pe_bty {x : Str} {n : String} {pos : Pos} (hg : Gl X x) (hm : X.mg x = none) (hv : bootBuiltins x = some (.type n)) (hn : x ≠ "__name__" := by decide) (hd : (x == ("__debug__" : Str)) = false := by decide) : PE X (.Name x pos) (tC (.ty n)) := pe_bltn hg hm hv rfl hn hd
end
end Hn
namespace Hn
open PySem PySem.Spec PyProof.Rows L2 Evl
theorem at_cyc {ns : List Int} (h : 1 ≤ ns.length) (j : Int) : atI (ns.map V.int) (j % (ns.length : Int)) = some (.int (cyc ns j)) := by
  have hb := mod_bd h j
  rw [at_int hb.1 hb.2]
  rfl
def clkF (a b : Addr) : List (Str × V) := putF "kept_widths" (.ref b) (putF "kept_stays" (.ref a) [])
theorem clkF_stays (a b : Addr) : (clkF a b).lookup ("kept_stays" : Str) = some (.ref a) := by
  unfold clkF
  rw [lookup_putF, if_neg (by decide +kernel), lookup_putF, if_pos rfl]
def Clk (K : PySem.W.Frag) (C : Addr) (H : Hp) (v : V) (s : List Int) : Prop :=
  ∃ p dx a b, v = .ref p ∧ H p = some (.ins C dx (clkF a b)) ∧ SqT K H a (s.map V.int) ∧ SqT K H b ((wds s).map V.int) ∧ Good s
theorem Clk.mono {K : PySem.W.Frag} {C : Addr} {H H' : Hp} {v : V} {s : List Int} (e : Xl H H') (h : Clk K C H v s) : Clk K C H' v s :=
  let ⟨p, dx, a, b, h1, h2, h3, h4, h5⟩ := h
  ⟨p, dx, a, b, h1, e _ _ h2 rfl, tup_mono e h3, tup_mono e h4, h5⟩
theorem Clk.ex {K : PySem.W.Frag} {C : Addr} {H H' : Hp} {v : V} {s : List Int} (e : Ex H H') (h : Clk K C H v s) : Clk K C H' v s := h.mono (.of e)
theorem Clk.good {K : PySem.W.Frag} {C : Addr} {H : Hp} {v : V} {s : List Int} (h : Clk K C H v s) : Good s := let ⟨_, _, _, _, _, _, _, _, h5⟩ := h; h5
def MkClk (K : PySem.W.Frag) (C : Addr) (H : Hp) (v : V) (Q : Addr → Hp → Prop) : Prop := ∃ a s, v = .ref a ∧ Sq K H a (s.map V.int) ∧ Good s ∧ ∀ u H', Ex H H' → Clk K C H' (.ref u) s → Q u H'
def spClkInit (K : PySem.W.Frag) (C : Addr) : Sp := fun vs H Q _ => ∃ (H0 : Hp) (x dx a : Addr) (s : List Int), vs = [.ref x, .ref a] ∧ H = upd (upd H0 dx (.own x)) x (.ins C dx []) ∧ H0 x = none ∧ H0 dx = none ∧ dx ≠ x ∧ Sq K H0 a (s.map V.int) ∧ Good s ∧
  ∀ H', Ex H0 H' → Clk K C H' (.ref x) s → Q .non H'
theorem mkClk {K : PySem.W.Frag} {C : Addr} {H : Hp} {v : V} {Q : Addr → Hp → Prop} {E : XK} (h : MkClk K C H v Q) : ∀ x dx, H x = none → H dx = none → dx ≠ x → spClkInit K C (.ref x :: ([v] ++ [])) (upd (upd H dx (.own x)) x (.ins C dx [])) (fun v H2 => v = .non ∧ Q x H2) E := by
  intro x dx nx ndx ne
  obtain ⟨a, s, rfl, hS, g, k⟩ := h
  exact ⟨H, x, dx, a, s, rfl, rfl, nx, ndx, ne, hS, g, fun H' e c => ⟨rfl, k _ _ e c⟩⟩
end Hn
namespace Hn
def rowOf (n : Nat) (f : Int → Int) : List Int := (List.range n).map fun (i : Nat) => f (i : Int)
theorem rowOf_length (n : Nat) (f : Int → Int) : (rowOf n f).length = n := by
  unfold rowOf
  rw [List.length_map, List.length_range]
theorem rowOf_getD {n : Nat} (f : Int → Int) {j : Nat} (h : j < n) : (rowOf n f).getD j 0 = f (j : Int) := by
  unfold rowOf
  rw [List.getD_eq_getElem?_getD, List.getElem?_map, List.getElem?_range h]
  rfl
theorem cyc_rowOf {n : Nat} (f : Int → Int) (h : 1 ≤ n) (i : Int) : cyc (rowOf n f) i = f (i % (n : Int)) := by
  have hb := mod_bd h i
  unfold cyc
  rw [rowOf_length, rowOf_getD f (by omega), show ((i % (n : Int)).toNat : Int) = i % (n : Int) by omega]
def turnS (s : List Int) (b : Int) : List Int := rowOf s.length fun i => cyc s (i + b)
theorem turnS_length (s : List Int) (b : Int) : (turnS s b).length = s.length := rowOf_length _ _
theorem cyc_turn {s : List Int} (h : 1 ≤ s.length) (b i : Int) : cyc (turnS s b) i = cyc s (i + b) := by
  unfold turnS
  rw [cyc_rowOf _ h]
  exact cyc_congr (by rw [Int.emod_add_emod])
theorem Good.turn {s : List Int} (g : Good s) (b : Int) : Good (turnS s b) := by
  have hl := turnS_length s b
  refine ⟨by rw [hl]; exact g.ne, by rw [hl]; exact g.le, fun i => ?_, fun i => ?_, fun i => ?_⟩
  · rw [cyc_turn g.ne]
    exact g.lo _
  · rw [cyc_turn g.ne, hl]
    exact g.hi _
  · rw [cyc_turn g.ne, cyc_turn g.ne, show i + 1 + b = (i + b) + 1 by omega]
    exact g.od _
theorem cyc_rev {s : List Int} (h : 1 ≤ s.length) (i : Int) : cyc s.reverse i = cyc s (-1 - i) := by
  have h1 := mod_bd h i
  have h2 := mod_bd h (-1 - i)
  have e : (-1 - i) % (s.length : Int) = (s.length : Int) - 1 - i % (s.length : Int) := by
    have e1 : (-1 - i) % (s.length : Int) = ((s.length : Int) - 1 - i % (s.length : Int)) % (s.length : Int) := by
      rw [show (s.length : Int) - 1 - i % (s.length : Int) = (-1 - i % (s.length : Int)) + (s.length : Int) by omega, Int.add_emod_right, Int.sub_emod_emod]
    rw [e1, Int.emod_eq_of_lt (by omega) (by omega)]
  unfold cyc
  rw [List.length_reverse, e, List.getD_eq_getElem?_getD, List.getD_eq_getElem?_getD, List.getElem?_reverse (by omega)]
  congr 2
  omega
def Sg : Nat → (Int → Int) → Int
  | 0, _ => 0
  | n + 1, f => Sg n f + f (n : Int)
theorem cyc_per (s : List Int) (i : Int) : cyc s (i + (s.length : Int)) = cyc s i := cyc_congr (by rw [Int.add_emod_right])
theorem Good.least {m : List Int} {n : Nat} {dr : List Int} {top : Int} (hn : 1 ≤ n) (hn2 : n ≤ 48) (hl : m.length = n) (hd : dr.length = n) (ht : top ≤ (n : Int)) (h1 : ∀ i, 1 ≤ cyc dr i ∧ cyc dr i ≤ top)
    (hm : ∀ j : Nat, j < n → (∃ a : Nat, a < n ∧ m.getD j 0 = cyc dr ((j : Int) + a) + a) ∧ ∀ a : Nat, a < n → m.getD j 0 ≤ cyc dr ((j : Int) + a) + a) : Good m := by
  have hc : ∀ i : Int, (∃ a : Nat, a < n ∧ cyc m i = cyc dr (i + a) + a) ∧ ∀ a : Nat, a < n → cyc m i ≤ cyc dr (i + a) + a := fun i => by
    have hb := mod_bd hn i
    have e : cyc m i = m.getD (i % (n : Int)).toNat 0 := by
      unfold cyc
      rw [hl]
    have er : ∀ a : Nat, cyc dr (((i % (n : Int)).toNat : Int) + a) = cyc dr (i + a) := fun a => cyc_congr (by
      rw [show ((i % (n : Int)).toNat : Int) = i % (n : Int) by omega, hd, Int.emod_add_emod])
    obtain ⟨⟨a, ha, e1⟩, e2⟩ := hm (i % (n : Int)).toNat (by omega)
    refine ⟨⟨a, ha, by rw [e, e1, er]⟩, fun a ha => ?_⟩
    have := e2 a ha
    rw [er] at this
    rw [e]
    exact this
  refine ⟨by omega, by omega, fun i => ?_, fun i => ?_, fun i => ?_⟩
  · obtain ⟨⟨a, ha, e⟩, _⟩ := hc i
    have := (h1 (i + a)).1
    omega
  · have e := (hc i).2 0 (by omega)
    have := (h1 (i + ((0 : Nat) : Int))).2
    omega
  · obtain ⟨⟨a, ha, e⟩, _⟩ := hc (i + 1)
    rcases Nat.lt_or_ge (a + 1) n with q | q
    · have := (hc i).2 (a + 1) q
      rw [show i + ((a + 1 : Nat) : Int) = i + 1 + a by omega] at this
      omega
    · have e0 := (hc i).2 0 (by omega)
      have e2 : cyc dr (i + 1 + (a : Int)) = cyc dr (i + ((0 : Nat) : Int)) := by
        rw [show i + 1 + (a : Int) = (i + ((0 : Nat) : Int)) + (dr.length : Int) by omega]
        exact cyc_per dr _
      omega
theorem Good.const {n : Nat} {c : Int} (hn : 1 ≤ n) (hn2 : n ≤ 48) (h0 : 1 ≤ c) (h1 : c ≤ (n : Int)) : Good (List.replicate n c) := by
  have e : ∀ i, cyc (List.replicate n c) i = c := fun i => by
    have hb := mod_bd hn i
    unfold cyc
    rw [List.length_replicate, List.getD_eq_getElem?_getD, List.getElem?_replicate, if_pos (by omega)]
    rfl
  refine ⟨by rw [List.length_replicate]; exact hn, by rw [List.length_replicate]; exact hn2, fun i => by rw [e]; exact h0, fun i => by rw [e, List.length_replicate]; exact h1, fun i => by rw [e, e]; omega⟩
end Hn
namespace Hn
open PySem PySem.Spec PyProof.Rows L2 Evl
section
variable {α β : Type} [DecidableEq α] [PySem.W.Datum α] [DecidableEq β] [PySem.W.Datum β] {K : PySem.W.Frag} {H H' : Hp} {Q : VK} {x y : V} {a b : Addr} {vs : List V} {ns : List Int}
def Hd (K : PySem.W.Frag) (H : Hp) (x : V) (u : α) : Prop := Dp K H x (PySem.W.Datum.toD u)
def HdAll (K : PySem.W.Frag) (H : Hp) (vs : List V) (us : List α) : Prop := DpAll K H vs (us.map PySem.W.Datum.toD)
theorem hd_list {us : List α} (h : SqL K H a vs) (hv : HdAll K H vs us) : Hd K H (.ref a) us := .lst h hv
theorem hda_ints : ∀ ns : List Int, HdAll K H (ns.map V.int) ns
  | [] => .nil
  | n :: ns => .cons (.int n) (hda_ints ns)
theorem hd_ints (h : SqL K H a (ns.map V.int)) : Hd K H (.ref a) ns := hd_list h (hda_ints ns)
theorem hda_ix : ∀ {vs : List V} {us : List α}, vs.length = us.length → (∀ (i : Nat) v u, vs[i]? = some v → us[i]? = some u → Hd K H v u) → HdAll K H vs us
  | [], [], _, _ => .nil
  | _ :: _, [], h, _ => by cases h
  | [], _ :: _, h, _ => by cases h
  | v :: vs, u :: us, h, f => .cons (f 0 v u rfl rfl) (hda_ix (by simpa using h) fun i v u h1 h2 => f (i + 1) v u (by simpa using h1) (by simpa using h2))
mutual
theorem dp_ex (e : Ex H H') : ∀ {x : V} {u : PyData}, Dp K H x u → Dp K H' x u
  | _, _, .non => .non
  | _, _, .bl b => .bl b
  | _, _, .int i => .int i
  | _, _, .str y => .str y
  | _, _, .lst a b => .lst (ex_l e a) (dpa_ex e b)
  | _, _, .tup a b => .tup (ex_t e a) (dpa_ex e b)
theorem dpa_ex (e : Ex H H') : ∀ {vs : List V} {us : List PyData}, DpAll K H vs us → DpAll K H' vs us
  | _, _, .nil => .nil
  | _, _, .cons a b => .cons (dp_ex e a) (dpa_ex e b)
end
end
section
variable {X : Cx}
def rAddS : R2 := fun x y H Q => ∃ i j, x = .str i ∧ y = .str j ∧ i.length + j.length ≤ sizeLine ∧ Q (.str (i ++ j)) H
theorem k_addS : OpR X (binaryOp .Add) rAddS := op_add_str
def rIntS : List V → Hp → VK → Prop := fun xs H Q => ∃ a n, xs = [.str a] ∧ PySem.intText? a = some n ∧ a.length ≤ 640 ∧ Q (.int n) H
theorem k_intS : CallR X (.type "int") rIntS := call_int_str
end
theorem ints_of {P : Int → Prop} : ∀ {vs : List V}, (∀ v ∈ vs, ∃ z : Int, P z ∧ v = .int z) → ∃ ns : List Int, (∀ z ∈ ns, P z) ∧ vs = ns.map V.int
  | [], _ => ⟨[], fun _ h => (nomatch h), rfl⟩
  | v :: vs, h => by
    obtain ⟨z, hz, rfl⟩ := h v (List.mem_cons_self ..)
    obtain ⟨ns, hns, rfl⟩ := ints_of (vs := vs) fun w hw => h w (List.mem_cons_of_mem _ hw)
    refine ⟨z :: ns, fun y hy => ?_, rfl⟩
    rcases List.mem_cons.mp hy with rfl | hy
    · exact hz
    · exact hns y hy
theorem flat_rep {α : Type} (x : α) : ∀ n : Nat, (List.replicate n [x]).flatten = List.replicate n x
  | 0 => rfl
  | n + 1 => by rw [List.replicate_succ, List.flatten_cons, flat_rep x n, List.replicate_succ]; rfl
def Rows (H : Hp) (D : Addr) (n : Nat) (f : Nat → List V) : Prop := ∃ ys, H D = some (.lst ys) ∧ ys.length = n ∧ ∀ (i : Nat) y, ys[i]? = some y → ∃ p, y = .ref p ∧ H p = some (.lst (f i))
theorem Rows.ex {H H' : Hp} {D : Addr} {n : Nat} {f : Nat → List V} (e : Ex H H') (h : Rows H D n f) : Rows H' D n f :=
  let ⟨ys, h1, h2, h3⟩ := h
  ⟨ys, e _ _ h1, h2, fun i y hy => let ⟨p, hp, q⟩ := h3 i y hy; ⟨p, hp, e _ _ q⟩⟩
theorem Rows.sq {K : PySem.W.Frag} {H : Hp} {D : Addr} {n : Nat} {f : Nat → List V} (h : Rows H D n f) {Q : VK} {i : Nat} (hi : i < n) (q : ∀ p, H p = some (.lst (f i)) → Q (.ref p) H) : rIxL K (.ref D) (.int (i : Int)) H Q := by
  obtain ⟨ys, h1, h2, h3⟩ := h
  have hy : ys[i]? = some ys[i] := List.getElem?_eq_getElem (by omega)
  obtain ⟨p, hp, hq⟩ := h3 i _ hy
  refine ⟨D, ys, i, .ref p, rfl, rfl, .inl (.inl h1), atI_nat ?_, q p hq⟩
  rw [hy, hp]
theorem Rows.hd {α : Type} [DecidableEq α] [PySem.W.Datum α] {K : PySem.W.Frag} {H : Hp} {D : Addr} {n : Nat} {f : Nat → List V} (h : Rows H D n f) (us : Nat → List α) (hu : ∀ i, i < n → HdAll K H (f i) (us i)) : Hd K H (.ref D) ((List.range n).map us) := by
  obtain ⟨ys, h1, h2, h3⟩ := h
  refine hd_list (.inl (.inl h1)) (hda_ix (by rw [List.length_map, List.length_range]; exact h2) fun i v u hv hu' => ?_)
  obtain ⟨p, rfl, hp⟩ := h3 i v hv
  have hi : i < n := by
    have := (List.getElem?_eq_some_iff.mp hv).1
    omega
  rw [List.getElem?_map, List.getElem?_range hi] at hu'
  cases hu'
  exact hd_list (.inl (.inl hp)) (hu i hi)
section
variable {J : It} {n : Nat} {G : Hp → Prop} {Y : Nat → Hp → V → Hp → Prop}
end
def spLaw (K : PySem.W.Frag) : Sp := fun vs H Q _ => ∃ (a : Addr) (ns : List Int), vs = [.ref a] ∧ SqL K H a (ns.map V.int) ∧ ns.length ≤ 63 ∧ ∀ H', Q (.bl true) H'
def RowsP (H : Hp) (D : Addr) (n : Nat) (P : Nat → List V → Prop) : Prop := ∃ ys, H D = some (.lst ys) ∧ ys.length = n ∧ ∀ (i : Nat) y, ys[i]? = some y → ∃ p xs, y = .ref p ∧ H p = some (.lst xs) ∧ P i xs
theorem RowsP.ex {H H' : Hp} {D : Addr} {n : Nat} {P : Nat → List V → Prop} (e : Ex H H') (h : RowsP H D n P) : RowsP H' D n P :=
  let ⟨ys, h1, h2, h3⟩ := h
  ⟨ys, e _ _ h1, h2, fun i y hy => let ⟨p, xs, hp, q, r⟩ := h3 i y hy; ⟨p, xs, hp, e _ _ q, r⟩⟩
theorem RowsP.sq {K : PySem.W.Frag} {H : Hp} {D : Addr} {n : Nat} {P : Nat → List V → Prop} (h : RowsP H D n P) {Q : VK} {i : Nat} (hi : i < n) (q : ∀ p xs, P i xs → H p = some (.lst xs) → Q (.ref p) H) : rIxL K (.ref D) (.int (i : Int)) H Q := by
  obtain ⟨ys, h1, h2, h3⟩ := h
  have hy : ys[i]? = some ys[i] := List.getElem?_eq_getElem (by omega)
  obtain ⟨p, xs, hp, hq, hr⟩ := h3 i _ hy
  refine ⟨D, ys, i, .ref p, rfl, rfl, .inl (.inl h1), atI_nat ?_, q p xs hr hq⟩
  rw [hy, hp]
section
variable {J : It} {n : Nat} {G : Hp → Prop} {Y : Nat → Hp → V → Hp → Prop}
end
end Hn
namespace Hn
open PySem PySem.W PySem.Calls PySem.Spec PyProof.Rows L2 Evl
open Sem (wp)
section
variable {prog : Program} {w : World} {A : Around} {E : Value → Shared → Prop} {s : Shared} {z TI TO T i1 i2 S : Addr} {fp1 fp2 : List Addr} {n i : Nat} {P1 P2 : Nat → Value → Prop} {St1 St2 : Nat → Heap → Prop} {f : Bool} {oT : Obj}
structure ZS (z TI TO i1 i2 S : Addr) (St1 St2 : Nat → Heap → Prop) (i : Nat) (h : Heap) : Prop where
  ti : IsTupOf2 h TI (.ref i1) (.ref i2)
  s1 : St1 i h
  s2 : St2 i h
  zz : (i = 0 ∧ IsZip h z TI TO .none ∧ ∃ a b, IsTupOf2 h TO a b) ∨ (0 < i ∧ ∃ T f oT, IsZipHeld h z TI TO T f ∧ h.get? T = some oT ∧ T ≠ S ∧ T ≠ z ∧ T ≠ i1 ∧ T ≠ i2)
structure ZG (P1 P2 : Nat → Value → Prop) (lo : Addr) (h : Heap) (as : List Addr) : Prop where
  rise : as.Pairwise (· < ·)
  above : ∀ a ∈ as, lo < a
  pairs : ∀ (j : Nat) (a : Addr), as[j]? = some a → ∃ x1 x2, P1 j x1 ∧ P2 j x2 ∧ IsTupOf2 h a x1 x2
theorem ZG.there {lo : Addr} {h : Heap} {as : List Addr} (g : ZG P1 P2 lo h as) {a : Addr} (ha : a ∈ as) : a < h.objs.size := by
  obtain ⟨j, hj⟩ := List.mem_iff_getElem?.mp ha
  obtain ⟨_, _, _, _, e⟩ := g.pairs j a hj
  exact Heap.lt_size e
end
structure ZB (z TI TO i1 i2 S : Addr) (fp1 fp2 : List Addr) : Prop where
  z : z < S
  TI : TI < S
  TO : TO < S
  i1 : i1 < S
  i2 : i2 < S
  f1 : ∀ b ∈ fp1, b < S
  f2 : ∀ b ∈ fp2, b < S
section
variable {prog : Program} {w : World} {z TI TO i1 i2 S : Addr} {fp1 fp2 : List Addr} {n : Nat} {P1 P2 : Nat → Value → Prop} {St1 St2 : Nat → Heap → Prop}
theorem ZS.keep {A : Around} {i : Nat} {h h' : Heap} (B : ZB z TI TO i1 i2 S fp1 fp2) (D1 : Draws prog w A i1 fp1 n P1 St1) (D2 : Draws prog w A i2 fp2 n P2 St2) (x : ZS z TI TO i1 i2 S St1 St2 i h) (k : ∀ b o, b ≠ S → h.get? b = some o → h'.get? b = some o) : ZS z TI TO i1 i2 S St1 St2 i h' :=
  ⟨k _ _ (Nat.ne_of_lt B.TI) x.ti, D1.frame _ _ _ x.s1 fun b hb o e => k b o (Nat.ne_of_lt (B.f1 b hb)) e, D2.frame _ _ _ x.s2 fun b hb o e => k b o (Nat.ne_of_lt (B.f2 b hb)) e, by
    rcases x.zz with ⟨h0, h1, a, b, h2⟩ | ⟨h0, T, f, oT, h1, h2, h3, h4⟩
    · exact .inl ⟨h0, k _ _ (Nat.ne_of_lt B.z) h1, a, b, k _ _ (Nat.ne_of_lt B.TO) h2⟩
    · exact .inr ⟨h0, T, f, oT, k _ _ (Nat.ne_of_lt B.z) h1, k _ _ h3 h2, h3, h4⟩⟩
variable {A : Around} {E : Value → Shared → Prop} {s : Shared} {R : Result → Shared → Prop}
end
def putP : Hp → List Addr → List (V × V) → Hp
  | H, a :: as, p :: ps => putP (upd H a (.tup [p.1, p.2])) as ps
  | H, _, _ => H
section
variable {X : Cx}
def rListZip (K : PySem.W.Frag) : List V → Hp → VK → Prop := fun vs H Q => ∃ a b xs ys, vs = [.ref a, .ref b] ∧ Sq K H a xs ∧ Sq K H b ys ∧ xs.length = ys.length ∧ 1 ≤ xs.length ∧
  ∀ (H' : Hp) (p : Addr) (ts : List Addr), Ex H H' → H p = none → (∀ t ∈ ts, H t = none) → p ∉ ts → H' p = some (.lst (ts.map V.ref)) → ts.length = xs.length →
    (∀ (j : Nat) t x y, ts[j]? = some t → xs[j]? = some x → ys[j]? = some y → H' t = some (.tup [x, y])) → Q (.ref p) H'
def tListZip (K : PySem.W.Frag) (ar : TA) : TE := fun σ H Q => ar σ H fun vs H1 => rListZip K vs H1 Q
end
section
variable {K : PySem.W.Frag} {σ : L2.St} {H : Hp} {Q : VK} {ar : TA}
theorem r_listZip (h : ar σ H fun vs H1 => rListZip K vs H1 Q) : tListZip K ar σ H Q := h
end
end Hn
namespace Hn
open PySem PySem.Spec PyProof.Rows L2 Evl
section
variable {X : Cx} {K : PySem.W.Frag} {k : Nat} {f C : Addr} {ps : List Str} {sp : Sp}
end
section
open PySem.W
variable {prog : Program} {w : World} {A : Around} {E : Value → Shared → Prop} {s : Shared} {K : Frag} {x C L f : Addr} {h₀ : Heap} {m : Str → Option Value} {ox : Obj} {od : Option Obj} {i : Int} {t : Tok}
end
section
variable {X : Cx} {k : Nat} {f C : Addr} {ps : List Str} {sp : Sp}
end
end Hn
namespace Hn
open PySem PySem.Spec PyProof.Rows L2 Evl
structure IsC (K : PySem.W.Frag) (C : Addr) : Prop where
  cl : Cls K C
  ha : PySem.W.findIn K (.ref C) "__class__" = some (some (.builtin "object.__class__"))
  hn : PySem.W.specialIn K (.builtin "object.__class__") "__get__" = some (some (.builtin "getset_descriptor.__get__"))
  tk : PySem.W.takesIn K (.builtin "object.__class__") = some true
  mr : PySem.W.mroIn K C (.type "object") = some true
structure GoodN (ns : List Int) : Prop where
  ne : 1 ≤ ns.length
  le : ns.length ≤ 48
  nn : ∀ i, 0 ≤ cyc ns i
theorem GoodN.mem {ns : List Int} (g : GoodN ns) : ∀ x ∈ ns, 0 ≤ x := fun x hx => by
  obtain ⟨j, hj, rfl⟩ := List.mem_iff_getElem.mp hx
  have := g.nn (j : Int)
  rw [cyc_at hj, List.getD_eq_getElem?_getD, List.getElem?_eq_getElem hj] at this
  exact this
theorem GoodN.of {ns : List Int} (h1 : 1 ≤ ns.length) (h2 : ns.length ≤ 48) (h : ∀ x ∈ ns, 0 ≤ x) : GoodN ns := ⟨h1, h2, fun i => h _ (cyc_mem h1 i)⟩
def rwF (fld : Str) (a : Addr) : List (Str × V) := putF fld (.ref a) []
def Rw (K : PySem.W.Frag) (C : Addr) (fld : Str) (H : Hp) (v : V) (ns : List Int) : Prop :=
  ∃ p dx a, v = .ref p ∧ H p = some (.ins C dx (rwF fld a)) ∧ SqT K H a (ns.map V.int) ∧ GoodN ns
section
variable {K : PySem.W.Frag} {C : Addr} {fld : Str} {H H' : Hp} {v : V} {ns : List Int}
theorem Rw.mono (e : Xl H H') (h : Rw K C fld H v ns) : Rw K C fld H' v ns :=
  let ⟨p, dx, a, h1, h2, h3, h4⟩ := h
  ⟨p, dx, a, h1, e _ _ h2 rfl, tup_mono e h3, h4⟩
theorem Rw.ex (e : Ex H H') (h : Rw K C fld H v ns) : Rw K C fld H' v ns := h.mono (.of e)
theorem Rw.good (h : Rw K C fld H v ns) : GoodN ns := let ⟨_, _, _, _, _, _, g⟩ := h; g
end
def Prs (H : Hp) (p : Addr) (ns ms : List Int) : Prop := ∃ ts : List Addr, H p = some (.lst (ts.map V.ref)) ∧ ts.length = ns.length ∧ ∀ (j : Nat) t, ts[j]? = some t → H t = some (.tup [.int (ns.getD j 0), .int (ms.getD j 0)])
theorem Prs.ex {H H' : Hp} {p : Addr} {ns ms : List Int} (e : Ex H H') (h : Prs H p ns ms) : Prs H' p ns ms :=
  let ⟨ts, h1, h2, h3⟩ := h
  ⟨ts, e _ _ h1, h2, fun j t ht => e _ _ (h3 j t ht)⟩
def zipR (f : Int → Int → Int) (s t : List Int) : List Int := rowOf s.length fun i => f (cyc s i) (cyc t i)
def mapR (f : Int → Int) (s : List Int) : List Int := rowOf s.length fun i => f (cyc s i)
theorem zipR_length (f : Int → Int → Int) (s t : List Int) : (zipR f s t).length = s.length := rowOf_length _ _
theorem mapR_length (f : Int → Int) (s : List Int) : (mapR f s).length = s.length := rowOf_length _ _
theorem cyc_zipR {f : Int → Int → Int} {s t : List Int} (h : 1 ≤ s.length) (hl : t.length = s.length) (i : Int) : cyc (zipR f s t) i = f (cyc s i) (cyc t i) := by
  unfold zipR
  rw [cyc_rowOf _ h, cyc_mod]
  rw [← hl, cyc_mod]
theorem cyc_mapR {f : Int → Int} {s : List Int} (h : 1 ≤ s.length) (i : Int) : cyc (mapR f s) i = f (cyc s i) := by
  unfold mapR
  rw [cyc_rowOf _ h, cyc_mod]
theorem GoodN.zip {f : Int → Int → Int} {s t : List Int} (g : GoodN s) (gt : GoodN t) (hl : t.length = s.length) (h : ∀ a b, 0 ≤ a → 0 ≤ b → 0 ≤ f a b) : GoodN (zipR f s t) := by
  refine ⟨by rw [zipR_length]; exact g.ne, by rw [zipR_length]; exact g.le, fun i => ?_⟩
  rw [cyc_zipR g.ne hl]
  exact h _ _ (g.nn i) (gt.nn i)
theorem GoodN.map {f : Int → Int} {s : List Int} (g : GoodN s) (h : ∀ a, 0 ≤ a → 0 ≤ f a) : GoodN (mapR f s) := by
  refine ⟨by rw [mapR_length]; exact g.ne, by rw [mapR_length]; exact g.le, fun i => ?_⟩
  rw [cyc_mapR g.ne]
  exact h _ (g.nn i)
theorem GoodN.turn {s : List Int} (g : GoodN s) (b : Int) : GoodN (turnS s b) := by
  refine ⟨by rw [turnS_length]; exact g.ne, by rw [turnS_length]; exact g.le, fun i => ?_⟩
  rw [cyc_turn g.ne]
  exact g.nn _
theorem GoodN.rev {s : List Int} (g : GoodN s) : GoodN s.reverse := by
  refine ⟨by rw [List.length_reverse]; exact g.ne, by rw [List.length_reverse]; exact g.le, fun i => ?_⟩
  rw [cyc_rev g.ne]
  exact g.nn _
section
variable {n : Nat} {a b : Int → Int}
end
end Hn
namespace Hn
open PySem PySem.Spec PyProof.Rows L2 Evl
def OkP (Pre : Around → Shared → Prop) (P : Program) (w : World) (K : PySem.W.Frag) (mg : Str → Option Value) (base : Heap) (k : Nat) (f : Addr) (ps : List Str) (sp : Sp) : Prop :=
  ∃ fd, Binds K fd ps [] ∧ (∀ vs H Q E, sp vs H Q E → vs.length = ps.length) ∧ ∀ (A : Around) (out : List Env) (s : Shared) (H : Hp) (ag : Args) (us : List Value) (vs : List V) (Q : VK) (E : XK), Pre A s → Room k A → Env0 P w K mg base A out s H → BindsTo s fd ag (ps.zip us) → Vals vs us → sp vs H Q E →
    codeAny (model P w) A (.call (.ref f) ag) (CR CX0 out P w H s Q E) s
section
variable {P : Program} {w : World} {K : PySem.W.Frag} {mg : Str → Option Value} {base : Heap} {Pre : Around → Shared → Prop}
theorem okP_of {x qual : Str} {st : Stmt} {f : Addr} {N ps : List Str} {k : Nat} {sp : Sp} (D : Df K x qual st f ps) (S : FnScope N ps (defScope st)) (len : ∀ vs H Q E, sp vs H Q E → vs.length = ps.length)
    (hbody : ∀ (cdv : Value) (A : Around) (out : List Env) (s : Shared) (H : Hp) (vs : List V) (Q : VK) (E : XK), Pre A s → Room k (A.deeper (envOfC qual (defScope st) s.heap.objs.size f cdv)) → sp vs H Q E →
      ∃ t, PSs (cxOf CX0 P w K mg base N qual (defScope st) f cdv A out s H E).nox (defBody st) t ∧ t { nx := fun _ H' => Q .non H', rt := Q } (start N vs) H) : OkP Pre P w K mg base (k + 1) f ps sp := by
  obtain ⟨fd, F, bd⟩ := D
  refine ⟨fd, bd, len, ?_⟩
  obtain ⟨oc, od, kV, doc, pm, an, cdv, ct, osl, rfl, lk, hcd⟩ := F.ex
  intro A out s H ag us vs Q E pre room env bnd rel hsp
  have ll := len _ _ _ _ hsp
  have inK : K.In s.heap := env.mod.kin.keeps fun b o e => (env.bs b o e).1
  have nol : s.heap.NoLimit := env.mod.nolimit.keeps fun b o e => (env.bs b o e).1
  have kinds : ∀ y ∈ ps.zip us, (defScope st).names.lookup y.1 = some .local ∨ ((defScope st).names.lookup y.1 = some .cell ∧ ((cellsFrom (s.heap.objs.size + 1) (defScope st).names []).lookup y.1).isSome = true) := fun y hy => by
    rcases S.par y.1 (List.of_mem_zip (a := y.1) (b := y.2) hy).1 with z | z
    · exact Or.inl z
    · exact Or.inr ⟨z, PySem.W.cellsFrom_some _ _ _ (Or.inl z)⟩
  refine codeAny_call_function room.depth (inK _ _ lk) rfl S.co S.gen rfl (PySem.W.codeRec_of inK hcd) (bnd _ _ _ _ ?_)
  refine wpAny_newFunctionEnv_cells S.kind kinds fun env1 he s1 x1 => ?_
  subst he
  refine ⟨nol.keeps x1.toInCall.keep, codeAny_func ?_⟩
  obtain ⟨t, tt, qq⟩ := hbody cdv A out s H vs Q E pre (room.deeper _) hsp
  have J : Inv (cxOf CX0 P w K mg base N qual (defScope st) f cdv A out s H E) [] (start N vs) H s1 := inv_start S room.hd env ll rel x1
  refine wpAny_mono (tt.nox.run [] s1 (start N vs) H _ J qq) (fun fl s' hs => ?_) fun e s' hs => hs
  have done : ∀ {σ' : L2.St} {H' : Hp} {v : V} {u : Value}, Inv (cxOf CX0 P w K mg base N qual (defScope st) f cdv A out s H E) [] σ' H' s' → RelV v u → Q v H' → CE out P w H s Q u s' :=
    fun {σ' H' v u} J rv q => ⟨v, H', J.os, J.bare, J.base, J.hok, rv, q⟩
  cases fl with
  | ret u =>
    obtain ⟨v, σ', H', J', rv, q⟩ := hs
    exact done J' rv q
  | next =>
    obtain ⟨σ', H', J', q⟩ := hs
    exact done (v := V.non) (u := Value.none) J' rfl q
  | brk =>
    obtain ⟨_, _, _, z⟩ := hs
    exact z.elim
  | cont =>
    obtain ⟨_, _, _, z⟩ := hs
    exact z.elim
end
def ItT (l it : Addr) : HO := .ext fun h => h.get? it = some { cls := .type "tuple_iterator", data := .fields #[.ref l, .int 0 0] }
section
variable {X : Cx} {K : PySem.W.Frag} {n k : Nat}
end
structure ItK (K : PySem.W.Frag) (C fi fl : Addr) : Prop where
  it : PySem.W.findIn K (.ref C) "__iter__" = some (some (.ref fi))
  itF : PySem.W.isFn K (.ref fi) = true
  ln : PySem.W.findIn K (.ref C) "__len__" = some (some (.ref fl))
  lnF : PySem.W.isFn K (.ref fl) = true
section
variable {X : Cx} {k : Nat} {C fi fl : Addr} {psI psL : List Str} {spI : Nat → Sp} {spL : Sp}
theorem run_pre {EE : Value → Shared → Prop} {Pre : Around → Shared → Prop} {pins : List (Addr × Obj)} {σ : L2.St} {H : Hp} {s : Shared} {Q : VK} {f : Addr} {ps : List Str} {sp : Sp} {A1 : Around} {us : List Value} {vs : List V} (G : OkP Pre X.prog X.w X.K X.mg X.base k f ps sp) (sb : Sub X k A1) (pre : Pre A1 s)
    (I : Inv X pins σ H s) (r : Vals vs us) (h : sp vs H Q E0) : wpAny (model X.prog X.w) A1 (call (.ref f) us) (EP X pins σ Q) EE s := by
  obtain ⟨fd, hb, hlen, run⟩ := G
  have e0 : Env0 X.prog X.w X.K X.mg X.base A1 X.stack s H := by
    have e := I.env0
    exact ⟨by rw [sb.fr]; exact e.frames, e.mod, e.bs, e.bsz, e.funs, e.frf, e.hok, e.bare⟩
  have hl : (us ++ []).length = ps.length := by
    rw [List.append_nil, ← r.length]
    exact hlen _ _ _ _ h
  have hb' := hb s us I.kIn hl
  rw [List.append_nil] at hb'
  refine wpAny_call (codeAny_mono (run A1 X.stack s H ⟨us, []⟩ us vs Q E0 pre sb.room e0 hb' r h) fun rr s' hq => ?_)
  cases rr with
  | error e => exact False.elim hq
  | ok fl =>
    cases fl with
    | ret u => exact I.after hq
    | next => exact False.elim hq
    | brk => exact False.elim hq
    | cont => exact False.elim hq
end
end Hn
namespace Hn
open PySem PySem.Spec PyProof.Rows L2 Evl
def NoG (A : Around) (_ : Shared) : Prop := A.guards = some []
structure Fine (d : PyData) (w : Nat) : Prop where
  sh : d.showable = true
  nd : d.hasDict = false
  ls : d.leavesShort 41 = true
  wt : d.weight ≤ w
theorem Fine.mono {d : PyData} {w v : Nat} (h : Fine d w) (e : w ≤ v) : Fine d v := ⟨h.sh, h.nd, h.ls, Nat.le_trans h.wt e⟩
theorem log_40 {i : Int} (h : i.natAbs < 10 ^ 40) : i.natAbs.log2 < 140 := by
  by_cases z : i.natAbs = 0
  · rw [z]
    decide
  · exact (Nat.log2_lt z).mpr (Nat.lt_trans h (by decide))
theorem fine_int {i : Int} (h : i.natAbs < 10 ^ 40) : Fine (.int i) 200 := by
  have hl := log_40 h
  refine ⟨?_, ?_, ?_, ?_⟩
  · simp only [PyData.showable]
    exact decide_eq_true (by omega)
  · simp only [PyData.hasDict]
  · simp only [PyData.leavesShort]
    have e := int_text_length_le10 (k := 40) (by decide) h
    refine decide_eq_true ?_
    show (Str.ofString (toString i)).length ≤ 41
    rw [PySem.ofString_length]
    exact e
  · simp only [PyData.weight]
    split <;> omega
theorem fine_small {i : Int} (h : i.natAbs < 1000) : Fine (.int i) 11 := by
  have f := fine_int (i := i) (Nat.lt_trans h (by decide))
  refine ⟨f.sh, f.nd, f.ls, ?_⟩
  simp only [PyData.weight]
  split
  · omega
  · by_cases z : i.natAbs = 0
    · rw [z]
      decide
    · have : i.natAbs.log2 < 10 := (Nat.log2_lt z).mpr (Nat.lt_trans h (by decide))
      omega
theorem fine_bool (b : Bool) : Fine (.bool b) 0 := ⟨rfl, rfl, rfl, Nat.le_refl _⟩
theorem fine_none : Fine .none 0 := ⟨rfl, rfl, rfl, Nat.le_refl _⟩
theorem Fine.len {d : PyData} {w : Nat} (h : Fine d w) (hw : w ≤ 300000) : d.shown.length ≤ 12900041 := by
  have e := PyData.shown_le 41 (by decide) d h.ls
  have := h.wt
  omega
section
variable {X : Cx} {K : PySem.W.Frag} {k : Nat}
theorem r_eqS {H : Hp} {Q : VK} {a b : Str} (q : Q (.bl (decide (a = b))) H) : rEq (.str a) (.str b) H Q := by
  refine ⟨rfl, ?_⟩
  have e : decide (V.str a = V.str b) = decide (a = b) := by rw [Bool.eq_iff_iff]; simp
  rw [e]
  exact q
theorem r_neS {H : Hp} {Q : VK} {a b : Str} (q : Q (.bl (!decide (a = b))) H) : rNe (.str a) (.str b) H Q := by
  refine ⟨rfl, ?_⟩
  have e : decide (V.str a = V.str b) = decide (a = b) := by rw [Bool.eq_iff_iff]; simp
  rw [e]
  exact q
end
section
variable {X : Cx} {k : Nat} {f C : Addr} {ps : List Str} {sp : Sp} {x m : Str} {p pos apos : Pos} {e o : Expr} {es : List Expr} {ta : TE} {t : TA} {Pre : Around → Shared → Prop}
theorem pg_call (G : OkP Pre X.prog X.w X.K X.mg X.base k f ps sp) (hp : ∀ s, Pre X.A s) (hr : Room k X.A) (hg : Gl X x) (hm : X.mg x = some (.ref f)) (hk : PySem.W.keepIn X.K (.ref f) = true)
    (ha : PA X (e :: es) t) (hdb : (x == ("__debug__" : Str)) = false := by decide) (he : starEach (e :: es) X.env = (false, eval e X.env) :: starEach es X.env := by rfl) (hpl : (backTo pos (starEach es X.env)).any (·.1) = false := by rfl) :
    PE X (.Call (.Name x p) (e :: es) [] pos) (tCall sp [] E0 t) := by
  refine ⟨fun pins s σ H Q I h => ?_⟩
  refine wpAny_Call_Name_kw (ld_glob I hg hm ?_ hdb)
  refine PySem.W.callWith_K (h₀ := X.base) I.ok.mod.kin hk (thn (ha.run pos pins s σ H _ I h) fun us s1 ⟨vs, H1, I1, r, q⟩ => ⟨I1.kIn, ?_⟩) he hpl
  replace q : sp (vs ++ []) H1 Q E0 := q
  rw [List.append_nil] at q
  exact run_pre G ⟨hr, rfl⟩ (hp s1) I1 r q
end
section
variable {P : Program} {w : World} {K : PySem.W.Frag} {mg mb : Str → Option Value} {k : Nat} {fa a : Addr} {x : Str} {sp : Sp} {st : Shared} {vs : List Value} {ns : List Int}
theorem head_at (kin : K.In st.heap) (gl : st.heap.Ns mainGlobals mg) (bl : st.heap.Ns builtinsNs mb) (bb : ∀ y : Str, y ≠ "__name__" → mb y = bootBuiltins y) (lim : st.heap.NoLimit) (gens : st.gens = #[])
    (obj : st.heap.get? a = some { cls := .type "list", data := .seq vs.toArray }) (room : Room k callerA) (F : ∀ base : Heap, K.In base → base.Ns mainGlobals mg → OkP NoG P w K mg base k fa [x] sp)
    (H : Hp) (only : Only H) (hsp : sp [.ref a] H (fun v _ => v = .bl true) E0) (ok : HOk P w H st.heap) (one : ∀ b, H b ≠ none → b = a) (own : H a ≠ none → K.lookup a = none) :
    codeAny (model P w) callerA (.call (.ref fa) ⟨[.ref a], []⟩) (fun r s' => r = .ok (.ret (.bool true)) ∧ OldK st.heap s'.heap ∧ s'.os = st.os ∧ AllBare s'.gens) st := by
  have below : ∀ {b : Addr} {ob : Obj}, st.heap.get? b = some ob → H b = none → (hidT st.heap H).get? b = some ob := fun g n => hidT_get g n
  have plain : ∀ {b : Addr} {ob : Obj} {es : Array DictEntry} {ep : Nat}, st.heap.get? b = some ob → ob.data = .dict es ep → H b = none := by
    intro b ob es ep g hd
    by_cases hb : H b = none
    · exact hb
    · obtain rfl := one b hb
      rw [obj] at g
      cases g
      exact absurd (show Data.seq vs.toArray _ = Data.dict es ep from hd) (fun z => by cases z)
  have names : ∀ {b : Addr} {m : Str → Option Value}, st.heap.Ns b m → (hidT st.heap H).Ns b m := fun {b m} ⟨ob, es, ep, g, hd, r⟩ => ⟨ob, es, ep, below g (plain g hd), hd, r⟩
  have kinB : K.In (hidT st.heap H) := fun b ob g => below (kin b ob g) (by
    by_cases hb : H b = none
    · exact hb
    · obtain rfl := one b hb
      rw [own hb] at g
      cases g)
  have md : Mod K mg (hidT st.heap H) := ⟨kinB, names gl, ⟨mb, names bl, bb⟩, let ⟨mc, h1, h2⟩ := lim; ⟨mc, names h1, h2⟩⟩
  have env : Env0 P w K mg (hidT st.heap H) callerA [] st H := ⟨rfl, md, fun b ob g => of_hidT g, Nat.le_of_eq (hidT_size _ _), trivial, fun b hb => absurd (show b ∈ ([] : List Addr) from hb) (by simp), ok, .of_eq gens⟩
  obtain ⟨fd, bd, _, run⟩ := F _ kinB (names gl)
  have bnd := bd st [.ref a] kin rfl
  refine codeAny_mono (run callerA [] st H ⟨[.ref a], []⟩ [.ref a] [.ref a] _ _ rfl room env bnd (.cons rfl .nil) hsp) fun r s' h => ?_
  cases r with
  | error e => exact False.elim h
  | ok fl =>
    cases fl with
    | next => exact False.elim h
    | brk => exact False.elim h
    | cont => exact False.elim h
    | ret u =>
      obtain ⟨v, H', os, bare, un, ok', rel, rfl⟩ := h
      obtain rfl : u = Value.bool true := rel
      refine ⟨rfl, OldK.of_keep fun b ob g => ?_, os, bare⟩
      rcases only b with z | ⟨o2, zs, z⟩
      · exact un.keep b ob g z (by intro y; exact absurd (show b ∈ ([] : List Addr) from y) (by simp)) (by simp)
      · obtain ⟨g1, _⟩ := ok b _ z
        obtain ⟨g2, _⟩ := ok' b _ (un.frzs b o2 _ z)
        rw [g] at g1
        cases g1
        exact g2
theorem head_law (kin : K.In st.heap) (gl : st.heap.Ns mainGlobals mg) (bl : st.heap.Ns builtinsNs mb) (bb : ∀ y : Str, y ≠ "__name__" → mb y = bootBuiltins y) (lim : st.heap.NoLimit) (gens : st.gens = #[])
    (obj : st.heap.get? a = some { cls := .type "list", data := .seq vs.toArray }) (inn : IntsAre vs ns) (ln : ns.length ≤ sizeLine) (room : Room k callerA) (F : ∀ base : Heap, K.In base → base.Ns mainGlobals mg → OkP NoG P w K mg base k fa [x] sp)
    (hsp : ∀ H : Hp, SqL K H a (ns.map V.int) → sp [.ref a] H (fun v _ => v = .bl true) E0) :
    codeAny (model P w) callerA (.call (.ref fa) ⟨[.ref a], []⟩) (fun r s' => r = .ok (.ret (.bool true)) ∧ OldK st.heap s'.heap ∧ s'.os = st.os ∧ AllBare s'.gens) st := by
  have rel := vals_ints inn
  have sz := inn.length
  cases hk : K.lookup a with
  | some ob =>
    have g := kin a ob hk
    rw [obj] at g
    cases g
    refine head_at kin gl bl bb lim gens obj room F (fun _ => none) (fun _ => .inl rfl) (hsp _ (.inr ⟨_, vs.toArray, _, hk, rfl, rfl, rfl, by rw [List.size_toArray, sz]; exact ln, by simpa using rel⟩)) (fun b u z => ?_) (fun b z => absurd rfl z) fun z => absurd rfl z
    exact absurd (show (none : Option HO) = some u from z) (by simp)
  | none =>
    have e : ∀ b, (upd (fun _ => none) a (.frz { cls := .type "list", data := .seq vs.toArray } (.lst (ns.map V.int)))) b = if b = a then some (.frz { cls := .type "list", data := .seq vs.toArray } (.lst (ns.map V.int))) else none := fun b => by
      by_cases hb : b = a
      · rw [if_pos hb, hb, upd_same]
      · rw [if_neg hb, upd_ne hb]
    refine head_at kin gl bl bb lim gens obj room F (upd (fun _ => none) a (.frz { cls := .type "list", data := .seq vs.toArray } (.lst (ns.map V.int)))) (fun b => ?_) (hsp _ (.inl (.inr ⟨_, upd_same⟩))) (fun b u z => ?_) (fun b z => ?_) fun _ => hk
    · by_cases hb : b = a
      · exact .inr ⟨_, _, by rw [hb, upd_same]⟩
      · exact .inl (by rw [upd_ne hb])
    · by_cases hb : b = a
      · subst hb
        rw [upd_same] at z
        cases z
        exact ⟨obj, by rw [List.length_map]; exact ln, vs, _, rel, obj⟩
      · rw [upd_ne hb] at z
        cases z
    · by_cases hb : b = a
      · exact hb
      · exact absurd (by rw [upd_ne hb]) z
end
end Hn
namespace Hn
open PySem PySem.Spec PyProof.Rows L2 Evl
structure SMet (K : PySem.W.Frag) (C : Addr) (mc : Value) (m : Str) (p g : Addr) : Prop where
  rd : PySem.W.readsIn K C mc = true
  ga : PySem.W.specialIn K (.ref C) "__getattribute__" = some (some (.builtin "type.__getattribute__"))
  at_ : PySem.W.findCls K (.ref C) mc m = some (.get (.builtin "staticmethod.__get__") (.ref p) .none (.ref C))
  rc : ∃ rest, PySem.W.recIn K p "staticmethod" = some (.ref g :: rest)
def tSMeth (C : Addr) (sp : Sp) (ta : TE) (t : TA) : TE := fun σ H Q => ta σ H fun x H1 => x = .ref C ∧ t σ H1 fun vs H2 => sp vs H2 Q E0
section
variable {X : Cx} {k : Nat} {C p g : Addr} {mc : Value} {ps : List Str} {sp : Sp} {o e : Expr} {es : List Expr} {m : Str} {pos apos : Pos} {ta : TE} {t : TA} {pl : Sem Bool}
end
section
variable {σ : L2.St} {H : Hp} {Q : VK} {C : Addr} {sp : Sp} {ta : TE} {ar : TA} {x : V}
theorem r_smeth (h : ta σ H fun x H1 => x = .ref C ∧ ar σ H1 fun vs H2 => sp vs H2 Q E0) : tSMeth C sp ta ar σ H Q := h
theorem r_isC {p : Prop} (h : p) : V.ref C = .ref C ∧ p := ⟨rfl, h⟩
theorem r_lstRg {te : L2.St → Hp → (Int → Int → Hp → Prop) → Prop} (h : te σ H fun a b H1 => RgOk a b ∧ ∀ q, H1 q = none → Q (.ref q) (upd H1 q (.lst (rgV a b)))) : tLstRg te σ H Q := h
theorem r_rg1 {q : Int → Int → Hp → Prop} (h : ta σ H fun x H1 => ∃ n, x = .int n ∧ q 0 n H1) : tRg1 ta σ H q := h
end
section
variable {K : PySem.W.Frag} {C : Addr} {H : Hp} {v w : V} {s t : List Int} {sp : Sp} {E : XK} {Q : VK}
end
end Hn
namespace Hn
open PySem PySem.Spec PyProof.Rows L2 Evl
def iOwn (K : PySem.W.Frag) (C : Addr) (spI : Nat → Sp) (tl : TE) : TI := fun σ H R => tl σ H fun x H1 => ∃ a dx fs xs, x = .ref a ∧ H1 a = some (.ins C dx fs) ∧
  (∀ n Q', (∀ l it, SqT K H1 l xs → H1 it = none → n ≤ it → Q' (.ref it) (upd H1 it (ItT l it))) → spI n [.ref a] H1 Q' E0) ∧ ∀ l, SqT K H1 l xs → R (Itt K l) H1
section
variable {X : Cx} {K : PySem.W.Frag} {k : Nat} {C fi : Addr} {psI : List Str} {spI : Nat → Sp} {tg l : Expr} {tl : TE}
end
section
variable {K : PySem.W.Frag} {C : Addr} {spI : Nat → Sp} {σ : L2.St} {H : Hp} {te : TE} {R : It → Hp → Prop}
theorem r_iOwn (h : te σ H fun x H1 => ∃ a dx fs xs, x = .ref a ∧ H1 a = some (.ins C dx fs) ∧ (∀ n Q', (∀ l it, SqT K H1 l xs → H1 it = none → n ≤ it → Q' (.ref it) (upd H1 it (ItT l it))) → spI n [.ref a] H1 Q' E0) ∧ ∀ l, SqT K H1 l xs → R (Itt K l) H1) : iOwn K C spI te σ H R := h
end
section
variable {X : Cx} {K : PySem.W.Frag} {k : Nat} {C f : Addr} {ps : List Str} {sp : Sp}
end
theorem r_break {D : Ends} {σ : L2.St} {H : Hp} (h : D.bk σ H) : tBreak D σ H := h
theorem r_cont {D : Ends} {σ : L2.St} {H : Hp} (h : D.ct σ H) : tCont D σ H := h
end Hn
namespace Hn
open PySem PySem.Spec PyProof.Rows L2 Evl
section
variable {K : PySem.W.Frag} {C : Addr} {fld : Str} {H H' : Hp} {v : V} {s : List Int} {a b : Addr} {xs : List V} {o : HO}
theorem mv_bag (h : Bag H b) (e : Xl H H') : Bag H' b := h.mono e
theorem mv_clk (h : Clk K C H v s) (e : Xl H H') : Clk K C H' v s := h.mono e
theorem mv_rw (h : Rw K C fld H v s) (e : Xl H H') : Rw K C fld H' v s := h.mono e
theorem mv_at (h : H a = some o) (e : Ex H H') : H' a = some o := e _ _ h
theorem mv_sqL (h : SqL K H a xs) (e : Ex H H') : SqL K H' a xs := ex_l e h
theorem mv_sqT (h : SqT K H a xs) (e : Ex H H') : SqT K H' a xs := ex_t e h
theorem at_sqL (h : H a = some (.lst xs)) : SqL K H a xs := .inl (.inl h)
theorem at_sqT (h : H a = some (.tup xs)) : SqT K H a xs := .inl (.inl h)
theorem sqL_sq (h : SqL K H a xs) : Sq K H a xs := .inl h
theorem sqT_sq (h : SqT K H a xs) : Sq K H a xs := .inr h
end
def Pile (H : Hp) (D : Addr) (rs : List (List V)) : Prop := ∃ ys : List V, H D = some (.lst ys) ∧ ys.length = rs.length ∧ ∀ (i : Nat) y, ys[i]? = some y → ∃ p, y = .ref p ∧ p ≠ D ∧ H p = some (.lst (rs.getD i []))
theorem Pile.nil {H : Hp} {D : Addr} (h : H D = some (.lst [])) : Pile H D [] := ⟨[], h, rfl, fun i y z => by simp at z⟩
theorem Pile.ex {H H' : Hp} {D : Addr} {rs : List (List V)} (e : Ex H H') (h : Pile H D rs) : Pile H' D rs :=
  let ⟨ys, h1, h2, h3⟩ := h
  ⟨ys, e _ _ h1, h2, fun i y hy => let ⟨p, hp, n, q⟩ := h3 i y hy; ⟨p, hp, n, e _ _ q⟩⟩
theorem Pile.push {H : Hp} {D q : Addr} {rs : List (List V)} {ys xs : List V} (h : Pile H D rs) (hD : H D = some (.lst ys)) (hq : H q = some (.lst xs)) (hn : q ≠ D) : Pile (upd H D (.lst (ys ++ [.ref q]))) D (rs ++ [xs]) := by
  obtain ⟨zs, h1, h2, h3⟩ := h
  rw [hD] at h1
  cases h1
  refine ⟨_, upd_same, by rw [List.length_append, List.length_append, h2]; rfl, fun i y hy => ?_⟩
  by_cases hi : i < ys.length
  · rw [List.getElem?_append_left hi] at hy
    obtain ⟨p, hp, n, e⟩ := h3 i y hy
    refine ⟨p, hp, n, ?_⟩
    rw [upd_ne n, e, List.getD_eq_getElem?_getD, List.getD_eq_getElem?_getD, List.getElem?_append_left (by omega)]
  · have hi2 : i = ys.length := by
      have := (List.getElem?_eq_some_iff.mp hy).1
      rw [List.length_append, List.length_singleton] at this
      omega
    subst hi2
    rw [List.getElem?_append_right (Nat.le_refl _), Nat.sub_self] at hy
    cases hy
    refine ⟨q, rfl, hn, ?_⟩
    rw [upd_ne hn, hq, List.getD_eq_getElem?_getD, List.getElem?_append_right (by omega), h2, Nat.sub_self]
    rfl
theorem Pile.hd {K : PySem.W.Frag} {H : Hp} {D : Addr} {us : List (List Int)} (h : Pile H D (us.map fun r => r.map V.int)) : Hd K H (.ref D) us := by
  obtain ⟨ys, h1, h2, h3⟩ := h
  rw [List.length_map] at h2
  refine hd_list (.inl (.inl h1)) (hda_ix h2 fun i v u hv hu => ?_)
  obtain ⟨p, rfl, _, hp⟩ := h3 i v hv
  rw [List.getD_eq_getElem?_getD, List.getElem?_map, hu] at hp
  exact hd_ints (.inl (.inl hp))
section
variable {K : PySem.W.Frag} {C : Addr} {fld : Str} {H H' : Hp} {v w : V} {s : List Int} {a b : Addr} {xs : List V} {Q : VK} {sp : Sp}
end
theorem getD_mem' {s : List Int} {j : Nat} (h : j < s.length) : s.getD j 0 ∈ s := by
  rw [List.getD_eq_getElem?_getD, List.getElem?_eq_getElem h]
  exact List.getElem_mem h
theorem mv_sq {K : PySem.W.Frag} {H H' : Hp} {a : Addr} {xs : List V} (h : Sq K H a xs) (e : Ex H H') : Sq K H' a xs := h.mono e
end Hn
namespace Hn
open PySem PySem.Spec PyProof.Rows L2 Evl RZ
section
variable {X : Cx} {K : PySem.W.Frag}
end
theorem r_iZipA {K : PySem.W.Frag} {ar : TA} {σ : L2.St} {H : Hp} {R : It → Hp → Prop} (h : ar σ H fun vs H1 => ∃ a b xs ys, vs = [.ref a, .ref b] ∧ ((SqL K H1 a xs ∧ SqL K H1 b ys ∧ R (Itz K a b) H1) ∨ (SqT K H1 a xs ∧ SqT K H1 b ys ∧ R (ItzT K a b) H1))) : iZipA K ar σ H R := h
theorem Sg_succ (n : Nat) (f : Int → Int) : Sg (n + 1) f = Sg n f + f (n : Int) := rfl
theorem Sg_nn {n : Nat} {f : Int → Int} (h : ∀ j : Nat, j < n → 0 ≤ f j) : 0 ≤ Sg n f := by
  induction n with
  | zero => exact Int.le_refl _
  | succ n ih =>
    rw [Sg_succ]
    have := ih fun j hj => h j (by omega)
    have := h n (by omega)
    omega
end Hn
namespace Hn
open PySem PySem.Spec PyProof.Rows L2 Evl
def byS (n : Nat) (A : Int → Int) : List Int := rowOf n fun i => A (i + 1) - A i
theorem byS_length (n : Nat) (A : Int → Int) : (byS n A).length = n := rowOf_length _ _
def mono (n : Nat) (A : Int → Int) : Prop := ∀ j : Nat, j < n → A j ≤ A ((j : Int) + 1)
theorem mono_of {n : Nat} {A : Int → Int} (g : GoodN (byS n A)) : mono n A := fun j hj => by
  have := g.mem _ (getD_mem' (s := byS n A) (j := j) (by rw [byS_length]; exact hj))
  unfold byS at this
  rw [rowOf_getD _ hj] at this
  show A j ≤ A ((j : Int) + 1)
  have h : 0 ≤ A ((j : Int) + 1) - A j := this
  omega
def Ps (K : PySem.W.Frag) (C : Addr) (H : Hp) (v : V) (n : Nat) (P : Int) (A : Int → Int) : Prop := Rw K C "kept_begins" H v (byS n A) ∧ A 0 = 0 ∧ A (n : Int) = P
section
variable {K : PySem.W.Frag} {C : Addr} {H H' : Hp} {v w : V} {n : Nat} {P : Int} {A B : Int → Int}
theorem mv_ps (h : Ps K C H v n P A) (e : Xl H H') : Ps K C H' v n P A := ⟨h.1.mono e, h.2⟩
theorem Ps.good (h : Ps K C H v n P A) : GoodN (byS n A) := h.1.good
theorem Ps.mono (h : Ps K C H v n P A) : mono n A := mono_of h.1.good
theorem Ps.ne (h : Ps K C H v n P A) : 1 ≤ n := by
  have := h.1.good.ne
  rw [byS_length] at this
  exact this
theorem Ps.le (h : Ps K C H v n P A) : n ≤ 48 := by
  have := h.1.good.le
  rw [byS_length] at this
  exact this
end
theorem ps_rw {K : PySem.W.Frag} {C : Addr} {H : Hp} {v : V} {n : Nat} {P : Int} {A : Int → Int} (h : Ps K C H v n P A) : Rw K C "kept_begins" H v (byS n A) := h.1
section
variable {J : It} {n : Nat} {G : Hp → Prop} {Y : Nat → Hp → V → Hp → Prop}
end
end Hn
namespace Hn
open PySem PySem.Spec PyProof.Rows L2 Evl
def thF (n : Nat) (s : List Int) (F : Int → Int) (h : Int) : Int := Sg n (fun b => if b < cyc s (h - b) then F (h - b) else 0)
theorem th_nn {n : Nat} {s : List Int} {F : Int → Int} (h : ∀ i, 0 ≤ F i) (t : Int) : 0 ≤ thF n s F t := Sg_nn fun j _ => by
  show 0 ≤ if (j : Int) < cyc s (t - j) then F (t - j) else 0
  split
  · exact h _
  · omega
def enough (n : Nat) (a b : Int → Int) : Bool := (List.range n).all fun (h : Nat) => decide (b (h : Int) ≤ a (h : Int))
theorem two_of {α : Type} {l : List α} (h : l.length = 2) : ∃ a b, l = [a, b] := by
  match l, h with
  | [a, b], _ => exact ⟨a, b, rfl⟩
theorem RowsP.two {H : Hp} {D : Addr} {P : Nat → List V → Prop} (h : RowsP H D 2 P) : ∃ p q xs ys, H D = some (.lst [.ref p, .ref q]) ∧ H p = some (.lst xs) ∧ H q = some (.lst ys) ∧ P 0 xs ∧ P 1 ys := by
  obtain ⟨zs, h1, h2, h3⟩ := h
  obtain ⟨a, b, rfl⟩ := two_of h2
  obtain ⟨p, xs, rfl, hp, px⟩ := h3 0 a rfl
  obtain ⟨q, ys, rfl, hq, py⟩ := h3 1 b rfl
  exact ⟨p, q, xs, ys, h1, hp, hq, px, py⟩
end Hn
namespace Hn
open PySem PySem.Spec PyProof.Rows L2 Evl
def ext (n : Nat) (P : Int) (A : Int → Int) (k : Int) : Int := A (k % (n : Int)) + k / (n : Int) * P
theorem ext_step {n : Nat} {P : Int} {A : Int → Int} (hn : 1 ≤ n) (h0 : A 0 = 0) (hP : A (n : Int) = P) (i : Int) : cyc (byS n A) i = ext n P A (i + 1) - ext n P A i := by
  unfold byS ext
  rw [cyc_rowOf _ hn]
  show A (i % (n : Int) + 1) - A (i % (n : Int)) = _
  have hm := mod_bd hn i
  have e := Int.emod_add_mul_ediv i (n : Int)
  generalize hq : i / (n : Int) = q at e
  generalize hr : i % (n : Int) = r at e hm
  by_cases c : r + 1 = (n : Int)
  · have e1 : i + 1 = (n : Int) * (q + 1) := by rw [Int.mul_add, Int.mul_one]; omega
    have e2 : (i + 1) % (n : Int) = 0 := by rw [e1]; exact Int.mul_emod_right _ _
    have e3 : (i + 1) / (n : Int) = q + 1 := by rw [e1]; exact Int.mul_ediv_cancel_left _ (by omega)
    rw [e2, e3, h0, c, hP, Int.add_mul, Int.one_mul]
    omega
  · have e1 : i + 1 = r + 1 + (n : Int) * q := by omega
    have e2 : (i + 1) % (n : Int) = r + 1 := by rw [e1, Int.add_mul_emod_self_left, Int.emod_eq_of_lt (by omega) (by omega)]
    have e3 : (i + 1) / (n : Int) = q := by rw [e1, Int.add_mul_ediv_left _ _ (by omega), Int.ediv_eq_zero_of_lt (by omega) (by omega)]; omega
    rw [e2, e3]
    omega
section
variable {s : List Int} {P : Int} {A B : Int → Int} {r : Int → Int}
end
end Hn
namespace Hn
open PySem PySem.Spec PyProof.Rows L2 Evl
def txI (i : Int) : Str := Str.ofString (toString i)
def Sml (x : Str) (n : Nat) : Prop := x.length ≤ n ∧ ∀ c ∈ x.cps.toList, c < 1114112
theorem Sml.mono {x : Str} {n m : Nat} (h : Sml x n) (e : n ≤ m) : Sml x m := ⟨Nat.le_trans h.1 e, h.2⟩
theorem sml_of (s : String) : ∀ c ∈ (Str.ofString s).cps.toList, c < 1114112 := fun c hc => by
  rw [Str.ofString_eq_toList] at hc
  obtain ⟨z, _, rfl⟩ := List.mem_map.mp hc
  have h : z.val.toNat < 0xd800 ∨ (0xdfff < z.val.toNat ∧ z.val.toNat < 0x110000) := z.valid
  show z.val.toNat < 1114112
  omega
theorem fine_txt {x : Str} {n : Nat} (h : Sml x n) : Fine (.str x) n :=
  ⟨rfl, rfl, by simp only [PyData.leavesShort]; exact List.all_eq_true.mpr fun c hc => decide_eq_true (Nat.lt_of_lt_of_le (h.2 c hc) (by decide)), by simp only [PyData.weight]; exact h.1⟩
theorem r_m1 {r : V → List V → Hp → VK → Prop} {to te : TE} {σ : L2.St} {H : Hp} {Q : VK} (h : to σ H fun x H1 => (∃ a, x = .str a) ∧ te σ H1 fun y H2 => r x [y] H2 Q) : tM1 r to te σ H Q := h
theorem r_isS {a : Str} {p : Prop} (h : p) : (∃ b, V.str a = .str b) ∧ p := ⟨⟨a, rfl⟩, h⟩
def Wy (H : Hp) (l : Addr) (ws : List (Str × Int)) : Prop := ∃ ts : List Addr, H l = some (.lst (ts.map V.ref)) ∧ ts.length = ws.length ∧ ∀ (j : Nat) t, ts[j]? = some t → ∃ w, ws[j]? = some w ∧ H t = some (.tup [.str w.1, .int w.2])
theorem Wy.ex {H H' : Hp} {l : Addr} {ws : List (Str × Int)} (e : Ex H H') (h : Wy H l ws) : Wy H' l ws :=
  let ⟨ts, h1, h2, h3⟩ := h
  ⟨ts, e _ _ h1, h2, fun j t ht => let ⟨w, a, b⟩ := h3 j t ht; ⟨w, a, e _ _ b⟩⟩
end Hn
namespace Hn
open PySem PySem.Spec PyProof.Rows L2 Evl
section
variable {J : It} {n : Nat} {G : Hp → Prop} {Y : Nat → Hp → V → Hp → Prop}
end
end Hn
namespace Hn
open PySem PySem.Spec PyProof.Rows L2 Evl
section
variable {X : Cx} {K : PySem.W.Frag}
end
def DfK (K : PySem.W.Frag) (x qual : Str) (st : Stmt) (f : Addr) (ps : List Str) (n : Nat) (ks : List Str) : Prop := ∃ fd, Fun K x qual st f fd ∧ KBn K fd ps n ks (fun us ws => us ++ ws) (fun vs zs => vs ++ zs)
section
variable {P : Program} {w : World} {K : PySem.W.Frag} {mg : Str → Option Value} {base : Heap}
end
section
variable {X : Cx} {k n : Nat} {f C : Addr} {ps ks : List Str} {sp : Sp} {x : Str} {p pos : Pos} {e : Expr} {es : List Expr} {kws : List Keyword} {t tk : TA}
end
def OkO (rs : List (Option Int)) : Prop := ∀ r ∈ rs, ∀ i, r = some i → 0 ≤ i
def OkC (ks : List Int) : Prop := ∀ i ∈ ks, 0 ≤ i
structure GoodH (s ns : List Int) (rs : List (Option Int)) (ks : List Int) (ds : List (Option Int)) : Prop where
  cs : Good s
  cn : GoodN ns
  ln : ns.length = s.length
  lr : rs.length = s.length
  lk : ks.length = s.length
  ld : ds.length = s.length
  cr : OkO rs
  ck : OkC ks
  cd : OkO ds
end Hn
namespace Hn
open PySem PySem.Spec PyProof.Rows L2 Evl
def DfKm (K : PySem.W.Frag) (x qual : Str) (st : Stmt) (f : Addr) (ps : List Str) (n : Nat) (ks : List Str) (gV : List V → List V → List V) : Prop := ∃ fd g, Fun K x qual st f fd ∧ KBn K fd ps n ks g gV
section
variable {P : Program} {w : World} {K : PySem.W.Frag} {mg : Str → Option Value} {base : Heap}
theorem DfK.m {x qual : Str} {st : Stmt} {f : Addr} {ps : List Str} {n : Nat} {ks : List Str} (h : DfK K x qual st f ps n ks) : DfKm K x qual st f ps n ks fun vs zs => vs ++ zs :=
  let ⟨fd, a, b⟩ := h
  ⟨fd, _, a, b⟩
end
section
variable {X : Cx} {k n : Nat} {f C : Addr} {ps ks : List Str} {sp : Sp} {x x' qual : Str} {st : Stmt} {p pos : Pos} {e : Expr} {es : List Expr} {kws : List Keyword} {t tk : TA} {gV : List V → List V → List V}
end
set_option maxHeartbeats 4000000
end Hn
namespace Hn
structure Ed (S : Type) where
  f : Nat
  l : Nat
  t : Int
  v : Int
  s : S
section
variable {S : Type}
def gn (pa pb : Int) (e : Ed S) : Int := pb * e.v - pa * e.t
def upF {α : Type} (g : Nat → α) (i : Nat) (x : α) : Nat → α := fun j => if j = i then x else g j
theorem upF_same {α : Type} {g : Nat → α} {i : Nat} {x : α} : upF g i x i = x := if_pos rfl
theorem upF_ne {α : Type} {g : Nat → α} {i j : Nat} {x : α} (h : j ≠ i) : upF g i x j = g j := if_neg h
structure Sta (S : Type) where
  r : Nat → Option Int
  c : Nat → Option (Ed S)
  ch : Option Nat
def better (x : Int) : Option Int → Bool
  | none => true
  | some y => decide (x > y)
def relax (pa pb : Int) (q : Sta S) (e : Ed S) : Sta S :=
  match q.r e.f with
  | none => q
  | some x => if better (x + gn pa pb e) (q.r e.l) = true then ⟨upF q.r e.l (some (x + gn pa pb e)), upF q.c e.l (some e), some e.l⟩ else q
def pass (pa pb : Int) (es : List (Ed S)) (r : Nat → Option Int) (c : Nat → Option (Ed S)) : Sta S := es.foldl (relax pa pb) ⟨r, c, none⟩
theorem relax_none {pa pb : Int} {q : Sta S} {e : Ed S} (h : q.r e.f = none) : relax pa pb q e = q := by
  unfold relax
  rw [h]
theorem relax_some {pa pb : Int} {q : Sta S} {e : Ed S} {x : Int} (h : q.r e.f = some x) : relax pa pb q e = if better (x + gn pa pb e) (q.r e.l) = true then ⟨upF q.r e.l (some (x + gn pa pb e)), upF q.c e.l (some e), some e.l⟩ else q := by
  unfold relax
  rw [h]
end
section
variable {S : Type}
def prd (c : Nat → Option (Ed S)) (m : Nat) : Nat := match c m with
  | some e => e.f
  | none => m
def prdN (c : Nat → Option (Ed S)) : Nat → Nat → Nat
  | 0, m => m
  | k + 1, m => prd c (prdN c k m)
theorem prdN_add (c : Nat → Option (Ed S)) (j : Nat) (m : Nat) : ∀ k, prdN c (k + j) m = prdN c k (prdN c j m)
  | 0 => by rw [Nat.zero_add]; rfl
  | k + 1 => by
    rw [show k + 1 + j = (k + j) + 1 by omega]
    unfold prdN
    rw [prdN_add c j m k]
structure Inv (pa pb : Int) (es : List (Ed S)) (k i now : Nat) (R : Nat → Int) (c : Nat → Option (Ed S)) (tau lp : Nat → Nat) : Prop where
  i1 : ∀ v e, c v = some e → e ∈ es ∧ e.l = v ∧ R v ≤ R e.f + gn pa pb e ∧ (tau v ≤ tau e.f → R v < R e.f + gn pa pb e)
  i2 : ∀ v, 1 ≤ lp v → ∃ e, c v = some e
  i3 : ∀ v e, c v = some e → lp v ≤ lp e.f + 1
  i4 : ∀ e ∈ es, R e.l < R e.f + gn pa pb e → k ≤ lp e.f + 1
  i4' : ∀ e ∈ es.take i, R e.l < R e.f + gn pa pb e → k ≤ lp e.f
  i5 : ∀ v, lp v ≤ k ∧ tau v ≤ now
theorem Inv.step {pa pb : Int} {es : List (Ed S)} {k i now : Nat} {R : Nat → Int} {c : Nat → Option (Ed S)} {tau lp : Nat → Nat} (I : Inv pa pb es k i now R c tau lp) {e : Ed S} (he : es[i]? = some e) :
    (R e.f + gn pa pb e > R e.l → Inv pa pb es k (i + 1) (now + 1) (upF R e.l (R e.f + gn pa pb e)) (upF c e.l (some e)) (upF tau e.l (now + 1)) (upF lp e.l k)) ∧ (¬ R e.f + gn pa pb e > R e.l → Inv pa pb es k (i + 1) now R c tau lp) := by
  have hm : e ∈ es := List.mem_of_getElem? he
  have ht : es.take (i + 1) = es.take i ++ [e] := by
    rw [List.take_add_one, he]
    rfl
  refine ⟨fun hb => ?_, fun hb => ?_⟩
  · have hl4 := I.i4 e hm (by omega)
    refine ⟨fun v e' hv => ?_, fun v hv => ?_, fun v e' hv => ?_, fun e' he' hv => ?_, fun e' he' hv => ?_, fun v => ?_⟩
    · by_cases q : v = e.l
      · subst q
        rw [upF_same] at hv
        cases hv
        refine ⟨hm, rfl, ?_, ?_⟩
        · rw [upF_same]
          by_cases z : e.f = e.l
          · rw [z, upF_same]
            rw [z] at hb
            omega
          · rw [upF_ne z]
            omega
        · intro hle
          rw [upF_same]
          by_cases z : e.f = e.l
          · rw [z, upF_same]
            rw [z] at hb
            omega
          · rw [upF_same, upF_ne z] at hle
            have := (I.i5 e.f).2
            omega
      · rw [upF_ne q] at hv
        obtain ⟨h1, h2, h3, h4⟩ := I.i1 v e' hv
        refine ⟨h1, h2, ?_, ?_⟩
        · rw [upF_ne q]
          by_cases z : e'.f = e.l
          · rw [z, upF_same]
            rw [z] at h3
            omega
          · rw [upF_ne z]
            exact h3
        · rw [upF_ne q, upF_ne q]
          by_cases z : e'.f = e.l
          · intro _
            rw [z, upF_same]
            rw [z] at h3
            omega
          · rw [upF_ne z, upF_ne z]
            exact h4
    · by_cases q : v = e.l
      · subst q
        exact ⟨e, upF_same⟩
      · rw [upF_ne q] at hv ⊢
        exact I.i2 v hv
    · by_cases q : v = e.l
      · subst q
        rw [upF_same] at hv ⊢
        cases hv
        by_cases z : e.f = e.l
        · rw [z, upF_same]
          omega
        · rw [upF_ne z]
          omega
      · rw [upF_ne q] at hv ⊢
        have h3 := I.i3 v e' hv
        by_cases z : e'.f = e.l
        · rw [z, upF_same]
          have := (I.i5 v).1
          omega
        · rw [upF_ne z]
          exact h3
    · by_cases z : e'.f = e.l
      · rw [z, upF_same]
        omega
      · rw [upF_ne z] at hv ⊢
        refine I.i4 e' he' ?_
        by_cases q : e'.l = e.l
        · rw [q, upF_same] at hv
          rw [q]
          omega
        · rw [upF_ne q] at hv
          exact hv
    · by_cases z : e'.f = e.l
      · rw [z, upF_same]
        omega
      · rw [upF_ne z] at hv ⊢
        rw [ht] at he'
        rcases List.mem_append.mp he' with he' | he'
        · refine I.i4' e' he' ?_
          by_cases q : e'.l = e.l
          · rw [q, upF_same] at hv
            rw [q]
            omega
          · rw [upF_ne q] at hv
            exact hv
        · rw [List.mem_singleton.mp he', upF_same] at hv
          omega
    · by_cases q : v = e.l
      · subst q
        rw [upF_same, upF_same]
        omega
      · rw [upF_ne q, upF_ne q]
        have := I.i5 v
        omega
  · refine ⟨I.i1, I.i2, I.i3, I.i4, fun e' he' hv => ?_, I.i5⟩
    rw [ht] at he'
    rcases List.mem_append.mp he' with he' | he'
    · exact I.i4' e' he' hv
    · rw [List.mem_singleton.mp he'] at hv
      omega
theorem Inv.fold {pa pb : Int} {es : List (Ed S)} {k : Nat} : ∀ (fs : List (Ed S)) (i now : Nat) (R : Nat → Int) (c : Nat → Option (Ed S)) (tau lp : Nat → Nat) (ch : Option Nat), es.drop i = fs → Inv pa pb es k i now R c tau lp → (∀ m, ch = some m → lp m = k) →
    ∃ now' R' c' tau' lp' ch', fs.foldl (relax pa pb) ⟨fun v => some (R v), c, ch⟩ = ⟨fun v => some (R' v), c', ch'⟩ ∧ Inv pa pb es k es.length now' R' c' tau' lp' ∧ ∀ m, ch' = some m → lp' m = k
  | [], i, now, R, c, tau, lp, ch, hd, I, hc => by
    have hi : es.length ≤ i := List.drop_eq_nil_iff.mp hd
    have : es.take es.length = es.take i := by rw [List.take_of_length_le hi, List.take_length]
    exact ⟨now, R, c, tau, lp, ch, rfl, ⟨I.i1, I.i2, I.i3, I.i4, by rw [this]; exact I.i4', I.i5⟩, hc⟩
  | e :: fs, i, now, R, c, tau, lp, ch, hd, I, hc => by
    have he : es[i]? = some e := by
      have := congrArg (fun l => l[0]?) hd
      simpa using this
    have hd' : es.drop (i + 1) = fs := by
      rw [← List.tail_drop, hd]
      rfl
    have st := I.step he
    rw [List.foldl_cons, relax_some (x := R e.f) rfl]
    by_cases hb : R e.f + gn pa pb e > R e.l
    · rw [if_pos (by show decide _ = true; exact decide_eq_true hb)]
      have hq : (upF (fun v => some (R v)) e.l (some (R e.f + gn pa pb e)) : Nat → Option Int) = fun v => some (upF R e.l (R e.f + gn pa pb e) v) := by
        funext v
        unfold upF
        split <;> rfl
      show ∃ now' R' c' tau' lp' ch', fs.foldl (relax pa pb) ⟨upF (fun v => some (R v)) e.l (some (R e.f + gn pa pb e)), upF c e.l (some e), some e.l⟩ = _ ∧ _
      rw [hq]
      refine Inv.fold fs (i + 1) (now + 1) _ _ _ _ _ hd' (st.1 hb) fun m hm => ?_
      cases hm
      exact upF_same
    · rw [if_neg (by show ¬ decide _ = true; rw [decide_eq_false hb]; intro z; cases z)]
      exact Inv.fold fs (i + 1) now _ _ _ _ _ hd' (st.2 hb) hc
theorem Inv.pass {pa pb : Int} {es : List (Ed S)} {k now : Nat} {R : Nat → Int} {c : Nat → Option (Ed S)} {tau lp : Nat → Nat} (I : Inv pa pb es k es.length now R c tau lp) :
    ∃ now' R' c' tau' lp' ch', Hn.pass pa pb es (fun v => some (R v)) c = ⟨fun v => some (R' v), c', ch'⟩ ∧ Inv pa pb es (k + 1) es.length now' R' c' tau' lp' ∧ ∀ m, ch' = some m → lp' m = k + 1 :=
  Inv.fold es 0 now R c tau lp none rfl ⟨I.i1, I.i2, I.i3, fun e he h => by
    have := I.i4' e (by rw [List.take_length]; exact he) h
    omega, (fun e he => nomatch he), fun v => by have := I.i5 v; omega⟩ fun _ h => nomatch h
theorem Inv.start {pa pb : Int} {es : List (Ed S)} : Inv pa pb es 0 es.length 0 (fun _ => 0) (fun _ => none) (fun _ => 0) (fun _ => 0) :=
  ⟨(fun _ _ h => nomatch h), fun _ h => absurd h (by omega), (fun _ _ h => nomatch h), fun _ _ _ => by omega, fun _ _ _ => by omega, fun _ => by omega⟩
def Wk : Nat → List (Ed S) → Nat → Prop
  | a, [], b => a = b
  | a, e :: w, b => e.f = a ∧ Wk e.l w b
theorem Wk.append : ∀ {u w : List (Ed S)} {a b c : Nat}, Wk a u b → Wk b w c → Wk a (u ++ w) c
  | [], w, a, b, c, h, h' => by
    have h : a = b := h
    rw [h]
    exact h'
  | e :: u, w, a, b, c, h, h' => ⟨h.1, Wk.append h.2 h'⟩
def tn (w : List (Ed S)) : Int := (w.map (·.t)).sum
def wo (w : List (Ed S)) : Int := (w.map (·.v)).sum
theorem gn_sum (pa pb : Int) : ∀ w : List (Ed S), (w.map (gn pa pb)).sum = pb * wo w - pa * tn w
  | [] => by
    show (0 : Int) = pb * 0 - pa * 0
    rw [Int.mul_zero, Int.mul_zero]
    rfl
  | e :: w => by
    have := gn_sum pa pb w
    unfold wo tn at *
    rw [List.map_cons, List.sum_cons, this, List.map_cons, List.sum_cons, List.map_cons, List.sum_cons, Int.mul_add, Int.mul_add]
    unfold gn
    omega
theorem pot_sum {pa pb : Int} {X : Nat → Int} : ∀ {w : List (Ed S)} {a b : Nat}, Wk a w b → (∀ e ∈ w, X e.f + gn pa pb e ≤ X e.l) → (w.map (gn pa pb)).sum ≤ X b - X a
  | [], a, b, h, _ => by
    have h : a = b := h
    rw [h]
    show (0 : Int) ≤ X b - X b
    omega
  | e :: w, a, b, h, hp => by
    have h1 := pot_sum h.2 fun e' he' => hp e' (List.mem_cons_of_mem _ he')
    have h2 := hp e List.mem_cons_self
    have h3 := h.1
    rw [List.map_cons, List.sum_cons, ← h3]
    omega
structure Loop (pa pb : Int) (es : List (Ed S)) (n : Nat) (w : List (Ed S)) : Prop where
  ne : w ≠ []
  mem : ∀ e ∈ w, e ∈ es
  len : w.length ≤ n
  wk : ∃ a, Wk a w a
  gain : 0 < (w.map (gn pa pb)).sum
theorem pigeon : ∀ (n : Nat) (g : Nat → Nat), (∀ i, i ≤ n → g i < n) → ∃ i j, i < j ∧ j ≤ n ∧ g i = g j
  | 0, g, h => absurd (h 0 (Nat.le_refl 0)) (Nat.not_lt_zero _)
  | n + 1, g, h => by
    by_cases q : ∃ i, i ≤ n ∧ g i = g (n + 1)
    · obtain ⟨i, hi, e⟩ := q
      exact ⟨i, n + 1, by omega, Nat.le_refl _, e⟩
    · have q' : ∀ i, i ≤ n → g i ≠ g (n + 1) := fun i hi e => q ⟨i, hi, e⟩
      obtain ⟨i, j, h1, h2, h3⟩ := pigeon n (fun i => if g i = n then g (n + 1) else g i) fun i hi => by
        have a := h i (by omega)
        have b := h (n + 1) (Nat.le_refl _)
        have d := q' i hi
        show (if g i = n then g (n + 1) else g i) < n
        split <;> omega
      have a := q' i (by omega)
      have b := q' j (by omega)
      refine ⟨i, j, h1, by omega, ?_⟩
      have h3 : (if g i = n then g (n + 1) else g i) = (if g j = n then g (n + 1) else g j) := h3
      split at h3 <;> split at h3 <;> omega
structure Ring (c : Nat → Option (Ed S)) (n m : Nat) : Prop where
  al : ∀ i, ∃ e, c (prdN c i m) = some e ∧ prdN c i m < n
  ag : ∃ p, 1 ≤ p ∧ p ≤ n ∧ prdN c (n + p) m = prdN c n m ∧ ∀ q, 1 ≤ q → q < p → prdN c (n + q) m ≠ prdN c n m
theorem least_of {P : Nat → Prop} : ∀ n, P n → ∃ k, k ≤ n ∧ P k ∧ ∀ j, j < k → ¬ P j := by
  intro n
  induction n using Nat.strongRecOn with
  | ind n ih =>
    intro h
    by_cases q : ∃ j, j < n ∧ P j
    · obtain ⟨j, hj, pj⟩ := q
      obtain ⟨k, a, b, d⟩ := ih j hj pj
      exact ⟨k, by omega, b, d⟩
    · exact ⟨n, Nat.le_refl n, h, fun j hj pj => q ⟨j, hj, pj⟩⟩
theorem Inv.ring {pa pb : Int} {es : List (Ed S)} {n now m : Nat} {R : Nat → Int} {c : Nat → Option (Ed S)} {tau lp : Nat → Nat} (I : Inv pa pb es (n + 1) es.length now R c tau lp) (hm : lp m = n + 1) (hes : ∀ e ∈ es, e.f < n ∧ e.l < n) : Ring c n m := by
  have a1 : ∀ i, i ≤ n → n + 1 ≤ lp (prdN c i m) + i := by
    intro i
    induction i with
    | zero => intro _; show n + 1 ≤ lp m + 0; omega
    | succ i ih =>
      intro hi
      have h := ih (by omega)
      obtain ⟨e, he⟩ := I.i2 (prdN c i m) (by omega)
      have h3 := I.i3 _ _ he
      have : prdN c (i + 1) m = e.f := by
        show prd c (prdN c i m) = e.f
        unfold prd
        rw [he]
      rw [this]
      omega
  have a2 : ∀ i, i ≤ n → ∃ e, c (prdN c i m) = some e ∧ prdN c i m < n := fun i hi => by
    have := a1 i hi
    obtain ⟨e, he⟩ := I.i2 (prdN c i m) (by omega)
    obtain ⟨h1, h2, _⟩ := I.i1 _ _ he
    exact ⟨e, he, h2 ▸ (hes e h1).2⟩
  obtain ⟨i, j, h1, h2, h3⟩ := pigeon n (fun i => prdN c i m) fun i hi => by
    obtain ⟨e, _, h⟩ := a2 i hi
    exact h
  have h3 : prdN c i m = prdN c j m := h3
  have per : ∀ a, i ≤ a → prdN c (a + (j - i)) m = prdN c a m := fun a ha => by
    obtain ⟨b, rfl⟩ : ∃ b, a = b + i := ⟨a - i, by omega⟩
    rw [show b + i + (j - i) = b + j by omega, prdN_add, prdN_add, h3]
  have al : ∀ i, ∃ e, c (prdN c i m) = some e ∧ prdN c i m < n := by
    intro k
    induction k using Nat.strongRecOn with
    | ind k ih =>
      by_cases q : k ≤ n
      · exact a2 k q
      · have := per (k - (j - i)) (by omega)
        rw [show k - (j - i) + (j - i) = k by omega] at this
        rw [this]
        exact ih _ (by omega)
  refine ⟨al, ?_⟩
  obtain ⟨k, b1, b2, b3⟩ := least_of (P := fun q => prdN c (n + (q + 1)) m = prdN c n m) (j - i - 1) (by
    show prdN c (n + (j - i - 1 + 1)) m = prdN c n m
    rw [show j - i - 1 + 1 = j - i by omega]
    exact per n (by omega))
  refine ⟨k + 1, by omega, by omega, b2, fun q q1 q2 => ?_⟩
  have := b3 (q - 1) (by omega)
  rw [show n + (q - 1 + 1) = n + q by omega] at this
  exact this
end
section
variable {S : Type}
theorem fold_keep {pa pb : Int} {I : (Nat → Option Int) → Prop} {es : List (Ed S)} (h : ∀ r e x, e ∈ es → I r → r e.f = some x → better (x + gn pa pb e) (r e.l) = true → I (upF r e.l (some (x + gn pa pb e)))) :
    ∀ (fs : List (Ed S)) (q : Sta S), (∀ e ∈ fs, e ∈ es) → I q.r → I (fs.foldl (relax pa pb) q).r
  | [], q, _, hq => hq
  | e :: fs, q, hm, hq => by
    rw [List.foldl_cons]
    refine fold_keep h fs _ (fun e' he' => hm e' (List.mem_cons_of_mem _ he')) ?_
    cases z : q.r e.f with
    | none => rw [relax_none z]; exact hq
    | some x =>
      rw [relax_some z]
      cases zb : better (x + gn pa pb e) (q.r e.l) with
      | true => exact h q.r e x (hm e List.mem_cons_self) hq z zb
      | false => exact hq
theorem fold_mu {pa pb : Int} {I : (Nat → Option Int) → Prop} {mu : (Nat → Option Int) → Nat} {es : List (Ed S)} (h : ∀ r e x, e ∈ es → I r → r e.f = some x → better (x + gn pa pb e) (r e.l) = true → I (upF r e.l (some (x + gn pa pb e))) ∧ mu (upF r e.l (some (x + gn pa pb e))) < mu r) :
    ∀ (fs : List (Ed S)) (q : Sta S), (∀ e ∈ fs, e ∈ es) → I q.r → mu (fs.foldl (relax pa pb) q).r ≤ mu q.r ∧ (q.ch = none → (fs.foldl (relax pa pb) q).ch ≠ none → mu (fs.foldl (relax pa pb) q).r < mu q.r)
  | [], q, _, hq => ⟨Nat.le_refl _, fun a b => absurd a b⟩
  | e :: fs, q, hm, hq => by
    rw [List.foldl_cons]
    have hm' := fun e' he' => hm e' (List.mem_cons_of_mem _ he')
    cases z : q.r e.f with
    | none => rw [relax_none z]; exact fold_mu h fs q hm' hq
    | some x =>
      rw [relax_some z]
      cases zb : better (x + gn pa pb e) (q.r e.l) with
      | true =>
        rw [if_pos rfl]
        obtain ⟨h1, h2⟩ := h q.r e x (hm e List.mem_cons_self) hq z zb
        have h3 := (fold_mu h fs ⟨upF q.r e.l (some (x + gn pa pb e)), upF q.c e.l (some e), some e.l⟩ hm' h1).1
        exact ⟨Nat.le_of_lt (Nat.lt_of_le_of_lt h3 h2), fun _ _ => Nat.lt_of_le_of_lt h3 h2⟩
      | false =>
        rw [if_neg (by intro z; cases z)]
        exact fold_mu h fs q hm' hq
def sumN : Nat → (Nat → Nat) → Nat
  | 0, _ => 0
  | n + 1, f => sumN n f + f n
theorem sumN_le {f g : Nat → Nat} : ∀ n, (∀ v, v < n → f v ≤ g v) → sumN n f ≤ sumN n g
  | 0, _ => Nat.le_refl _
  | n + 1, h => Nat.add_le_add (sumN_le n fun v hv => h v (by omega)) (h n (by omega))
theorem sumN_lt {f g : Nat → Nat} : ∀ n u, u < n → (∀ v, v < n → f v ≤ g v) → f u < g u → sumN n f < sumN n g
  | 0, u, hu, _, _ => absurd hu (Nat.not_lt_zero _)
  | n + 1, u, hu, h, hl => by
    by_cases q : u = n
    · subst q
      exact Nat.add_lt_add_of_le_of_lt (sumN_le u fun v hv => h v (by omega)) hl
    · exact Nat.add_lt_add_of_lt_of_le (sumN_lt n u (by omega) (fun v hv => h v (by omega)) hl) (h n (by omega))
def cnt (n : Nat) (r : Nat → Option Int) : Nat := sumN n fun v => if (r v).isSome = true then 1 else 0
theorem cnt_le (n : Nat) (r : Nat → Option Int) : cnt n r ≤ n := by
  have : ∀ n, sumN n (fun v => if (r v).isSome = true then 1 else 0) ≤ n := by
    intro n
    induction n with
    | zero => exact Nat.le_refl _
    | succ n ih =>
      show sumN n _ + (if (r n).isSome = true then 1 else 0) ≤ n + 1
      split <;> omega
  exact this n
def Att (pa pb : Int) (es : List (Ed S)) (r0 r : Nat → Option Int) : Prop := ∀ v x, r v = some x → ∃ u x0 w, r0 u = some x0 ∧ Wk u w v ∧ (∀ e ∈ w, e ∈ es) ∧ x = x0 + (w.map (gn pa pb)).sum
def Lo (n : Nat) (G : Int) (r : Nat → Option Int) : Prop := ∀ v x, r v = some x → -((cnt n r : Nat) * G) ≤ x
def Up (X : Nat → Int) (C : Int) (r : Nat → Option Int) : Prop := ∀ v x, r v = some x → x ≤ X v + C
def Ge (r0 r : Nat → Option Int) : Prop := ∀ v x, r0 v = some x → ∃ y, r v = some y ∧ x ≤ y
structure Set0 (pa pb : Int) (es : List (Ed S)) (n : Nat) (X : Nat → Int) (C G : Int) (r0 r : Nat → Option Int) : Prop where
  at_ : Att pa pb es r0 r
  lo : Lo n G r
  up : Up X C r
  ge : Ge r0 r
def mu0 (n : Nat) (X : Nat → Int) (C G : Int) (r : Nat → Option Int) : Nat := sumN n fun v => match r v with
  | none => (X v + C + n * G + 1).toNat
  | some x => (X v + C - x).toNat
theorem Set0.step {pa pb : Int} {es : List (Ed S)} {n : Nat} {X : Nat → Int} {C G : Int} {r0 r : Nat → Option Int} (hX : ∀ e ∈ es, X e.f + gn pa pb e ≤ X e.l) (hn : ∀ e ∈ es, e.l < n) (hG : ∀ e ∈ es, -G ≤ gn pa pb e) (hG0 : 0 ≤ G) {e : Ed S} {x : Int} (he : e ∈ es) (I : Set0 pa pb es n X C G r0 r) (hx : r e.f = some x) (hb : better (x + gn pa pb e) (r e.l) = true) :
    Set0 pa pb es n X C G r0 (upF r e.l (some (x + gn pa pb e))) ∧ mu0 n X C G (upF r e.l (some (x + gn pa pb e))) < mu0 n X C G r := by
  have hXe := hX e he
  have hln := hn e he
  have hGe := hG e he
  have hup := I.up e.f x hx
  have hlo := I.lo e.f x hx
  have hcn : cnt n r ≤ cnt n (upF r e.l (some (x + gn pa pb e))) := sumN_le n fun v _ => by
    show (if (r v).isSome = true then 1 else 0) ≤ (if (upF r e.l (some (x + gn pa pb e)) v).isSome = true then 1 else 0)
    by_cases q : v = e.l
    · rw [q, upF_same]
      show (if (r e.l).isSome = true then 1 else 0) ≤ 1
      split <;> omega
    · rw [upF_ne q]
      exact Nat.le_refl _
  have hlow : -((cnt n (upF r e.l (some (x + gn pa pb e))) : Nat) * G) ≤ x + gn pa pb e ∧ ∀ v y, r v = some y → -((cnt n (upF r e.l (some (x + gn pa pb e))) : Nat) * G) ≤ y := by
    have h2 : ∀ v y, r v = some y → -((cnt n (upF r e.l (some (x + gn pa pb e))) : Nat) * G) ≤ y := fun v y hy => by
      have a := I.lo v y hy
      have b : (cnt n r : Int) * G ≤ (cnt n (upF r e.l (some (x + gn pa pb e))) : Int) * G := Int.mul_le_mul_of_nonneg_right (by omega) hG0
      omega
    refine ⟨?_, h2⟩
    cases z : r e.l with
    | none =>
      have hc1 : cnt n r < cnt n (upF r e.l (some (x + gn pa pb e))) := sumN_lt n e.l hln (fun v _ => by
        show (if (r v).isSome = true then 1 else 0) ≤ (if (upF r e.l (some (x + gn pa pb e)) v).isSome = true then 1 else 0)
        by_cases q : v = e.l
        · rw [q, upF_same]
          show (if (r e.l).isSome = true then 1 else 0) ≤ 1
          split <;> omega
        · rw [upF_ne q]
          exact Nat.le_refl _) (by
        show (if (r e.l).isSome = true then 1 else 0) < (if (upF r e.l (some (x + gn pa pb e)) e.l).isSome = true then 1 else 0)
        rw [upF_same, z]
        show 0 < 1
        omega)
      have b : ((cnt n r : Int) + 1) * G ≤ (cnt n (upF r e.l (some (x + gn pa pb e))) : Int) * G := Int.mul_le_mul_of_nonneg_right (by omega) hG0
      rw [Int.add_mul] at b
      omega
    | some y =>
      rw [z] at hb
      have := h2 e.l y z
      have hb : x + gn pa pb e > y := of_decide_eq_true hb
      omega
  refine ⟨⟨fun v y hy => ?_, fun v y hy => ?_, fun v y hy => ?_, fun v y hy => ?_⟩, ?_⟩
  · by_cases q : v = e.l
    · subst q
      rw [upF_same] at hy
      cases hy
      obtain ⟨u, x0, w, h1, h2, h3, h4⟩ := I.at_ e.f x hx
      refine ⟨u, x0, w ++ [e], h1, h2.append ⟨rfl, rfl⟩, fun e' he' => ?_, ?_⟩
      · rcases List.mem_append.mp he' with q | q
        · exact h3 e' q
        · rw [List.mem_singleton.mp q]; exact he
      · rw [List.map_append, List.sum_append, h4]
        simp
        omega
    · rw [upF_ne q] at hy
      exact I.at_ v y hy
  · by_cases q : v = e.l
    · subst q
      rw [upF_same] at hy
      cases hy
      exact hlow.1
    · rw [upF_ne q] at hy
      exact hlow.2 v y hy
  · by_cases q : v = e.l
    · subst q
      rw [upF_same] at hy
      cases hy
      omega
    · rw [upF_ne q] at hy
      exact I.up v y hy
  · obtain ⟨z, hz, hyz⟩ := I.ge v y hy
    by_cases q : v = e.l
    · subst q
      rw [upF_same]
      refine ⟨_, rfl, ?_⟩
      rw [hz] at hb
      have hb : x + gn pa pb e > z := of_decide_eq_true hb
      omega
    · rw [upF_ne q]
      exact ⟨z, hz, hyz⟩
  · refine sumN_lt n e.l hln (fun v _ => ?_) ?_
    · by_cases q : v = e.l
      · subst q
        rw [upF_same]
        cases z : r e.l with
        | none =>
          have c1 := cnt_le n (upF r e.l (some (x + gn pa pb e)))
          have c2 : ((cnt n (upF r e.l (some (x + gn pa pb e))) : Nat) : Int) * G ≤ (n : Int) * G := Int.mul_le_mul_of_nonneg_right (by omega) hG0
          have c3 := hlow.1
          show (X e.l + C - (x + gn pa pb e)).toNat ≤ (X e.l + C + n * G + 1).toNat
          omega
        | some y =>
          rw [z] at hb
          have hb : x + gn pa pb e > y := of_decide_eq_true hb
          show (X e.l + C - (x + gn pa pb e)).toNat ≤ (X e.l + C - y).toNat
          omega
      · rw [upF_ne q]
        exact Nat.le_refl _
    · show (match upF r e.l (some (x + gn pa pb e)) e.l with | none => (X e.l + C + n * G + 1).toNat | some x => (X e.l + C - x).toNat) < (match r e.l with | none => (X e.l + C + n * G + 1).toNat | some x => (X e.l + C - x).toNat)
      rw [upF_same]
      cases z : r e.l with
      | none =>
        have c1 := cnt_le n (upF r e.l (some (x + gn pa pb e)))
        have c2 : ((cnt n (upF r e.l (some (x + gn pa pb e))) : Nat) : Int) * G ≤ (n : Int) * G := Int.mul_le_mul_of_nonneg_right (by omega) hG0
        have c3 := hlow.1
        show (X e.l + C - (x + gn pa pb e)).toNat < (X e.l + C + n * G + 1).toNat
        omega
      | some y =>
        rw [z] at hb
        have hb : x + gn pa pb e > y := of_decide_eq_true hb
        have := I.up e.l y z
        show (X e.l + C - (x + gn pa pb e)).toNat < (X e.l + C - y).toNat
        omega
theorem Set0.pass {pa pb : Int} {es : List (Ed S)} {n : Nat} {X : Nat → Int} {C G : Int} {r0 r : Nat → Option Int} {c : Nat → Option (Ed S)} (hX : ∀ e ∈ es, X e.f + gn pa pb e ≤ X e.l) (hn : ∀ e ∈ es, e.l < n) (hG : ∀ e ∈ es, -G ≤ gn pa pb e) (hG0 : 0 ≤ G) (I : Set0 pa pb es n X C G r0 r) :
    Set0 pa pb es n X C G r0 (Hn.pass pa pb es r c).r ∧ ((Hn.pass pa pb es r c).ch ≠ none → mu0 n X C G (Hn.pass pa pb es r c).r < mu0 n X C G r) :=
  ⟨fold_keep (I := Set0 pa pb es n X C G r0) (fun r e x he I hx hb => (I.step hX hn hG hG0 he hx hb).1) es ⟨r, c, none⟩ (fun _ h => h) I,
   (fold_mu (I := Set0 pa pb es n X C G r0) (mu := mu0 n X C G) (fun r e x he I hx hb => I.step hX hn hG hG0 he hx hb) es ⟨r, c, none⟩ (fun _ h => h) I).2 rfl⟩
end
section
variable {S : Type}
def runs (pa pb : Int) (es : List (Ed S)) : Nat → Option (Sta S)
  | 0 => some ⟨fun _ => some 0, fun _ => none, none⟩
  | k + 1 => match runs pa pb es k with
    | none => none
    | some q => match (pass pa pb es q.r q.c).ch with
      | none => none
      | some _ => some (pass pa pb es q.r q.c)
def per (c : Nat → Option (Ed S)) (n m : Nat) : Nat := (((List.range n).find? fun q => decide (prdN c (n + (q + 1)) m = prdN c n m)).getD 0) + 1
def clos (c : Nat → Option (Ed S)) (n m : Nat) : List (Ed S) := (List.range (per c n m)).filterMap fun i => c (prdN c (n + i) m)
def gaining (n : Nat) (es : List (Ed S)) (pa pb : Int) : Option (List (Ed S)) := match runs pa pb es (n + 1) with
  | none => none
  | some q => some (clos q.c n (q.ch.getD 0)).reverse
end
end Hn
namespace Hn
open PySem
abbrev Stp := Option (Str × Int)
def mdN (n : Nat) (x : Int) : Nat := (x % (n : Int)).toNat
theorem mdN_int {n : Nat} (h : 1 ≤ n) (x : Int) : ((mdN n x : Nat) : Int) = x % (n : Int) := Int.toNat_of_nonneg (mod_bd h x).1
def mkE (n : Nat) (x len v : Int) (s : Stp) : Ed Stp := ⟨mdN n x, mdN n (x + len), ((mdN n x : Nat) + len) / (n : Int), v, s⟩
theorem mkE_len {n : Nat} (h : 1 ≤ n) (x len v : Int) (s : Stp) : (((mkE n x len v s).f : Nat) : Int) + len = ((mkE n x len v s).l : Nat) + n * (mkE n x len v s).t := by
  show ((mdN n x : Nat) : Int) + len = ((mdN n (x + len) : Nat) : Int) + n * (((mdN n x : Nat) + len) / (n : Int))
  rw [mdN_int h, mdN_int h]
  have e : (x + len) % (n : Int) = (x % (n : Int) + len) % (n : Int) := by rw [Int.emod_add_emod]
  rw [e]
  have := Int.emod_add_mul_ediv (x % (n : Int) + len) n
  omega
def upI (a b : Int) : Int := -((-a) / b)
def kE (n : Nat) (v h : Int) : Ed Stp := mkE n h 1 v (some ("keep", h))
structure NeE (s d : List Int) (e : Ed Stp) (len : Int) : Prop where
  fl : e.f < s.length ∧ e.l < s.length
  ln : (e.f : Int) + len = e.l + s.length * e.t
  l1 : 1 ≤ len
  t0 : 0 ≤ e.t
  t1 : e.t ≤ 1
def Enf (s d : List Int) (P : Int) (A : Int → Int) : Prop := A 0 = 0 ∧ A (s.length : Int) = P ∧ mono s.length A ∧ enough s.length (thF s.length s (cyc (byS s.length A))) (cyc d) = true
def stp (s : List Int) (h k : Int) : Int := wd s k + (k - wd s k - h) % (s.length : Int)
def hops (s : List Int) : Int → List Int → Int
  | _, [] => 0
  | h, k :: r => stp s h k + hops s k r
def lastH (h : Int) : List Int → Int
  | [] => h
  | k :: r => lastH k r
def wnd (s r : List Int) : Int := hops s (lastH 0 r) r / (s.length : Int)
def sumD (d : List Int) (r : List Int) : Int := (r.map (cyc d)).sum
def ringB (s d r : List Int) : Int := upI (sumD d r) (wnd s r)
def isNd : Stp → Option Int
  | some (x, h) => if x = ("need" : Str) then some h else none
  | none => none
def needHs (w : List (Ed Stp)) : List Int := w.filterMap fun e => isNd e.s
end Hn
namespace Hn
open PySem
def fr (x y : Int) : Int × Int := (x / (Int.gcd x y : Int), y / (Int.gcd x y : Int))
structure FrOk (x y : Int) (g : Int) : Prop where
  g1 : 1 ≤ g
  ex : x = g * (fr x y).1
  ey : y = g * (fr x y).2
  p2 : 1 ≤ (fr x y).2
  le : (fr x y).2 ≤ y
inductive BR (n : Nat) (es : List (Ed Stp)) : Int → Int → List Int → List Int → Prop
  | stop {pa pb : Int} {r : List Int} : gaining n es pa pb = none → BR n es pa pb r r
  | go {pa pb : Int} {r q : List Int} {w : List (Ed Stp)} : gaining n es pa pb = some w → BR n es (fr (wo w) (tn w)).1 (fr (wo w) (tn w)).2 (needHs w) q → BR n es pa pb r q
structure Bst (s d : List Int) (M pa pb : Int) (r : List Int) : Prop where
  a0 : 0 ≤ pa
  b1 : 1 ≤ pb
  bn : pb ≤ (s.length : Int)
  bd : pa ≤ s.length * M * pb
  ne : r ≠ []
  le : r.length ≤ s.length
  hs : ∀ k ∈ r, 0 ≤ k ∧ k < (s.length : Int)
  up : upI pa pb ≤ ringB s d r
structure BestOk (s d r : List Int) : Prop where
  ne : r ≠ []
  le : r.length ≤ s.length
  hs : ∀ k ∈ r, 0 ≤ k ∧ k < (s.length : Int)
  en : ∃ A, Enf s d (ringB s d r) A
end Hn
namespace Hn
open PySem PySem.Spec PyProof.Rows L2 Evl
variable {K : PySem.W.Frag}
theorem sqt_xl {H H' : Hp} {a : Addr} {xs : List V} (e : Xl H H') (h : SqT K H a xs) : SqT K H' a xs := by
  rcases h with (h | ⟨o, h⟩) | h
  · exact .inl (.inl (e _ _ h rfl))
  · exact .inl (.inr ⟨o, e _ _ h rfl⟩)
  · exact .inr h
def StV (K : PySem.W.Frag) (H : Hp) (v : V) : Stp → Prop
  | none => v = .non
  | some (w, h) => ∃ t, v = .ref t ∧ SqT K H t [.str w, .int h]
def EdV (K : PySem.W.Frag) (H : Hp) (v : V) (e : Ed Stp) : Prop := ∃ t sv, v = .ref t ∧ SqT K H t [.int (e.f : Int), .int (e.l : Int), .int e.t, .int e.v, sv] ∧ StV K H sv e.s
theorem StV.mono {H H' : Hp} {v : V} {s : Stp} (e : Xl H H') (h : StV K H v s) : StV K H' v s := by
  cases s with
  | none => exact h
  | some p =>
    obtain ⟨t, rfl, ht⟩ := h
    exact ⟨t, rfl, sqt_xl e ht⟩
theorem EdV.mono {H H' : Hp} {v : V} {e : Ed Stp} (x : Xl H H') (h : EdV K H v e) : EdV K H' v e :=
  let ⟨t, sv, h1, h2, h3⟩ := h
  ⟨t, sv, h1, sqt_xl x h2, h3.mono x⟩
def EdL (K : PySem.W.Frag) (H : Hp) (l : Addr) (es : List (Ed Stp)) : Prop := ∃ vs : List V, H l = some (.lst vs) ∧ vs.length = es.length ∧ ∀ (i : Nat) v, vs[i]? = some v → ∃ e, es[i]? = some e ∧ EdV K H v e
theorem EdL.ex {H H' : Hp} {l : Addr} {es : List (Ed Stp)} (x : Ex H H') (h : EdL K H l es) : EdL K H' l es :=
  let ⟨vs, h1, h2, h3⟩ := h
  ⟨vs, x _ _ h1, h2, fun i v hv => let ⟨e, a, b⟩ := h3 i v hv; ⟨e, a, b.mono (.of x)⟩⟩
def CamV (K : PySem.W.Frag) (H : Hp) (v : V) : Option (Ed Stp) → Prop
  | none => v = .non
  | some e => EdV K H v e
theorem CamV.mono {H H' : Hp} {v : V} {c : Option (Ed Stp)} (x : Xl H H') (h : CamV K H v c) : CamV K H' v c := by
  cases c with
  | none => exact h
  | some e => exact EdV.mono x h
def CamL (K : PySem.W.Frag) (H : Hp) (p : Addr) (n : Nat) (c : Nat → Option (Ed Stp)) : Prop := ∃ vs : List V, H p = some (.lst vs) ∧ vs.length = n ∧ ∀ (i : Nat) v, vs[i]? = some v → CamV K H v (c i)
theorem CamL.put {H : Hp} {p : Addr} {n b : Nat} {c : Nat → Option (Ed Stp)} {vs : List V} {v : V} {e : Ed Stp} (h : CamL K H p n c) (hp : H p = some (.lst vs)) (he : EdV K H v e) : CamL K (upd H p (.lst (vs.set b v))) p n (upF c b (some e)) := by
  obtain ⟨ws, h1, h2, h3⟩ := h
  rw [hp] at h1
  cases h1
  have x : Xl H (upd H p (.lst (vs.set b v))) := Xl.set hp
  refine ⟨_, upd_same, by rw [List.length_set]; exact h2, fun i u hu => ?_⟩
  rw [List.getElem?_set] at hu
  by_cases q : b = i
  · subst q
    rw [if_pos rfl] at hu
    rw [upF_same]
    split at hu
    · cases hu
      exact EdV.mono x he
    · cases hu
  · rw [if_neg q] at hu
    rw [upF_ne (fun z => q z.symm)]
    exact (h3 i u hu).mono x
theorem CamL.start {H : Hp} {p : Addr} {n : Nat} (h : H p = some (.lst (List.replicate n .non))) : CamL K H p n fun _ => none := by
  refine ⟨_, h, List.length_replicate, fun i v hv => ?_⟩
  rw [List.getElem?_replicate] at hv
  split at hv
  · cases hv
    rfl
  · cases hv
def Mv2 (p q : Addr) (H H' : Hp) : Prop := ∀ a o, a ≠ p → a ≠ q → H a = some o → H' a = some o
theorem Mv2.refl (p q : Addr) (H : Hp) : Mv2 p q H H := fun _ _ _ _ h => h
theorem Mv2.trans {p q : Addr} {H H1 H2 : Hp} (x : Mv2 p q H H1) (y : Mv2 p q H1 H2) : Mv2 p q H H2 := fun a o h1 h2 h => y a o h1 h2 (x a o h1 h2 h)
theorem Mv2.l {p q : Addr} {H : Hp} {o : HO} : Mv2 p q H (upd H p o) := fun a o' h1 _ h => by rw [upd_ne h1]; exact h
theorem Mv2.r {p q : Addr} {H : Hp} {o : HO} : Mv2 p q H (upd H q o) := fun a o' _ h2 h => by rw [upd_ne h2]; exact h
theorem Mv2.xl {p q : Addr} {H H' : Hp} {xs ys : List V} (x : Mv2 p q H H') (hp : H p = some (.lst xs)) (hq : H q = some (.lst ys)) : Xl H H' := fun a o h n => by
  refine x a o ?_ ?_ h
  · exact ne_of h hp (by intro z; rw [z] at n; cases n)
  · exact ne_of h hq (by intro z; rw [z] at n; cases n)
theorem Mv2.ex {p q : Addr} {H0 H H' : Hp} (e : Ex H0 H) (x : Mv2 p q H H') (hp : H0 p = none) (hq : H0 q = none) : Ex H0 H' := fun a o h => by
  refine x a o ?_ ?_ (e a o h)
  · intro z; rw [z, hp] at h; cases h
  · intro z; rw [z, hq] at h; cases h
theorem CamL.at {H : Hp} {p : Addr} {n : Nat} {c : Nat → Option (Ed Stp)} (h : CamL K H p n c) {i : Nat} {e : Ed Stp} (hi : i < n) (he : c i = some e) : ∃ vs t sv, H p = some (.lst vs) ∧ vs[i]? = some (.ref t) ∧ SqT K H t [.int (e.f : Int), .int (e.l : Int), .int e.t, .int e.v, sv] ∧ EdV K H (.ref t) e := by
  obtain ⟨vs, h1, h2, h3⟩ := h
  have hv : vs[i]? = some vs[i] := List.getElem?_eq_getElem (by omega)
  have := h3 i _ hv
  rw [he] at this
  obtain ⟨t, sv, e1, e2, e3⟩ := id this
  rw [e1] at hv
  exact ⟨vs, t, sv, h1, hv, e2, t, sv, rfl, e2, e3⟩
theorem CamL.ex {H H' : Hp} {p : Addr} {n : Nat} {c : Nat → Option (Ed Stp)} (x : Ex H H') (h : CamL K H p n c) : CamL K H' p n c :=
  let ⟨vs, h1, h2, h3⟩ := h
  ⟨vs, x _ _ h1, h2, fun i v hv => (h3 i v hv).mono (.of x)⟩
theorem EdL.at {H : Hp} {l : Addr} {es : List (Ed Stp)} (h : EdL K H l es) {i : Nat} {e : Ed Stp} (he : es[i]? = some e) : ∃ vs t sv, H l = some (.lst vs) ∧ vs[i]? = some (.ref t) ∧ SqT K H t [.int (e.f : Int), .int (e.l : Int), .int e.t, .int e.v, sv] ∧ StV K H sv e.s := by
  obtain ⟨vs, h1, h2, h3⟩ := h
  have hi := (List.getElem?_eq_some_iff.mp he).1
  have hv : vs[i]? = some vs[i] := List.getElem?_eq_getElem (by omega)
  obtain ⟨e', he', t, sv, e1, e2, e3⟩ := h3 i _ hv
  rw [he] at he'
  cases he'
  rw [e1] at hv
  exact ⟨vs, t, sv, h1, hv, e2, e3⟩
theorem EdL.push {H : Hp} {p : Addr} {es : List (Ed Stp)} {vs : List V} {v : V} {e : Ed Stp} (h : EdL K H p es) (hp : H p = some (.lst vs)) (hv : EdV K H v e) : EdL K (upd H p (.lst (vs ++ [v]))) p (es ++ [e]) := by
  obtain ⟨ws, h1, h2, h3⟩ := h
  rw [hp] at h1
  cases h1
  have x : Xl H (upd H p (.lst (vs ++ [v]))) := Xl.set hp
  refine ⟨_, upd_same, by rw [List.length_append, List.length_append, h2]; rfl, fun i u hu => ?_⟩
  by_cases hi : i < vs.length
  · rw [List.getElem?_append_left hi] at hu
    obtain ⟨e', a, b⟩ := h3 i u hu
    exact ⟨e', by rw [List.getElem?_append_left (by omega)]; exact a, b.mono x⟩
  · rw [List.getElem?_append_right (by omega)] at hu
    have : i = vs.length := by
      have := (List.getElem?_eq_some_iff.mp hu).1
      rw [List.length_singleton] at this
      omega
    subst this
    rw [Nat.sub_self] at hu
    cases hu
    exact ⟨e, by rw [List.getElem?_append_right (by omega), h2, Nat.sub_self]; rfl, hv.mono x⟩
theorem EdL.nil {H : Hp} {p : Addr} (h : H p = some (.lst [])) : EdL K H p [] := ⟨[], h, rfl, fun i v hv => by simp at hv⟩
def del (H : Hp) (p : Addr) : Hp := fun a => if a = p then none else H a
def GaV (K : PySem.W.Frag) (H : Hp) (v : V) : Option (List (Ed Stp)) → Prop
  | none => v = .non
  | some w => ∃ p, v = .ref p ∧ EdL K H p w
theorem GaV.ex {H H' : Hp} {v : V} {w : Option (List (Ed Stp))} (x : Ex H H') (h : GaV K H v w) : GaV K H' v w := by
  cases w with
  | none => exact h
  | some w =>
    obtain ⟨p, rfl, h⟩ := h
    exact ⟨p, rfl, h.ex x⟩
end Hn
namespace Hn
open PySem PySem.Spec PyProof.Rows L2 Evl
end Hn
namespace Wx
open PySem PySem.Spec PyProof.Rows L2 Evl Hn
class TabC where
  T : List (Addr × Str)
variable [TC : TabC]
def isTb : HO → Bool
  | .tbl _ => true
  | _ => false
structure Xn (H H' : Hp) : Prop where
  kp : ∀ a o, H a = some o → isTb o = false → H' a = some o
  dm : ∀ a, H a ≠ none → H' a ≠ none
theorem Xn.at {H H' : Hp} (e : Xn H H') {a : Addr} {o : HO} (h : H a = some o) (n : isTb o = false := by rfl) : H' a = some o := e.kp a o h n
theorem Xn.of {H H' : Hp} (e : Ex H H') : Xn H H' := ⟨fun a o h _ => e a o h, fun a h z => by
  cases q : H a with
  | none => exact h q
  | some o => rw [e a o q] at z; cases z⟩
theorem Xn.refl (H : Hp) : Xn H H := ⟨fun _ _ h _ => h, fun _ h => h⟩
theorem Xn.trans {H H1 H2 : Hp} (a : Xn H H1) (b : Xn H1 H2) : Xn H H2 := ⟨fun x o h n => b.kp x o (a.kp x o h n) n, fun x h => b.dm x (a.dm x h)⟩
theorem Xn.new {H : Hp} {p : Addr} {o : HO} (h : H p = none) : Xn H (upd H p o) := .of (Ex.new h)
theorem upd_def {H : Hp} {p a : Addr} {o : HO} (h : H a ≠ none) : upd H p o a ≠ none := by
  by_cases e : a = p
  · rw [e, upd_same]; intro z; cases z
  · rw [upd_ne e]; exact h
theorem Xn.mut {H H' : Hp} {p : Addr} {o : HO} (e : Xn H H') (h : H p = none) : Xn H (upd H' p o) := ⟨fun a u ha n => by
  rw [upd_ne (ne_of_none ha h)]
  exact e.kp a u ha n, fun a ha => upd_def (e.dm a ha)⟩
theorem back_x {H H' : Hp} {p : Addr} (e : Xn H H') (h : H' p = none) : H p = none := by
  cases h1 : H p with
  | none => rfl
  | some o => exact absurd h (e.dm p (by rw [h1]; intro z; cases z))
def TabsR (H : Hp) : Prop := LamX.Tabs TC.T H
theorem TabsR.ex {H H' : Hp} (t : TabsR H) (e : Ex H H') : TabsR H' := LamX.Tabs.ext t e
def isEx : HO → Bool
  | .ext _ => true
  | _ => false
theorem TabsR.but {H H' : Hp} {p : Addr} {u : HO} (t : TabsR H) (h : H p = some u) (n : isTb u = false) (m : isEx u = false) (k : ∀ a o, a ≠ p → H a = some o → H' a = some o) : TabsR H' := fun q hq => by
  obtain ⟨ps, h1, h2, h3⟩ := t q hq
  refine ⟨ps, k _ _ (fun e => ?_) h1, h2, fun pos cv hc => ?_⟩
  · rw [e, h] at h1
    cases h1
    cases n
  · obtain ⟨c, e1, e2⟩ := h3 pos cv hc
    refine ⟨c, e1, k _ _ (fun e => ?_) e2⟩
    rw [e, h] at e2
    cases e2
    cases m
theorem TabsR.mut {H : Hp} {p : Addr} {o u : HO} (t : TabsR H) (h : H p = some u) (n : isTb u = false) (m : isEx u = false) : TabsR (upd H p o) := t.but h n m fun a u ne ha => by rw [upd_ne ne]; exact ha
theorem tabs_nil {H : Hp} (e : TC.T = []) : TabsR H := fun q hq => by rw [e] at hq; cases hq
inductive Cn where
  | Clock | Needs | Plan | House | Book | Desk | Endless
  deriving DecidableEq
structure Fv where
  f : Addr
  c : Addr
  q : Str
  vs : List V
inductive PV where
  | non | bl (b : Bool) | int (i : Int) | str (x : Str) | ty (n : String) | cls (c : Cn)
  | lst (xs : List PV) | tup (xs : List PV) | ins (c : Cn) (fs : List (Str × PV)) | bag | scr (ns : List Int) | fnv (z : Fv) (xs : List PV)
  | dct (a : Addr) (kvs : List (Key × Int)) | idv (a : Addr) (x : PV)
abbrev Fz := Addr → Prop
def dkV (kvs : List (Key × Int)) : List (Key × V) := kvs.map fun p => (p.1, V.int p.2)
def ScrOk (K : PySem.W.Frag) (F : Fz) (H : Hp) (a : Addr) (xs : List V) : Prop := (H a = some (.lst xs) ∧ F a) ∨ (∃ o, H a = some (.frz o (.lst xs))) ∨ ∀ H', SqL K H' a xs
theorem ScrOk.sq {K : PySem.W.Frag} {F : Fz} {H : Hp} {a : Addr} {xs : List V} (h : ScrOk K F H a xs) : SqL K H a xs := by
  rcases h with ⟨h, _⟩ | ⟨o, h⟩ | h
  · exact .inl (.inl h)
  · exact .inl (.inr ⟨o, h⟩)
  · exact h H
mutual
inductive Rv (K : PySem.W.Frag) (d : Cn → Addr) (F : Fz) (H : Hp) : V → PV → Prop
  | non : Rv K d F H .non .non
  | bl (b : Bool) : Rv K d F H (.bl b) (.bl b)
  | int (i : Int) : Rv K d F H (.int i) (.int i)
  | str (x : Str) : Rv K d F H (.str x) (.str x)
  | ty (n : String) : Rv K d F H (.ty n) (.ty n)
  | cls (c : Cn) : Rv K d F H (.ref (d c)) (.cls c)
  | lst {a : Addr} {vs : List V} {xs : List PV} : H a = some (.lst vs) → F a → Rvs K d F H vs xs → Rv K d F H (.ref a) (.lst xs)
  | tup {a : Addr} {vs : List V} {xs : List PV} : SqT K H a vs → Rvs K d F H vs xs → Rv K d F H (.ref a) (.tup xs)
  | ins {a dx : Addr} {c : Cn} {gs : List (Str × V)} {fs : List (Str × PV)} : H a = some (.ins (d c) dx gs) → Rvf K d F H gs fs → Rv K d F H (.ref a) (.ins c fs)
  | bag {b : Addr} : Bag H b → Rv K d F H (.ref b) .bag
  | scr {a : Addr} {ns : List Int} : ScrOk K F H a (ns.map V.int) → ns.length ≤ 63 → Rv K d F H (.ref a) (.scr ns)
  | fnv {z : Fv} {xs : List PV} : H z.c = some (LamX.CodeO z.c z.q) → Rvs K d F H z.vs xs → Rv K d F H (.ref z.f) (.fnv z xs)
  | dct {a : Addr} {kvs : List (Key × Int)} : H a = some (.dK (dkV kvs)) → F a → Rv K d F H (.ref a) (.dct a kvs)
  | idv {a : Addr} {x : PV} : Rv K d F H (.ref a) x → Rv K d F H (.ref a) (.idv a x)
inductive Rvs (K : PySem.W.Frag) (d : Cn → Addr) (F : Fz) (H : Hp) : List V → List PV → Prop
  | nil : Rvs K d F H [] []
  | cons {v : V} {x : PV} {vs : List V} {xs : List PV} : Rv K d F H v x → Rvs K d F H vs xs → Rvs K d F H (v :: vs) (x :: xs)
inductive Rvf (K : PySem.W.Frag) (d : Cn → Addr) (F : Fz) (H : Hp) : List (Str × V) → List (Str × PV) → Prop
  | nil : Rvf K d F H [] []
  | cons {f : Str} {v : V} {x : PV} {vs : List (Str × V)} {xs : List (Str × PV)} : Rv K d F H v x → Rvf K d F H vs xs → Rvf K d F H ((f, v) :: vs) ((f, x) :: xs)
end
def isMu : HO → Bool
  | .lst _ => true
  | .dK _ => true
  | .dT _ => true
  | .tbl _ => true
  | _ => false
theorem tb_mu {o : HO} (h : isMu o = false) : isTb o = false := by cases o <;> first | rfl | cases h
def Xm (H H' : Hp) : Prop := ∀ a o, H a = some o → isMu o = false → H' a = some o
theorem Xm.refl (H : Hp) : Xm H H := fun _ _ h _ => h
theorem Xm.of {H H' : Hp} (e : Xn H H') : Xm H H' := fun a o h n => e.kp a o h (tb_mu n)
theorem tup_xm {K : PySem.W.Frag} {H H' : Hp} {a : Addr} {xs : List V} (e : Xm H H') (h : SqT K H a xs) : SqT K H' a xs := by
  rcases h with (h | ⟨o, h⟩) | h
  · exact .inl (.inl (e _ _ h rfl))
  · exact .inl (.inr ⟨o, e _ _ h rfl⟩)
  · exact .inr h
theorem bag_xm {H H' : Hp} {b : Addr} (e : Xm H H') (h : Bag H b) : Bag H' b :=
  let ⟨l, o, cs, h1, h2, h3, h4⟩ := h
  ⟨l, o, cs, e _ _ h1 rfl, e _ _ h2 rfl, h3, h4⟩
def Stb (F : Fz) (H H' : Hp) : Prop := ∀ a o, H a = some o → (isMu o = false ∨ (F a ∧ isTb o = false)) → H' a = some o
section
variable {K : PySem.W.Frag} {d : Cn → Addr} {F F' F1 F2 : Fz} {H H' H1 H2 H0 : Hp}
theorem Stb.xl (e : Stb F H H') : Xm H H' := fun a o h n => e a o h (.inl n)
theorem Stb.of (e : Xn H H') : Stb F H H' := fun a o h z => e.kp a o h (z.elim tb_mu fun q => q.2)
theorem Stb.refl : Stb F H H := fun _ _ h _ => h
theorem Stb.set {a : Addr} {vs : List V} {o : HO} (ha : H a = some (.lst vs)) (nf : ¬ F a) : Stb F H (upd H a o) := fun b q hb z => by
  have ne : b ≠ a := by
    rintro rfl
    rw [ha] at hb
    cases hb
    rcases z with z | z
    · cases z
    · exact nf z.1
  rw [upd_ne ne]
  exact hb
theorem ScrOk.mono {a : Addr} {xs : List V} (h : ScrOk K F H a xs) (e : Stb F H H') (f : ∀ a, F a → F' a) : ScrOk K F' H' a xs := by
  rcases h with ⟨h, q⟩ | ⟨o, h⟩ | h
  · exact .inl ⟨e _ _ h (.inr ⟨q, rfl⟩), f _ q⟩
  · exact .inr (.inl ⟨o, e _ _ h (.inl rfl)⟩)
  · exact .inr (.inr h)
mutual
theorem Rv.mono (e : Stb F H H') (f : ∀ a, F a → F' a) : ∀ {v : V} {x : PV}, Rv K d F H v x → Rv K d F' H' v x
  | _, _, .non => .non
  | _, _, .bl b => .bl b
  | _, _, .int i => .int i
  | _, _, .str x => .str x
  | _, _, .ty n => .ty n
  | _, _, .cls c => .cls c
  | _, _, .lst h1 h2 h3 => .lst (e _ _ h1 (.inr ⟨h2, rfl⟩)) (f _ h2) (Rvs.mono e f h3)
  | _, _, .tup h1 h2 => .tup (tup_xm e.xl h1) (Rvs.mono e f h2)
  | _, _, .ins h1 h2 => .ins (e _ _ h1 (.inl rfl)) (Rvf.mono e f h2)
  | _, _, .bag h => .bag (bag_xm e.xl h)
  | _, _, .scr h1 h2 => .scr (h1.mono e f) h2
  | _, _, .fnv h1 h2 => .fnv (e _ _ h1 (.inl rfl)) (Rvs.mono e f h2)
  | _, _, .dct h1 h2 => .dct (e _ _ h1 (.inr ⟨h2, rfl⟩)) (f _ h2)
  | _, _, .idv h => .idv (Rv.mono e f h)
theorem Rvs.mono (e : Stb F H H') (f : ∀ a, F a → F' a) : ∀ {vs : List V} {xs : List PV}, Rvs K d F H vs xs → Rvs K d F' H' vs xs
  | _, _, .nil => .nil
  | _, _, .cons a b => .cons (Rv.mono e f a) (Rvs.mono e f b)
theorem Rvf.mono (e : Stb F H H') (f : ∀ a, F a → F' a) : ∀ {vs : List (Str × V)} {xs : List (Str × PV)}, Rvf K d F H vs xs → Rvf K d F' H' vs xs
  | _, _, .nil => .nil
  | _, _, .cons a b => .cons (Rv.mono e f a) (Rvf.mono e f b)
end
theorem Rvs.length : ∀ {vs : List V} {xs : List PV}, Rvs K d F H vs xs → vs.length = xs.length
  | _, _, .nil => rfl
  | _, _, .cons _ b => by rw [List.length_cons, List.length_cons, b.length]
theorem Rvs.get : ∀ {vs : List V} {xs : List PV} {i : Nat} {x : PV}, Rvs K d F H vs xs → xs[i]? = some x → ∃ v, vs[i]? = some v ∧ Rv K d F H v x
  | _, _, _, _, .nil, h => by simp at h
  | _, _, 0, _, .cons a b, h => by simp at h; subst h; exact ⟨_, rfl, a⟩
  | _, _, i + 1, _, .cons a b, h => by
    obtain ⟨v, h1, h2⟩ := Rvs.get (i := i) b (by simpa using h)
    exact ⟨v, by simpa using h1, h2⟩
theorem Rvs.getV : ∀ {vs : List V} {xs : List PV} {i : Nat} {v : V}, Rvs K d F H vs xs → vs[i]? = some v → ∃ x, xs[i]? = some x ∧ Rv K d F H v x
  | _, _, _, _, .nil, h => by simp at h
  | _, _, 0, _, .cons a b, h => by simp at h; subst h; exact ⟨_, rfl, a⟩
  | _, _, i + 1, _, .cons a b, h => by
    obtain ⟨v, h1, h2⟩ := Rvs.getV (i := i) b (by simpa using h)
    exact ⟨v, by simpa using h1, h2⟩
theorem Rvs.append : ∀ {vs ws : List V} {xs ys : List PV}, Rvs K d F H vs xs → Rvs K d F H ws ys → Rvs K d F H (vs ++ ws) (xs ++ ys)
  | _, _, _, _, .nil, s => s
  | _, _, _, _, .cons a b, s => .cons a (b.append s)
theorem Rvs.take : ∀ {vs : List V} {xs : List PV} (n : Nat), Rvs K d F H vs xs → Rvs K d F H (vs.take n) (xs.take n)
  | _, _, 0, _ => .nil
  | _, _, _ + 1, .nil => .nil
  | _, _, n + 1, .cons a b => .cons a (b.take n)
theorem Rvs.drop : ∀ {vs : List V} {xs : List PV} (n : Nat), Rvs K d F H vs xs → Rvs K d F H (vs.drop n) (xs.drop n)
  | _, _, 0, r => r
  | _, _, _ + 1, .nil => .nil
  | _, _, n + 1, .cons _ b => b.drop n
theorem Rvs.set {x : PV} {v : V} (r : Rv K d F H v x) : ∀ {vs : List V} {xs : List PV} (i : Nat), Rvs K d F H vs xs → Rvs K d F H (vs.set i v) (xs.set i x)
  | _, _, _, .nil => .nil
  | _, _, 0, .cons _ b => .cons r b
  | _, _, i + 1, .cons a b => .cons a (b.set r i)
theorem Rvs.reverse : ∀ {vs : List V} {xs : List PV}, Rvs K d F H vs xs → Rvs K d F H vs.reverse xs.reverse
  | _, _, .nil => .nil
  | _, _, .cons a b => by
    rw [List.reverse_cons, List.reverse_cons]
    exact b.reverse.append (.cons a .nil)
theorem Rvs.flat {vs : List V} {xs : List PV} (r : Rvs K d F H vs xs) : ∀ n : Nat, Rvs K d F H (List.replicate n vs).flatten (List.replicate n xs).flatten
  | 0 => .nil
  | n + 1 => by
    rw [List.replicate_succ, List.replicate_succ, List.flatten_cons, List.flatten_cons]
    exact r.append (r.flat n)
def cutP (xs : List PV) (lo hi : Option Int) : List PV := (xs.drop (HT.sIx xs.length 0 lo)).take (HT.sIx xs.length xs.length hi - HT.sIx xs.length 0 lo)
theorem Rvs.ints : ∀ {vs : List V} {ns : List Int}, Rvs K d F H vs (ns.map PV.int) → vs = ns.map V.int
  | [], [], _ => rfl
  | [], _ :: _, h => by cases h
  | _ :: _, [], h => by cases h
  | v :: vs, n :: ns, .cons a b => by
    cases a
    rw [List.map_cons, b.ints]
theorem Rvs.of_ints : ∀ (ns : List Int), Rvs K d F H (ns.map V.int) (ns.map PV.int)
  | [] => .nil
  | n :: ns => .cons (.int n) (Rvs.of_ints ns)
theorem Rvs.bools : ∀ {vs : List V} {ns : List Bool}, Rvs K d F H vs (ns.map PV.bl) → vs = ns.map V.bl
  | [], [], _ => rfl
  | [], _ :: _, h => by cases h
  | _ :: _, [], h => by cases h
  | v :: vs, n :: ns, .cons a b => by
    cases a
    rw [List.map_cons, b.bools]
theorem Rvf.look : ∀ {gs : List (Str × V)} {fs : List (Str × PV)} {f : Str} {x : PV}, Rvf K d F H gs fs → fs.lookup f = some x → ∃ v, gs.lookup f = some v ∧ Rv K d F H v x
  | _, _, _, _, .nil, h => by simp at h
  | _, _, f, _, .cons (f := g) a b, h => by
    rw [List.lookup_cons] at h ⊢
    cases e : (f == g) with
    | true =>
      rw [e] at h
      simp at h
      subst h
      exact ⟨_, rfl, a⟩
    | false =>
      rw [e] at h
      exact b.look h
theorem Rvf.none : ∀ {gs : List (Str × V)} {fs : List (Str × PV)} {f : Str}, Rvf K d F H gs fs → fs.lookup f = none → gs.lookup f = none
  | _, _, _, .nil, _ => rfl
  | _, _, f, .cons (f := g) a b, h => by
    rw [List.lookup_cons] at h ⊢
    cases e : (f == g) with
    | true => rw [e] at h; simp at h
    | false =>
      rw [e] at h
      exact b.none h
theorem Rvf.length : ∀ {gs : List (Str × V)} {fs : List (Str × PV)}, Rvf K d F H gs fs → gs.length = fs.length
  | _, _, .nil => rfl
  | _, _, .cons _ b => by rw [List.length_cons, List.length_cons, b.length]
structure Dom (F : Fz) (H : Hp) : Prop where
  at_ : ∀ a, F a → H a ≠ none
  tb : TabsR H
theorem Dom.ex (h : Dom F H) (e : Ex H H') : Dom F H' := ⟨fun a f z => h.at_ a f (fresh_back e z), h.tb.ex e⟩
theorem Dom.set {p : Addr} {o : HO} {xs : List V} (h : Dom F H) (hp : H p = some (.lst xs)) : Dom F (upd H p o) := ⟨fun a f => upd_def (h.at_ a f), h.tb.mut hp rfl rfl⟩
theorem Dom.of (h : Dom F H) (q : ∀ a, F' a → H a ≠ none) : Dom F' H := ⟨q, h.tb⟩
structure Step (F : Fz) (H : Hp) (F' : Fz) (H' : Hp) : Prop where
  ex : Xn H H'
  up : ∀ a, F a → F' a
  nw : ∀ a, F' a → F a ∨ H a = none
  dm : Dom F' H'
theorem Step.trans (a : Step F H F1 H1) (b : Step F1 H1 F2 H2) : Step F H F2 H2 :=
  ⟨a.ex.trans b.ex, fun x h => b.up x (a.up x h), fun x h => (b.nw x h).elim (fun z => a.nw x z) fun z => .inr (back_x a.ex z), b.dm⟩
theorem Step.refl (h : Dom F H) : Step F H F H := ⟨Xn.refl H, fun _ h => h, fun _ h => .inl h, h⟩
theorem Step.to (h : Dom F H) (e : Ex H H') : Step F H F H' := ⟨.of e, fun _ h => h, fun _ h => .inl h, h.ex e⟩
structure Xt (H H' : Hp) : Prop where
  xn : Xn H H'
  tb : TabsR H'
theorem Xt.refl (h : Dom F H) : Xt H H := ⟨.refl H, h.tb⟩
theorem Xt.trans (a : Xt H H1) (b : Xt H1 H2) : Xt H H2 := ⟨a.xn.trans b.xn, b.tb⟩
theorem Step.xt (s : Step F H F' H') : Xt H H' := ⟨s.ex, s.dm.tb⟩
theorem Dom.xt (h : Dom F H) (e : Xt H H') : Dom F H' := ⟨fun a f => e.xn.dm a (h.at_ a f), e.tb⟩
theorem Step.tox (h : Dom F H) (e : Xt H H') : Step F H F H' := ⟨e.xn, fun _ h => h, fun _ h => .inl h, h.xt e⟩
theorem Rv.step {v : V} {x : PV} (s : Step F H F' H') (h : Rv K d F H v x) : Rv K d F' H' v x := h.mono (.of s.ex) s.up
theorem Rvs.step {v : List V} {x : List PV} (s : Step F H F' H') (h : Rvs K d F H v x) : Rvs K d F' H' v x := h.mono (.of s.ex) s.up
def plus (F : Fz) (p : Addr) : Fz := fun a => F a ∨ a = p
theorem Step.keep {p : Addr} (s : Step F H F' H') (n : H p = none) (h : H' p ≠ none) : Step F H (plus F' p) H' :=
  ⟨s.ex, fun a f => .inl (s.up a f), fun a f => f.elim (s.nw a) fun e => .inr (e ▸ n), s.dm.of fun a f => f.elim (s.dm.at_ a) fun e => e ▸ h⟩
theorem Step.new {p : Addr} {o : HO} (dm : Dom F H) (n : H p = none) : Step F H F (upd H p o) := Step.to dm (Ex.new n)
def notL : PV → Prop
  | .lst _ => False
  | _ => True
abbrev RR := Fz → Hp → Fz → Hp → V → PV → Prop
def rS (K : PySem.W.Frag) (d : Cn → Addr) : RR := fun _ _ F' H' v x => Rv K d F' H' v x
def rN (K : PySem.W.Frag) (d : Cn → Addr) : RR := fun _ H F' H' v x => (notL x ∧ Rv K d F' H' v x) ∨ ∃ p vs xs, v = .ref p ∧ x = .lst xs ∧ H p = none ∧ H' p = some (.lst vs) ∧ ¬ F' p ∧ Rvs K d F' H' vs xs
def Rw (K : PySem.W.Frag) (d : Cn → Addr) (F : Fz) (H : Hp) (v : V) (x : PV) : Prop := Rv K d F H v x ∨ ∃ p vs xs, v = .ref p ∧ x = .lst xs ∧ H p = some (.lst vs) ∧ Rvs K d F H vs xs
def rW (K : PySem.W.Frag) (d : Cn → Addr) : RR := fun _ _ F' H' v x => Rw K d F' H' v x
theorem Rw.dctE {v : V} {a : Addr} {kvs : List (Key × Int)} (h : Rw K d F H v (.dct a kvs)) : v = .ref a ∧ H a = some (.dK (dkV kvs)) ∧ F a := by
  rcases h with h | ⟨_, _, _, _, e, _⟩
  · cases h with
    | dct h1 h2 => exact ⟨rfl, h1, h2⟩
  · cases e
theorem Rw.idvE {v : V} {a : Addr} {x : PV} (h : Rw K d F H v (.idv a x)) : v = .ref a ∧ Rv K d F H (.ref a) x := by
  rcases h with h | ⟨_, _, _, _, e, _⟩
  · cases h with
    | idv h => exact ⟨rfl, h⟩
  · cases e
theorem Rw.step {v : V} {x : PV} (s : Step F H F' H') (h : Rw K d F H v x) : Rw K d F' H' v x := by
  rcases h with h | ⟨p, vs, xs, rfl, rfl, h1, h2⟩
  · exact .inl (h.step s)
  · exact .inr ⟨p, vs, xs, rfl, rfl, s.ex.at h1, h2.step s⟩
theorem Rw.lst {v : V} {xs : List PV} (h : Rw K d F H v (.lst xs)) : ∃ p vs, v = .ref p ∧ H p = some (.lst vs) ∧ Rvs K d F H vs xs := by
  rcases h with h | ⟨p, vs, ys, rfl, e, h1, h2⟩
  · cases h with
    | lst h1 h2 h3 => exact ⟨_, _, rfl, h1, h3⟩
  · cases e
    exact ⟨p, vs, rfl, h1, h2⟩
theorem Rw.of {v : V} {x : PV} (h : Rw K d F H v x) (n : notL x) : Rv K d F H v x := by
  rcases h with h | ⟨p, vs, ys, rfl, rfl, h1, h2⟩
  · exact h
  · exact n.elim
theorem Rv.tupE {v : V} {xs : List PV} (h : Rv K d F H v (.tup xs)) : ∃ p vs, v = .ref p ∧ SqT K H p vs ∧ Rvs K d F H vs xs := by
  cases h with
  | tup h1 h2 => exact ⟨_, _, rfl, h1, h2⟩
theorem Rv.insE {v : V} {c : Cn} {fs : List (Str × PV)} (h : Rv K d F H v (.ins c fs)) : ∃ p dx gs, v = .ref p ∧ H p = some (.ins (d c) dx gs) ∧ Rvf K d F H gs fs := by
  cases h with
  | ins h1 h2 => exact ⟨_, _, _, rfl, h1, h2⟩
structure ROk (R : RR) : Prop where
  back : ∀ {F H F1 H1 F2 H2 v x}, Step F H F1 H1 → R F1 H1 F2 H2 v x → R F H F2 H2 v x
theorem okS : ROk (rS K d) := ⟨fun _ h => h⟩
theorem okN : ROk (rN K d) := ⟨fun s h => by
  rcases h with h | ⟨p, vs, xs, h1, h2, h3, h4⟩
  · exact .inl h
  · exact .inr ⟨p, vs, xs, h1, h2, back_x s.ex h3, h4⟩⟩
theorem rN_S {v : V} {x : PV} (s : Step F H F' H') (h : rN K d F H F' H' v x) : ∃ F2, Step F H F2 H' ∧ Rv K d F2 H' v x := by
  rcases h with h | ⟨p, vs, xs, rfl, rfl, h1, h2, h3, h4⟩
  · exact ⟨F', s, h.2⟩
  · exact ⟨plus F' p, s.keep h1 (by rw [h2]; intro z; cases z), .lst h2 (.inr rfl) (h4.mono .refl fun a z => .inl z)⟩
theorem rN_W {v : V} {x : PV} (h : rN K d F H F' H' v x) : Rw K d F' H' v x := by
  rcases h with h | ⟨p, vs, xs, rfl, rfl, h1, h2, h3, h4⟩
  · exact .inl h.2
  · exact .inr ⟨p, vs, xs, rfl, rfl, h2, h4⟩
inductive Tag where
  | sh | ow | no | od | ex
  deriving DecidableEq
class XC where
  h : Fz → Hp → Prop
  a : Addr
  o : Option Addr
  fs : List (Str × PV)
  nw : Bool
def XdN (H0 : Hp) (gs : List (Str × V)) (fs : List (Str × PV)) : Prop := ∀ (k : Nat) (f : Str) (v : V) (ys : List PV), gs[k]? = some (f, v) → fs[k]? = some (f, .lst ys) → ∃ p, v = .ref p ∧ H0 p = none
def Exv [X : XC] (K : PySem.W.Frag) (d : Cn → Addr) (ts : List Tag) (H0 : Hp) (F : Fz) (H : Hp) (σ : L2.St) : Prop := ∀ i : Nat, ts[i]? = some .ex → σ[i]? = some (some (.ref X.a)) ∧ ∀ dd, X.o = some dd → ∃ gs, H dd = some (.xd gs) ∧ Rvf K d F H gs X.fs ∧ (X.nw = true → XdN H0 gs X.fs)
theorem Exv.mono [X : XC] {ts : List Tag} {σ : L2.St} (e : Stb F H H') (f : ∀ a, F a → F' a) (h : Exv K d ts H0 F H σ) : Exv K d ts H0 F' H' σ := fun i hi => by
  obtain ⟨h1, h2⟩ := h i hi
  refine ⟨h1, fun dd hd => ?_⟩
  obtain ⟨gs, g1, g2, g3⟩ := h2 dd hd
  exact ⟨gs, e _ _ g1 (.inl rfl), g2.mono e f, g3⟩
theorem Exv.set [X : XC] {ts : List Tag} {σ : L2.St} {i : Nat} {t : Tag} {v : Option V} (ht : t ≠ .ex) (h : Exv K d ts H0 F H σ) : Exv K d (ts.set i t) H0 F H (σ.set i v) := fun j hj => by
  rw [List.getElem?_set] at hj
  split at hj
  · split at hj
    · cases hj
      exact absurd rfl ht
    · cases hj
  · next e =>
    rw [List.getElem?_set_ne e]
    exact h j hj
def Hk (o : HO) (ws : List V) : Prop := o = .lst ws ∨ o = .tup ws ∨ ((∃ kvs, o = .dK (dkV kvs)) ∧ ws = [])
def Ht (H : Hp) (c : Addr) (ws : List V) : Prop := ∃ o, H c = some o ∧ Hk o ws
def Hx (H : Hp) (c : Addr) (ws : List V) (x : PV) (zs : List PV) : Prop := (H c = some (.lst ws) ∧ x = .lst zs) ∨ (H c = some (.tup ws) ∧ x = .tup zs) ∨ ∃ kvs, H c = some (.dK (dkV kvs)) ∧ x = .dct c kvs ∧ ws = [] ∧ zs = []
theorem Hk.tb {o : HO} {ws : List V} (h : Hk o ws) : isTb o = false := by
  rcases h with rfl | rfl | ⟨⟨_, rfl⟩, _⟩ <;> rfl
theorem Hk.inj {o : HO} {ws ws' : List V} (h : Hk o ws) (h' : Hk o ws') : ws = ws' := by
  rcases h with rfl | rfl | ⟨⟨_, rfl⟩, rfl⟩ <;> rcases h' with e | e | ⟨⟨_, e⟩, e2⟩ <;> first | (cases e; rfl) | cases e | exact e2.symm
theorem Ht.lst {H : Hp} {c : Addr} {ws : List V} (h : H c = some (.lst ws)) : Ht H c ws := ⟨_, h, .inl rfl⟩
theorem Ht.at {H H' : Hp} {c : Addr} {ws : List V} (h : Ht H c ws) (e : Xn H H') : Ht H' c ws := let ⟨o, h1, h2⟩ := h; ⟨o, e.kp _ _ h1 h2.tb, h2⟩
theorem Ht.inj {H : Hp} {c : Addr} {ws ws' : List V} (h : Ht H c ws) (h' : Ht H c ws') : ws = ws' := by
  obtain ⟨o, h1, h2⟩ := h
  obtain ⟨o', h3, h4⟩ := h'
  rw [h1] at h3
  cases h3
  exact h2.inj h4
theorem Ht.some {H : Hp} {c : Addr} {ws : List V} (h : Ht H c ws) : H c ≠ none := by
  obtain ⟨o, h1, _⟩ := h
  rw [h1]; intro z; cases z
theorem Ht.same {H H' : Hp} {c : Addr} {ws : List V} (h : Ht H c ws) (e : H' c = H c) : Ht H' c ws := by unfold Ht; rw [e]; exact h
theorem Hx.lst {H : Hp} {c : Addr} {ws : List V} {zs : List PV} (h : H c = Option.some (.lst ws)) : Hx H c ws (.lst zs) zs := .inl ⟨h, rfl⟩
theorem Hx.ht {H : Hp} {c : Addr} {ws : List V} {x : PV} {zs : List PV} (h : Hx H c ws x zs) : Ht H c ws := by
  rcases h with ⟨h, _⟩ | ⟨h, _⟩ | ⟨kvs, h, _, e, _⟩
  · exact ⟨_, h, .inl rfl⟩
  · exact ⟨_, h, .inr (.inl rfl)⟩
  · exact ⟨_, h, .inr (.inr ⟨⟨_, rfl⟩, e⟩)⟩
theorem Hx.at {H H' : Hp} {c : Addr} {ws : List V} {x : PV} {zs : List PV} (h : Hx H c ws x zs) (e : Xn H H') : Hx H' c ws x zs := by
  rcases h with ⟨h, q⟩ | ⟨h, q⟩ | ⟨kvs, h, q⟩
  · exact .inl ⟨e.at h, q⟩
  · exact .inr (.inl ⟨e.at h, q⟩)
  · exact .inr (.inr ⟨kvs, e.at h, q⟩)
theorem Hx.same {H H' : Hp} {c : Addr} {ws : List V} {x : PV} {zs : List PV} (h : Hx H c ws x zs) (e : H' c = H c) : Hx H' c ws x zs := by unfold Hx; rw [e]; exact h
def Dpl (H : Hp) (σ : L2.St) (i : Nat) (a : Addr) : Prop := ∃ (c : Addr) (ws : List V), σ[i]? = some (some (.ref c)) ∧ Ht H c ws ∧ (a = c ∨ V.ref a ∈ ws)
def Sc (K : PySem.W.Frag) (d : Cn → Addr) (w : V) (z : PV) : Prop := (∀ a, w ≠ .ref a) ∧ ∀ F H, Rv K d F H w z
def OdI (K : PySem.W.Frag) (d : Cn → Addr) (H0 : Hp) (F : Fz) (H : Hp) (w : V) (z : PV) : Prop := (∃ (b : Addr) (us : List V) (ys : List PV), w = .ref b ∧ z = .lst ys ∧ H b = some (.lst us) ∧ ¬ F b ∧ H0 b = none ∧ Rvs K d F H us ys) ∨ Sc K d w z
def Uq (ws : List V) : Prop := ∀ (k l : Nat) (a : Addr), ws[k]? = some (.ref a) → ws[l]? = some (.ref a) → k = l
def OdL (K : PySem.W.Frag) (d : Cn → Addr) (H0 : Hp) (F : Fz) (H : Hp) (v : V) (x : PV) : Prop := ∃ (c : Addr) (ws : List V) (zs : List PV), v = .ref c ∧ Hx H c ws x zs ∧ Ht H c ws ∧ ¬ F c ∧ H0 c = none ∧ V.ref c ∉ ws ∧ Uq ws ∧ ws.length = zs.length ∧
  ∀ (k : Nat) (w : V) (z : PV), ws[k]? = some w → zs[k]? = some z → OdI K d H0 F H w z
structure EnvR [X : XC] (K : PySem.W.Frag) (d : Cn → Addr) (ts : List Tag) (H0 : Hp) (F0 F : Fz) (H : Hp) (σ : L2.St) (ρ : List PV) : Prop where
  st : Step F0 H0 F H
  ls : σ.length = ts.length
  lr : ρ.length = ts.length
  sh : ∀ i : Nat, ts[i]? = some .sh → ∃ v x, σ[i]? = some (some v) ∧ ρ[i]? = some x ∧ Rv K d F H v x
  ow : ∀ i : Nat, ts[i]? = some .ow → ∃ a vs xs, σ[i]? = some (some (.ref a)) ∧ ρ[i]? = some (.lst xs) ∧ H a = some (.lst vs) ∧ ¬ F a ∧ H0 a = none ∧ Rvs K d F H vs xs
  ap : ∀ (i j : Nat) (a : Addr), ts[i]? = some .ow → ts[j]? = some .ow → σ[i]? = some (some (.ref a)) → σ[j]? = some (some (.ref a)) → i = j
  od : ∀ i : Nat, ts[i]? = some .od → ∃ v x, σ[i]? = some (some v) ∧ ρ[i]? = some x ∧ OdL K d H0 F H v x
  ad : ∀ (i : Nat) (a : Addr), ts[i]? = some .od → Dpl H σ i a → (∀ j : Nat, ts[j]? = some .ow → σ[j]? ≠ some (some (.ref a))) ∧ ∀ j : Nat, ts[j]? = some .od → Dpl H σ j a → i = j
  xc : X.h F0 H0
  ex : Exv K d ts H0 F H σ
variable [X : XC]
variable {ts ts' : List Tag} {F0 : Fz} {σ : L2.St} {ρ : List PV}
theorem EnvR.dm (E : EnvR K d ts H0 F0 F H σ ρ) : Dom F H := E.st.dm
theorem OdL.to {d : Cn → Addr} {H0 : Hp} {x : PV} (h : OdL K d H0 F H v x) (ex : Xn H H') (nw : ∀ a, F' a → F a ∨ H a = none) (m : ∀ {us : List V} {ys : List PV}, Rvs K d F H us ys → Rvs K d F' H' us ys) : OdL K d H0 F' H' v x := by
  obtain ⟨c, bs, yss, h1, h2, h3, h4, h5, h6, h7, h8, h9⟩ := h
  have nf : ∀ {a : Addr} {o : HO}, H a = some o → ¬ F a → ¬ F' a := fun {a o} q n z => (nw a z).elim n fun e => by rw [q] at e; cases e
  refine ⟨c, bs, yss, h1, h2.at ex, h3.at ex, nf h3.choose_spec.1 h4, h5, h6, h7, h8, fun k w z k1 k2 => ?_⟩
  rcases h9 k w z k1 k2 with ⟨b, us, ys, e1, e2, u1, u2, u3, u4⟩ | s
  · exact .inl ⟨b, us, ys, e1, e2, ex.at u1, nf u1 u2, u3, m u4⟩
  · exact .inr s
theorem OdL.have_ {d : Cn → Addr} {H0 : Hp} {x : PV} (h : OdL K d H0 F H v x) {σ : L2.St} {i : Nat} (hs : σ[i]? = some (some v)) {a : Addr} (q : Dpl H σ i a) : H a ≠ none ∧ ¬ F a ∧ H0 a = none ∧ ∃ (c : Addr) (ws : List V), v = .ref c ∧ Ht H c ws ∧ (a = c ∨ V.ref a ∈ ws) := by
  obtain ⟨c, bs, yss, rfl, h2, h3, h4, h5, h6, h7, h8, h9⟩ := h
  obtain ⟨c', bs', q1, q2, q3⟩ := q
  rw [hs] at q1
  cases q1
  cases h3.inj q2
  have it : V.ref a ∈ bs → ∃ us, H a = some (.lst us) ∧ ¬ F a ∧ H0 a = none := fun q3 => by
    obtain ⟨k, hk, e⟩ := List.mem_iff_getElem.mp q3
    rcases h9 k (.ref a) _ (by rw [List.getElem?_eq_getElem hk, e]) (List.getElem?_eq_getElem (by omega)) with ⟨b, us, ys, e1, e2, u1, u2, u3, u4⟩ | s
    · cases e1
      exact ⟨us, u1, u2, u3⟩
    · exact absurd rfl (s.1 a)
  refine ⟨?_, ?_, ?_, c, bs, rfl, h3, q3⟩ <;> rcases q3 with rfl | q3
  · exact h3.some
  · obtain ⟨us, u1, _⟩ := it q3
    rw [u1]; intro z; cases z
  · exact h4
  · exact (it q3).choose_spec.2.1
  · exact h5
  · exact (it q3).choose_spec.2.2
theorem EnvR.back (E : EnvR K d ts H0 F0 F H σ ρ) (ex : Xn H H') {i : Nat} {a : Addr} (h : ts[i]? = some .od) (q : Dpl H' σ i a) : Dpl H σ i a := by
  obtain ⟨v, x, h1, h2, h3⟩ := E.od i h
  obtain ⟨c, bs, yss, rfl, _, g, _⟩ := h3
  obtain ⟨c', bs', q1, q2, q3⟩ := q
  rw [h1] at q1
  cases q1
  cases (g.at ex).inj q2
  exact ⟨c, _, h1, g, q3⟩
theorem EnvR.step (E : EnvR K d ts H0 F0 F H σ ρ) (s : Step F H F' H') : EnvR K d ts H0 F0 F' H' σ ρ where
  st := E.st.trans s
  ls := E.ls
  lr := E.lr
  sh := fun i h => let ⟨v, x, h1, h2, h3⟩ := E.sh i h; ⟨v, x, h1, h2, h3.step s⟩
  ow := fun i h => by
    obtain ⟨a, vs, xs, h1, h2, h3, h4, h5, h6⟩ := E.ow i h
    refine ⟨a, vs, xs, h1, h2, s.ex.at h3, fun z => ?_, h5, h6.step s⟩
    rcases s.nw a z with z | z
    · exact h4 z
    · rw [h3] at z
      cases z
  ap := E.ap
  od := fun i h => let ⟨v, x, h1, h2, h3⟩ := E.od i h; ⟨v, x, h1, h2, h3.to s.ex (fun a z => s.nw a z) fun r => r.step s⟩
  ad := fun i a h q => by
    obtain ⟨q1, q2⟩ := E.ad i a h (E.back s.ex h q)
    exact ⟨q1, fun j hj z => q2 j hj (E.back s.ex hj z)⟩
  xc := E.xc
  ex := E.ex.mono (.of s.ex) s.up
def shr (ts : List Tag) : List Tag := ts.map fun t => match t with | .ow => .sh | .od => .sh | t => t
def cv1 : Tag → Tag → Bool
  | _, .no => true
  | .sh, .sh => true
  | .ow, .sh => true
  | .ow, .ow => true
  | .od, .od => true
  | .od, .sh => true
  | .ex, .ex => true
  | _, _ => false
def cv : List Tag → List Tag → Bool
  | [], [] => true
  | a :: as, b :: bs => cv1 a b && cv as bs
  | _, _ => false
theorem cv_get : ∀ {as bs : List Tag}, cv as bs = true → as.length = bs.length ∧ ∀ (i : Nat) (b : Tag), bs[i]? = some b → ∃ a, as[i]? = some a ∧ cv1 a b = true
  | [], [], _ => ⟨rfl, fun i b h => by simp at h⟩
  | [], _ :: _, h => by cases h
  | _ :: _, [], h => by cases h
  | a :: as, b :: bs, h => by
    have h1 : (cv1 a b && cv as bs) = true := h
    rw [Bool.and_eq_true] at h1
    obtain ⟨l, g⟩ := cv_get h1.2
    refine ⟨by rw [List.length_cons, List.length_cons, l], fun i c hc => ?_⟩
    cases i with
    | zero =>
      simp at hc
      subst hc
      exact ⟨a, rfl, h1.1⟩
    | succ i =>
      obtain ⟨x, hx, q⟩ := g i c (by simpa using hc)
      exact ⟨x, by simpa using hx, q⟩
theorem cv_shr : ∀ ts : List Tag, cv ts (shr ts) = true
  | [] => rfl
  | a :: as => by
    show (cv1 a _ && cv as (shr as)) = true
    rw [cv_shr as]
    cases a <;> rfl
theorem EnvR.convP (E : EnvR K d ts H0 F0 F H σ ρ) (c : cv ts ts' = true) : ∃ F', (∀ a, F a → F' a) ∧ (∀ (i : Nat) (a : Addr), ts[i]? = some .od → ts'[i]? = some .sh → Dpl H σ i a → F' a) ∧ EnvR K d ts' H0 F0 F' H σ ρ := by
  obtain ⟨cl, cg⟩ := cv_get c
  let F' : Fz := fun a => F a ∨ (∃ i : Nat, ts[i]? = some .ow ∧ ts'[i]? = some .sh ∧ σ[i]? = some (some (.ref a))) ∨ ∃ i : Nat, ts[i]? = some .od ∧ ts'[i]? = some .sh ∧ Dpl H σ i a
  have up : ∀ a, F a → F' a := fun a h => .inl h
  have nwo : ∀ a, F' a → F a ∨ (H0 a = none ∧ H a ≠ none) := fun a h => h.elim .inl fun h => h.elim (fun ⟨i, h1, _, h2⟩ => by
    obtain ⟨b, vs, xs, g1, g2, g3, g4, g5, g6⟩ := E.ow i h1
    rw [h2] at g1
    cases g1
    exact .inr ⟨g5, by rw [g3]; intro z; cases z⟩) fun ⟨i, h1, _, h2⟩ => by
    obtain ⟨v, x, g1, g2, g3⟩ := E.od i h1
    obtain ⟨k1, k2, k3, _⟩ := g3.have_ g1 h2
    exact .inr ⟨k3, k1⟩
  have oo : ∀ k : Nat, ts'[k]? = some .ow → ts[k]? = some .ow := fun k hk => by
    obtain ⟨t, ht, q⟩ := cg k _ hk
    cases t with
    | ow => exact ht
    | sh => cases q
    | no => cases q
    | od => cases q
    | ex => cases q
  have dd : ∀ k : Nat, ts'[k]? = some .od → ts[k]? = some .od := fun k hk => by
    obtain ⟨t, ht, q⟩ := cg k _ hk
    cases t with
    | ow => cases q
    | sh => cases q
    | no => cases q
    | od => exact ht
    | ex => cases q
  refine ⟨F', up, fun i a h1 h2 h3 => .inr (.inr ⟨i, h1, h2, h3⟩), ⟨⟨E.st.ex, fun a h => up a (E.st.up a h), fun a h => (nwo a h).elim (E.st.nw a) fun z => .inr z.1, E.dm.of fun a h => (nwo a h).elim (E.dm.at_ a) fun z => z.2⟩, by rw [E.ls, cl], by rw [E.lr, cl], fun i h => ?_, fun i h => ?_, fun i j a h1 h2 h3 h4 => ?_, fun i h => ?_, fun i a h q => ?_, E.xc, fun i h => ?_⟩⟩
  rotate_right
  · obtain ⟨t, ht, q⟩ := cg i _ h
    cases t with
    | ex => exact E.ex.mono .refl up i ht
    | sh => cases q
    | ow => cases q
    | no => cases q
    | od => cases q
  · obtain ⟨t, ht, q⟩ := cg i _ h
    cases t with
    | sh =>
      obtain ⟨v, x, h1, h2, h3⟩ := E.sh i ht
      exact ⟨v, x, h1, h2, h3.mono .refl up⟩
    | ow =>
      obtain ⟨a, vs, xs, h1, h2, h3, h4, h5, h6⟩ := E.ow i ht
      exact ⟨_, _, h1, h2, .lst h3 (.inr (.inl ⟨i, ht, h, h1⟩)) (h6.mono .refl up)⟩
    | no => cases q
    | ex => cases q
    | od =>
      obtain ⟨v, x, h1, h2, h3⟩ := E.od i ht
      obtain ⟨c, bs, yss, rfl, hx, h4, h5, h6, h7, h8, h9, h10⟩ := h3
      have all : ∀ (bs2 : List V) (yss2 : List PV), bs2.length = yss2.length → (∀ b ∈ bs2, b ∈ bs) → (∀ (k : Nat) (w : V) (z : PV), bs2[k]? = some w → yss2[k]? = some z → OdI K d H0 F H w z) → Rvs K d F' H bs2 yss2 := by
        intro bs2
        induction bs2 with
        | nil => intro yss2 e _ _; cases yss2 with
          | nil => exact .nil
          | cons => cases e
        | cons b bs2 ih => intro yss2 e m q; cases yss2 with
          | nil => cases e
          | cons ys yss2 =>
            refine .cons ?_ (ih yss2 (by simpa using e) (fun b' hb => m b' (List.mem_cons_of_mem _ hb)) fun k b' ys' k1 k2 => q (k + 1) b' ys' k1 k2)
            rcases q 0 b ys rfl rfl with ⟨p, us, zs, rfl, rfl, u1, u2, u3, u4⟩ | s
            · exact .lst u1 (.inr (.inr ⟨i, ht, h, c, bs, h1, h4, .inr (m _ List.mem_cons_self)⟩)) (u4.mono .refl up)
            · exact s.2 _ _
      have rs := all bs yss h9 (fun _ h => h) h10
      have hF : F' c := .inr (.inr ⟨i, ht, h, c, bs, h1, h4, .inl rfl⟩)
      rcases hx with ⟨q, rfl⟩ | ⟨q, rfl⟩ | ⟨kvs, q, rfl, rfl, rfl⟩
      · exact ⟨_, _, h1, h2, .lst q hF rs⟩
      · exact ⟨_, _, h1, h2, .tup (.inl (.inl q)) rs⟩
      · exact ⟨_, _, h1, h2, .dct q hF⟩
  · have ht := oo i h
    obtain ⟨a, vs, xs, h1, h2, h3, h4, h5, h6⟩ := E.ow i ht
    refine ⟨a, vs, xs, h1, h2, h3, fun z => ?_, h5, h6.mono .refl up⟩
    rcases z with z | ⟨j, g1, g2, g3⟩ | ⟨j, g1, g2, g3⟩
    · exact h4 z
    · have := E.ap i j a ht g1 h1 g3
      subst this
      rw [h] at g2
      cases g2
    · exact (E.ad j a g1 g3).1 i ht h1
  · exact E.ap i j a (oo i h1) (oo j h2) h3 h4
  · have ht := dd i h
    obtain ⟨v, x, h1, h2, h3⟩ := E.od i ht
    have nf : ∀ a, Dpl H σ i a → ¬ F' a := fun a q z => by
      rcases z with z | ⟨j, g1, g2, g3⟩ | ⟨j, g1, g2, g3⟩
      · exact (h3.have_ h1 q).2.1 z
      · exact (E.ad i a ht q).1 j g1 g3
      · have := (E.ad i a ht q).2 j g1 g3
        subst this
        rw [h] at g2
        cases g2
    obtain ⟨c, bs, yss, rfl, hx, h4, h5, h6, h7, h8, h9, h10⟩ := h3
    refine ⟨_, _, h1, h2, c, bs, yss, rfl, hx, h4, nf c ⟨c, bs, h1, h4, .inl rfl⟩, h6, h7, h8, h9, fun k w z k1 k2 => ?_⟩
    rcases h10 k w z k1 k2 with ⟨b, us, ys, rfl, rfl, u1, u2, u3, u4⟩ | s
    · exact .inl ⟨b, us, ys, rfl, rfl, u1, nf b ⟨c, bs, h1, h4, .inr (List.mem_of_getElem? k1)⟩, u3, u4.mono .refl up⟩
    · exact .inr s
  · obtain ⟨q1, q2⟩ := E.ad i a (dd i h) q
    exact ⟨fun j hj => q1 j (oo j hj), fun j hj z => q2 j (dd j hj) z⟩
theorem EnvR.conv (E : EnvR K d ts H0 F0 F H σ ρ) (c : cv ts ts' = true) : ∃ F', (∀ a, F a → F' a) ∧ EnvR K d ts' H0 F0 F' H σ ρ := let ⟨F', u, _, e⟩ := E.convP c; ⟨F', u, e⟩
end
end Wx
namespace Wx
open PySem PySem.Spec PyProof.Rows L2 Evl Hn
variable [TabC]
abbrev WE := List PV → (PV → Prop) → Prop
abbrev WT := List PV → (Bool → Prop) → Prop
abbrev WA := List PV → (List PV → Prop) → Prop
abbrev W1 := PV → (PV → Prop) → Prop
abbrev W2 := PV → PV → (PV → Prop) → Prop
abbrev WC := List PV → (PV → Prop) → Prop
section
variable [XC]
variable (K : PySem.W.Frag) (d : Cn → Addr)
def Sim (R : RR) (ts : List Tag) (te : TE) (we : WE) : Prop := ∀ (H0 : Hp) (F0 F : Fz) (H : Hp) (σ : L2.St) (ρ : List PV) (Q : VK) (P : PV → Prop), EnvR K d ts H0 F0 F H σ ρ → we ρ P →
  (∀ x v F' H', Step F H F' H' → R F H F' H' v x → P x → Q v H') → te σ H Q
def SimT (ts : List Tag) (tt : TT) (wt : WT) : Prop := ∀ (H0 : Hp) (F0 F : Fz) (H : Hp) (σ : L2.St) (ρ : List PV) (Q : Bool → Hp → Prop) (P : Bool → Prop), EnvR K d ts H0 F0 F H σ ρ → wt ρ P →
  (∀ b H', Xt H H' → P b → Q b H') → tt σ H Q
def SimA (ts : List Tag) (ta : TA) (wa : WA) : Prop := ∀ (H0 : Hp) (F0 F : Fz) (H : Hp) (σ : L2.St) (ρ : List PV) (Q : List V → Hp → Prop) (P : List PV → Prop), EnvR K d ts H0 F0 F H σ ρ → wa ρ P →
  (∀ xs vs F' H', Step F H F' H' → Rvs K d F' H' vs xs → P xs → Q vs H') → ta σ H Q
inductive Rws (F : Fz) (H : Hp) : List V → List PV → Prop
  | nil : Rws F H [] []
  | cons {v : V} {x : PV} {vs : List V} {xs : List PV} : Rw K d F H v x → Rws F H vs xs → Rws F H (v :: vs) (x :: xs)
def SimAW (ts : List Tag) (ta : TA) (wa : WA) : Prop := ∀ (H0 : Hp) (F0 F : Fz) (H : Hp) (σ : L2.St) (ρ : List PV) (Q : List V → Hp → Prop) (P : List PV → Prop), EnvR K d ts H0 F0 F H σ ρ → wa ρ P →
  (∀ xs vs F' H', Step F H F' H' → Rws K d F' H' vs xs → P xs → Q vs H') → ta σ H Q
def OpS (R : RR) (r : R2) (w : W2) : Prop := ∀ (F : Fz) (H : Hp) (v u : V) (x y : PV) (Q : VK) (P : PV → Prop), Dom F H → Rw K d F H v x → Rw K d F H u y → w x y P →
  (∀ z v' F' H', Step F H F' H' → R F H F' H' v' z → P z → Q v' H') → r v u H Q
def UnS (r : V → Hp → VK → Prop) (w : W1) : Prop := ∀ (F : Fz) (H : Hp) (v : V) (x : PV) (Q : VK) (P : PV → Prop), Dom F H → Rw K d F H v x → w x P →
  (∀ z v' F' H', Step F H F' H' → rN K d F H F' H' v' z → P z → Q v' H') → r v H Q
def CaS (R : RR) (r : List V → Hp → VK → Prop) (w : WC) : Prop := ∀ (F : Fz) (H : Hp) (vs : List V) (xs : List PV) (Q : VK) (P : PV → Prop), Dom F H → Rws K d F H vs xs → w xs P →
  (∀ z v' F' H', Step F H F' H' → R F H F' H' v' z → P z → Q v' H') → r vs H Q
def SlS (r : V → Option Int → Option Int → Hp → VK → Prop) (w : PV → Option Int → Option Int → (PV → Prop) → Prop) : Prop := ∀ (F : Fz) (H : Hp) (v : V) (lo hi : Option Int) (x : PV) (Q : VK) (P : PV → Prop), Dom F H → Rw K d F H v x → w x lo hi P →
  (∀ z v' F' H', Step F H F' H' → rN K d F H F' H' v' z → P z → Q v' H') → r v lo hi H Q
end
section
variable [XC]
variable {K : PySem.W.Frag} {d : Cn → Addr} {F F' F0 : Fz} {H H' H0 : Hp} {v u : V} {ts : List Tag} {R : RR} {te ta tb tc : TE} {we wa wb wc : WE}
theorem Rw.intE {a : Int} (h : Rw K d F H v (.int a)) : v = .int a := by cases h.of trivial; rfl
theorem Rw.blE {a : Bool} (h : Rw K d F H v (.bl a)) : v = .bl a := by cases h.of trivial; rfl
theorem Rw.strE {a : Str} (h : Rw K d F H v (.str a)) : v = .str a := by cases h.of trivial; rfl
theorem Rw.tyE {a : String} (h : Rw K d F H v (.ty a)) : v = .ty a := by cases h.of trivial; rfl
theorem Rw.nonE (h : Rw K d F H v .non) : v = .non := by cases h.of trivial; rfl
theorem Rw.tupE {xs : List PV} (h : Rw K d F H v (.tup xs)) : ∃ p vs, v = .ref p ∧ SqT K H p vs ∧ Rvs K d F H vs xs := (h.of trivial).tupE
theorem Rw.insE {c : Cn} {fs : List (Str × PV)} (h : Rw K d F H v (.ins c fs)) : ∃ p dx gs, v = .ref p ∧ H p = some (.ins (d c) dx gs) ∧ Rvf K d F H gs fs := (h.of trivial).insE
theorem Rws.one {vs : List V} {x : PV} (h : Rws K d F H vs [x]) : ∃ v, vs = [v] ∧ Rw K d F H v x := by
  cases h with
  | cons a b => cases b; exact ⟨_, rfl, a⟩
theorem Rws.two {vs : List V} {x y : PV} (h : Rws K d F H vs [x, y]) : ∃ v u, vs = [v, u] ∧ Rw K d F H v x ∧ Rw K d F H u y := by
  cases h with
  | cons a b =>
    obtain ⟨u, rfl, q⟩ := b.one
    exact ⟨_, u, rfl, a, q⟩
theorem fin_val {x : PV} {Q : VK} {P : PV → Prop} (dm : Dom F H) (r : Rv K d F H v x) (p : P x) (k : ∀ z v' F' H', Step F H F' H' → rN K d F H F' H' v' z → P z → Q v' H') (n : notL x := by exact trivial) : Q v H :=
  k x v F H (Step.refl dm) (.inl ⟨n, r⟩) p
theorem fin_lst {p : Addr} {vs : List V} {xs : List PV} {Q : VK} {P : PV → Prop} (dm : Dom F H) (n : H p = none) (r : Rvs K d F H vs xs) (pp : P (.lst xs)) (k : ∀ z v' F' H', Step F H F' H' → rN K d F H F' H' v' z → P z → Q v' H') : Q (.ref p) (upd H p (.lst vs)) :=
  k (.lst xs) _ F _ (Step.new dm n) (.inr ⟨p, vs, xs, rfl, rfl, n, upd_same, fun f => dm.at_ p f n, r.mono (.of (Xn.new n)) fun _ h => h⟩) pp
theorem fin_tup {p : Addr} {vs : List V} {xs : List PV} {Q : VK} {P : PV → Prop} (dm : Dom F H) (n : H p = none) (r : Rvs K d F H vs xs) (pp : P (.tup xs)) (k : ∀ z v' F' H', Step F H F' H' → rN K d F H F' H' v' z → P z → Q v' H') : Q (.ref p) (upd H p (.tup vs)) :=
  k (.tup xs) _ F _ (Step.new dm n) (.inl ⟨(trivial : notL (.tup xs)), .tup (.inl (.inl upd_same)) (r.mono (.of (Xn.new n)) fun _ h => h)⟩) pp
theorem sim_NS (h : Sim K d (rN K d) ts te we) : Sim K d (rS K d) ts te we := fun H0 F0 F H σ ρ Q P E hw k => h H0 F0 F H σ ρ Q P E hw fun x v F' H' s r p => by
  obtain ⟨F2, s2, r2⟩ := rN_S s r
  exact k x v F2 H' s2 r2 p
theorem sim_SW (h : Sim K d (rS K d) ts te we) : Sim K d (rW K d) ts te we := fun H0 F0 F H σ ρ Q P E hw k => h H0 F0 F H σ ρ Q P E hw fun x v F' H' s r p => k x v F' H' s (.inl r) p
theorem sim_NW (h : Sim K d (rN K d) ts te we) : Sim K d (rW K d) ts te we := fun H0 F0 F H σ ρ Q P E hw k => h H0 F0 F H σ ρ Q P E hw fun x v F' H' s r p => k x v F' H' s (rN_W r) p
def wNL (we : WE) : WE := fun ρ P => we ρ fun x => notL x ∧ P x
theorem sim_SN (h : Sim K d (rS K d) ts te we) : Sim K d (rN K d) ts te (wNL we) := fun H0 F0 F H σ ρ Q P E hw k => h H0 F0 F H σ ρ Q _ E hw fun x v F' H' s r p => k x v F' H' s (.inl ⟨p.1, r⟩) p.2
def scalP : PV → Prop
  | .non => True
  | .bl _ => True
  | .int _ => True
  | .str _ => True
  | .ty _ => True
  | _ => False
def wScal (we : WE) : WE := fun ρ P => we ρ fun x => scalP x ∧ P x
def wVar (i : Nat) : WE := fun ρ P => P (ρ.getD i .non)
theorem getD_of {ρ : List PV} {i : Nat} {x : PV} (h : ρ[i]? = some x) : ρ.getD i .non = x := by rw [List.getD_eq_getElem?_getD, h]; rfl
theorem sim_var {i : Nat} (h : ts[i]? = some .sh) : Sim K d (rS K d) ts (tVar i) (wVar i) := fun H0 F0 F H σ ρ Q P E hw k => by
  obtain ⟨v, x, h1, h2, h3⟩ := E.sh i h
  have hw' : P (ρ.getD i .non) := hw
  rw [getD_of h2] at hw'
  exact ⟨v, h1, k x v F H (Step.refl E.dm) h3 hw'⟩
theorem sim_varO {i : Nat} (h : ts[i]? = some .ow) : Sim K d (rW K d) ts (tVar i) (wVar i) := fun H0 F0 F H σ ρ Q P E hw k => by
  obtain ⟨a, vs, xs, h1, h2, h3, h4, h5, h6⟩ := E.ow i h
  have hw' : P (ρ.getD i .non) := hw
  rw [getD_of h2] at hw'
  exact ⟨_, h1, k _ _ F H (Step.refl E.dm) (.inr ⟨a, vs, xs, rfl, rfl, h3, h6⟩) hw'⟩
def wC (x : PV) : WE := fun _ P => P x
theorem sim_int {i : Int} : Sim K d (rN K d) ts (tC (.int i)) (wC (.int i)) := fun H0 F0 F H σ ρ Q P E hw k => fin_val E.dm (.int i) hw k
theorem sim_bl {i : Bool} : Sim K d (rN K d) ts (tC (.bl i)) (wC (.bl i)) := fun H0 F0 F H σ ρ Q P E hw k => fin_val E.dm (.bl i) hw k
theorem sim_str {i : Str} : Sim K d (rN K d) ts (tC (.str i)) (wC (.str i)) := fun H0 F0 F H σ ρ Q P E hw k => fin_val E.dm (.str i) hw k
theorem sim_non : Sim K d (rN K d) ts (tC .non) (wC .non) := fun H0 F0 F H σ ρ Q P E hw k => fin_val E.dm .non hw k
theorem sim_ty {n : String} : Sim K d (rN K d) ts (tC (.ty n)) (wC (.ty n)) := fun H0 F0 F H σ ρ Q P E hw k => fin_val E.dm (.ty n) hw k
theorem sim_cls {a : Addr} (c : Cn) (e : d c = a := by rfl) : Sim K d (rN K d) ts (tC (.ref a)) (wC (.cls c)) := fun H0 F0 F H σ ρ Q P E hw k => by
  subst e
  exact fin_val E.dm (.cls c) hw k
def wOp (w : W2) (wa wb : WE) : WE := fun ρ P => wa ρ fun x => wb ρ fun y => w x y P
theorem sim_op {r : R2} {w : W2} (o : ROk R) (hr : OpS K d R r w) (ha : Sim K d (rW K d) ts ta wa) (hb : Sim K d (rW K d) ts tb wb) : Sim K d R ts (tOp r ta tb) (wOp w wa wb) := fun H0 F0 F H σ ρ Q P E hw k =>
  ha H0 F0 F H σ ρ _ _ E hw fun x v F1 H1 s1 r1 h1 => hb H0 F0 F1 H1 σ ρ _ _ (E.step s1) h1 fun y u F2 H2 s2 r2 h2 =>
    hr F2 H2 v u x y _ _ s2.dm (Rw.step s2 r1) r2 h2 fun z v' F3 H3 s3 r3 p => k z v' F3 H3 ((s1.trans s2).trans s3) (o.back (s1.trans s2) r3) p
def wUn (w : W1) (wa : WE) : WE := fun ρ P => wa ρ fun x => w x P
theorem sim_un {r : V → Hp → VK → Prop} {w : W1} (hr : UnS K d r w) (ha : Sim K d (rW K d) ts ta wa) : Sim K d (rN K d) ts (tUn r ta) (wUn w wa) := fun H0 F0 F H σ ρ Q P E hw k =>
  ha H0 F0 F H σ ρ _ _ E hw fun x v F1 H1 s1 r1 h1 => hr F1 H1 v x _ _ s1.dm r1 h1 fun z v' F3 H3 s3 r3 p => k z v' F3 H3 (s1.trans s3) (okN.back s1 r3) p
def wNeg : W1 := fun x P => match x with
  | .int a => P (.int (-a))
  | _ => False
theorem uns_neg : UnS K d (rU fun i => .int (-i)) wNeg := fun F H v x Q P dm rx h k => by
  cases x with
  | int a => cases rx.intE; exact ⟨a, rfl, fin_val dm (.int _) h k⟩
  | _ => exact h.elim
def orR (r s : R2) : R2 := fun x y H Q => r x y H Q ∨ s x y H Q
theorem op_or {X : Cx} {f : Value → Value → Sem Value} {r s : R2} (a : OpR X f r) (b : OpR X f s) : OpR X f (orR r s) := fun pins st σ H x y v u Q I rx ry h => h.elim (a pins st σ H x y v u Q I rx ry) (b pins st σ H x y v u Q I rx ry)
def wII (C : Int → Int → Prop) (g : Int → Int → Int) : W2 := fun x y P => match x, y with
  | .int a, .int b => C a b ∧ P (.int (g a b))
  | _, _ => False
theorem ops_II {C : Int → Int → Prop} {g : Int → Int → Int} : OpS K d (rN K d) (rI C fun i j => .int (g i j)) (wII C g) := fun F H v u x y Q P dm rx ry h k => by
  cases x with
  | int a => cases y with
    | int b => cases rx.intE; cases ry.intE; exact ⟨a, b, rfl, rfl, h.1, fin_val dm (.int _) h.2 k⟩
    | _ => exact h.elim
  | _ => exact h.elim
def wI0 (g : Int → Int → Int) : W2 := fun x y P => match x, y with
  | .int a, .int b => P (.int (g a b))
  | _, _ => False
theorem ops_I0 {g : Int → Int → Int} : OpS K d (rN K d) (rI0 fun i j => .int (g i j)) (wI0 g) := fun F H v u x y Q P dm rx ry h k => by
  cases x with
  | int a => cases y with
    | int b => cases rx.intE; cases ry.intE; exact ⟨a, b, rfl, rfl, fin_val dm (.int _) h k⟩
    | _ => exact h.elim
  | _ => exact h.elim
def wIB (g : Int → Int → Bool) : W2 := fun x y P => match x, y with
  | .int a, .int b => P (.bl (g a b))
  | _, _ => False
theorem ops_IB {g : Int → Int → Bool} : OpS K d (rN K d) (rI0 fun i j => .bl (g i j)) (wIB g) := fun F H v u x y Q P dm rx ry h k => by
  cases x with
  | int a => cases y with
    | int b => cases rx.intE; cases ry.intE; exact ⟨a, b, rfl, rfl, fin_val dm (.bl _) h k⟩
    | _ => exact h.elim
  | _ => exact h.elim
def rAddU (K : PySem.W.Frag) : R2 := orR (rI0 fun i j => .int (i + j)) (orR rCat (orR (rCatA K) rAddS))
theorem u_add {X : Cx} (h : X.K = K) : OpR X (binaryOp .Add) (rAddU K) := h ▸ op_or op_add (op_or op_cat (op_or op_catA k_addS))
def wAdd : W2 := fun x y P => match x, y with
  | .int a, .int b => P (.int (a + b))
  | .lst a, .lst b => a.length + b.length ≤ 100000 ∧ P (.lst (a ++ b))
  | .tup a, .tup b => a.length + b.length ≤ 100000 ∧ P (.tup (a ++ b))
  | .str a, .str b => a.length + b.length ≤ 100000 ∧ P (.str (a ++ b))
  | _, _ => False
theorem ops_add : OpS K d (rN K d) (rAddU K) wAdd := fun F H v u x y Q P dm rx ry h k => by
  cases x with
  | int a => cases y with
    | int b => cases rx.intE; cases ry.intE; exact .inl ⟨a, b, rfl, rfl, fin_val dm (.int _) h k⟩
    | _ => exact h.elim
  | lst a => cases y with
    | lst b =>
      obtain ⟨p, vs, rfl, h1, h2⟩ := rx.lst
      obtain ⟨q, us, rfl, h3, h4⟩ := ry.lst
      exact .inr (.inl ⟨p, q, vs, us, rfl, rfl, h1, h3, by rw [h2.length, h4.length]; exact sz_of h.1, fun r nr => fin_lst dm nr (h2.append h4) h.2 k⟩)
    | _ => exact h.elim
  | tup a => cases y with
    | tup b =>
      obtain ⟨p, vs, rfl, h1, h2⟩ := rx.tupE
      obtain ⟨q, us, rfl, h3, h4⟩ := ry.tupE
      refine .inr (.inr (.inl ⟨p, q, vs, us, rfl, rfl, h1, h3, by rw [h2.length, h4.length]; exact sz_of h.1, fun e => ?_, fun _ e => ?_, fun _ _ r nr => fin_tup dm nr (h2.append h4) h.2 k⟩))
      · subst e
        cases h2
        exact fin_val dm (.tup h3 h4) h.2 k
      · subst e
        cases h4
        have := h.2
        rw [List.append_nil] at this
        exact fin_val dm (.tup h1 h2) this k
    | _ => exact h.elim
  | str a => cases y with
    | str b => cases rx.strE; cases ry.strE; exact .inr (.inr (.inr ⟨a, b, rfl, rfl, sz_of h.1, fin_val dm (.str _) h.2 k⟩))
    | _ => exact h.elim
  | _ => exact h.elim
def rMulU : R2 := orR (rI CMulW fun i j => .int (i * j)) (orR (rI CMul fun i j => .int (i * j)) rRep)
theorem u_mul {X : Cx} : OpR X (binaryOp .Mult) rMulU := op_or op_mulW (op_or op_mul op_rep)
def wMul : W2 := fun x y P => match x, y with
  | .int a, .int b => (CMulW a b ∨ CMul a b) ∧ P (.int (a * b))
  | .lst a, .int b => -(2 ^ 63) ≤ b ∧ b < 2 ^ 63 ∧ a.length * b.toNat ≤ 100000 ∧ P (.lst (List.replicate b.toNat a).flatten)
  | _, _ => False
theorem ops_mul : OpS K d (rN K d) rMulU wMul := fun F H v u x y Q P dm rx ry h k => by
  cases x with
  | int a => cases y with
    | int b =>
      cases rx.intE
      cases ry.intE
      rcases h.1 with c | c
      · exact .inl ⟨a, b, rfl, rfl, c, fin_val dm (.int _) h.2 k⟩
      · exact .inr (.inl ⟨a, b, rfl, rfl, c, fin_val dm (.int _) h.2 k⟩)
    | _ => exact h.elim
  | lst a => cases y with
    | int b =>
      obtain ⟨p, vs, rfl, h1, h2⟩ := rx.lst
      cases ry.intE
      exact .inr (.inr ⟨p, b, vs, rfl, rfl, h1, h.1, h.2.1, by rw [h2.length]; exact sz_of h.2.2.1, fun r nr => fin_lst dm nr (h2.flat _) h.2.2.2 k⟩)
    | _ => exact h.elim
  | _ => exact h.elim
mutual
def toD : PV → Option PyData
  | .non => some .none
  | .bl b => some (.bool b)
  | .int i => some (.int i)
  | .str x => some (.str x)
  | .lst xs => (toDs xs).map PyData.list
  | .tup xs => (toDs xs).map PyData.tuple
  | .ty _ => none
  | .cls _ => none
  | .ins _ _ => none
  | .bag => none
  | .scr _ => none
  | .fnv _ _ => none
  | .dct _ _ => none
  | .idv _ _ => none
def toDs : List PV → Option (List PyData)
  | [] => some []
  | x :: xs => match toD x, toDs xs with
    | some a, some b => some (a :: b)
    | _, _ => none
end
mutual
theorem Rv.dp : ∀ {v : V} {x : PV} {e : PyData}, Rv K d F H v x → toD x = some e → Dp K H v e
  | _, _, e, .non, h => by simp only [toD] at h; cases h; exact .non
  | _, _, e, .bl b, h => by simp only [toD] at h; cases h; exact .bl b
  | _, _, e, .int b, h => by simp only [toD] at h; cases h; exact .int b
  | _, _, e, .str b, h => by simp only [toD] at h; cases h; exact .str b
  | _, _, e, .lst h1 h2 h3, h => by
    simp only [toD, Option.map_eq_some_iff] at h
    obtain ⟨ds, hd, rfl⟩ := h
    exact .lst (.inl (.inl h1)) (Rvs.dp h3 hd)
  | _, _, e, .tup h1 h3, h => by
    simp only [toD, Option.map_eq_some_iff] at h
    obtain ⟨ds, hd, rfl⟩ := h
    exact .tup h1 (Rvs.dp h3 hd)
  | _, _, e, .ty n, h => by simp only [toD] at h; cases h
  | _, _, e, .cls n, h => by simp only [toD] at h; cases h
  | _, _, e, .ins _ _, h => by simp only [toD] at h; cases h
  | _, _, e, .bag _, h => by simp only [toD] at h; cases h
  | _, _, e, .scr _ _, h => by simp only [toD] at h; cases h
  | _, _, e, .fnv _ _, h => by simp only [toD] at h; cases h
  | _, _, e, .dct _ _, h => by simp only [toD] at h; cases h
  | _, _, e, .idv _, h => by simp only [toD] at h; cases h
theorem Rvs.dp : ∀ {vs : List V} {xs : List PV} {es : List PyData}, Rvs K d F H vs xs → toDs xs = some es → DpAll K H vs es
  | _, _, es, .nil, h => by simp only [toDs] at h; cases h; exact .nil
  | _, _, es, .cons (x := x) (xs := xs) a b, h => by
    simp only [toDs] at h
    cases e1 : toD x with
    | none => rw [e1] at h; cases h
    | some q =>
      cases e2 : toDs xs with
      | none => rw [e1, e2] at h; cases h
      | some qs =>
        rw [e1, e2] at h
        cases h
        exact .cons (Rv.dp a e1) (Rvs.dp b e2)
end
theorem Rw.dp {x : PV} {e : PyData} (h : Rw K d F H v x) (he : toD x = some e) : Dp K H v e := by
  rcases h with h | ⟨p, vs, xs, rfl, rfl, h1, h2⟩
  · exact h.dp he
  · simp only [toD, Option.map_eq_some_iff] at he
    obtain ⟨ds, hd, rfl⟩ := he
    exact .lst (.inl (.inl h1)) (h2.dp hd)
def wEqD (neg : Bool) : W2 := fun x y P => ∃ a b, toD x = some a ∧ toD y = some b ∧ SeqAt.shaped a = true ∧ SeqAt.shaped b = true ∧ P (.bl (if neg then !PyData.eqv a b else PyData.eqv a b))
theorem ops_eqD : OpS K d (rN K d) (rEqD K) (wEqD false) := fun F H v u x y Q P dm rx ry h k => by
  obtain ⟨a, b, ha, hb, sa, sb, p⟩ := h
  exact ⟨a, b, rx.dp ha, ry.dp hb, sa, sb, fin_val dm (.bl _) p k⟩
theorem ops_neD : OpS K d (rN K d) (rNeD K) (wEqD true) := fun F H v u x y Q P dm rx ry h k => by
  obtain ⟨a, b, ha, hb, sa, sb, p⟩ := h
  exact ⟨a, b, rx.dp ha, ry.dp hb, sa, sb, fin_val dm (.bl _) p k⟩
def isN : PV → Bool
  | .non => true
  | _ => false
def wIsN (neg : Bool) : W2 := fun x y P => match y with
  | .non => P (.bl (if neg then !isN x else isN x))
  | _ => False
theorem isN_dec {x : PV} (r : Rw K d F H v x) : decide (v = .non) = isN x := by
  rcases r with r | ⟨p, vs, xs, rfl, rfl, _⟩
  · cases r <;> simp [isN]
  · simp [isN]
theorem ops_isN : OpS K d (rN K d) rIsNon (wIsN false) := fun F H v u x y Q P dm rx ry h k => by
  cases y with
  | non =>
    cases ry.nonE
    have e : decide (v = .non) = isN x := isN_dec rx
    exact ⟨rfl, by rw [e]; exact fin_val dm (.bl _) h k⟩
  | _ => exact h.elim
def wIx : W2 := fun x y P => match x, y with
  | .lst xs, .int i => ∃ z, atI xs i = some z ∧ P z
  | .tup xs, .int i => ∃ z, atI xs i = some z ∧ P z
  | .str s, .int i => ∃ c, s.length ≤ 100000 ∧ atI s.cps.toList i = some c ∧ P (.str ⟨#[c]⟩)
  | _, _ => False
theorem Rvs.atI {vs : List V} {xs : List PV} {i : Int} {z : PV} (r : Rvs K d F H vs xs) (h : L2.atI xs i = some z) : ∃ v, L2.atI vs i = some v ∧ Rv K d F H v z := by
  unfold L2.atI at h ⊢
  rw [r.length]
  cases e : ixN xs.length i with
  | none => rw [e] at h; simp at h
  | some j =>
    rw [e] at h
    obtain ⟨v, h1, h2⟩ := r.get (i := j) (by simpa using h)
    exact ⟨v, by simpa using h1, h2⟩
theorem ops_ix : OpS K d (rS K d) (rIx K) wIx := fun F H v u x y Q P dm rx ry h k => by
  cases x with
  | lst a => cases y with
    | int b =>
      obtain ⟨p, vs, rfl, h1, h2⟩ := rx.lst
      cases ry.intE
      obtain ⟨z, hz, pz⟩ := h
      obtain ⟨w, hw, rw'⟩ := h2.atI hz
      exact .inl ⟨p, vs, b, w, rfl, rfl, .inl (.inl h1), hw, k z w F H (Step.refl dm) rw' pz⟩
    | _ => exact h.elim
  | tup a => cases y with
    | int b =>
      obtain ⟨p, vs, rfl, h1, h2⟩ := rx.tupE
      cases ry.intE
      obtain ⟨z, hz, pz⟩ := h
      obtain ⟨w, hw, rw'⟩ := h2.atI hz
      exact .inr (.inl ⟨p, vs, b, w, rfl, rfl, h1, hw, k z w F H (Step.refl dm) rw' pz⟩)
    | _ => exact h.elim
  | str a => cases y with
    | int b =>
      cases rx.strE
      cases ry.intE
      obtain ⟨c, hz, hc, pz⟩ := h
      exact .inr (.inr ⟨a, b, c, rfl, rfl, sz_of hz, hc, k _ _ F H (Step.refl dm) (.str _) pz⟩)
    | _ => exact h.elim
  | _ => exact h.elim
def wTest (we : WE) : WT := fun ρ P => we ρ fun x => match x with
  | .bl b => P b
  | _ => False
theorem simT_val {t : TT} {wt : WT} (h : SimT K d (shr ts) t wt) : SimT K d ts t wt := fun H0 F0 F H σ ρ Q P E hw k => by
  obtain ⟨F1, up, E1⟩ := E.conv (cv_shr ts)
  exact h H0 F0 F1 H σ ρ Q P E1 hw k
theorem simT_test (h : Sim K d (rS K d) ts te we) : SimT K d ts (tTest te) (wTest we) := fun H0 F0 F H σ ρ Q P E hw k =>
  h H0 F0 F H σ ρ _ _ E hw fun x v F' H' s r p => by
    cases x with
    | bl b => cases r; exact ⟨b, rfl, k b H' s.xt p⟩
    | _ => exact p.elim
theorem simT_B (h : Sim K d (rS K d) ts te we) : SimT K d ts (tB te) (wTest we) := fun H0 F0 F H σ ρ Q P E hw k =>
  h H0 F0 F H σ ρ _ _ E hw fun x v F' H' s r p => by
    cases x with
    | bl b => cases r; exact ⟨b, rfl, k b H' s.xt p⟩
    | _ => exact p.elim
def wTand (a b : WT) : WT := fun ρ P => a ρ fun c => if c = true then b ρ P else P false
def wTor (a b : WT) : WT := fun ρ P => a ρ fun c => if c = true then P true else b ρ P
def wTnot (a : WT) : WT := fun ρ P => a ρ fun c => P (!c)
def wTyes : WT := fun _ P => P true
theorem simT_and {t u : TT} {a b : WT} (ha : SimT K d ts t a) (hb : SimT K d ts u b) : SimT K d ts (tAnd t u) (wTand a b) := fun H0 F0 F H σ ρ Q P E hw k =>
  ha H0 F0 F H σ ρ _ _ E hw fun c H1 e p => by
    cases c with
    | true => exact hb H0 F0 F H1 σ ρ _ _ (E.step (Step.tox E.dm e)) p fun c' H2 e2 p2 => k c' H2 (e.trans e2) p2
    | false => exact k false H1 e p
theorem simT_or {t u : TT} {a b : WT} (ha : SimT K d ts t a) (hb : SimT K d ts u b) : SimT K d ts (tOr t u) (wTor a b) := fun H0 F0 F H σ ρ Q P E hw k =>
  ha H0 F0 F H σ ρ _ _ E hw fun c H1 e p => by
    cases c with
    | true => exact k true H1 e p
    | false => exact hb H0 F0 F H1 σ ρ _ _ (E.step (Step.tox E.dm e)) p fun c' H2 e2 p2 => k c' H2 (e.trans e2) p2
theorem simT_not {t : TT} {a : WT} (ha : SimT K d ts t a) : SimT K d ts (tNot t) (wTnot a) := fun H0 F0 F H σ ρ Q P E hw k =>
  ha H0 F0 F H σ ρ _ _ E hw fun c H1 e p => k _ H1 e p
theorem simT_yes : SimT K d ts tYes wTyes := fun H0 F0 F H σ ρ Q P E hw k => k true H (Xt.refl E.dm) hw
def wAndV (a b : WE) : WE := fun ρ P => a ρ fun x => match x with
  | .bl c => if c = true then b ρ P else P (.bl false)
  | _ => False
def wOrV (a b : WE) : WE := fun ρ P => a ρ fun x => match x with
  | .bl c => if c = true then P (.bl true) else b ρ P
  | _ => False
def wNotV (a : WE) : WE := fun ρ P => a ρ fun x => match x with
  | .bl c => P (.bl (!c))
  | _ => False
theorem sim_andV (ha : Sim K d (rS K d) ts ta wa) (hb : Sim K d (rN K d) ts tb wb) : Sim K d (rN K d) ts (tAndV ta tb) (wAndV wa wb) := fun H0 F0 F H σ ρ Q P E hw k =>
  ha H0 F0 F H σ ρ _ _ E hw fun x v F1 H1 s r p => by
    cases x with
    | bl c =>
      cases r
      refine ⟨c, rfl, ?_⟩
      cases c with
      | true => exact hb H0 F0 F1 H1 σ ρ _ _ (E.step s) p fun y u F2 H2 s2 r2 p2 => k y u F2 H2 (s.trans s2) (okN.back s r2) p2
      | false => exact k (.bl _) _ F1 H1 s (.inl ⟨trivial, .bl _⟩) p
    | _ => exact p.elim
theorem sim_notV (ha : Sim K d (rS K d) ts ta wa) : Sim K d (rN K d) ts (tNotV ta) (wNotV wa) := fun H0 F0 F H σ ρ Q P E hw k =>
  ha H0 F0 F H σ ρ _ _ E hw fun x v F1 H1 s r p => by
    cases x with
    | bl c => cases r; exact ⟨c, rfl, k (.bl _) _ F1 H1 s (.inl ⟨trivial, .bl _⟩) p⟩
    | _ => exact p.elim
def wIf (t : WT) (a b : WE) : WE := fun ρ P => t ρ fun c => if c = true then a ρ P else b ρ P
theorem sim_if {t : TT} {wt : WT} (o : ROk R) (ht : SimT K d ts t wt) (ha : Sim K d R ts ta wa) (hb : Sim K d R ts tb wb) : Sim K d R ts (tIf t ta tb) (wIf wt wa wb) := fun H0 F0 F H σ ρ Q P E hw k =>
  ht H0 F0 F H σ ρ _ _ E hw fun c H1 e p => by
    have s := Step.tox E.dm e
    cases c with
    | true => exact ha H0 F0 F H1 σ ρ _ _ (E.step s) p fun y u F2 H2 s2 r2 p2 => k y u F2 H2 (s.trans s2) (o.back s r2) p2
    | false => exact hb H0 F0 F H1 σ ρ _ _ (E.step s) p fun y u F2 H2 s2 r2 p2 => k y u F2 H2 (s.trans s2) (o.back s r2) p2
def wChain (w w' : W2) (wa wb wc : WE) : WE := fun ρ P => wa ρ fun x => wb ρ fun y => w x y fun z => match z with
  | .bl c => if c = true then wc ρ fun u => w' y u P else P (.bl false)
  | _ => False
theorem sim_chain {r r' : R2} {w w' : W2} (hr : OpS K d (rN K d) r w) (hr' : OpS K d (rN K d) r' w') (ha : Sim K d (rW K d) ts ta wa) (hb : Sim K d (rW K d) ts tb wb) (hc : Sim K d (rW K d) ts tc wc) : Sim K d (rN K d) ts (tChain r r' ta tb tc) (wChain w w' wa wb wc) := fun H0 F0 F H σ ρ Q P E hw k =>
  ha H0 F0 F H σ ρ _ _ E hw fun x v F1 H1 s1 r1 h1 => hb H0 F0 F1 H1 σ ρ _ _ (E.step s1) h1 fun y u F2 H2 s2 r2 h2 =>
    hr F2 H2 v u x y _ _ s2.dm (Rw.step s2 r1) r2 h2 fun z v' F3 H3 s3 r3 p => by
      have s123 := (s1.trans s2).trans s3
      cases z with
      | bl c =>
        have r3' : Rv K d F3 H3 v' (.bl c) := by
          rcases r3 with r3 | ⟨_, _, _, _, e, _⟩
          · exact r3.2
          · cases e
        cases r3'
        refine ⟨c, rfl, ?_⟩
        cases c with
        | true =>
          exact hc H0 F0 F3 H3 σ ρ _ _ (E.step s123) p fun z4 v4 F4 H4 s4 r4 h4 => hr' F4 H4 u v4 y z4 _ _ s4.dm (Rw.step (s3.trans s4) r2) r4 h4 fun z5 v5 F5 H5 s5 r5 p5 =>
            k z5 v5 F5 H5 ((s123.trans s4).trans s5) (okN.back (s123.trans s4) r5) p5
        | false => exact k (.bl _) _ F3 H3 s123 (.inl ⟨trivial, .bl _⟩) p
      | _ => exact p.elim
def wNil : WA := fun _ P => P []
def wCons (we : WE) (wa : WA) : WA := fun ρ P => we ρ fun x => wa ρ fun xs => P (x :: xs)
theorem simA_nil : SimA K d ts tNil wNil := fun H0 F0 F H σ ρ Q P E hw k => k [] [] F H (Step.refl E.dm) .nil hw
theorem simA_cons {ta : TA} {wa : WA} (he : Sim K d (rS K d) ts te we) (ha : SimA K d ts ta wa) : SimA K d ts (tCons te ta) (wCons we wa) := fun H0 F0 F H σ ρ Q P E hw k =>
  he H0 F0 F H σ ρ _ _ E hw fun x v F1 H1 s1 r1 h1 => ha H0 F0 F1 H1 σ ρ _ _ (E.step s1) h1 fun xs vs F2 H2 s2 r2 h2 => k (x :: xs) (v :: vs) F2 H2 (s1.trans s2) (.cons (r1.step s2) r2) h2
theorem simAW_nil : SimAW K d ts tNil wNil := fun H0 F0 F H σ ρ Q P E hw k => k [] [] F H (Step.refl E.dm) .nil hw
theorem simAW_cons {ta : TA} {wa : WA} (he : Sim K d (rW K d) ts te we) (ha : SimAW K d ts ta wa) : SimAW K d ts (tCons te ta) (wCons we wa) := fun H0 F0 F H σ ρ Q P E hw k =>
  he H0 F0 F H σ ρ _ _ E hw fun x v F1 H1 s1 r1 h1 => ha H0 F0 F1 H1 σ ρ _ _ (E.step s1) h1 fun xs vs F2 H2 s2 r2 h2 => k (x :: xs) (v :: vs) F2 H2 (s1.trans s2) (.cons (Rw.step s2 r1) r2) h2
def wLst (wa : WA) : WE := fun ρ P => wa ρ fun xs => xs.length ≤ 1000 ∧ P (.lst xs)
def wTup (wa : WA) : WE := fun ρ P => wa ρ fun xs => xs.length ≤ 1000 ∧ P (.tup xs)
theorem sim_lst {ta : TA} {wa : WA} (ha : SimA K d ts ta wa) : Sim K d (rN K d) ts (tLst ta) (wLst wa) := fun H0 F0 F H σ ρ Q P E hw k =>
  ha H0 F0 F H σ ρ _ _ E hw fun xs vs F1 H1 s1 r1 h1 => ⟨by rw [r1.length]; exact sz_of (Nat.le_trans h1.1 (by decide)), fun p np => fin_lst s1.dm np r1 h1.2 fun z v' F' H' s r q => k z v' F' H' (s1.trans s) (okN.back s1 r) q⟩
theorem sim_tup {ta : TA} {wa : WA} (ha : SimA K d ts ta wa) : Sim K d (rN K d) ts (tTup ta) (wTup wa) := fun H0 F0 F H σ ρ Q P E hw k =>
  ha H0 F0 F H σ ρ _ _ E hw fun xs vs F1 H1 s1 r1 h1 => ⟨by rw [r1.length]; exact sz_of (Nat.le_trans h1.1 (by decide)), fun p np => fin_tup s1.dm np r1 h1.2 fun z v' F' H' s r q => k z v' F' H' (s1.trans s) (okN.back s1 r) q⟩
end
end Wx
namespace Wx
open PySem PySem.Spec PyProof.Rows L2 Evl Hn RZ
variable [TabC]
section
variable [XC]
variable {K : PySem.W.Frag} {d : Cn → Addr} {F F' F0 : Fz} {H H' H0 : Hp} {v u : V} {ts ts' : List Tag} {R : RR} {te ta tb tc : TE} {we wa wb wc : WE}
theorem cutP_rel {vs : List V} {xs : List PV} {lo hi : Option Int} (r : Rvs K d F H vs xs) : Rvs K d F H (cutV vs lo hi) (cutP xs lo hi) := by
  unfold cutV cutP
  rw [r.length]
  exact (r.drop _).take _
theorem cut_whole {α : Type} {xs : List α} {a b : Nat} (h : a = 0 ∧ b = xs.length) : (xs.drop a).take (b - a) = xs := by
  rw [h.1, h.2, List.drop_zero, Nat.sub_zero, List.take_length]
def orS (r s : V → Option Int → Option Int → Hp → VK → Prop) : V → Option Int → Option Int → Hp → VK → Prop := fun x lo hi H Q => r x lo hi H Q ∨ s x lo hi H Q
theorem sl_or {X : Cx} {r s : V → Option Int → Option Int → Hp → VK → Prop} (a : SlR X r) (b : SlR X s) : SlR X (orS r s) := by
  intro pins st σ H x v vl vu lo hi sl Q I rx hs pl pu h
  exact h.elim (a pins st σ H x v vl vu lo hi sl Q I rx hs pl pu) (b pins st σ H x v vl vu lo hi sl Q I rx hs pl pu)
def rSlU (K : PySem.W.Frag) := orS (rSlL K) (orS (rSlA K) rSlS)
theorem u_sl {X : Cx} (h : X.K = K) : SlR X (rSlU K) := h ▸ sl_or sl_list (sl_or sl_tupA sl_str)
def wSl1 : PV → Option Int → Option Int → (PV → Prop) → Prop := fun x lo hi P => match x with
  | .lst xs => P (.lst (cutP xs lo hi))
  | .tup xs => P (.tup (cutP xs lo hi))
  | .str s => s.length ≤ 100000 ∧ P (.str (cutS s lo hi))
  | _ => False
theorem sls_sl : SlS K d (rSlU K) wSl1 := fun F H v lo hi x Q P dm rx h k => by
  cases x with
  | lst xs =>
    obtain ⟨p, vs, rfl, h1, h2⟩ := rx.lst
    exact .inl ⟨p, vs, rfl, .inl (.inl h1), fun q nq => fin_lst dm nq (cutP_rel h2) h k⟩
  | tup xs =>
    obtain ⟨p, vs, rfl, h1, h2⟩ := rx.tupE
    refine .inr (.inl ⟨p, vs, rfl, h1, fun e => ?_, fun _ q nq => fin_tup dm nq (cutP_rel h2) h k⟩)
    have h' : P (.tup (cutP xs lo hi)) := h
    have e' : cutP xs lo hi = xs := by
      unfold cutP
      rw [h2.length] at e
      exact cut_whole e
    rw [e'] at h'
    exact fin_val dm (.tup h1 h2) h' k
  | str s => cases rx.strE; exact .inr (.inr ⟨s, rfl, sz_of h.1, fin_val dm (.str _) h.2 k⟩)
  | _ => exact h.elim
abbrev WO := List PV → (Option Int → Prop) → Prop
def SimO (K : PySem.W.Frag) (d : Cn → Addr) (ts : List Tag) (to : TO) (wo : WO) : Prop := ∀ (H0 : Hp) (F0 F : Fz) (H : Hp) (σ : L2.St) (ρ : List PV) (Q : Option Int → Hp → Prop) (P : Option Int → Prop), EnvR K d ts H0 F0 F H σ ρ → wo ρ P →
  (∀ o F' H', Step F H F' H' → P o → Q o H') → to σ H Q
def wNoPart : WO := fun _ P => P none
def wPart (we : WE) : WO := fun ρ P => we ρ fun x => match x with
  | .int i => P (some i)
  | _ => False
theorem simO_none : SimO K d ts tNoPart wNoPart := fun H0 F0 F H σ ρ Q P E hw k => k none F H (Step.refl E.dm) hw
theorem simO_some (h : Sim K d (rW K d) ts te we) : SimO K d ts (tPart te) (wPart we) := fun H0 F0 F H σ ρ Q P E hw k => h H0 F0 F H σ ρ _ _ E hw fun x v F' H' s r p => by
  cases x with
  | int i => cases Rw.intE r; exact ⟨i, rfl, k _ F' H' s p⟩
  | _ => exact p.elim
def wSl (we : WE) (wl wh : WO) : WE := fun ρ P => we ρ fun x => wl ρ fun l => wh ρ fun h => wSl1 x l h P
theorem sim_sl {tl th : TO} {wl wh : WO} (he : Sim K d (rW K d) ts te we) (hl : SimO K d ts tl wl) (hh : SimO K d ts th wh) : Sim K d (rN K d) ts (L2.tSl (rSlU K) te tl th) (wSl we wl wh) := fun H0 F0 F H σ ρ Q P E hw k =>
  he H0 F0 F H σ ρ _ _ E hw fun x v F1 H1 s1 r1 h1 => hl H0 F0 F1 H1 σ ρ _ _ (E.step s1) h1 fun l F2 H2 s2 h2 => hh H0 F0 F2 H2 σ ρ _ _ (E.step (s1.trans s2)) h2 fun u F3 H3 s3 h3 =>
    sls_sl F3 H3 v l u x _ _ s3.dm (Rw.step (s2.trans s3) r1) h3 fun z v' F4 H4 s4 r4 p => k z v' F4 H4 ((s1.trans (s2.trans s3)).trans s4) (okN.back (s1.trans (s2.trans s3)) r4) p
def wRev (we : WE) : WE := fun ρ P => we ρ fun x => match x with
  | .lst xs => P (.lst xs.reverse)
  | _ => False
def wRevT (we : WE) : WE := fun ρ P => we ρ fun x => match x with
  | .tup xs => P (.tup xs.reverse)
  | _ => False
theorem sim_revL (h : Sim K d (rW K d) ts te we) : Sim K d (rN K d) ts (tRevL K te) (wRev we) := fun H0 F0 F H σ ρ Q P E hw k => h H0 F0 F H σ ρ _ _ E hw fun x v F1 H1 s1 r1 h1 => by
  cases x with
  | lst xs =>
    obtain ⟨p, vs, rfl, h2, h3⟩ := Rw.lst r1
    exact ⟨p, vs, rfl, .inl (.inl h2), fun q nq => fin_lst s1.dm nq h3.reverse h1 fun z v' F' H' s r q => k z v' F' H' (s1.trans s) (okN.back s1 r) q⟩
  | _ => exact h1.elim
def wFld (we : WE) (f : Str) : WE := fun ρ P => we ρ fun x => match x with
  | .ins c fs => ∃ z, fs.lookup f = some z ∧ P z
  | _ => False
theorem sim_fld {f : Str} {c : Cn} {C : Addr} (hC : d c = C) (cl : Cls K C) (na : NoAttr K C f) (h : Sim K d (rS K d) ts te we) : Sim K d (rS K d) ts (tFld K te f) (fun ρ P => wFld (fun ρ P => we ρ fun x => (∃ fs, x = .ins c fs) ∧ P x) f ρ P) := fun H0 F0 F H σ ρ Q P E hw k => h H0 F0 F H σ ρ _ _ E hw fun x v F1 H1 s1 r1 h1 => by
  obtain ⟨⟨fs, rfl⟩, z, hz, pz⟩ := h1
  obtain ⟨p, dx, gs, rfl, h2, h3⟩ := Rv.insE r1
  obtain ⟨w, hw', rw'⟩ := h3.look hz
  subst hC
  exact ⟨p, _, dx, gs, w, rfl, h2, cl, na, hw', k z w F1 H1 s1 rw' pz⟩
def wCB (w : WC) (wa : WA) : WE := fun ρ P => wa ρ fun xs => w xs P
theorem sim_cb {rc : List V → Hp → VK → Prop} {w : WC} {ar : TA} {wr : WA} (o : ROk R) (hc : CaS K d R rc w) (ha : SimAW K d ts ar wr) : Sim K d R ts (tCB rc ar) (wCB w wr) := fun H0 F0 F H σ ρ Q P E hw k =>
  ha H0 F0 F H σ ρ _ _ E hw fun xs vs F1 H1 s1 r1 h1 => hc F1 H1 vs xs _ _ s1.dm r1 h1 fun z v' F3 H3 s3 r3 p => k z v' F3 H3 (s1.trans s3) (o.back s1 r3) p
def orC (r s : List V → Hp → VK → Prop) : List V → Hp → VK → Prop := fun xs H Q => r xs H Q ∨ s xs H Q
theorem ca_or {X : Cx} {f : Value} {r s : List V → Hp → VK → Prop} (a : CallR X f r) (b : CallR X f s) : CallR X f (orC r s) := by
  intro pins st σ H vs us Q I rx h
  exact h.elim (a pins st σ H vs us Q I rx) (b pins st σ H vs us Q I rx)
def rLenS : List V → Hp → VK → Prop := fun xs H Q => ∃ z, xs = [.str z] ∧ z.length ≤ sizeLine ∧ Q (.int z.length) H
theorem k_lenS {X : Cx} : CallR X (.builtin "len") rLenS := call_len_str
def rLenU (K : PySem.W.Frag) := orC (Hn.rLen K) rLenS
theorem u_len {X : Cx} (h : X.K = K) : CallR X (.builtin "len") (rLenU K) := ca_or (k_len h) k_lenS
def wLen : WC := fun xs P => match xs with
  | [.lst ys] => P (.int ys.length)
  | [.tup ys] => P (.int ys.length)
  | [.str s] => s.length ≤ 100000 ∧ P (.int s.length)
  | _ => False
theorem cas_len : CaS K d (rN K d) (rLenU K) wLen := fun F H vs xs Q P dm r h k => by
  unfold wLen at h
  split at h
  · obtain ⟨v, rfl, r1⟩ := r.one
    obtain ⟨p, vs, rfl, h2, h3⟩ := Rw.lst r1
    refine .inl ⟨p, vs, rfl, .inl (.inl (.inl h2)), ?_⟩
    show Q (.int (vs.length : Int)) H
    rw [h3.length]
    exact fin_val dm (.int _) h k
  · obtain ⟨v, rfl, r1⟩ := r.one
    obtain ⟨p, vs, rfl, h2, h3⟩ := Rw.tupE r1
    refine .inl ⟨p, vs, rfl, .inr h2, ?_⟩
    show Q (.int (vs.length : Int)) H
    rw [h3.length]
    exact fin_val dm (.int _) h k
  · obtain ⟨v, rfl, r1⟩ := r.one
    cases r1.strE
    exact .inr ⟨_, rfl, sz_of h.1, fin_val dm (.int _) h.2 k⟩
  · exact h.elim
def wListOf : WC := fun xs P => match xs with
  | [.lst ys] => P (.lst ys)
  | [.tup ys] => P (.lst ys)
  | _ => False
theorem cas_listOf : CaS K d (rN K d) (rListOf K) wListOf := fun F H vs xs Q P dm r h k => by
  unfold wListOf at h
  split at h
  · obtain ⟨v, rfl, r1⟩ := r.one
    obtain ⟨p, vs, rfl, h2, h3⟩ := Rw.lst r1
    exact ⟨p, vs, rfl, .inl (.inl (.inl h2)), fun q nq => fin_lst dm nq h3 h k⟩
  · obtain ⟨v, rfl, r1⟩ := r.one
    obtain ⟨p, vs, rfl, h2, h3⟩ := Rw.tupE r1
    exact ⟨p, vs, rfl, .inr h2, fun q nq => fin_lst dm nq h3 h k⟩
  · exact h.elim
def wTupOf : WC := fun xs P => match xs with
  | [.lst ys] => P (.tup ys)
  | [.tup ys] => P (.tup ys)
  | _ => False
theorem cas_tupOf : CaS K d (rN K d) (rTupOf K) wTupOf := fun F H vs xs Q P dm r h k => by
  unfold wTupOf at h
  split at h
  · obtain ⟨v, rfl, r1⟩ := r.one
    obtain ⟨p, vs, rfl, h2, h3⟩ := Rw.lst r1
    exact ⟨p, vs, rfl, .inl ⟨.inl (.inl h2), fun q nq => fin_tup dm nq h3 h k⟩⟩
  · obtain ⟨v, rfl, r1⟩ := r.one
    obtain ⟨p, vs, rfl, h2, h3⟩ := Rw.tupE r1
    exact ⟨p, vs, rfl, .inr ⟨h2, fin_val dm (.tup h2 h3) h k⟩⟩
  · exact h.elim
def wAbs : WC := fun xs P => match xs with
  | [.int i] => P (.int (if i < 0 then -i else i))
  | _ => False
def wInt1 : WC := fun xs P => match xs with
  | [.int i] => P (.int i)
  | [.bl b] => P (.int (if b then 1 else 0))
  | [.str a] => ∃ n, PySem.intText? a = some n ∧ a.length ≤ 640 ∧ P (.int n)
  | _ => False
def rIntU := orC rInt1 rIntS
theorem u_int {X : Cx} : CallR X (.type "int") rIntU := ca_or k_int1 k_intS
theorem cas_int : CaS K d (rN K d) rIntU wInt1 := fun F H vs xs Q P dm r h k => by
  unfold wInt1 at h
  split at h
  · obtain ⟨v, rfl, r1⟩ := r.one
    cases r1.intE
    exact .inl (.inl ⟨_, rfl, fin_val dm (.int _) h k⟩)
  · obtain ⟨v, rfl, r1⟩ := r.one
    cases r1.blE
    exact .inl (.inr ⟨_, rfl, fin_val dm (.int _) h k⟩)
  · obtain ⟨v, rfl, r1⟩ := r.one
    cases r1.strE
    obtain ⟨n, h1, h2, h3⟩ := h
    exact .inr ⟨_, n, rfl, h1, h2, fin_val dm (.int _) h3 k⟩
  · exact h.elim
def wAll : WC := fun xs P => ∃ bs : List Bool, xs = [.lst (bs.map .bl)] ∧ P (.bl (bs.all id))
theorem cas_all : CaS K d (rN K d) (rAll K) wAll := fun F H vs xs Q P dm r h k => by
  obtain ⟨ns, rfl, p⟩ := h
  obtain ⟨v, rfl, r1⟩ := r.one
  obtain ⟨q, vs, rfl, h2, h3⟩ := Rw.lst r1
  cases h3.bools
  exact ⟨q, ns, rfl, .inl (.inl h2), fin_val dm (.bl _) p k⟩
def wMin2 : WC := fun xs P => match xs with
  | [.int i, .int j] => P (.int (if j < i then j else i))
  | _ => False
theorem cas_min2 : CaS K d (rN K d) rMin2 wMin2 := fun F H vs xs Q P dm r h k => by
  unfold wMin2 at h
  split at h
  · obtain ⟨v, u, rfl, r1, r2⟩ := r.two
    cases r1.intE
    cases r2.intE
    exact ⟨_, _, rfl, fin_val dm (.int _) h k⟩
  · exact h.elim
def wMax2 : WC := fun xs P => match xs with
  | [.int i, .int j] => P (.int (if j > i then j else i))
  | _ => False
theorem cas_max2 : CaS K d (rN K d) rMx2 wMax2 := fun F H vs xs Q P dm r h k => by
  unfold wMax2 at h
  split at h
  · obtain ⟨v, u, rfl, r1, r2⟩ := r.two
    cases r1.intE
    cases r2.intE
    exact ⟨_, _, rfl, fin_val dm (.int _) h k⟩
  · exact h.elim
def wStrI : WC := fun xs P => match xs with
  | [.int i] => i.natAbs.log2 < 1920 ∧ P (.str (txI i))
  | _ => False
def tyP : PV → Option String
  | .non => some "NoneType"
  | .bl _ => some "bool"
  | .int _ => some "int"
  | .str _ => some "str"
  | .lst _ => some "list"
  | .tup _ => some "tuple"
  | .dct _ _ => some "dict"
  | _ => none
theorem tyP_ok {x : PV} {n : String} (h : Rw K d F H v x) (e : tyP x = some n) : TyX K H v (.type n) := by
  cases x with
  | non => cases e; cases h.nonE; exact .base .non
  | bl b => cases e; cases h.blE; exact .base (.bl b)
  | int b => cases e; cases h.intE; exact .base (.int b)
  | str b => cases e; cases h.strE; exact .base (.str b)
  | lst b =>
    cases e
    obtain ⟨p, vs, rfl, h1, _⟩ := h.lst
    exact .base (.lst h1)
  | tup b =>
    cases e
    obtain ⟨p, vs, rfl, h1, _⟩ := h.tupE
    rcases h1 with (h | ⟨o, h⟩) | ⟨o, its, n, h1, h2, _⟩
    · exact .base (.tup h)
    · exact .fTuple h
    · exact .kTuple h1 h2
  | dct b c =>
    cases e
    obtain ⟨rfl, h1, _⟩ := h.dctE
    exact .base (.dK h1)
  | _ => cases e
def wIsi : WC := fun xs P => match xs with
  | [x, .ty b] => ∃ a k, tyP x = some a ∧ kitB a b = some k ∧ P (.bl k)
  | _ => False
theorem cas_isi : CaS K d (rN K d) (rIsi K) wIsi := fun F H vs xs Q P dm r h k => by
  unfold wIsi at h
  split at h
  · obtain ⟨v, u, rfl, r1, r2⟩ := r.two
    cases r2.tyE
    obtain ⟨a, b, h1, h2, h3⟩ := h
    exact ⟨v, _, _, _, b, rfl, .ty _, tyP_ok r1 h1, kit_ty h2, fin_val dm (.bl _) h3 k⟩
  · exact h.elim
def wIsiT (we : WE) (A B : String) : WE := fun ρ P => we ρ fun x => ∃ a k l, tyP x = some a ∧ kitB a A = some k ∧ kitB a B = some l ∧ P (.bl (k || l))
abbrev WI := List PV → (List PV → Prop) → Prop
def Items (K : PySem.W.Frag) (d : Cn → Addr) (Kp : Hp → Prop) (F : Fz) (H : Hp) (J : It) (xs : List PV) : Prop := ∃ (G : Hp → Prop) (Y : Nat → Hp → V → Hp → Prop), Walk J xs.length G Y ∧ (∀ H', Kp H' → G H') ∧
  ∀ i H2 F2 v H3, Kp H2 → (∀ a, F a → F2 a) → Stb F H H2 → Dom F2 H2 → Y i H2 v H3 → i < xs.length → Step F2 H2 F2 H3 ∧ ∃ x, xs[i]? = some x ∧ Rv K d F2 H3 v x
def keep (lp : Bool) (F : Fz) (H : Hp) : Hp → Prop := fun H' => if lp = true then Stb F H H' else Xn H H'
def SimI (K : PySem.W.Frag) (d : Cn → Addr) (lp : Bool) (ts : List Tag) (wi : TI) (ww : WI) : Prop := ∀ (H0 : Hp) (F0 F : Fz) (H : Hp) (σ : L2.St) (ρ : List PV) (R : It → Hp → Prop) (P : List PV → Prop), EnvR K d ts H0 F0 F H σ ρ → ww ρ P →
  (∀ xs F' H' J, Step F H F' H' → Items K d (keep lp F' H') F' H' J xs → P xs → R J H') → wi σ H R
def only (H : Hp) (a : Addr) : Hp := fun b => if b = a then H a else none
theorem only_ex {a : Addr} {o : HO} (h : H a = some o) (h' : H' a = some o) : Ex (only H a) H' := fun b q e => by
  unfold only at e
  split at e
  · subst b
    rw [h] at e
    rw [h', e]
  · cases e
def wSeqI (we : WE) : WI := fun ρ P => we ρ fun x => match x with
  | .lst xs => P xs
  | .tup xs => P xs
  | _ => False
theorem tup_part {a : Addr} {vs : List V} (h : SqT K H a vs) : ∃ Hs : Hp, SqT K Hs a vs ∧ ∀ H', Xm H H' → Ex Hs H' := by
  rcases h with (h | ⟨o, h⟩) | h
  · refine ⟨only H a, .inl (.inl (by unfold only; rw [if_pos rfl]; exact h)), fun H' e => only_ex h (e _ _ h rfl)⟩
  · refine ⟨only H a, .inl (.inr ⟨o, by unfold only; rw [if_pos rfl]; exact h⟩), fun H' e => only_ex h (e _ _ h rfl)⟩
  · exact ⟨fun _ => none, .inr h, fun H' e b q hb => by cases hb⟩
theorem goes_items {lp : Bool} {J : It} {Hs : Hp} {vs : List V} {xs : List PV} (g : Goes1 Hs vs.length (YAt vs) J) (r : Rvs K d F H vs xs) (e : ∀ H', keep lp F H H' → Ex Hs H') : Items K d (keep lp F H) F H J xs := by
  obtain ⟨G, w, hG⟩ := g
  rw [r.length] at w
  refine ⟨G, _, w, fun H' h => hG H' (e H' h), fun i H2 F2 v H3 kp up st dm y hi => ?_⟩
  obtain ⟨e1, e2⟩ := (y : H3 = H2 ∧ vs[i]? = some v)
  subst e1
  obtain ⟨x, hx, rx⟩ := r.getV e2
  exact ⟨Step.refl dm, x, hx, rx.mono st up⟩
theorem keep_xl {lp : Bool} {H' : Hp} (h : keep lp F H H') : Xm H H' := by
  unfold keep at h
  split at h
  · exact h.xl
  · exact .of h
theorem keep_lst {lp : Bool} {H' : Hp} {a : Addr} {vs : List V} (h : keep lp F H H') (ha : H a = some (.lst vs)) (f : lp = true → F a) : H' a = some (.lst vs) := by
  unfold keep at h
  split at h
  · next z => exact h _ _ ha (.inr ⟨f z, rfl⟩)
  · exact h.at ha
theorem simI_seq {lp : Bool} (h : Sim K d (if lp = true then rS K d else rW K d) ts te we) : SimI K d lp ts (iSeq K te) (wSeqI we) := fun H0 F0 F H σ ρ Q P E hw k => h H0 F0 F H σ ρ _ _ E hw fun x v F1 H1 s1 r1 h1 => by
  have rw1 : Rw K d F1 H1 v x := by
    cases lp with
    | true => exact .inl r1
    | false => exact r1
  cases x with
  | lst xs =>
    obtain ⟨p, vs, rfl, h2, h3⟩ := rw1.lst
    have fp : lp = true → F1 p := fun z => by
      subst z
      cases (show Rv K d F1 H1 (.ref p) (.lst xs) from r1) with
      | lst a b c => exact b
    exact ⟨p, vs, only H1 p, rfl, .inl (.inl (.inl (by unfold only; rw [if_pos rfl]; exact h2))), only_ex h2 h2, fun J g => k xs F1 H1 J s1 (goes_items g h3 fun H' kp => only_ex h2 (keep_lst kp h2 fp)) h1⟩
  | tup xs =>
    obtain ⟨p, vs, rfl, h2, h3⟩ := rw1.tupE
    obtain ⟨Hs, a1, a2⟩ := tup_part h2
    exact ⟨p, vs, Hs, rfl, .inr a1, a2 _ (Xm.refl _), fun J g => k xs F1 H1 J s1 (goes_items g h3 fun H' kp => a2 _ (keep_xl kp)) h1⟩
  | _ => exact h1.elim
def enumP (xs : List PV) : List PV := (List.range xs.length).map fun i => .tup [.int (i : Nat), xs.getD i .non]
def wEnum (wa : WA) : WI := fun ρ P => wa ρ fun zs => match zs with
  | [.lst xs] => P (enumP xs)
  | [.tup xs] => P (enumP xs)
  | _ => False
theorem enum_items {lp : Bool} {J : It} {Hs : Hp} {vs : List V} {xs : List PV} (g : Goes1 Hs vs.length (YEnum vs) J) (r : Rvs K d F H vs xs) (e : ∀ H', keep lp F H H' → Ex Hs H') : Items K d (keep lp F H) F H J (enumP xs) := by
  obtain ⟨G, w, hG⟩ := g
  have hl : (enumP xs).length = vs.length := by unfold enumP; rw [List.length_map, List.length_range, r.length]
  rw [← hl] at w
  refine ⟨G, _, w, fun H' h => hG H' (e H' h), fun i H2 F2 v H3 kp up st dm y hi => ?_⟩
  obtain ⟨T, z, x, e1, nT, e2, e3, e4⟩ := (y : ∃ T x y, v = .ref T ∧ H2 T = none ∧ H3 = upd H2 T (.tup [x, y]) ∧ some (.int (i : Nat)) = some x ∧ vs[i]? = some y)
  subst e1 e2
  obtain rfl := Option.some.inj e3
  obtain ⟨q, hq, rq⟩ := r.getV e4
  have s := Step.new (o := .tup [.int (i : Nat), x]) dm nT
  refine ⟨s, .tup [.int (i : Nat), q], ?_, .tup (.inl (.inl upd_same)) (.cons (.int _) (.cons ((rq.mono st up).step s) .nil))⟩
  unfold enumP
  rw [hl] at hi
  rw [List.getElem?_map, List.getElem?_range (by rw [← r.length]; exact hi)]
  show some (PV.tup [.int (i : Nat), xs.getD i .non]) = _
  rw [getD_of hq]
theorem simI_enum {lp : Bool} {ar : TA} {wa : WA} (h : SimA K d ts ar wa) : SimI K d lp ts (iEnumS K ar) (wEnum wa) := fun H0 F0 F H σ ρ Q P E hw k => h H0 F0 F H σ ρ _ _ E hw fun zs us F1 H1 s1 r1 h1 => by
  cases r1 with
  | nil => exact h1.elim
  | cons a b =>
    cases b with
    | cons c e =>
      split at h1
      · rename_i q; cases q
      · rename_i q; cases q
      · exact h1.elim
    | nil =>
      split at h1
      · rename_i xs q
        cases q
        cases a with
        | lst h2 h4 h3 =>
          rename_i p vs
          exact ⟨p, vs, only H1 p, rfl, .inl (.inl (.inl (by unfold only; rw [if_pos rfl]; exact h2))), only_ex h2 h2, fun J g => k _ F1 H1 J s1 (enum_items g h3 fun H' kp => only_ex h2 (keep_lst kp h2 fun _ => h4)) h1⟩
      · rename_i xs q
        cases q
        obtain ⟨p, vs, rfl, h2, h3⟩ := a.tupE
        obtain ⟨Hs, a1, a2⟩ := tup_part h2
        exact ⟨p, vs, Hs, rfl, .inr a1, a2 _ (Xm.refl _), fun J g => k _ F1 H1 J s1 (enum_items g h3 fun H' kp => a2 _ (keep_xl kp)) h1⟩
      · exact h1.elim
def zipP (xs ys : List PV) : List PV := (List.range (min xs.length ys.length)).map fun i => .tup [xs.getD i .non, ys.getD i .non]
def wZip (wa : WA) : WI := fun ρ P => wa ρ fun zs => match zs with
  | [.lst xs, .lst ys] => P (zipP xs ys)
  | [.tup xs, .tup ys] => P (zipP xs ys)
  | _ => False
def rangeP (lo : Int) (n : Nat) : List PV := (List.range n).map fun i => .int (lo + (i : Nat))
def wRng1 (wa : WA) : WI := fun ρ P => wa ρ fun zs => match zs with
  | [.int j] => -(2 ^ 62) ≤ j ∧ j < 2 ^ 62 ∧ P (rangeP 0 j.toNat)
  | _ => False
def wRng2 (wa : WA) : WI := fun ρ P => wa ρ fun zs => match zs with
  | [.int i, .int j] => (-(2 ^ 62) ≤ i ∧ i < 2 ^ 62 ∧ -(2 ^ 62) ≤ j ∧ j < 2 ^ 62) ∧ P (rangeP i (j - i).toNat)
  | _ => False
theorem range_items {Kp : Hp → Prop} {lo : Int} {n : Nat} : Items K d Kp F H (Itr lo n) (rangeP lo n) := by
  have hl : (rangeP lo n).length = n := by unfold rangeP; rw [List.length_map, List.length_range]
  have w := walk_range (lo := lo) (n := n)
  refine ⟨fun _ => True, _, by rw [hl]; exact w, fun _ _ => trivial, fun i H2 F2 v H3 kp up st dm y hi => ?_⟩
  obtain ⟨e1, e2⟩ := (y : H3 = H2 ∧ v = .int (lo + (i : Nat)))
  subst e1 e2
  rw [hl] at hi
  refine ⟨Step.refl dm, .int (lo + (i : Nat)), ?_, .int _⟩
  unfold rangeP
  rw [List.getElem?_map, List.getElem?_range hi]
  rfl
theorem simI_rng1 {lp : Bool} {ar : TA} {wa : WA} (h : SimAW K d ts ar wa) : SimI K d lp ts (iRng1 ar) (wRng1 wa) := fun H0 F0 F H σ ρ Q P E hw k => h H0 F0 F H σ ρ _ _ E hw fun zs us F1 H1 s1 r1 h1 => by
  split at h1
  · obtain ⟨v, rfl, r2⟩ := r1.one
    cases r2.intE
    exact ⟨_, rfl, h1.1, h1.2.1, k _ F1 H1 _ s1 range_items h1.2.2⟩
  · exact h1.elim
theorem dp_ne {H : Hp} {σ : L2.St} {i j : Nat} {o : Option V} {a : Addr} (e : i ≠ j) : Dpl H (σ.set i o) j a ↔ Dpl H σ j a := by
  unfold Dpl
  rw [List.getElem?_set_ne e]
theorem od_ne {ts : List Tag} {i j : Nat} {t : Tag} (ht : t ≠ .od) (h : (ts.set i t)[j]? = some .od) : i ≠ j ∧ ts[j]? = some .od := by
  rw [List.getElem?_set] at h
  split at h
  · split at h
    · cases h
      exact absurd rfl ht
    · cases h
  · next e => exact ⟨e, h⟩
theorem ow_ne {ts : List Tag} {i j : Nat} {t : Tag} (ht : t ≠ .ow) (h : (ts.set i t)[j]? = some .ow) : i ≠ j ∧ ts[j]? = some .ow := by
  rw [List.getElem?_set] at h
  split at h
  · split at h
    · cases h
      exact absurd rfl ht
    · cases h
  · next e => exact ⟨e, h⟩
theorem EnvR.set {i : Nat} {x : PV} {σ : L2.St} {ρ : List PV} (E : EnvR K d ts H0 F0 F H σ ρ) (r : Rv K d F H v x) : EnvR K d (ts.set i .sh) H0 F0 F H (σ.set i (some v)) (ρ.set i x) where
  st := E.st
  xc := E.xc
  ex := E.ex.set (by decide)
  ls := by rw [List.length_set, List.length_set, E.ls]
  lr := by rw [List.length_set, List.length_set, E.lr]
  sh := fun j h => by
    rw [List.getElem?_set] at h
    split at h
    · next e =>
      subst e
      split at h
      · next l => exact ⟨v, x, by rw [List.getElem?_set_self (by rw [E.ls]; exact l)], by rw [List.getElem?_set_self (by rw [E.lr]; exact l)], r⟩
      · cases h
    · next e =>
      obtain ⟨w, y, h1, h2, h3⟩ := E.sh j h
      exact ⟨w, y, by rw [List.getElem?_set_ne e]; exact h1, by rw [List.getElem?_set_ne e]; exact h2, h3⟩
  ow := fun j h => by
    rw [List.getElem?_set] at h
    split at h
    · split at h <;> cases h
    · next e =>
      obtain ⟨a, vs, xs, h1, h2, h3⟩ := E.ow j h
      exact ⟨a, vs, xs, by rw [List.getElem?_set_ne e]; exact h1, by rw [List.getElem?_set_ne e]; exact h2, h3⟩
  ap := fun j l a h1 h2 h3 h4 => by
    have o : ∀ m : Nat, (ts.set i .sh)[m]? = some .ow → i ≠ m ∧ ts[m]? = some .ow := fun m h => by
      rw [List.getElem?_set] at h
      split at h
      · split at h <;> cases h
      · next e => exact ⟨e, h⟩
    obtain ⟨n1, o1⟩ := o j h1
    obtain ⟨n2, o2⟩ := o l h2
    rw [List.getElem?_set_ne n1] at h3
    rw [List.getElem?_set_ne n2] at h4
    exact E.ap j l a o1 o2 h3 h4
  od := fun j h => by
    obtain ⟨e, h⟩ := od_ne (by decide) h
    obtain ⟨w, y, h1, h2, h3⟩ := E.od j h
    exact ⟨w, y, by rw [List.getElem?_set_ne e]; exact h1, by rw [List.getElem?_set_ne e]; exact h2, h3⟩
  ad := fun j a h q => by
    obtain ⟨e, h⟩ := od_ne (by decide) h
    obtain ⟨q1, q2⟩ := E.ad j a h ((dp_ne e).mp q)
    refine ⟨fun l hl => ?_, fun l hl z => ?_⟩
    · obtain ⟨e', hl⟩ := ow_ne (by decide) hl
      rw [List.getElem?_set_ne e']
      exact q1 l hl
    · obtain ⟨e', hl⟩ := od_ne (by decide) hl
      exact q2 l hl ((dp_ne e').mp z)
theorem EnvR.setO {i : Nat} {p : Addr} {vs : List V} {xs : List PV} {σ : L2.St} {ρ : List PV} (E : EnvR K d ts H0 F0 F H σ ρ) (h1 : H p = some (.lst vs)) (h2 : ¬ F p) (h3 : H0 p = none) (h4 : Rvs K d F H vs xs)
    (h5 : ∀ j : Nat, j ≠ i → ts[j]? = some .ow → σ[j]? ≠ some (some (.ref p))) (h6 : ∀ j : Nat, ts[j]? = some .od → ¬ Dpl H σ j p) : EnvR K d (ts.set i .ow) H0 F0 F H (σ.set i (some (.ref p))) (ρ.set i (.lst xs)) where
  st := E.st
  xc := E.xc
  ex := E.ex.set (by decide)
  ls := by rw [List.length_set, List.length_set, E.ls]
  lr := by rw [List.length_set, List.length_set, E.lr]
  sh := fun j h => by
    rw [List.getElem?_set] at h
    split at h
    · split at h <;> cases h
    · next e =>
      obtain ⟨w, y, g1, g2, g3⟩ := E.sh j h
      exact ⟨w, y, by rw [List.getElem?_set_ne e]; exact g1, by rw [List.getElem?_set_ne e]; exact g2, g3⟩
  ow := fun j h => by
    rw [List.getElem?_set] at h
    split at h
    · next e =>
      subst e
      split at h
      · next l => exact ⟨p, vs, xs, by rw [List.getElem?_set_self (by rw [E.ls]; exact l)], by rw [List.getElem?_set_self (by rw [E.lr]; exact l)], h1, h2, h3, h4⟩
      · cases h
    · next e =>
      obtain ⟨a, vs, xs, g1, g2, g3⟩ := E.ow j h
      exact ⟨a, vs, xs, by rw [List.getElem?_set_ne e]; exact g1, by rw [List.getElem?_set_ne e]; exact g2, g3⟩
  ap := fun j l a g1 g2 g3 g4 => by
    have o : ∀ m : Nat, (ts.set i .ow)[m]? = some .ow → (i ≠ m → ts[m]? = some .ow ∧ (σ.set i (some (.ref p)))[m]? = σ[m]?) ∧ (i = m → (σ.set i (some (.ref p)))[m]? = some (some (.ref p))) := fun m h => by
      rw [List.getElem?_set] at h
      split at h
      · next e =>
        subst e
        split at h
        · next l => exact ⟨fun z => absurd rfl z, fun _ => by rw [List.getElem?_set_self (by rw [E.ls]; exact l)]⟩
        · cases h
      · next e => exact ⟨fun _ => ⟨h, by rw [List.getElem?_set_ne e]⟩, fun z => absurd z e⟩
    obtain ⟨a1, a2⟩ := o j g1
    obtain ⟨b1, b2⟩ := o l g2
    by_cases ej : i = j
    · by_cases el : i = l
      · rw [← ej, el]
      · rw [a2 ej] at g3
        cases g3
        obtain ⟨q1, q2⟩ := b1 el
        rw [q2] at g4
        exact absurd g4 (h5 l (Ne.symm el) q1)
    · by_cases el : i = l
      · rw [b2 el] at g4
        cases g4
        obtain ⟨q1, q2⟩ := a1 ej
        rw [q2] at g3
        exact absurd g3 (h5 j (Ne.symm ej) q1)
      · obtain ⟨q1, q2⟩ := a1 ej
        obtain ⟨q3, q4⟩ := b1 el
        rw [q2] at g3
        rw [q4] at g4
        exact E.ap j l a q1 q3 g3 g4
  od := fun j h => by
    obtain ⟨e, h⟩ := od_ne (by decide) h
    obtain ⟨w, y, g1, g2, g3⟩ := E.od j h
    exact ⟨w, y, by rw [List.getElem?_set_ne e]; exact g1, by rw [List.getElem?_set_ne e]; exact g2, g3⟩
  ad := fun j a h q => by
    obtain ⟨e, h⟩ := od_ne (by decide) h
    have q := (dp_ne e).mp q
    obtain ⟨q1, q2⟩ := E.ad j a h q
    refine ⟨fun l hl => ?_, fun l hl z => ?_⟩
    · by_cases el : i = l
      · subst el
        rw [List.getElem?_set]
        rw [if_pos rfl]
        intro z
        split at z
        · cases z
          exact h6 j h q
        · cases z
      · rw [List.getElem?_set_ne el] at hl ⊢
        exact q1 l hl
    · obtain ⟨e', hl⟩ := od_ne (by decide) hl
      exact q2 l hl ((dp_ne e').mp z)
def Own (H : Hp) (ts : List Tag) (σ : L2.St) (a : Addr) : Prop := (∃ i : Nat, ts[i]? = some .ow ∧ σ[i]? = some (some (.ref a))) ∨ ∃ i : Nat, ts[i]? = some .od ∧ Dpl H σ i a
abbrev WG := PV → List PV → (List PV → Prop) → Prop
abbrev WGs := List PV → List PV → (List PV → Prop) → Prop
def SimG (K : PySem.W.Frag) (d : Cn → Addr) (is : List Nat) (ts : List Tag) (g : TG) (wg : WG) (ts' : List Tag) : Prop := ∀ (H0 : Hp) (F0 F : Fz) (H : Hp) (σ : L2.St) (ρ : List PV) (v : V) (x : PV) (Q : L2.St → Hp → Prop) (P : List PV → Prop), EnvR K d ts H0 F0 F H σ ρ → Rv K d F H v x → wg x ρ P →
  (∀ σ' ρ', EnvR K d ts' H0 F0 F H σ' ρ' → (∀ vs : List Nat, (∀ i ∈ is, i ∈ vs) → wipe σ' vs = wipe σ vs) → (∀ a, Own H ts' σ' a → Own H ts σ a) → P ρ' → Q σ' H) → g v σ H Q
def SimGs (K : PySem.W.Frag) (d : Cn → Addr) (is : List Nat) (ts : List Tag) (g : TGs) (wg : WGs) (ts' : List Tag) : Prop := ∀ (H0 : Hp) (F0 F : Fz) (H : Hp) (σ : L2.St) (ρ : List PV) (v : List V) (x : List PV) (Q : L2.St → Hp → Prop) (P : List PV → Prop), EnvR K d ts H0 F0 F H σ ρ → Rvs K d F H v x → wg x ρ P →
  (∀ σ' ρ', EnvR K d ts' H0 F0 F H σ' ρ' → (∀ vs : List Nat, (∀ i ∈ is, i ∈ vs) → wipe σ' vs = wipe σ vs) → (∀ a, Own H ts' σ' a → Own H ts σ a) → P ρ' → Q σ' H) → g v σ H Q
theorem wipe_gone {j : Nat} : ∀ {τ : L2.St} {ws : List Nat}, j ∈ ws → (wipe τ ws)[j]? = if j < τ.length then some none else none
  | _, [], hw => by cases hw
  | τ, b :: ws, hw => by
    show ((wipe τ ws).set b none)[j]? = _
    rw [List.getElem?_set, wipe_length]
    by_cases z : b = j
    · rw [if_pos z, z]
    · rw [if_neg z]
      refine wipe_gone ?_
      rcases List.mem_cons.mp hw with y | y
      · exact absurd y.symm z
      · exact y
theorem wipe_idem (σ : L2.St) (vs : List Nat) : wipe (wipe σ vs) vs = wipe σ vs := by
  refine List.ext_getElem? fun j => ?_
  by_cases hm : j ∈ vs
  · rw [wipe_gone hm, wipe_gone hm, wipe_length]
  · rw [wipe_out hm]
theorem wipe_set {σ : L2.St} {i : Nat} {o : Option V} : ∀ {vs : List Nat}, i ∈ vs → wipe (σ.set i o) vs = wipe σ vs
  | [], h => by cases h
  | a :: vs, h => by
    show (wipe (σ.set i o) vs).set a none = (wipe σ vs).set a none
    by_cases q : i ∈ vs
    · rw [wipe_set q]
    · have e : i = a := by
        rcases List.mem_cons.mp h with z | z
        · exact z
        · exact absurd z q
      subst e
      refine List.ext_getElem? fun j => ?_
      rw [List.getElem?_set, List.getElem?_set, wipe_length, wipe_length, List.length_set]
      by_cases hj : i = j
      · rw [if_pos hj, if_pos hj]
      · rw [if_neg hj, if_neg hj]
        by_cases hm : j ∈ vs
        · rw [wipe_gone hm, wipe_gone hm, List.length_set]
        · rw [wipe_out hm, wipe_out hm, List.getElem?_set_ne hj]
def wgName (i : Nat) : WG := fun x ρ P => P (ρ.set i x)
theorem simG_name {i : Nat} : SimG K d [i] ts (gName i) (wgName i) (ts.set i .sh) := fun H0 F0 F H σ ρ v x Q P E r hw k =>
  k _ _ (E.set r) (fun vs h => wipe_set (h i (List.mem_singleton.mpr rfl))) (fun a z => by
    rcases z with ⟨j, h1, h2⟩ | ⟨j, h1, h2⟩
    · obtain ⟨e, h1⟩ := ow_ne (by decide) h1
      rw [List.getElem?_set_ne e] at h2
      exact .inl ⟨j, h1, h2⟩
    · obtain ⟨e, h1⟩ := od_ne (by decide) h1
      exact .inr ⟨j, h1, (dp_ne e).mp h2⟩) hw
def wgNil : WGs := fun xs ρ P => xs = [] ∧ P ρ
def wgCons (g : WG) (gs : WGs) : WGs := fun xs ρ P => match xs with
  | x :: r => g x ρ fun ρ' => gs r ρ' P
  | [] => False
theorem simGs_nil : SimGs K d [] ts gNil wgNil ts := fun H0 F0 F H σ ρ v x Q P E r hw k => by
  obtain ⟨rfl, hw⟩ := hw
  cases r
  exact ⟨rfl, k σ ρ E (fun _ _ => rfl) (fun _ h => h) hw⟩
theorem simGs_cons {is js : List Nat} {ts1 ts2 : List Tag} {g : TG} {gs : TGs} {wg : WG} {wgs : WGs} (h : SimG K d is ts g wg ts1) (hs : SimGs K d js ts1 gs wgs ts2) : SimGs K d (is ++ js) ts (gCons g gs) (wgCons wg wgs) ts2 := fun H0 F0 F H σ ρ v x Q P E r hw k => by
  cases r with
  | nil => exact hw.elim
  | cons a b =>
    exact ⟨_, _, rfl, h H0 F0 F H σ ρ _ _ _ _ E a hw fun σ1 ρ1 E1 w1 o1 h1 => hs H0 F0 F H σ1 ρ1 _ _ _ _ E1 b h1 fun σ2 ρ2 E2 w2 o2 h2 =>
      k σ2 ρ2 E2 (fun vs hv => (w2 vs fun i hi => hv i (List.mem_append_right _ hi)).trans (w1 vs fun i hi => hv i (List.mem_append_left _ hi))) (fun a z => o1 a (o2 a z)) h2⟩
def wgTup (n : Nat) (g : WGs) : WG := fun x ρ P => match x with
  | .tup xs => xs.length = n ∧ g xs ρ P
  | _ => False
theorem simG_tup {n : Nat} {is : List Nat} {gs : TGs} {wgs : WGs} (h : SimGs K d is ts gs wgs ts') : SimG K d is ts (gTup K n gs) (wgTup n wgs) ts' := fun H0 F0 F H σ ρ v x Q P E r hw k => by
  cases x with
  | tup xs =>
    obtain ⟨p, vs, rfl, h1, h2⟩ := r.tupE
    exact ⟨p, vs, rfl, h1, by rw [h2.length]; exact hw.1, h H0 F0 F H σ ρ vs xs Q P E h2 hw.2 k⟩
  | _ => exact hw.elim
def wtag (ts : List Tag) : List Nat → List Tag
  | [] => ts
  | v :: vs => (wtag ts vs).set v .no
theorem EnvR.drop1 {i : Nat} {o : Option V} {σ : L2.St} {ρ : List PV} (E : EnvR K d ts H0 F0 F H σ ρ) : EnvR K d (ts.set i .no) H0 F0 F H (σ.set i o) ρ where
  st := E.st
  xc := E.xc
  ex := E.ex.set (by decide)
  ls := by rw [List.length_set, List.length_set, E.ls]
  lr := by rw [List.length_set, E.lr]
  sh := fun j h => by
    rw [List.getElem?_set] at h
    split at h
    · split at h <;> cases h
    · next e =>
      obtain ⟨w, y, g1, g2, g3⟩ := E.sh j h
      exact ⟨w, y, by rw [List.getElem?_set_ne e]; exact g1, g2, g3⟩
  ow := fun j h => by
    rw [List.getElem?_set] at h
    split at h
    · split at h <;> cases h
    · next e =>
      obtain ⟨w, vs, xs, g1, g3⟩ := E.ow j h
      exact ⟨w, vs, xs, by rw [List.getElem?_set_ne e]; exact g1, g3⟩
  ap := fun j l a h1 h2 h3 h4 => by
    have o : ∀ m : Nat, (ts.set i .no)[m]? = some .ow → i ≠ m ∧ ts[m]? = some .ow := fun m h => by
      rw [List.getElem?_set] at h
      split at h
      · split at h <;> cases h
      · next e => exact ⟨e, h⟩
    obtain ⟨n1, o1⟩ := o j h1
    obtain ⟨n2, o2⟩ := o l h2
    rw [List.getElem?_set_ne n1] at h3
    rw [List.getElem?_set_ne n2] at h4
    exact E.ap j l a o1 o2 h3 h4
  od := fun j h => by
    obtain ⟨e, h⟩ := od_ne (by decide) h
    obtain ⟨w, y, h1, h2, h3⟩ := E.od j h
    exact ⟨w, y, by rw [List.getElem?_set_ne e]; exact h1, h2, h3⟩
  ad := fun j a h q => by
    obtain ⟨e, h⟩ := od_ne (by decide) h
    obtain ⟨q1, q2⟩ := E.ad j a h ((dp_ne e).mp q)
    refine ⟨fun l hl => ?_, fun l hl z => ?_⟩
    · obtain ⟨e', hl⟩ := ow_ne (by decide) hl
      rw [List.getElem?_set_ne e']
      exact q1 l hl
    · obtain ⟨e', hl⟩ := od_ne (by decide) hl
      exact q2 l hl ((dp_ne e').mp z)
theorem EnvR.wipe {σ : L2.St} {ρ : List PV} (E : EnvR K d ts H0 F0 F H σ ρ) : ∀ vs : List Nat, EnvR K d (wtag ts vs) H0 F0 F H (L2.wipe σ vs) ρ
  | [] => E
  | _ :: vs => (E.wipe vs).drop1
def wLcL (wg : WG) (wt : WT) (we : WE) (ρ : List PV) : List PV → List PV → (List PV → Prop) → Prop
  | [], acc, P => P acc
  | x :: xs, acc, P => wg x ρ fun ρ2 => wt ρ2 fun b => if b = true then we ρ2 fun y => wLcL wg wt we ρ xs (acc ++ [y]) P else wLcL wg wt we ρ xs acc P
def wLc (ww : WI) (wg : WG) (wt : WT) (we : WE) : WE := fun ρ P => ww ρ fun xs => xs.length ≤ 100000 ∧ wLcL wg wt we ρ xs [] fun ys => P (.lst ys)
theorem sim_lc {is vs : List Nat} {ts2 : List Tag} {wi : TI} {ww : WI} {g : TG} {wg : WG} {tt : TT} {wt : WT} (hi : SimI K d false ts wi ww) (hg : SimG K d is (wtag ts vs) g wg ts2) (ht : SimT K d ts2 tt wt) (he : Sim K d (rS K d) ts2 te we)
    (hv : (is.all fun i => vs.contains i) = true := by rfl) : Sim K d (rN K d) ts (tLc wi g tt te vs) (wLc ww wg wt we) := fun H0 F0 F H σ ρ Q P E hw k => hi H0 F0 F H σ ρ _ _ E hw fun xs F1 H1 J s1 it hx => by
  have hv' : ∀ i ∈ is, i ∈ vs := fun i h => by
    have := List.all_eq_true.mp hv i h
    exact List.contains_iff_mem.mp this
  obtain ⟨hl, hx⟩ := hx
  obtain ⟨G, Y, w, hG, item⟩ := it
  have E1 := E.step s1
  intro D nD
  refine lc_it w (fun i H' => ∃ (F' : Fz) (as : List V) (acc : List PV), H' D = some (.lst as) ∧ ¬ F' D ∧ Rvs K d F' H' as acc ∧ as.length ≤ i ∧ Step F1 H1 F' H' ∧ wLcL wg wt we ρ (xs.drop i) acc fun ys => P (.lst ys)) ?_ ?_ ?_ ?_
  · exact ⟨F1, [], [], upd_same, fun f => s1.dm.at_ D f nD, .nil, Nat.le_refl _, Step.new s1.dm nD, hx⟩
  · rintro i H' _ ⟨F', as, acc, _, _, _, _, st, _⟩
    exact hG H' st.ex
  · rintro i x H' H'' hi' ⟨F', as, acc, a1, a2, a3, a4, st, hw2⟩ y
    obtain ⟨s2, z, hz, rz⟩ := item i H' F' x H'' st.ex st.up (.of st.ex) st.dm y hi'
    have dr : xs.drop i = z :: xs.drop (i + 1) := by
      obtain ⟨hlt, e⟩ := List.getElem?_eq_some_iff.mp hz
      rw [List.drop_eq_getElem_cons hlt, e]
    rw [dr] at hw2
    have Ew := ((E1.step (st.trans s2)).wipe vs)
    refine hg H0 F0 F' H'' (L2.wipe σ vs) ρ x z _ _ Ew rz hw2 fun σ2 ρ2 E2 wp _ h2 => ?_
    have wip : wipe σ2 vs = wipe σ vs := by
      rw [wp vs hv']
      have : ∀ (τ : L2.St) (l : List Nat), wipe (wipe τ vs) l = wipe (wipe τ vs) l := fun _ _ => rfl
      exact wipe_idem σ vs
    refine ⟨wip, ht H0 F0 F' H'' σ2 ρ2 _ _ E2 h2 fun b H3 e3 hb => ?_⟩
    have s3 := Step.tox s2.dm e3
    have aD : H3 D = some (.lst as) := e3.xn.at (s2.ex.at a1)
    cases b with
    | true =>
      refine he H0 F0 F' H3 σ2 ρ2 _ _ (E2.step s3) hb fun q u F4 H4 s4 r4 h4 => ?_
      have aD4 : H4 D = some (.lst as) := s4.ex.at aD
      have nf4 : ¬ F4 D := fun f => (s4.nw D f).elim a2 fun z => by rw [aD] at z; cases z
      refine ⟨as, aD4, sz_lt (by omega), F4, as ++ [u], acc ++ [q], upd_same, nf4, ?_, by rw [List.length_append, List.length_singleton]; omega, ?_, h4⟩
      · have sb : Stb F4 H4 (upd H4 D (.lst (as ++ [u]))) := Stb.set aD4 nf4
        exact (((a3.step s2).step s3).step s4 |>.mono sb fun _ h => h).append (.cons (r4.mono sb fun _ h => h) .nil)
      · have s5 := ((st.trans s2).trans s3).trans s4
        exact ⟨Xn.mut s5.ex nD, s5.up, s5.nw, s5.dm.set aD4⟩
    | false => exact ⟨F', as, acc, aD, a2, (a3.step s2).step s3, by omega, (st.trans s2).trans s3, hb⟩
  · rintro H' ⟨F', as, acc, a1, a2, a3, a4, st, hw2⟩
    rw [List.drop_length] at hw2
    exact k (.lst acc) (.ref D) F' H' (s1.trans st) (.inr ⟨D, as, acc, rfl, rfl, back_x s1.ex nD, a1, a2, a3⟩) hw2
end
end Wx
namespace Wx
open PySem PySem.Spec PyProof.Rows L2 Evl Hn RZ
variable [TabC]
abbrev WF := List PV → (PV → Prop) → Prop
structure WEnds where
  nx : List PV → Prop
  rt : PV → Prop
  bk : List PV → Prop := fun _ => False
  ct : List PV → Prop := fun _ => False
abbrev WS := WEnds → List PV → Prop
section
variable [XC]
variable (K : PySem.W.Frag) (d : Cn → Addr)
def spW (R : RR) (w : WF) : Sp := fun vs H Q _ => ∃ (F : Fz) (xs : List PV) (P : PV → Prop), Dom F H ∧ Rvs K d F H vs xs ∧ w xs P ∧ ∀ x v F' H', Step F H F' H' → R F H F' H' v x → P x → Q v H'
def Gr (F : Fz) (H : Hp) (F' : Fz) (H' : Hp) : Prop := (∀ a, F a → F' a) ∧ Stb F H H'
def SimS (R : RR) (bt ct ts : List Tag) (t : TS) (w : WS) (ts' : List Tag) : Prop := ∀ (H0 : Hp) (F0 F : Fz) (H : Hp) (σ : L2.St) (ρ : List PV) (D : Ends) (D' : WEnds), EnvR K d ts H0 F0 F H σ ρ → w D' ρ →
  (∀ F' H' σ' ρ', Gr F H F' H' → EnvR K d ts' H0 F0 F' H' σ' ρ' → D'.nx ρ' → D.nx σ' H') →
  (∀ x v F' H', Step F0 H0 F' H' → R F0 H0 F' H' v x → D'.rt x → D.rt v H') →
  (∀ F' H' σ' ρ', Gr F H F' H' → EnvR K d bt H0 F0 F' H' σ' ρ' → D'.bk ρ' → D.bk σ' H') →
  (∀ F' H' σ' ρ', Gr F H F' H' → EnvR K d ct H0 F0 F' H' σ' ρ' → D'.ct ρ' → D.ct σ' H') → t D σ H
end
section
variable [XC]
variable {K : PySem.W.Frag} {d : Cn → Addr} {F F' F0 F1 F2 : Fz} {H H' H0 H1 H2 Hs : Hp} {v u : V} {ts ts' ts1 ts2 bt ct : List Tag} {R : RR} {te ta tb tc : TE} {we wa wb wc : WE} {σ : L2.St} {ρ : List PV} {x : PV}
theorem Gr.refl : Gr F H F H := ⟨fun _ h => h, .refl⟩
theorem Gr.of (s : Step F H F' H') : Gr F H F' H' := ⟨s.up, .of s.ex⟩
theorem Gr.up (h : ∀ a, F a → F' a) : Gr F H F' H := ⟨h, .refl⟩
theorem Gr.trans (a : Gr F H F1 H1) (b : Gr F1 H1 F2 H2) : Gr F H F2 H2 := ⟨fun x h => b.1 x (a.1 x h), fun x o h z => b.2 x o (a.2 x o h z) (z.elim .inl fun f => .inr ⟨a.1 x f.1, f.2⟩)⟩
def wCall (w : WF) (wa : WA) : WE := fun ρ P => wa ρ fun xs => w xs P
theorem sim_call {w : WF} {ar : TA} {wr : WA} {E : XK} (o : ROk R) (ha : SimA K d ts ar wr) : Sim K d R ts (tCall (spW K d R w) [] E ar) (wCall w wr) := fun H0 F0 F H σ ρ Q P E hw k =>
  ha H0 F0 F H σ ρ _ _ E hw fun xs vs F1 H1 s1 r1 h1 => ⟨F1, xs, P, s1.dm, by rw [List.append_nil]; exact r1, h1, fun x v F' H' s r p => k x v F' H' (s1.trans s) (o.back s1 r) p⟩
def wMeth (c : Cn) (m : Str) (w : WF) (wo : WE) (wa : WA) : WE := fun ρ P => wo ρ fun x => (∃ fs, x = .ins c fs ∧ fs.lookup m = none) ∧ wa ρ fun xs => w (x :: xs) P
theorem sim_meth {w : WF} {m : Str} {to : TE} {wo : WE} {ar : TA} {wr : WA} {E : XK} {C : Addr} (c : Cn) (o : ROk R) (ho : Sim K d (rS K d) ts to wo) (ha : SimA K d ts ar wr) (hC : d c = C := by rfl) : Sim K d R ts (tMeth C m (spW K d R w) [] E to ar) (wMeth c m w wo wr) := fun H0 F0 F H σ ρ Q P E hw k =>
  ho H0 F0 F H σ ρ _ _ E hw fun x v F1 H1 s1 r1 ⟨⟨fs, ex, lk⟩, h1⟩ => by
    subst hC
    subst ex
    obtain ⟨p, dx, gs, rfl, h2, h3⟩ := Rv.insE r1
    refine ⟨p, dx, gs, rfl, h2, h3.none lk, ha H0 F0 F1 H1 σ ρ _ _ (E.step s1) h1 fun xs vs F2 H2 s2 r2 h4 => ⟨F2, .ins c fs :: xs, P, s2.dm, ?_, h4, fun x v F' H' s r q => k x v F' H' ((s1.trans s2).trans s) (o.back (s1.trans s2) r) q⟩⟩
    rw [List.append_nil]
    exact .cons (Rv.step s2 r1) r2
def wProp (c : Cn) (w : WF) (wo : WE) : WE := fun ρ P => wo ρ fun x => (∃ fs, x = .ins c fs) ∧ w [x] P
theorem sim_prop {w : WF} {to : TE} {wo : WE} {E : XK} {C : Addr} (c : Cn) (o : ROk R) (ho : Sim K d (rS K d) ts to wo) (hC : d c = C := by rfl) : Sim K d R ts (tProp C (spW K d R w) [] E to) (wProp c w wo) := fun H0 F0 F H σ ρ Q P E hw k =>
  ho H0 F0 F H σ ρ _ _ E hw fun x v F1 H1 s1 r1 ⟨⟨fs, ex⟩, h1⟩ => by
    subst hC
    subst ex
    obtain ⟨p, dx, gs, rfl, h2, h3⟩ := Rv.insE r1
    exact ⟨p, dx, gs, rfl, h2, F1, [.ins c fs], P, s1.dm, .cons r1 .nil, h1, fun x v F' H' s r q => k x v F' H' (s1.trans s) (o.back s1 r) q⟩
def wStat (w : WF) (wo : WE) (wa : WA) (c : Cn) : WE := fun ρ P => wo ρ fun x => x = .cls c ∧ wa ρ fun xs => w xs P
def MkS (K : PySem.W.Frag) (d : Cn → Addr) (c : Cn) (sp : Sp) (w : WF) : Prop := ∀ (F : Fz) (H : Hp) (vs : List V) (xs : List PV) (Q : V → Hp → Prop) (P : PV → Prop) (E : XK), Dom F H → Rvs K d F H vs xs → w xs P →
  (∀ x v F' H', Step F H F' H' → Rv K d F' H' v x → notL x → P x → Q v H') → ∀ y dx, H y = none → H dx = none → dx ≠ y → sp (.ref y :: (vs ++ [])) (upd (upd H dx (.own y)) y (.ins (d c) dx [])) (fun v H2 => v = .non ∧ Q (.ref y) H2) E
theorem sim_make {w : WF} {sp : Sp} {ar : TA} {wr : WA} {E : XK} {C : Addr} {c : Cn} (m : MkS K d c sp w) (ha : SimA K d ts ar wr) (hC : d c = C := by rfl) : Sim K d (rN K d) ts (tMake C sp [] E ar) (wCall w wr) := fun H0 F0 F H σ ρ Q P E hw k =>
  ha H0 F0 F H σ ρ _ _ E hw fun xs vs F1 H1 s1 r1 h1 y dx ny nd ne => by
    subst hC
    exact m F1 H1 vs xs Q P _ s1.dm r1 h1 (fun x v F' H' s r nl p => k x v F' H' (s1.trans s) (.inl ⟨nl, r⟩) p) y dx ny nd ne
def wOwn (c : Cn) (w : WF) : W2 := fun x y P => (∃ fs gs, x = .ins c fs ∧ y = .ins c gs) ∧ w [x, y] P
def wOwnNe (c : Cn) (w : WF) : W2 := fun x y P => (∃ fs gs, x = .ins c fs ∧ y = .ins c gs) ∧ w [x, y] fun z => match z with
  | .bl b => P (.bl (!b))
  | _ => False
def wOwnI (c : Cn) (w : WF) : W2 := fun x y P => (∃ fs i, x = .ins c fs ∧ y = .int i) ∧ w [x, y] P
def wOwnR (c : Cn) (w : WF) : W2 := fun x y P => (∃ fs i, y = .ins c fs ∧ x = .int i) ∧ w [y, x] P
def wIxO (c : Cn) (w : WF) (wa wb : WE) : WE := fun ρ P => wa ρ fun x => wb ρ fun y => (∃ fs, x = .ins c fs) ∧ w [x, y] P
def wLenO (c : Cn) (w : WF) : WC := fun xs P => ∃ fs, xs = [.ins c fs] ∧ w xs fun z => match z with
  | .int n => 0 ≤ n ∧ n < 2 ^ 63 ∧ P (.int n)
  | _ => False
theorem simS_nil : SimS K d R bt ct ts tNext (fun D ρ => D.nx ρ) ts := fun H0 F0 F H σ ρ D D' E hw n r b c => n F H σ ρ .refl E hw
def wSeq (a b : WS) : WS := fun D ρ => a { D with nx := b D } ρ
theorem simS_seq {t t' : TS} {a b : WS} (h : SimS K d R bt ct ts t a ts1) (h' : SimS K d R bt ct ts1 t' b ts2) : SimS K d R bt ct ts (tSeq t t') (wSeq a b) ts2 := fun H0 F0 F H σ ρ D D' E hw n r b' c =>
  h H0 F0 F H σ ρ _ _ E hw (fun F1 H1 σ1 ρ1 g1 E1 h1 => h' H0 F0 F1 H1 σ1 ρ1 D D' E1 h1 (fun F2 H2 σ2 ρ2 g2 => n F2 H2 σ2 ρ2 (g1.trans g2)) r (fun F2 H2 σ2 ρ2 g2 => b' F2 H2 σ2 ρ2 (g1.trans g2)) fun F2 H2 σ2 ρ2 g2 => c F2 H2 σ2 ρ2 (g1.trans g2)) r b' c
def wCut (a b : WS) : WS := fun D ρ => ∃ M : List PV → Prop, a { D with nx := M } ρ ∧ ∀ ρ', M ρ' → b D ρ'
theorem simS_cut {t t' : TS} {a b : WS} (h : SimS K d R bt ct ts t a ts1) (h' : SimS K d R bt ct ts1 t' b ts2) : SimS K d R bt ct ts (Evl.tCut t t') (wCut a b) ts2 := fun H0 F0 F H σ ρ D D' E hw n r b' c => by
  obtain ⟨M, h1, h2⟩ := hw
  exact ⟨fun σ' H' => ∃ F' ρ', Gr F H F' H' ∧ EnvR K d ts1 H0 F0 F' H' σ' ρ' ∧ M ρ', h H0 F0 F H σ ρ _ _ E h1 (fun F1 H1 σ1 ρ1 g1 E1 m1 => ⟨F1, ρ1, g1, E1, m1⟩) r b' c, fun σ' H' ⟨F1, ρ1, g1, E1, m1⟩ =>
    h' H0 F0 F1 H' σ' ρ1 D D' E1 (h2 _ m1) (fun F2 H2 σ2 ρ2 g2 => n F2 H2 σ2 ρ2 (g1.trans g2)) r (fun F2 H2 σ2 ρ2 g2 => b' F2 H2 σ2 ρ2 (g1.trans g2)) fun F2 H2 σ2 ρ2 g2 => c F2 H2 σ2 ρ2 (g1.trans g2)⟩
theorem simS_after {t : TS} {a : WS} (h : SimS K d R bt ct ts t a ts1) (c : cv ts1 ts2 = true) : SimS K d R bt ct ts t a ts2 := fun H0 F0 F H σ ρ D D' E hw n r b' c' =>
  h H0 F0 F H σ ρ D D' E hw (fun F1 H1 σ1 ρ1 g1 E1 h1 => by
    obtain ⟨F2, up, E2⟩ := E1.conv c
    exact n F2 H1 σ1 ρ1 (g1.trans (.up up)) E2 h1) r b' c'
def wSet (i : Nat) (we : WE) : WS := fun D ρ => we ρ fun x => D.nx (ρ.set i x)
theorem simS_set {i : Nat} (h : Sim K d (rS K d) ts te we) : SimS K d R bt ct ts (tAsg te (gName i)) (wSet i we) (ts.set i .sh) := fun H0 F0 F H σ ρ D D' E hw n r b c =>
  h H0 F0 F H σ ρ _ _ E hw fun x v F1 H1 s1 r1 h1 => n F1 H1 _ _ (.of s1) ((E.step s1).set r1) h1
def New (K : PySem.W.Frag) (d : Cn → Addr) (Hs : Hp) (F : Fz) (H : Hp) (k : Bool) (v : V) (x : PV) : Prop := if k = true then ∃ p vs xs, v = .ref p ∧ x = .lst xs ∧ Hs p = none ∧ H p = some (.lst vs) ∧ ¬ F p ∧ Rvs K d F H vs xs else Rv K d F H v x
def rK (K : PySem.W.Frag) (d : Cn → Addr) (k : Bool) : RR := if k = true then rN K d else rS K d
def tgK (k : Bool) : Tag := if k = true then .ow else .sh
def isL (k : Bool) (x : PV) : Prop := k = true → ∃ xs, x = .lst xs
theorem new_of {k : Bool} (h : rK K d k F H F' H' v x) (l : isL k x) : New K d H F' H' k v x := by
  cases k with
  | false => exact h
  | true =>
    obtain ⟨xs, rfl⟩ := l rfl
    rcases (show rN K d F H F' H' v (.lst xs) from h) with h | h
    · exact h.1.elim
    · exact h
theorem New.step {k : Bool} (s : Step F H F' H') (h : New K d Hs F H k v x) : New K d Hs F' H' k v x := by
  cases k with
  | false => exact Rv.step s h
  | true =>
    obtain ⟨p, vs, xs, h1, h2, h3, h4, h5, h6⟩ := h
    refine ⟨p, vs, xs, h1, h2, h3, s.ex.at h4, fun f => (s.nw p f).elim h5 fun z => ?_, h6.step s⟩
    rw [h4] at z
    cases z
def OwnIn (Hs : Hp) (ts : List Tag) (σ : L2.St) : Prop := (∀ (j : Nat) (a : Addr), ts[j]? = some .ow → σ[j]? = some (some (.ref a)) → Hs a ≠ none) ∧ ∀ (j : Nat) (c : Addr), ts[j]? = some .od → σ[j]? = some (some (.ref c)) → ∃ ws : List V, Ht Hs c ws ∧ ∀ b, V.ref b ∈ ws → Hs b ≠ none
theorem EnvR.ownIn (E : EnvR K d ts H0 F0 F H σ ρ) : OwnIn H ts σ := by
 refine ⟨fun j a h1 h2 z => ?_, fun j c h1 h2 => ?_⟩
 · obtain ⟨b, vs, xs, g1, g2, g3, _⟩ := E.ow j h1
   rw [h2] at g1
   cases g1
   rw [g3] at z
   cases z
 · obtain ⟨v, x, g1, g2, g3⟩ := E.od j h1
   rw [h2] at g1
   cases g1
   obtain ⟨c', bs, yss, e, _, g4, _⟩ := id g3
   cases e
   exact ⟨bs, g4, fun b hb => (g3.have_ h2 ⟨c, bs, h2, g4, .inr hb⟩).1⟩
theorem OwnIn.step (e : Xn H H') (h : OwnIn H ts σ) : OwnIn H' ts σ := ⟨fun j a h1 h2 z => h.1 j a h1 h2 (back_x e z), fun j c h1 h2 => by
  obtain ⟨bs, g1, g2⟩ := h.2 j c h1 h2
  exact ⟨bs, g1.at e, fun b hb z => g2 b hb (back_x e z)⟩⟩
theorem OwnIn.not {Hs : Hp} (h : OwnIn Hs ts σ) (e : Xn Hs H) {p : Addr} (hp : Hs p = none) {j : Nat} (hj : ts[j]? = some .od) : ¬ Dpl H σ j p := by
  rintro ⟨c, bs, h1, h2, h3⟩
  obtain ⟨bs', g1, g2⟩ := h.2 j c hj h1
  cases (g1.at e).inj h2
  rcases h3 with rfl | h3
  · exact g1.some hp
  · exact g2 p h3 hp
theorem EnvR.put {i : Nat} {k : Bool} (E : EnvR K d ts H0 F0 F H σ ρ) (n : New K d Hs F H k v x) (e0 : Xn H0 Hs) (o : OwnIn Hs ts σ) (e : Xn Hs H) : EnvR K d (ts.set i (tgK k)) H0 F0 F H (σ.set i (some v)) (ρ.set i x) := by
  cases k with
  | false => exact E.set n
  | true =>
    obtain ⟨p, vs, xs, rfl, rfl, h3, h4, h5, h6⟩ := n
    exact E.setO h4 h5 (back_x e0 h3) h6 (fun j _ h1 h2 => o.1 j p h1 h2 h3) fun j h1 => o.not e h3 h1
theorem OwnIn.put {i : Nat} {k : Bool} (h : OwnIn Hs ts σ) (n : k = true → ∃ p, v = .ref p ∧ Hs p ≠ none) : OwnIn Hs (ts.set i (tgK k)) (σ.set i (some v)) := by
 refine ⟨fun j a h1 h2 => ?_, fun j c h1 h2 => ?_⟩
 rotate_left
 · obtain ⟨e, h1⟩ := od_ne (by cases k <;> decide) h1
   rw [List.getElem?_set_ne e] at h2
   exact h.2 j c h1 h2
 · rw [List.getElem?_set] at h1
   by_cases e : i = j
   · subst e
     rw [if_pos rfl] at h1
     split at h1
     · next l =>
       cases k with
       | false => cases h1
       | true =>
         obtain ⟨p, rfl, q⟩ := n rfl
         rw [List.getElem?_set] at h2
         rw [if_pos rfl] at h2
         split at h2
         · cases h2; exact q
         · cases h2
     · cases h1
   · rw [if_neg e] at h1
     rw [List.getElem?_set_ne e] at h2
     exact h.1 j a h1 h2
def wSetO (i : Nat) (we : WE) : WS := fun D ρ => we ρ fun x => isL true x ∧ D.nx (ρ.set i x)
theorem simS_setO {i : Nat} (h : Sim K d (rN K d) ts te we) : SimS K d R bt ct ts (tAsg te (gName i)) (wSetO i we) (ts.set i .ow) := fun H0 F0 F H σ ρ D D' E hw n r b c =>
  h H0 F0 F H σ ρ _ _ E hw fun x v F1 H1 s1 r1 h1 => n F1 H1 _ _ (.of s1) ((E.step s1).put (k := true) (new_of (k := true) (F := F) (H := H) r1 h1.1) E.st.ex E.ownIn s1.ex) h1.2
def wPar (i j : Nat) (k l : Bool) (wa wb : WE) : WS := fun D ρ => wa ρ fun x => wb ρ fun y => isL k x ∧ isL l y ∧ D.nx ((ρ.set i x).set j y)
theorem New.have {k : Bool} (h : New K d Hs F H k v x) : k = true → ∃ p, v = .ref p ∧ H p ≠ none := fun e => by
  subst e
  obtain ⟨p, vs, xs, rfl, _, _, h4, _⟩ := h
  exact ⟨p, rfl, by rw [h4]; intro z; cases z⟩
theorem simS_par {i j : Nat} {k l : Bool} (ha : Sim K d (rK K d k) ts ta wa) (hb : Sim K d (rK K d l) ts tb wb) : SimS K d R bt ct ts (tPar i j (tCons ta (tCons tb tNil))) (wPar i j k l wa wb) ((ts.set i (tgK k)).set j (tgK l)) := fun H0 F0 F H σ ρ D D' E hw n r b c =>
  ha H0 F0 F H σ ρ _ _ E hw fun x v F1 H1 s1 r1 h1 => hb H0 F0 F1 H1 σ ρ _ _ (E.step s1) h1 fun y u F2 H2 s2 r2 ⟨lx, ly, h2⟩ => by
    have n1 := new_of r1 lx
    have E1 := ((E.step s1).step s2).put (i := i) (n1.step s2) E.st.ex E.ownIn (s1.trans s2).ex
    exact ⟨v, u, rfl, n F2 H2 _ _ (.of (s1.trans s2)) (E1.put (i := j) (new_of r2 ly) (E.st.ex.trans s1.ex) ((E.ownIn.step s1.ex).put n1.have) s2.ex) h2⟩
def wPar3 (i j m : Nat) (k l o : Bool) (wa wb wc : WE) : WS := fun D ρ => wa ρ fun x => wb ρ fun y => wc ρ fun z => isL k x ∧ isL l y ∧ isL o z ∧ D.nx (((ρ.set i x).set j y).set m z)
def wAsg (we : WE) (wg : WG) : WS := fun D ρ => we ρ fun x => wg x ρ D.nx
def wAug (i : Nat) (f : Int → Int → Int) (we : WE) : WS := fun D ρ => we ρ fun y => match ρ.getD i .non, y with
  | .int a, .int b => D.nx (ρ.set i (.int (f a b)))
  | _, _ => False
theorem EnvR.write {i : Nat} {a : Addr} {vs us : List V} {xs ys : List PV} (E : EnvR K d ts H0 F0 F H σ ρ) (hi : ts[i]? = some .ow) (hs : σ[i]? = some (some (.ref a))) (hx : Rvs K d F H us ys) : EnvR K d ts H0 F0 F (upd H a (.lst us)) σ (ρ.set i (.lst ys)) := by
  obtain ⟨b, vs', xs', g1, g2, g3, g4, g5, g6⟩ := E.ow i hi
  rw [hs] at g1
  cases g1
  have sb : Stb F H (upd H a (.lst us)) := Stb.set g3 g4
  refine ⟨⟨Xn.mut E.st.ex g5, E.st.up, E.st.nw, E.dm.set g3⟩, E.ls, by rw [List.length_set, E.lr], fun j h => ?_, fun j h => ?_, E.ap, fun j h => ?_, fun j x h q => ?_, E.xc, E.ex.mono sb fun _ z => z⟩
  · obtain ⟨v, x, h1, h2, h3⟩ := E.sh j h
    have ne : i ≠ j := by rintro rfl; rw [hi] at h; cases h
    exact ⟨v, x, h1, by rw [List.getElem?_set_ne ne]; exact h2, h3.mono sb fun _ z => z⟩
  · by_cases e : i = j
    · subst e
      have li : i < ρ.length := (List.getElem?_eq_some_iff.mp g2).1
      exact ⟨a, us, ys, hs, by rw [List.getElem?_set_self li], upd_same, g4, g5, hx.mono sb fun _ z => z⟩
    · obtain ⟨b, ws, zs, h1, h2, h3, h4, h5, h6⟩ := E.ow j h
      have nb : b ≠ a := by
        rintro rfl
        exact e (E.ap i j b hi h hs h1)
      exact ⟨b, ws, zs, h1, by rw [List.getElem?_set_ne e]; exact h2, by rw [upd_ne nb]; exact h3, h4, h5, h6.mono sb fun _ z => z⟩
  · obtain ⟨v, x, h1, h2, h3⟩ := E.od j h
    have ne : i ≠ j := by rintro rfl; rw [hi] at h; cases h
    have na : ∀ b, Dpl H σ j b → b ≠ a := fun b q e => (E.ad j b h q).1 i hi (by rw [e]; exact hs)
    obtain ⟨c, bs, yss, rfl, hx', k1, k2, k3, k4, k5, k6, k7⟩ := h3
    have un := upd_ne (H := H) (o := .lst us) (na c ⟨c, bs, h1, k1, .inl rfl⟩)
    refine ⟨_, _, h1, by rw [List.getElem?_set_ne ne]; exact h2, c, bs, yss, rfl, hx'.same un, k1.same un, k2, k3, k4, k5, k6, fun k w z q1 q2 => ?_⟩
    rcases k7 k w z q1 q2 with ⟨b, us, ys, rfl, rfl, u1, u2, u3, u4⟩ | s
    · exact .inl ⟨b, us, ys, rfl, rfl, by rw [upd_ne (na b ⟨c, bs, h1, k1, .inr (List.mem_of_getElem? q1)⟩)]; exact u1, u2, u3, u4.mono sb fun _ z => z⟩
    · exact .inr s
  · have bk : ∀ {l : Nat} {y : Addr}, ts[l]? = some .od → Dpl (upd H a (.lst us)) σ l y → Dpl H σ l y := fun {l y} hl ⟨c, bs, z1, z2, z3⟩ => by
      obtain ⟨v, w, h1, h2, h3⟩ := E.od l hl
      obtain ⟨c', bs', yss, e, _, k1, _⟩ := h3
      rw [h1, e] at z1
      cases z1
      have : c ≠ a := fun e' => (E.ad l c hl ⟨c, bs', by rw [h1, e], k1, .inl rfl⟩).1 i hi (by rw [e']; exact hs)
      exact ⟨c, bs, by rw [h1, e], z2.same (upd_ne this).symm, z3⟩
    obtain ⟨q1, q2⟩ := E.ad j x h (bk h q)
    exact ⟨q1, fun l hl z => q2 l hl (bk hl z)⟩
def MuS (K : PySem.W.Frag) (d : Cn → Addr) (rm : V → List V → Hp → VK → Prop) (w : List PV → List PV → (List PV → Prop) → Prop) : Prop := ∀ (F : Fz) (H : Hp) (a : Addr) (vs as : List V) (xs zs : List PV) (Q : VK) (P : List PV → Prop), H a = some (.lst vs) → Rvs K d F H vs xs → Rvs K d F H as zs → w xs zs P →
  (∀ us ys v, Rvs K d F H us ys → P ys → Q v (upd H a (.lst us))) → rm (.ref a) as H Q
def wMut (i : Nat) (w : List PV → List PV → (List PV → Prop) → Prop) (wa : WA) : WS := fun D ρ => wa ρ fun zs => ∃ xs, ρ.getD i .non = .lst xs ∧ w xs zs fun ys => D.nx (ρ.set i (.lst ys))
theorem simS_mut {i : Nat} {T : String} {rm : V → List V → Hp → VK → Prop} {w : List PV → List PV → (List PV → Prop) → Prop} {ar : TA} {wr : WA} (hT : T = "list") (hi : ts[i]? = some .ow) (m : MuS K d rm w) (ha : SimA K d ts ar wr) : SimS K d R bt ct ts (tDrop (tBM K T rm (tVar i) ar)) (wMut i w wr) ts := fun H0 F0 F H σ ρ D D' E hw n r b c => by
  obtain ⟨a, vs, xs, g1, g2, g3, g4, g5, g6⟩ := E.ow i hi
  subst hT
  refine ⟨_, g1, ty_lst g3, ha H0 F0 F H σ ρ _ _ E hw fun zs as F1 H1 s1 r1 ⟨xs', e1, h1⟩ => ?_⟩
  rw [getD_of g2] at e1
  cases e1
  refine m F1 H1 a vs as xs zs _ _ (s1.ex.at g3) (g6.step s1) r1 h1 fun us ys v ru p => ?_
  have E1 := E.step s1
  have s2 : Stb F1 H1 (upd H1 a (.lst us)) := Stb.set (s1.ex.at g3) fun f => (s1.nw a f).elim g4 fun z => by rw [g3] at z; cases z
  exact n F1 _ _ _ ((Gr.of s1).trans ⟨fun _ h => h, s2⟩) (E1.write hi g1 ru (vs := vs) (xs := xs)) p
def wAppend : List PV → List PV → (List PV → Prop) → Prop := fun xs zs P => match zs with
  | [y] => xs.length < 100000 ∧ P (xs ++ [y])
  | _ => False
def wExtend : List PV → List PV → (List PV → Prop) → Prop := fun xs zs P => match zs with
  | [.lst ys] => xs.length + ys.length ≤ 100000 ∧ P (xs ++ ys)
  | _ => False
def wInsert : List PV → List PV → (List PV → Prop) → Prop := fun xs zs P => match zs with
  | [.int i, y] => xs.length < 100000 ∧ 0 ≤ i ∧ i < 2 ^ 63 ∧ P (xs.take i.toNat ++ [y] ++ xs.drop i.toNat)
  | _ => False
theorem mus_insert : MuS K d rInsert wInsert := fun F H a vs as xs zs Q P ha rx rz h k => by
  unfold wInsert at h
  split at h
  · cases rz with
    | cons r1 r2 =>
      cases r1
      cases r2 with
      | cons r2 r3 =>
        cases r3
        exact ⟨a, vs, _, _, rfl, rfl, ha, by rw [rx.length]; exact sz_lt h.1, h.2.1, h.2.2.1, k _ _ _ (((rx.take _).append (.cons r2 .nil)).append (rx.drop _)) h.2.2.2⟩
  · exact h.elim
def wClear : List PV → List PV → (List PV → Prop) → Prop := fun xs zs P => zs = [] ∧ P []
def wSub (i : Nat) (we wi : WE) : WS := fun D ρ => we ρ fun y => wi ρ fun j => match ρ.getD i .non, j with
  | .lst xs, .int k => ∃ m, ixN xs.length k = some m ∧ D.nx (ρ.set i (.lst (xs.set m y)))
  | _, _ => False
theorem simS_sub {i : Nat} {ti : TE} {wi : WE} (hi : ts[i]? = some .ow) (h : Sim K d (rS K d) ts te we) (hj : Sim K d (rW K d) ts ti wi) : SimS K d R bt ct ts (tAsg te (gSub (tVar i) ti rSetL)) (wSub i we wi) ts := fun H0 F0 F H σ ρ D D' E hw n r b c =>
  h H0 F0 F H σ ρ _ _ E hw fun y v F1 H1 s1 r1 h1 => by
    have E1 := E.step s1
    obtain ⟨a, vs, xs, g1, g2, g3, g4, g5, g6⟩ := E1.ow i hi
    refine ⟨_, g1, hj H0 F0 F1 H1 σ ρ _ _ E1 h1 fun j u F2 H2 s2 r2 p => ?_⟩
    rw [getD_of g2] at p
    cases j with
    | int k =>
      cases Rw.intE r2
      obtain ⟨m, hm, p⟩ := p
      exact ⟨a, vs, k, m, rfl, rfl, s2.ex.at g3, by rw [g6.length]; exact hm, n F2 _ _ _ ((Gr.of (s1.trans s2)).trans ⟨fun _ h => h, Stb.set (s2.ex.at g3) fun f => (s2.nw a f).elim g4 fun z => by rw [g3] at z; cases z⟩) ((E1.step s2).write hi g1 ((g6.step s2).set (Rv.step s2 r1) m) (vs := vs) (xs := xs)) p⟩
    | _ => exact p.elim
def wAugS (i : Nat) (f : Int → Int → Int) (wi we : WE) : WS := fun D ρ => wi ρ fun j => match ρ.getD i .non, j with
  | .lst xs, .int k => ∃ m a, ixN xs.length k = some m ∧ xs[m]? = some (.int a) ∧ we ρ fun y => match y with
    | .int b => D.nx (ρ.set i (.lst (xs.set m (.int (f a b)))))
    | _ => False
  | _, _ => False
def wDrop (we : WE) : WS := fun D ρ => we ρ fun _ => D.nx ρ
theorem simS_drop (h : Sim K d (rS K d) (shr ts) te we) : SimS K d R bt ct ts (tDrop te) (wDrop we) ts := fun H0 F0 F H σ ρ D D' E hw n r b c => by
  obtain ⟨F1, up, E1⟩ := E.conv (cv_shr ts)
  exact h H0 F0 F1 H σ ρ _ _ E1 hw fun x v F' H' s _ p => n F H' σ ρ (.of (Step.tox E.dm s.xt)) (E.step (Step.tox E.dm s.xt)) p
def wRet (we : WE) : WS := fun D ρ => we ρ D.rt
theorem simS_ret (o : ROk R) (h : Sim K d R ts te we) : SimS K d R bt ct ts (tRet te) (wRet we) ts' := fun H0 F0 F H σ ρ D D' E hw n r b c =>
  h H0 F0 F H σ ρ _ _ E hw fun x v F1 H1 s1 r1 h1 => r x v F1 H1 (E.st.trans s1) (o.back E.st r1) h1
theorem simS_retO {i : Nat} (hi : ts[i]? = some .ow) : SimS K d (rN K d) bt ct ts (tRet (tVar i)) (wRet (wVar i)) ts' := fun H0 F0 F H σ ρ D D' E hw n r b c => by
  obtain ⟨a, vs, xs, g1, g2, g3, g4, g5, g6⟩ := E.ow i hi
  have hw' : D'.rt (ρ.getD i .non) := hw
  rw [getD_of g2] at hw'
  exact ⟨_, g1, r (.lst xs) (.ref a) F H E.st (.inr ⟨a, vs, xs, rfl, rfl, g5, g3, g4, g6⟩) hw'⟩
def wIfS (wt : WT) (a b : WS) : WS := fun D ρ => wt ρ fun c => if c = true then a D ρ else b D ρ
theorem simS_if {tt : TT} {wt : WT} {t t' : TS} {a b : WS} (ht : SimT K d ts tt wt) (ha : SimS K d R bt ct ts t a ts1) (hb : SimS K d R bt ct ts t' b ts1) : SimS K d R bt ct ts (tIfS tt t t') (wIfS wt a b) ts1 := fun H0 F0 F H σ ρ D D' E hw n r b' c =>
  ht H0 F0 F H σ ρ _ _ E hw fun k H1 e p => by
    have s1 := Step.tox E.dm e
    have E1 := E.step s1
    have g1 : Gr F H F H1 := .of s1
    cases k with
    | true => exact ha H0 F0 F H1 σ ρ D D' E1 p (fun F2 H2 σ2 ρ2 g2 => n F2 H2 σ2 ρ2 (g1.trans g2)) r (fun F2 H2 σ2 ρ2 g2 => b' F2 H2 σ2 ρ2 (g1.trans g2)) fun F2 H2 σ2 ρ2 g2 => c F2 H2 σ2 ρ2 (g1.trans g2)
    | false => exact hb H0 F0 F H1 σ ρ D D' E1 p (fun F2 H2 σ2 ρ2 g2 => n F2 H2 σ2 ρ2 (g1.trans g2)) r (fun F2 H2 σ2 ρ2 g2 => b' F2 H2 σ2 ρ2 (g1.trans g2)) fun F2 H2 σ2 ρ2 g2 => c F2 H2 σ2 ρ2 (g1.trans g2)
def wForL (wg : WG) (w : WS) (D : WEnds) : List PV → List PV → Prop
  | [], ρ => D.nx ρ
  | x :: xs, ρ => wg x ρ fun ρ2 => w { D with nx := wForL wg w D xs, ct := wForL wg w D xs, bk := D.nx } ρ2
def wFor (ww : WI) (wg : WG) (w : WS) : WS := fun D ρ => ww ρ fun xs => wForL wg w D xs ρ
theorem simS_for {is : List Nat} {wi : TI} {ww : WI} {g : TG} {wg : WG} {t : TS} {w : WS} (hi : SimI K d true ts wi ww) (hg : SimG K d is ts g wg ts1) (hb : SimS K d R ts ts ts1 t w ts2) (c : cv ts2 ts = true) : SimS K d R bt ct ts (tFor wi g t) (wFor ww wg w) ts := fun H0 F0 F H σ ρ D D' E hw n r b c' =>
  hi H0 F0 F H σ ρ _ _ E hw fun xs F1 H1 J s1 it hx => by
    obtain ⟨G, Y, wk, hG, item⟩ := it
    have stb : ∀ {H' : Hp}, keep true F1 H1 H' = Stb F1 H1 H' := rfl
    refine for_it wk (fun i σ' H' => ∃ F' ρ', EnvR K d ts H0 F0 F' H' σ' ρ' ∧ Gr F1 H1 F' H' ∧ wForL wg w D' (xs.drop i) ρ') ⟨F1, ρ, E.step s1, .refl, hx⟩ ?_ ?_ ?_
    · rintro i σ' H' _ ⟨F', ρ', _, g, _⟩
      exact hG H' g.2
    · rintro i v σ' H' H'' hlt ⟨F', ρ', E', g, hw'⟩ y
      obtain ⟨s2, z, hz, rz⟩ := item i H' F' v H'' g.2 g.1 g.2 E'.dm y hlt
      have dr : xs.drop i = z :: xs.drop (i + 1) := by
        obtain ⟨hl, e⟩ := List.getElem?_eq_some_iff.mp hz
        rw [List.drop_eq_getElem_cons hl, e]
      rw [dr] at hw'
      refine hg H0 F0 F' H'' σ' ρ' v z _ _ (E'.step s2) rz hw' fun σ2 ρ2 E2 _ _ h2 => ?_
      refine hb H0 F0 F' H'' σ2 ρ2 _ _ E2 h2 (fun F3 H3 σ3 ρ3 g3 E3 q => ?_) r (fun F3 H3 σ3 ρ3 g3 E3 q => n F3 H3 σ3 ρ3 ((Gr.of s1).trans ((g.trans (.of s2)).trans g3)) E3 q) fun F3 H3 σ3 ρ3 g3 E3 q => ⟨F3, ρ3, E3, (g.trans (.of s2)).trans g3, q⟩
      obtain ⟨F4, up4, E4⟩ := E3.conv c
      exact ⟨F4, ρ3, E4, ((g.trans (.of s2)).trans g3).trans (.up up4), q⟩
    · rintro σ' H' ⟨F', ρ', E', g, hw'⟩
      rw [List.drop_length] at hw'
      exact n F' H' σ' ρ' ((Gr.of s1).trans g) E' hw'
end
end Wx
namespace Wx
open PySem PySem.Spec PyProof.Rows L2 Evl Hn RZ
variable [TabC]
section
variable [XC]
variable {K : PySem.W.Frag} {d : Cn → Addr} {F F0 : Fz} {H H0 : Hp} {ts ts' bt ct : List Tag} {R : RR} {te : TE} {we : WE}
def wgSub (i : Nat) (wi : WE) : WG := fun y ρ P => wi ρ fun j => match ρ.getD i .non, j with
  | .lst xs, .int k => ∃ m, ixN xs.length k = some m ∧ P (ρ.set i (.lst (xs.set m y)))
  | _, _ => False
end
end Wx
namespace Wx
open PySem PySem.Spec PyProof.Rows L2 Evl Hn RZ
variable [TabC]
mutual
def fl : PV → Bool
  | .lst _ => false
  | .scr _ => false
  | .fnv _ _ => false
  | .ins _ _ => false
  | .dct _ _ => false
  | .idv _ _ => false
  | .tup xs => fls xs
  | _ => true
def fls : List PV → Bool
  | [] => true
  | x :: xs => fl x && fls xs
end
section
variable [XC]
variable {K : PySem.W.Frag} {d : Cn → Addr} {F F' F0 F1 : Fz} {H H' H0 : Hp} {ts : List Tag} {te : TE} {we : WE} {ta : TA} {wa : WA}
mutual
theorem Rv.free : ∀ {v : V} {x : PV}, Rv K d F H v x → fl x = true → Rv K d F' H v x
  | _, _, .non, _ => .non
  | _, _, .bl b, _ => .bl b
  | _, _, .int i, _ => .int i
  | _, _, .str x, _ => .str x
  | _, _, .ty n, _ => .ty n
  | _, _, .cls c, _ => .cls c
  | _, _, .lst _ _ _, e => by simp only [fl] at e; cases e
  | _, _, .tup h1 h2, e => .tup h1 (Rvs.free h2 (by simpa only [fl] using e))
  | _, _, .ins _ _, e => by simp only [fl] at e; cases e
  | _, _, .bag h, _ => .bag h
  | _, _, .scr _ _, e => by simp only [fl] at e; cases e
  | _, _, .fnv _ _, e => by simp only [fl] at e; cases e
  | _, _, .dct _ _, e => by simp only [fl] at e; cases e
  | _, _, .idv _, e => by simp only [fl] at e; cases e
theorem Rvs.free : ∀ {vs : List V} {xs : List PV}, Rvs K d F H vs xs → fls xs = true → Rvs K d F' H vs xs
  | _, _, .nil, _ => .nil
  | _, _, .cons a b, e => by
    simp only [fls, Bool.and_eq_true] at e
    exact .cons (Rv.free a e.1) (Rvs.free b e.2)
end
def flO (x : PV) : Prop := fl x = true ∨ ∃ ys, x = .lst ys ∧ fls ys = true
def wCallL (w : WF) (wa : WA) : WE := fun ρ P => wa ρ fun xs => w xs fun x => flO x ∧ P x
end
end Wx
namespace Wx
open PySem PySem.Spec PyProof.Rows L2 Evl Hn RZ
variable [TabC]
section
variable [XC]
variable {K : PySem.W.Frag} {d : Cn → Addr} {F F' F0 : Fz} {H H' H0 : Hp} {v u : V} {ts ts' : List Tag} {R : RR} {te ta tb tc : TE} {we wa wb wc : WE}
def flatP : PV → Option V
  | .non => some .non
  | .bl b => some (.bl b)
  | .int i => some (.int i)
  | .str s => some (.str s)
  | _ => none
def flatPs : List PV → Option (List V)
  | [] => some []
  | x :: xs => match flatP x, flatPs xs with
    | some a, some b => some (a :: b)
    | _, _ => none
theorem flatP_V {x : PV} {w : V} (h : flatP x = some w) : flatV w = true := by
  cases x <;> simp [flatP] at h <;> subst h <;> rfl
theorem Rv.flat {x : PV} {w : V} (r : Rv K d F H v x) (h : flatP x = some w) : v = w := by
  cases r <;> simp [flatP] at h <;> exact h
theorem Rw.flat {x : PV} {w : V} (r : Rw K d F H v x) (h : flatP x = some w) : v = w := by
  rcases r with r | ⟨p, vs, xs, rfl, rfl, _⟩
  · exact r.flat h
  · cases h
theorem Rvs.flat2 : ∀ {vs : List V} {xs : List PV} {ws : List V}, Rvs K d F H vs xs → flatPs xs = some ws → vs = ws ∧ ws.all flatV = true
  | _, _, _, .nil, h => by cases h; exact ⟨rfl, rfl⟩
  | _, _, ws, .cons (x := x) (xs := xs) a b, h => by
    simp only [flatPs] at h
    cases e1 : flatP x with
    | none => rw [e1] at h; cases h
    | some q =>
      cases e2 : flatPs xs with
      | none => rw [e1, e2] at h; cases h
      | some qs =>
        rw [e1, e2] at h
        cases h
        obtain ⟨h1, h2⟩ := b.flat2 e2
        rw [a.flat e1, h1]
        refine ⟨rfl, ?_⟩
        rw [List.all_cons, flatP_V e1, h2]
        rfl
def wEq : W2 := fun x y P => match x, y with
  | .int a, .int b => P (.bl (decide (a = b)))
  | .str a, .str b => P (.bl (decide (a = b)))
  | .bl a, .bl b => P (.bl (decide (a = b)))
  | x, y => wEqD false x y P
def wNe : W2 := fun x y P => match x, y with
  | .int a, .int b => P (.bl (!decide (a = b)))
  | .str a, .str b => P (.bl (!decide (a = b)))
  | .bl a, .bl b => P (.bl (!decide (a = b)))
  | x, y => wEqD true x y P
def rEqU (K : PySem.W.Frag) : R2 := orR rEq (rEqD K)
def rNeU (K : PySem.W.Frag) : R2 := orR rNe (rNeD K)
theorem u_eq {X : Cx} (h : X.K = K) (hu : X.A.units + 64 < cLine) : OpR X (compareOp .Eq) (rEqU K) := h ▸ op_or op_eq (op_eqD hu)
theorem u_ne {X : Cx} (h : X.K = K) (hu : X.A.units + 64 < cLine) : OpR X (compareOp .NotEq) (rNeU K) := h ▸ op_or op_ne (op_neD hu)
theorem ops_eq : OpS K d (rN K d) (rEqU K) wEq := fun F H v u x y Q P dm rx ry h k => by
  unfold wEq at h
  split at h
  · cases rx.intE; cases ry.intE
    exact .inl (r_eqI (fin_val dm (.bl _) h k))
  · cases rx.strE; cases ry.strE
    exact .inl (r_eqS (fin_val dm (.bl _) h k))
  · cases rx.blE; cases ry.blE
    exact .inl (r_eqB (fin_val dm (.bl _) h k))
  · exact .inr (ops_eqD F H v u x y Q P dm rx ry h k)
theorem ops_ne : OpS K d (rN K d) (rNeU K) wNe := fun F H v u x y Q P dm rx ry h k => by
  unfold wNe at h
  split at h
  · cases rx.intE; cases ry.intE
    exact .inl (r_neI (fin_val dm (.bl _) h k))
  · cases rx.strE; cases ry.strE
    exact .inl (r_neS (fin_val dm (.bl _) h k))
  · cases rx.blE; cases ry.blE
    exact .inl (r_neB (fin_val dm (.bl _) h k))
  · exact .inr (ops_neD F H v u x y Q P dm rx ry h k)
def wInT : W2 := fun x y P => match x, y with
  | .str i, .str j => P (.bl (!(Builtin.Str.occurrences j i 0 j.length 1).isEmpty))
  | _, _ => False
def wIsB : W2 := fun x y P => match x, y with
  | .bl a, .bl b => P (.bl (decide (a = b)))
  | _, _ => False
def wIsnB : W2 := fun x y P => match x, y with
  | .bl a, .bl b => P (.bl (!decide (a = b)))
  | _, _ => False
def wLcB (wg : WG) (wt : WT) (we : WE) (ρ : List PV) : List PV → List PV → (List PV → Prop) → Prop
  | [], acc, P => P acc
  | x :: xs, acc, P => wg x ρ fun ρ2 => wt ρ2 fun b => if b = true then we ρ2 fun y => acc.length < 100000 ∧ wLcB wg wt we ρ xs (acc ++ [y]) P else wLcB wg wt we ρ xs acc P
def wLc2L (wg : WG) (wt : WT) (ww1 : WI) (wg1 : WG) (wt1 : WT) (we : WE) (ρ : List PV) : List PV → List PV → (List PV → Prop) → Prop
  | [], acc, P => P acc
  | x :: xs, acc, P => wg x ρ fun ρ2 => wt ρ2 fun b => if b = true then ww1 ρ2 fun ys => wLcB wg1 wt1 we ρ2 ys acc fun acc' => wLc2L wg wt ww1 wg1 wt1 we ρ xs acc' P else wLc2L wg wt ww1 wg1 wt1 we ρ xs acc P
def wLc2 (ww : WI) (wg : WG) (wt : WT) (ww1 : WI) (wg1 : WG) (wt1 : WT) (we : WE) : WE := fun ρ P => ww ρ fun xs => wLc2L wg wt ww1 wg1 wt1 we ρ xs [] fun ys => P (.lst ys)
def LcSt (K : PySem.W.Frag) (d : Cn → Addr) (D : Addr) (F1 : Fz) (H1 : Hp) (H' : Hp) (acc : List PV) : Prop := ∃ (F' : Fz) (as : List V), H' D = some (.lst as) ∧ ¬ F' D ∧ Rvs K d F' H' as acc ∧ Step F1 H1 F' H'
theorem LcSt.push {D : Addr} {F1 : Fz} {H1 H4 : Hp} {F4 : Fz} {as : List V} {acc : List PV} {q : PV} {u : V} (nD : H1 D = none) (aD4 : H4 D = some (.lst as)) (nf4 : ¬ F4 D) (r : Rvs K d F4 H4 as acc) (r4 : Rv K d F4 H4 u q) (s5 : Step F1 H1 F4 H4) : LcSt K d D F1 H1 (upd H4 D (.lst (as ++ [u]))) (acc ++ [q]) := by
  have sb : Stb F4 H4 (upd H4 D (.lst (as ++ [u]))) := Stb.set aD4 nf4
  refine ⟨F4, as ++ [u], upd_same, nf4, (r.mono sb fun _ h => h).append (.cons (r4.mono sb fun _ h => h) .nil), ⟨Xn.mut s5.ex nD, s5.up, s5.nw, s5.dm.set aD4⟩⟩
def wLstRg (we : WE) : WE := fun ρ P => we ρ fun x => match x with
  | .int n => RgOk 0 n ∧ P (.lst (rangeP 0 n.toNat))
  | _ => False
end
instance xc0 : XC := ⟨fun _ _ => True, 0, none, [], false⟩
section
variable {P : Program} {w : World} {K : PySem.W.Frag} {mg : Str → Option Value} {base : Heap} {d : Cn → Addr} {R : RR}
def wDef (n m : Nat) (ws : WS) : WF := fun xs P => xs.length = n ∧ ws { nx := fun _ => P .non, rt := P } (xs ++ List.replicate m .non)
def tags (n m : Nat) : List Tag := List.replicate n .sh ++ List.replicate m .no
def RNon (K : PySem.W.Frag) (d : Cn → Addr) (R : RR) : Prop := ∀ F0 H0 F H, R F0 H0 F H .non .non
theorem rnonS : RNon K d (rS K d) := fun _ _ _ _ => .non
theorem rnonN : RNon K d (rN K d) := fun _ _ _ _ => .inl ⟨trivial, .non⟩
theorem env_start [X : XC] {N : List Str} {F : Fz} {H : Hp} {vs : List V} {xs : List PV} {n m : Nat} (dm : Dom F H) (r : Rvs K d F H vs xs) (hn : xs.length = n) (hN : N.length = n + m) (hx : X.h F H) : EnvR K d (tags n m) H F F H (L2.start N vs) (xs ++ List.replicate m .non) := by
  have lv : vs.length = n := r.length.trans hn
  have e : N.length - vs.length = m := by omega
  refine ⟨Step.refl dm, ?_, ?_, fun i h => ?_, fun i h => ?_, fun i j a h => ?_, fun i h => ?_, fun i a h => ?_, hx, fun i h => ?_⟩
  rotate_right
  · unfold tags at h
    rcases Nat.lt_or_ge i n with z | z
    · rw [List.getElem?_append_left (by rw [List.length_replicate]; exact z), List.getElem?_replicate] at h
      split at h <;> cases h
    · rw [List.getElem?_append_right (by rw [List.length_replicate]; exact z), List.getElem?_replicate] at h
      split at h <;> cases h
  · unfold L2.start tags
    rw [List.length_append, List.length_map, List.length_replicate, List.length_append, List.length_replicate, List.length_replicate, e, lv]
  · unfold tags
    rw [List.length_append, List.length_replicate, List.length_append, List.length_replicate, List.length_replicate, hn]
  · have hi : i < n := by
      rcases Nat.lt_or_ge i n with z | z
      · exact z
      · unfold tags at h
        rw [List.getElem?_append_right (by rw [List.length_replicate]; exact z), List.getElem?_replicate] at h
        split at h <;> cases h
    obtain ⟨x, hx⟩ : ∃ x, xs[i]? = some x := ⟨xs[i], List.getElem?_eq_getElem (by omega)⟩
    obtain ⟨v, hv, rv⟩ := r.get hx
    refine ⟨v, x, ?_, ?_, rv⟩
    · unfold L2.start
      rw [List.getElem?_append_left (by rw [List.length_map]; omega), List.getElem?_map, hv]
      rfl
    · rw [List.getElem?_append_left (by omega), hx]
  · unfold tags at h
    rcases Nat.lt_or_ge i n with z | z
    · rw [List.getElem?_append_left (by rw [List.length_replicate]; exact z), List.getElem?_replicate] at h
      split at h <;> cases h
    · rw [List.getElem?_append_right (by rw [List.length_replicate]; exact z), List.getElem?_replicate] at h
      split at h <;> cases h
  · unfold tags at h
    rcases Nat.lt_or_ge i n with z | z
    · rw [List.getElem?_append_left (by rw [List.length_replicate]; exact z), List.getElem?_replicate] at h
      split at h <;> cases h
    · rw [List.getElem?_append_right (by rw [List.length_replicate]; exact z), List.getElem?_replicate] at h
      split at h <;> cases h
  · unfold tags at h
    rcases Nat.lt_or_ge i n with z | z
    · rw [List.getElem?_append_left (by rw [List.length_replicate]; exact z), List.getElem?_replicate] at h
      split at h <;> cases h
    · rw [List.getElem?_append_right (by rw [List.length_replicate]; exact z), List.getElem?_replicate] at h
      split at h <;> cases h
  · unfold tags at h
    rcases Nat.lt_or_ge i n with z | z
    · rw [List.getElem?_append_left (by rw [List.length_replicate]; exact z), List.getElem?_replicate] at h
      split at h <;> cases h
    · rw [List.getElem?_append_right (by rw [List.length_replicate]; exact z), List.getElem?_replicate] at h
      split at h <;> cases h
theorem run_w {N : List Str} {n m : Nat} {t : TS} {ws : WS} {ts' : List Tag} {H : Hp} {vs : List V} {Q : VK} {E : XK} (S : SimS K d R [] [] (tags n m) t ws ts') (hR : RNon K d R) (hN : N.length = n + m) (h : spW K d R (wDef n m ws) vs H Q E) : t { nx := fun _ H' => Q .non H', rt := Q } (L2.start N vs) H := by
  obtain ⟨F, xs, P, dm, r, ⟨hl, hw⟩, k⟩ := h
  exact S H F F H _ _ _ _ (env_start dm r hl hN trivial) hw (fun F' H' σ' ρ' g E' p => k .non .non F' H' E'.st (hR _ _ _ _) p) (fun x v F' H' s rr p => k x v F' H' s rr p) (fun _ _ _ _ _ _ q => q.elim) (fun _ _ _ _ _ _ q => q.elim)
theorem okw_of {x qual : Str} {st : Stmt} {f : Addr} {N ps : List Str} {k n m : Nat} {ws : WS} {ts' : List Tag} (Df' : Df K x qual st f ps) (S : FnScope N ps (defScope st)) (hn : ps.length = n) (hN : N.length = n + m) (hR : RNon K d R)
    (hbody : ∀ (cdv : Value) (A : Around) (outer : List Env) (s : Shared) (H : Hp) (E : XK), Room k (A.deeper (envOfC qual (defScope st) s.heap.objs.size f cdv)) →
      ∃ t, PSs (cxOf CX0 P w K mg base N qual (defScope st) f cdv A outer s H E).nox (defBody st) t ∧ SimS K d R [] [] (tags n m) t ws ts') : Okf P w K mg base (k + 1) f ps (spW K d R (wDef n m ws)) :=
  okf_of Df' S (fun vs H Q E h => by
    obtain ⟨F, xs, P, dm, r, ⟨hl, _⟩, _⟩ := h
    rw [r.length, hl, hn]) fun cdv A outer s H vs Q E hr h => by
    obtain ⟨t, D, sim⟩ := hbody cdv A outer s H E hr
    exact ⟨t, D, run_w sim hR hN h⟩
theorem okwG_of {x qual : Str} {st : Stmt} {f : Addr} {N ps : List Str} {k n m : Nat} {ws : WS} {ts' : List Tag} (Df' : Df K x qual st f ps) (S : FnScope N ps (defScope st)) (hn : ps.length = n) (hN : N.length = n + m) (hR : RNon K d R)
    (hbody : ∀ (cdv : Value) (A : Around) (outer : List Env) (s : Shared) (H : Hp) (E : XK), NoG A s → Room k (A.deeper (envOfC qual (defScope st) s.heap.objs.size f cdv)) →
      ∃ t, PSs (cxOf CX0 P w K mg base N qual (defScope st) f cdv A outer s H E).nox (defBody st) t ∧ SimS K d R [] [] (tags n m) t ws ts') : OkP NoG P w K mg base (k + 1) f ps (spW K d R (wDef n m ws)) :=
  okP_of Df' S (fun vs H Q E h => by
    obtain ⟨F, xs, P, dm, r, ⟨hl, _⟩, _⟩ := h
    rw [r.length, hl, hn]) fun cdv A outer s H vs Q E hg hr h => by
    obtain ⟨t, D, sim⟩ := hbody cdv A outer s H E hg hr
    exact ⟨t, D, run_w sim hR hN h⟩
def Tells (K : PySem.W.Frag) (d : Cn → Addr) (R : RR) (sp : Sp) (w : WF) : Prop := ∀ vs H Q E, spW K d R w vs H Q E → sp vs H Q E
theorem okw_imp {k : Nat} {f : Addr} {ps : List Str} {sp : Sp} {w' : WF} (F : Okf P w K mg base k f ps sp) (h : Tells K d R sp w') : Okf P w K mg base k f ps (spW K d R w') := F.imp h
end
end Wx
namespace Wx
open PySem PySem.Spec PyProof.Rows L2 Evl Hn RZ
variable [TabC]
abbrev iL (ns : List Int) : List PV := ns.map PV.int
def clkP (s : List Int) : PV := .ins .Clock [("kept_stays", .tup (iL s)), ("kept_widths", .tup (iL (wds s)))]
def ndP (s : List Int) : PV := .ins .Needs [("kept_row", .tup (iL s))]
section
variable {K : PySem.W.Frag} {d : Cn → Addr} {F F' F0 : Fz} {H H' H0 : Hp} {v u : V} {Q : VK} {P : PV → Prop} {s : List Int}
theorem Rvs.one {vs : List V} {x : PV} (h : Rvs K d F H vs [x]) : ∃ v, vs = [v] ∧ Rv K d F H v x := by
  cases h with
  | cons a b => cases b; exact ⟨_, rfl, a⟩
theorem Rvs.two {vs : List V} {x y : PV} (h : Rvs K d F H vs [x, y]) : ∃ v u, vs = [v, u] ∧ Rv K d F H v x ∧ Rv K d F H u y := by
  cases h with
  | cons a b =>
    obtain ⟨u, rfl, q⟩ := b.one
    exact ⟨_, u, rfl, a, q⟩
theorem Rv.intE {a : Int} (h : Rv K d F H v (.int a)) : v = .int a := by cases h; rfl
theorem Rv.strE {a : Str} (h : Rv K d F H v (.str a)) : v = .str a := by cases h; rfl
theorem Rv.bagE (h : Rv K d F H v .bag) : ∃ b, v = .ref b ∧ Bag H b := by
  cases h with
  | bag h => exact ⟨_, rfl, h⟩
theorem Rv.intsL {ns : List Int} (h : Rv K d F H v (.lst (iL ns))) : ∃ a, v = .ref a ∧ H a = some (.lst (ns.map V.int)) := by
  cases h with
  | lst h1 h2 h3 =>
    cases h3.ints
    exact ⟨_, rfl, h1⟩
theorem Rv.intsT {ns : List Int} (h : Rv K d F H v (.tup (iL ns))) : ∃ a, v = .ref a ∧ SqT K H a (ns.map V.int) := by
  cases h with
  | tup h1 h3 =>
    cases h3.ints
    exact ⟨_, rfl, h1⟩
def seqP (x : PV) (ns : List Int) : Prop := x = .lst (iL ns) ∨ x = .tup (iL ns)
theorem Rv.seq {x : PV} {ns : List Int} (h : Rv K d F H v x) (e : seqP x ns) : ∃ a, v = .ref a ∧ Sq K H a (ns.map V.int) := by
  rcases e with rfl | rfl
  · obtain ⟨a, rfl, q⟩ := h.intsL
    exact ⟨a, rfl, .inl (.inl (.inl q))⟩
  · obtain ⟨a, rfl, q⟩ := h.intsT
    exact ⟨a, rfl, .inr q⟩
theorem clk_of (h : Rv K d F H v (clkP s)) (g : Good s) : Clk K (d .Clock) H v s := by
  obtain ⟨p, dx, gs, rfl, h1, h2⟩ := h.insE
  cases h2 with
  | cons a b =>
    cases b with
    | cons b c =>
      cases c
      obtain ⟨q1, rfl, e1⟩ := a.intsT
      obtain ⟨q2, rfl, e2⟩ := b.intsT
      exact ⟨p, dx, q1, q2, rfl, h1, e1, e2, g⟩
theorem of_clk (h : Clk K (d .Clock) H v s) : Rv K d F H v (clkP s) := by
  obtain ⟨p, dx, a, b, rfl, h1, h2, h3, g⟩ := h
  exact .ins h1 (.cons (.tup h2 (Rvs.of_ints _)) (.cons (.tup h3 (Rvs.of_ints _)) .nil))
abbrev KN (K : PySem.W.Frag) (d : Cn → Addr) (F : Fz) (H : Hp) (P : PV → Prop) (Q : VK) : Prop := ∀ x v F' H', Step F H F' H' → rN K d F H F' H' v x → P x → Q v H'
theorem ret_int {i : Int} (dm : Dom F H) (k : KN K d F H P Q) (p : P (.int i)) (e : Ex H H') : Q (.int i) H' := k (.int i) _ F H' (Step.to dm e) (.inl ⟨trivial, .int i⟩) p
theorem ret_ints {ns : List Int} (dm : Dom F H) (k : KN K d F H P Q) (p : P (.lst (iL ns))) : RetN (ns.map V.int) H Q := fun q H' nq e hq =>
  k (.lst (iL ns)) _ F H' (Step.to dm e) (.inr ⟨q, _, _, rfl, rfl, nq, hq, fun f => dm.at_ q f nq, Rvs.of_ints _⟩) p
def w_take : WF := fun xs P => ∃ u : Int, xs = [.bag, .int u] ∧ 0 < u ∧ u < 1000000000000000000000000000000000000000000000000000 ∧ ∀ n : Int, 0 ≤ n → n < u → P (.int n)
theorem tells_take : Tells K d (rN K d) spTake w_take := fun vs H Q E ⟨F, xs, P, dm, r, ⟨u, ex, u0, u1, p⟩, k⟩ => by
  subst ex
  obtain ⟨v1, v2, rfl, r1, r2⟩ := r.two
  obtain ⟨b, rfl, hb⟩ := r1.bagE
  cases r2.intE
  exact ⟨b, u, rfl, hb, u0, u1, fun n n0 n1 => ret_int dm k (p n n0 n1) (Ex.refl _)⟩
def w_bag : WF := fun xs P => ∃ ns : List Int, xs = [.scr ns] ∧ P .bag
theorem tells_bag : Tells K d (rN K d) (spBag K) w_bag := fun vs H Q E ⟨F, xs, P, dm, r, ⟨ns, ex, p⟩, k⟩ => by
  subst ex
  obtain ⟨v1, rfl, r1⟩ := r.one
  cases r1 with
  | scr h1 h4 => exact ⟨_, ns, rfl, h1.sq, h4, fun b H' e hb => k .bag _ F H' (Step.to dm e) (.inl ⟨trivial, .bag hb⟩) p⟩
def w_mkClock : WF := fun xs P => ∃ (x : PV) (s : List Int), xs = [x] ∧ seqP x s ∧ Good s ∧ P (clkP s)
theorem mk_Clock : MkS K d .Clock (spClkInit K (d .Clock)) w_mkClock := fun F H vs xs Q P E dm r ⟨x, s, ex, sx, g, p⟩ k => by
  subst ex
  obtain ⟨v, rfl, r1⟩ := r.one
  obtain ⟨a, rfl, hS⟩ := r1.seq sx
  exact mkClk (Q := fun u H' => Q (.ref u) H') ⟨a, s, rfl, hS, g, fun u H' e c => k (clkP s) _ F H' (Step.to dm e) (of_clk c) trivial p⟩
theorem law_tells {R : RR} {w : WF} (h : ∀ ns : List Int, ns.length ≤ 63 → w [.scr ns] fun x => x = .bl true) (hR : ∀ F H F' H' v, R F H F' H' v (.bl true) → v = .bl true) : ∀ vs H Q E, TabsR H → spLaw K vs H Q E → spW K d R w vs H Q E := fun vs H Q E tb ⟨a, ns, e, hS, hl, k⟩ => by
  subst e
  refine ⟨fun b => b = a ∧ H a ≠ none, [.scr ns], _, ⟨fun b f => by rw [f.1]; exact f.2, tb⟩, .cons (.scr ?_ hl) .nil, h ns hl, fun x v F' H' s r p => ?_⟩
  · rcases hS with (q | ⟨o, q⟩) | q
    · exact .inl ⟨q, rfl, by rw [q]; intro y; cases y⟩
    · exact .inr (.inl ⟨o, q⟩)
    · exact .inr (.inr fun H' => .inr q)
  · subst p
    rw [hR _ _ _ _ _ r]
    exact k H'
theorem bl_N : ∀ (F : Fz) (H : Hp) (F' : Fz) (H' : Hp) (v : V), rN K d F H F' H' v (.bl true) → v = .bl true := fun _ _ _ _ v h => by
  rcases h with h | ⟨_, _, _, _, e, _⟩
  · cases h.2; rfl
  · cases e
theorem law_tells0 {R : RR} {w : WF} (e : TabC.T = []) (h : ∀ ns : List Int, ns.length ≤ 63 → w [.scr ns] fun x => x = .bl true) (hR : ∀ F H F' H' v, R F H F' H' v (.bl true) → v = .bl true) : ∀ vs H Q E, spLaw K vs H Q E → spW K d R w vs H Q E := fun vs H Q E q => law_tells h hR vs H Q E (tabs_nil e) q
end
end Wx
namespace Wx
open PySem PySem.Spec PyProof.Rows L2 Evl Hn RZ
variable [TabC]
section
variable [XC]
variable {K : PySem.W.Frag} {d : Cn → Addr} {F F' F0 : Fz} {H H' H0 : Hp} {v u : V} {ts ts' : List Tag} {R : RR} {te ta tb tc : TE} {we wa wb wc : WE}
def wFldC (c : Cn) (we : WE) (f : Str) : WE := fun ρ P => wFld (fun ρ P => we ρ fun x => (∃ fs, x = .ins c fs) ∧ P x) f ρ P
theorem okP_imp {P : Program} {w : World} {mg : Str → Option Value} {base : Heap} {Pre : Around → Shared → Prop} {k : Nat} {f : Addr} {ps : List Str} {sp sp' : Sp} (G : OkP Pre P w K mg base k f ps sp) (h : ∀ vs H Q E, sp' vs H Q E → sp vs H Q E) : OkP Pre P w K mg base k f ps sp' := by
  obtain ⟨fd, b, l, run⟩ := G
  exact ⟨fd, b, fun vs H Q E q => l vs H Q E (h _ _ _ _ q), fun A out s H ag us vs Q E pre room env bnd rel q => run A out s H ag us vs Q E pre room env bnd rel (h _ _ _ _ q)⟩
def wgLst (n : Nat) (g : WGs) : WG := fun x ρ P => match x with
  | .lst xs => xs.length = n ∧ g xs ρ P
  | _ => False
def wListZip (wa : WA) : WE := fun ρ P => wa ρ fun zs => match zs with
  | [.lst xs, .lst ys] => xs.length = ys.length ∧ 1 ≤ xs.length ∧ P (.lst (zipP xs ys))
  | [.tup xs, .lst ys] => xs.length = ys.length ∧ 1 ≤ xs.length ∧ P (.lst (zipP xs ys))
  | [.lst xs, .tup ys] => xs.length = ys.length ∧ 1 ≤ xs.length ∧ P (.lst (zipP xs ys))
  | [.tup xs, .tup ys] => xs.length = ys.length ∧ 1 ≤ xs.length ∧ P (.lst (zipP xs ys))
  | _ => False
inductive NL (K : PySem.W.Frag) (d : Cn → Addr) (F : Fz) (H : Hp) : Hp → List Bool → List V → List PV → Prop
  | nil {Hb : Hp} : NL K d F H Hb [] [] []
  | cons {Hb Hm : Hp} {k : Bool} {v : V} {x : PV} {ks : List Bool} {vs : List V} {xs : List PV} : New K d Hb F H k v x → Xn Hb Hm → Xn Hm H → (k = true → ∃ p, v = .ref p ∧ Hm p ≠ none) → NL K d F H Hm ks vs xs → NL K d F H Hb (k :: ks) (v :: vs) (x :: xs)
theorem NL.step {Hb : Hp} {ks : List Bool} {vs : List V} {xs : List PV} (h : NL K d F H Hb ks vs xs) (s : Step F H F' H') : NL K d F' H' Hb ks vs xs := by
  induction h with
  | nil => exact .nil
  | cons a b e c _ ih => exact .cons (a.step s) b (e.trans s.ex) c ih
def SimP (K : PySem.W.Frag) (d : Cn → Addr) (ks : List Bool) (ts : List Tag) (ta : TA) (wa : WA) : Prop := ∀ (H0 : Hp) (F0 F : Fz) (H : Hp) (σ : L2.St) (ρ : List PV) (Q : List V → Hp → Prop) (P : List PV → Prop), EnvR K d ts H0 F0 F H σ ρ → wa ρ P →
  (∀ xs vs F' H', Step F H F' H' → (isLs ks xs → NL K d F' H' H ks vs xs) → xs.length = ks.length → vs.length = ks.length → P xs → Q vs H') → ta σ H Q
where isLs : List Bool → List PV → Prop
  | k :: ks, x :: xs => isL k x ∧ isLs ks xs
  | _, _ => True
def putR (ρ : List PV) : List Nat → List PV → List PV
  | i :: is, x :: xs => putR (ρ.set i x) is xs
  | _, _ => ρ
def wTupO (is : List Nat) (ks : List Bool) (wa : WA) : WS := fun D ρ => wa ρ fun xs => SimP.isLs ks xs ∧ D.nx (putR ρ is xs)
def wDict3 (k1 k2 k3 : Str) (w1 w2 w3 wy : WE) : WE := fun ρ P => w1 ρ fun x1 => w2 ρ fun x2 => w3 ρ fun x3 => wy ρ fun y => ∃ k, y = .str k ∧ ((k = k1 ∧ P x1) ∨ (k = k2 ∧ P x2) ∨ (k = k3 ∧ P x3))
def wMakeK (n m : Nat) (w : WF) (wa wk : WA) : WE := fun ρ P => wa ρ fun xs => wk ρ fun zs => xs.length = n ∧ zs.length = m ∧ w (xs ++ zs) P
def oP : Option Int → PV
  | none => .non
  | some i => .int i
abbrev oL (rs : List (Option Int)) : List PV := rs.map oP
def hsP (s ns : List Int) (rs : List (Option Int)) (ks : List Int) (ds : List (Option Int)) : PV := .ins .House [("own_clock", clkP s), ("own_needs", ndP ns), ("own_rooms", .tup (oL rs)), ("own_kept", .tup (iL ks)), ("own_doors", .tup (oL ds))]
end
end Wx
namespace Wx
open PySem PySem.Spec PyProof.Rows L2 Evl Hn RZ
variable [TabC]
section
variable [XC]
variable {K : PySem.W.Frag} {d : Cn → Addr} {F F' F0 F1 : Fz} {H H' H0 H1 Hs : Hp} {ts bt ct : List Tag} {R : RR} {te : TE} {we : WE} {v : V} {x : PV}
def rD (K : PySem.W.Frag) (d : Cn → Addr) : RR := fun _ H F' H' v x => ∃ (c : Addr) (ws : List V) (zs : List PV), v = .ref c ∧ Hx H' c ws x zs ∧ H c = none ∧ (∀ b, V.ref b ∈ ws → H b = none) ∧ Ht H' c ws ∧ ¬ F' c ∧ V.ref c ∉ ws ∧ Uq ws ∧ ws.length = zs.length ∧
  ∀ (k : Nat) (w : V) (z : PV), ws[k]? = some w → zs[k]? = some z → (∃ (b : Addr) (us : List V) (ys : List PV), w = .ref b ∧ z = .lst ys ∧ H' b = some (.lst us) ∧ ¬ F' b ∧ Rvs K d F' H' us ys) ∨ Sc K d w z
theorem Sc.nl {w : V} {ys : List PV} (h : Sc K d w (.lst ys)) : False := by
  have r := h.2 (fun _ => False) (fun _ => none)
  cases r with
  | lst h1 => cases h1
theorem OdL.item {m : Nat} {ws : List V} {zs ys : List PV} (h : ∀ (k : Nat) (w : V) (z : PV), ws[k]? = some w → zs[k]? = some z → OdI K d H0 F H w z) (l : ws.length = zs.length) (hm : zs[m]? = some (.lst ys)) : ∃ b us, ws[m]? = some (.ref b) ∧ H b = some (.lst us) ∧ ¬ F b ∧ H0 b = none ∧ Rvs K d F H us ys := by
  have lm := (List.getElem?_eq_some_iff.mp hm).1
  have hw : ws[m]? = some ws[m] := List.getElem?_eq_getElem (by omega)
  rcases h m _ _ hw hm with ⟨b, us, ys', e1, e2, u1, u2, u3, u4⟩ | s
  · cases e2
    exact ⟨b, us, by rw [hw, e1], u1, u2, u3, u4⟩
  · exact s.nl.elim
theorem OdL.split (h : OdL K d H0 F H v x) : (∃ (c : Addr) (ws : List V) (zs : List PV), v = .ref c ∧ x = .lst zs ∧ H c = some (.lst ws) ∧ ¬ F c ∧ H0 c = none ∧ V.ref c ∉ ws ∧ Uq ws ∧ ws.length = zs.length ∧
  ∀ (k : Nat) (w : V) (z : PV), ws[k]? = some w → zs[k]? = some z → OdI K d H0 F H w z) ∨ ∀ zs, x ≠ .lst zs := by
  obtain ⟨c, ws, zs, rfl, hx, h3, hr⟩ := h
  rcases hx with ⟨q, rfl⟩ | ⟨q, rfl⟩ | ⟨kvs, q, rfl, _⟩
  · exact .inl ⟨c, ws, zs, rfl, rfl, q, hr⟩
  · exact .inr fun zs e => nomatch e
  · exact .inr fun zs e => nomatch e
def LdSt (K : PySem.W.Frag) (d : Cn → Addr) (D : Addr) (F1 : Fz) (H1 : Hp) (F' : Fz) (H' : Hp) (acc : List PV) : Prop := ∃ (bs : List Addr) (yss : List (List PV)), acc = yss.map .lst ∧ H' D = some (.lst (bs.map .ref)) ∧ ¬ F' D ∧ D ∉ bs ∧ bs.Nodup ∧ bs.length = yss.length ∧ (∀ b ∈ bs, H1 b = none) ∧ Step F1 H1 F' H' ∧
  ∀ (k : Nat) (b : Addr) (ys : List PV), bs[k]? = some b → yss[k]? = some ys → ∃ us, H' b = some (.lst us) ∧ ¬ F' b ∧ Rvs K d F' H' us ys
theorem LdSt.step {D : Addr} {acc : List PV} (h : LdSt K d D F1 H1 F H acc) (s : Step F H F' H') : LdSt K d D F1 H1 F' H' acc := by
  obtain ⟨bs, yss, h1, h2, h3, h4, h5, h6, h7, h8, h9⟩ := h
  have nf : ∀ {a : Addr} {o : HO}, H a = some o → ¬ F a → ¬ F' a := fun {a o} q n z => (s.nw a z).elim n fun e => by rw [q] at e; cases e
  refine ⟨bs, yss, h1, s.ex.at h2, nf h2 h3, h4, h5, h6, h7, h8.trans s, fun k b ys k1 k2 => ?_⟩
  obtain ⟨us, u1, u2, u3⟩ := h9 k b ys k1 k2
  exact ⟨us, s.ex.at u1, nf u1 u2, u3.step s⟩
theorem LdSt.push {D p : Addr} {acc ys : List PV} {us : List V} {Hm : Hp} (nD : H1 D = none) (e1 : Xn H1 Hm) (hD : Hm D ≠ none) (h : LdSt K d D F1 H1 F H acc) (n1 : Hm p = none) (n2 : H p = some (.lst us)) (n3 : ¬ F p) (n4 : Rvs K d F H us ys) (old : ∀ bs : List Addr, Hm D = some (.lst (bs.map .ref)) → ∀ b ∈ bs, Hm b ≠ none) (same : H D = Hm D) :
    ∃ as, H D = some (.lst as) ∧ as.length = acc.length ∧ LdSt K d D F1 H1 F (upd H D (.lst (as ++ [.ref p]))) (acc ++ [.lst ys]) := by
  obtain ⟨bs, yss, rfl, h2, h3, h4, h5, h6, h7, h8, h9⟩ := h
  refine ⟨_, h2, by rw [List.length_map, List.length_map, h6], ?_⟩
  have pD : p ≠ D := fun e => hD (e ▸ n1)
  have pb : p ∉ bs := fun q => old bs (by rw [← same]; exact h2) p q n1
  have sb : Stb F H (upd H D (.lst (bs.map .ref ++ [.ref p]))) := Stb.set h2 h3
  refine ⟨bs ++ [p], yss ++ [ys], by rw [List.map_append]; rfl, by rw [upd_same, List.map_append]; rfl, h3, ?_, ?_, by rw [List.length_append, List.length_append, h6]; rfl, fun b hb => ?_, ⟨Xn.mut h8.ex nD, h8.up, h8.nw, h8.dm.set h2⟩, fun k b ys' k1 k2 => ?_⟩
  · rw [List.mem_append, List.mem_singleton]
    exact fun q => q.elim h4 fun e => pD e.symm
  · refine List.nodup_append.mpr ⟨h5, List.pairwise_singleton _ _, fun a ha b hb e => ?_⟩
    rw [List.mem_singleton.mp hb] at e
    exact pb (e ▸ ha)
  · rcases List.mem_append.mp hb with q | q
    · exact h7 b q
    · rw [List.mem_singleton.mp q]
      exact back_x e1 n1
  · by_cases hk : k < bs.length
    · rw [List.getElem?_append_left hk] at k1
      rw [List.getElem?_append_left (by omega)] at k2
      obtain ⟨us', u1, u2, u3⟩ := h9 k b ys' k1 k2
      have bD : b ≠ D := fun e => h4 (e ▸ List.mem_of_getElem? k1)
      exact ⟨us', by rw [upd_ne bD]; exact u1, u2, u3.mono sb fun _ z => z⟩
    · have e : k = bs.length := by
        have := (List.getElem?_eq_some_iff.mp k1).1
        rw [List.length_append, List.length_singleton] at this
        omega
      subst e
      rw [List.getElem?_append_right (Nat.le_refl _), Nat.sub_self] at k1
      rw [List.getElem?_append_right (by omega), h6, Nat.sub_self] at k2
      cases k1
      cases k2
      exact ⟨us, by rw [upd_ne pD]; exact n2, n3, n4.mono sb fun _ z => z⟩
end
end Wx
namespace Hn
open PySem PySem.Spec PyProof.Rows L2 Evl RZ
def Sk (κ : Bool) (K : PySem.W.Frag) (H : Hp) (a : Addr) (xs : List V) : Prop := if κ = true then SqL K H a xs else SqT K H a xs
def Hk (κ : Bool) (h : Heap) (a : Addr) (its : Array Value) : Prop := if κ = true then h.IsList a its else h.IsTuple a its
def Ik (κ : Bool) (h : Heap) (it a : Addr) (i : Nat) : Prop := if κ = true then h.IsListIter it a i else h.IsTupleIter it a i
def Ok (κ : Bool) (a : Addr) : Obj := if κ = true then { cls := .type "list_iterator", data := .fields #[.ref a, .int 0 0] } else { cls := .type "tuple_iterator", data := .fields #[.ref a, .int 0 0] }
theorem Ik.at {κ : Bool} {h h' : Heap} {it a : Addr} {i : Nat} (x : Ik κ h it a i) (k : ∀ o, h.get? it = some o → h'.get? it = some o) : Ik κ h' it a i := by
  cases κ with
  | true => exact Heap.IsListIter.at x k
  | false => exact Heap.IsTupleIter.at x k
theorem Ik.obj {κ : Bool} {h : Heap} {it a : Addr} {i : Nat} (x : Ik κ h it a i) : ∃ o, h.get? it = some o ∧ ∀ v, o.data = .cell v → False := by
  cases κ with
  | true =>
    obtain ⟨o, e, _, d⟩ := (show h.IsListIter it a i from x)
    exact ⟨o, e, fun v q => by rw [d] at q; cases q⟩
  | false =>
    obtain ⟨o, e, _, d⟩ := (show h.IsTupleIter it a i from x)
    exact ⟨o, e, fun v q => by rw [d] at q; cases q⟩
theorem Ik.new {κ : Bool} {h : Heap} {it a : Addr} (e : h.get? it = some (Ok κ a)) : Ik κ h it a 0 := by
  cases κ with
  | true => exact ⟨_, e, rfl, rfl⟩
  | false => exact ⟨_, e, rfl, rfl⟩
end Hn
namespace Wx
open PySem PySem.Spec PyProof.Rows L2 Evl Hn RZ
variable [TabC]
section
variable [XC]
variable {K : PySem.W.Frag} {d : Cn → Addr} {F F0 F1 : Fz} {H H0 H1 : Hp} {ts : List Tag} {v : V} {x : PV}
end
end Wx
namespace Hn
open PySem PySem.Spec PyProof.Rows L2 Evl
end Hn
namespace Wx
open PySem PySem.Spec PyProof.Rows L2 Evl Hn RZ
variable [TabC]
section
variable [XC]
variable {K : PySem.W.Frag} {d : Cn → Addr} {F : Fz} {H : Hp} {ts : List Tag}
def wMakeKg (n m : Nat) (hP : List PV → List PV) (w : WF) (wa wk : WA) : WE := fun ρ P => wa ρ fun xs => wk ρ fun zs => xs.length = n ∧ zs.length = m ∧ w (xs ++ hP zs) P
end
end Wx
namespace Wx
open PySem PySem.Spec PyProof.Rows L2 Evl Hn RZ
variable [TabC]
section
variable {wg : WG} {wt : WT} {we : WE} {ρ : List PV} {P : List PV → Prop} {α : Type}
theorem lcl {ys : List α} {g : α → PV} {acc : List PV} (p : α → Bool) (F : α → PV)
    (h : ∀ y ∈ ys, ∀ (Kt : PV → Prop) (Kf : Prop), (p y = true → Kt (F y)) → (p y = false → Kf) → wg (g y) ρ fun ρ2 => wt ρ2 fun b => if b = true then we ρ2 Kt else Kf)
    (q : P (acc ++ (ys.filter p).map F)) : wLcL wg wt we ρ (ys.map g) acc P := by
  induction ys generalizing acc with
  | nil =>
    rw [List.filter_nil, List.map_nil, List.append_nil] at q
    exact q
  | cons y ys ih =>
    have ih' := fun acc q => ih (acc := acc) (fun z hz => h z (List.mem_cons_of_mem _ hz)) q
    refine h y List.mem_cons_self _ _ (fun py => ih' _ ?_) fun py => ih' _ ?_
    · rw [List.filter_cons, if_pos py, List.map_cons] at q
      rw [List.append_assoc]
      exact q
    · rw [List.filter_cons, if_neg (by rw [py]; exact Bool.false_ne_true)] at q
      exact q
theorem lcm {ys : List α} {g : α → PV} {acc : List PV} (F : α → PV)
    (h : ∀ y ∈ ys, ∀ (Kt : PV → Prop), Kt (F y) → wg (g y) ρ fun ρ2 => we ρ2 Kt) (q : P (acc ++ ys.map F)) : wLcL wg wTyes we ρ (ys.map g) acc P :=
  lcl (p := fun _ => true) F (fun y hy Kt Kf h1 _ => h y hy Kt (h1 rfl)) (by rw [List.filter_eq_self.mpr fun _ _ => rfl]; exact q)
end
theorem forl {α : Type} {wg : WG} {w : WS} {D : WEnds} {ρ : List PV} {ys : List α} {g : α → PV} (I : Nat → List PV → Prop) (h0 : I 0 ρ)
    (hs : ∀ (i : Nat) (y : α) (ρ : List PV) (N : List PV → Prop), ys[i]? = some y → I i ρ → (∀ ρ', I (i + 1) ρ' → N ρ') → wg (g y) ρ fun ρ2 => w { D with nx := N, ct := N, bk := D.nx } ρ2)
    (hd : ∀ ρ, I ys.length ρ → D.nx ρ) : wForL wg w D (ys.map g) ρ := by
  have go : ∀ (zs : List α) (i : Nat) (ρ : List PV), ys.drop i = zs → i ≤ ys.length → I i ρ → wForL wg w D (zs.map g) ρ := by
    intro zs
    induction zs with
    | nil =>
      intro i ρ e hi h
      have : i = ys.length := by
        have := congrArg List.length e
        rw [List.length_drop, List.length_nil] at this
        omega
      subst this
      exact hd ρ h
    | cons z zs ih =>
      intro i ρ e hi h
      have hi2 : i < ys.length := by
        have := congrArg List.length e
        rw [List.length_drop, List.length_cons] at this
        omega
      rw [List.drop_eq_getElem_cons hi2] at e
      have ez : ys[i] = z := (List.cons.inj e).1
      have ezs := (List.cons.inj e).2
      refine hs i z ρ _ (by rw [List.getElem?_eq_getElem hi2, ez]) h fun ρ' h' => ih (i + 1) ρ' ezs hi2 h'
  exact go ys 0 ρ rfl (Nat.zero_le _) h0
theorem forv {wg : WG} {w : WS} {D : WEnds} {ρ : List PV} {xs : List PV} (I : Nat → List PV → Prop) (h0 : I 0 ρ)
    (hs : ∀ (i : Nat) (x : PV) (ρ : List PV) (N : List PV → Prop), xs[i]? = some x → I i ρ → (∀ ρ', I (i + 1) ρ' → N ρ') → wg x ρ fun ρ2 => w { D with nx := N, ct := N, bk := D.nx } ρ2)
    (hd : ∀ ρ, I xs.length ρ → D.nx ρ) : wForL wg w D xs ρ := by
  have := forl (g := id) (ys := xs) I h0 hs hd
  rw [List.map_id] at this
  exact this
theorem rangeP0 (n : Nat) : rangeP 0 n = (List.range n).map fun (i : Nat) => PV.int (i : Int) := by
  unfold rangeP
  refine List.map_congr_left fun i _ => ?_
  rw [Int.zero_add]
theorem forr {wg : WG} {w : WS} {D : WEnds} {ρ : List PV} {n : Nat} (I : Nat → List PV → Prop) (h0 : I 0 ρ)
    (hs : ∀ (i : Nat) (ρ : List PV) (N : List PV → Prop), i < n → I i ρ → (∀ ρ', I (i + 1) ρ' → N ρ') → wg (.int (i : Int)) ρ fun ρ2 => w { D with nx := N, ct := N, bk := D.nx } ρ2)
    (hd : ∀ ρ, I n ρ → D.nx ρ) : wForL wg w D (rangeP 0 n) ρ := by
  rw [rangeP0]
  refine forl I h0 (fun i y ρ N hy hI hN => ?_) fun ρ h => hd ρ (by rw [List.length_range] at h; exact h)
  obtain ⟨hi, e⟩ := List.getElem?_eq_some_iff.mp hy
  rw [List.length_range] at hi
  rw [List.getElem_range] at e
  subst e
  exact hs i ρ N hi hI hN
theorem at_iL {ns : List Int} {i : Int} (h0 : 0 ≤ i) (h1 : i < (ns.length : Int)) : L2.atI (iL ns) i = some (.int (ns.getD i.toNat 0)) := by
  obtain ⟨j, rfl⟩ : ∃ j : Nat, i = (j : Int) := ⟨i.toNat, by omega⟩
  have hj : j < ns.length := by omega
  refine atI_nat ?_
  rw [List.getElem?_map, List.getElem?_eq_getElem hj, Int.toNat_natCast, List.getD_eq_getElem?_getD, List.getElem?_eq_getElem hj]
  rfl
theorem at_any {xs : List PV} {i : Int} (h0 : 0 ≤ i) (h1 : i < (xs.length : Int)) : L2.atI xs i = some (xs.getD i.toNat .non) := by
  obtain ⟨j, rfl⟩ : ∃ j : Nat, i = (j : Int) := ⟨i.toNat, by omega⟩
  have hj : j < xs.length := by omega
  refine atI_nat ?_
  rw [Int.toNat_natCast, List.getD_eq_getElem?_getD, List.getElem?_eq_getElem hj]
  rfl
def PvD (x : PV) (w k : Nat) : Prop := ∃ e, toD x = some e ∧ Fine e w ∧ e.canLay0 = true ∧ e.depth ≤ k
theorem PvD.mono {x : PV} {w k w' k' : Nat} (h : PvD x w k) (hw : w ≤ w') (hk : k ≤ k') : PvD x w' k' :=
  let ⟨e, h1, h2, h3, h4⟩ := h
  ⟨e, h1, h2.mono hw, h3, Nat.le_trans h4 hk⟩
theorem pd_bl (b : Bool) : PvD (.bl b) 0 0 := ⟨.bool b, by simp only [toD], fine_bool b, rfl, Nat.le_refl _⟩
theorem pd_non : PvD .non 0 0 := ⟨.none, by simp only [toD], fine_none, rfl, Nat.le_refl _⟩
theorem pd_str {x : Str} {n : Nat} (h : Sml x n) : PvD (.str x) n 0 := ⟨.str x, by simp only [toD], fine_txt h, by
  simp only [PyData.canLay0]
  unfold PyData.strOk
  rw [Array.all_eq_true]
  intro i hi
  exact decide_eq_true (h.2 _ (by rw [← Array.getElem_toList]; exact List.getElem_mem _)), Nat.le_refl _⟩
theorem PvD.shaped {x : PV} {w k : Nat} (h : PvD x w k) (hk : k ≤ 64) : ∃ e, toD x = some e ∧ SeqAt.shaped e = true ∧ Fine e w := by
  obtain ⟨e, h1, h2, h3, h4⟩ := h
  refine ⟨e, h1, ?_, h2⟩
  unfold SeqAt.shaped
  rw [h3, decide_eq_true (by omega : e.depth ≤ 64)]
  rfl
theorem at0 {α : Type} {x : α} {xs : List α} : L2.atI (x :: xs) 0 = some x := by
  refine atI_nat (j := 0) ?_
  rfl
theorem at1 {α : Type} {x y : α} {xs : List α} : L2.atI (x :: y :: xs) 1 = some y := by
  refine atI_nat (j := 1) ?_
  rfl
theorem at2 {α : Type} {x y z : α} {xs : List α} : L2.atI (x :: y :: z :: xs) 2 = some z := by
  refine atI_nat (j := 2) ?_
  rfl
theorem at3 {α : Type} {x y z u : α} {xs : List α} : L2.atI (x :: y :: z :: u :: xs) 3 = some u := by
  refine atI_nat (j := 3) ?_
  rfl
theorem at4 {α : Type} {x y z u v : α} {xs : List α} : L2.atI (x :: y :: z :: u :: v :: xs) 4 = some v := by
  refine atI_nat (j := 4) ?_
  rfl
theorem all_of {α : Type} {ys : List α} {f : α → Bool} {P : PV → Prop} (p : P (.bl (ys.all f))) : wAll [.lst (ys.map fun y => .bl (f y))] P := by
  refine ⟨ys.map f, by rw [List.map_map]; rfl, ?_⟩
  rw [List.all_map]
  exact p
def cyL {α : Type} (d : α) (xs : List α) (i : Int) : α := xs.getD (i % (xs.length : Int)).toNat d
theorem cyL_add {α : Type} {d : α} {xs : List α} {i : Int} : cyL d xs (i + (xs.length : Int)) = cyL d xs i := by
  unfold cyL
  rw [Int.add_emod_right]
theorem cyL_get {α : Type} {d : α} {xs : List α} {i : Nat} (h : i < xs.length) : cyL d xs (i : Int) = xs[i] := by
  unfold cyL
  rw [Int.emod_eq_of_lt (by omega) (by omega), Int.toNat_natCast, List.getD_eq_getElem?_getD, List.getElem?_eq_getElem h]
  rfl
theorem cyL_mem {α : Type} {d : α} {xs : List α} (h : 1 ≤ xs.length) (i : Int) : cyL d xs i ∈ xs := by
  unfold cyL
  have := mod_bd h i
  rw [List.getD_eq_getElem?_getD, List.getElem?_eq_getElem (by omega)]
  exact List.getElem_mem _
end Wx
namespace Wx
open PySem PySem.Spec PyProof.Rows L2 Evl Hn RZ
variable [TabC]
inductive Wd where
  | need | room | keep | door
  deriving DecidableEq
def Wd.s : Wd → Str
  | .need => "need"
  | .room => "room"
  | .keep => "keep"
  | .door => "door"
def Wd.on : Wd → Bool
  | .need => true
  | .keep => true
  | _ => false
structure Hs where
  s : List Int
  ns : List Int
  rs : List (Option Int)
  ks : List Int
  ds : List (Option Int)
abbrev Hs.p (X : Hs) : PV := hsP X.s X.ns X.rs X.ks X.ds
abbrev Hs.w (X : Hs) : PV := .tup [.lst (iL X.s), .lst (iL X.ns), .lst (oL X.rs), .lst (iL X.ks), .lst (oL X.ds)]
abbrev Hs.ok (X : Hs) : Prop := GoodH X.s X.ns X.rs X.ks X.ds
abbrev Hs.n (X : Hs) : Int := (X.s.length : Int)
theorem Hs.ok.pos {X : Hs} (g : X.ok) : 0 < X.n := by have := g.cs.ne; show (0 : Int) < (X.s.length : Int); omega
theorem Hs.ok.le {X : Hs} (g : X.ok) : X.n ≤ 48 := by have := g.cs.le; show (X.s.length : Int) ≤ 48; omega
def cyo (rs : List (Option Int)) (i : Int) : Option Int := rs.getD (i % (rs.length : Int)).toNat none
def Hs.lim (X : Hs) : Wd → Int → Option Int
  | .need, h => some (cyc X.ns h)
  | .room, h => cyo X.rs h
  | .keep, h => some (cyc X.ks h)
  | .door, h => cyo X.ds h
def Hs.fst (X : Hs) (w : Wd) (h : Int) : Int := match w with
  | .keep => h
  | .door => h
  | _ => (h - wd X.s h + 1) % X.n
def Hs.len (X : Hs) (w : Wd) (h : Int) : Int := match w with
  | .keep => 1
  | .door => 1
  | _ => wd X.s h
abbrev Stp4 := Wd × Int
def Hs.a (X : Hs) (t : Stp4) : Int := if t.1.on = true then X.fst t.1 t.2 else (X.fst t.1 t.2 + X.len t.1 t.2) % X.n
def Hs.b (X : Hs) (t : Stp4) : Int := if t.1.on = true then (X.fst t.1 t.2 + X.len t.1 t.2) % X.n else X.fst t.1 t.2
def Hs.l (X : Hs) (t : Stp4) : Int := if t.1.on = true then X.len t.1 t.2 else - X.len t.1 t.2
def Hs.v (X : Hs) (t : Stp4) : Int := if t.1.on = true then (X.lim t.1 t.2).getD 0 else - (X.lim t.1 t.2).getD 0
def Hs.st (X : Hs) (t : Stp4) : Prop := 0 ≤ t.2 ∧ t.2 < X.n ∧ (X.lim t.1 t.2).isSome = true
def stP (t : Stp4) : PV := .tup [.str t.1.s, .int t.2]
abbrev cyS (ts : List Stp4) (i : Int) : Stp4 := cyL (.keep, 0) ts i
def Hs.Joins (X : Hs) (ts : List Stp4) : Prop := ∀ i : Int, X.b (cyS ts i) = X.a (cyS ts (i + 1))
noncomputable instance (X : Hs) (ts : List Stp4) : Decidable (X.Joins ts) := Classical.propDecidable _
noncomputable def Hs.joins (X : Hs) (ts : List Stp4) : Bool := decide (X.Joins ts)
def Hs.trn (X : Hs) (ts : List Stp4) : Int := (ts.map X.l).sum / X.n
def Hs.val (X : Hs) (ts : List Stp4) : Int := (ts.map X.v).sum
theorem fst_bd {X : Hs} (g : X.ok) {w : Wd} {h : Int} (h0 : 0 ≤ h) (h1 : h < X.n) : 0 ≤ X.fst w h ∧ X.fst w h < X.n := by
  have := mod_bd g.cs.ne (h - wd X.s h + 1)
  cases w <;> simp only [Hs.fst] <;> first | exact ⟨h0, h1⟩ | exact this
def Wd.kd : Wd → Bool
  | .keep => true
  | .door => true
  | _ => false
theorem b_need (X : Hs) (h : Int) : ((h - wd X.s h + 1) % X.n + wd X.s h) % X.n = (h + 1) % X.n := by
  rw [Int.emod_add_emod]
  congr 1
  omega
def Hs.run (X : Hs) : Int → List Stp4 → Int → Prop
  | a, [], z => a = z
  | a, t :: r, z => X.a t = a ∧ X.run (X.b t) r z
def Hs.mark (X : Hs) : Int → List Stp4 → Nat → Int
  | a, _, 0 => a
  | a, [], _ + 1 => a
  | _, t :: r, i + 1 => X.mark (X.b t) r i
def Hs.seg (X : Hs) (p h : Int) : List Stp4 := ((List.range ((h - wd X.s h - p) % X.n).toNat).map fun (k : Nat) => (Wd.keep, (p + 1 + (k : Int)) % X.n)) ++ [(Wd.need, h)]
def Hs.segs (X : Hs) : Int → List Int → List Stp4
  | _, [] => []
  | p, h :: r => X.seg p h ++ X.segs h r
theorem st_keep {X : Hs} (h : Int) (h0 : 0 ≤ h) (h1 : h < X.n) : X.st (.keep, h) := ⟨h0, h1, rfl⟩
def Hs.ring (X : Hs) (r : List Int) : List Stp4 := X.segs (lastH 0 r) r
def Hs.rows (X : Hs) : List Stp4 :=
  (((List.range X.s.length).filter fun (i : Nat) => (cyo X.ds (i : Int)).isSome).map fun (i : Nat) => (Wd.door, (i : Int))) ++
  ((List.range X.s.length).map fun (i : Nat) => (Wd.keep, (i : Int))) ++
  ((List.range X.s.length).map fun (i : Nat) => (Wd.need, (i : Int))) ++
  (((List.range X.s.length).filter fun (i : Nat) => (cyo X.rs (i : Int)).isSome).map fun (i : Nat) => (Wd.room, (i : Int)))
theorem rows_mem {X : Hs} (t : Stp4) : t ∈ X.rows ↔ X.st t := by
  obtain ⟨w, h⟩ := t
  unfold Hs.rows Hs.st
  simp only [List.mem_append, List.mem_map, List.mem_filter, List.mem_range, Prod.mk.injEq]
  constructor
  · rintro (((⟨i, ⟨h1, h2⟩, rfl, rfl⟩ | ⟨i, h1, rfl, rfl⟩) | ⟨i, h1, rfl, rfl⟩) | ⟨i, ⟨h1, h2⟩, rfl, rfl⟩)
    · exact ⟨by omega, by show (i : Int) < (X.s.length : Int); omega, h2⟩
    · exact ⟨by omega, by show (i : Int) < (X.s.length : Int); omega, rfl⟩
    · exact ⟨by omega, by show (i : Int) < (X.s.length : Int); omega, rfl⟩
    · exact ⟨by omega, by show (i : Int) < (X.s.length : Int); omega, h2⟩
  · rintro ⟨h0, h1, h2⟩
    have h1 : h < (X.s.length : Int) := h1
    obtain ⟨i, rfl⟩ : ∃ i : Nat, h = (i : Int) := ⟨h.toNat, by omega⟩
    cases w with
    | need => exact .inl (.inr ⟨i, by omega, rfl, rfl⟩)
    | room => exact .inr ⟨i, ⟨by omega, h2⟩, rfl, rfl⟩
    | keep => exact .inl (.inl (.inr ⟨i, by omega, rfl, rfl⟩))
    | door => exact .inl (.inl (.inl ⟨i, ⟨by omega, h2⟩, rfl, rfl⟩))
structure SmC (ks : List Int) (n : Nat) (b : Int) : Prop where
  len : ks.length = n
  ok : ∀ z ∈ ks, 0 ≤ z ∧ z < b
structure SmO (rs : List (Option Int)) (n : Nat) (b : Int) : Prop where
  len : rs.length = n
  ok : ∀ z ∈ rs, ∀ i, z = some i → 0 ≤ i ∧ i < b
theorem SmC.set {ks : List Int} {n : Nat} {b z : Int} {i : Nat} (h : SmC ks n b) (h0 : 0 ≤ z) (h1 : z < b) : SmC (ks.set i z) n b :=
  ⟨by rw [List.length_set]; exact h.len, fun y hy => by
    rcases List.mem_or_eq_of_mem_set hy with hy | rfl
    · exact h.ok y hy
    · exact ⟨h0, h1⟩⟩
theorem SmO.set {rs : List (Option Int)} {n : Nat} {b z : Int} {i : Nat} (h : SmO rs n b) (h0 : 0 ≤ z) (h1 : z < b) : SmO (rs.set i (some z)) n b :=
  ⟨by rw [List.length_set]; exact h.len, fun y hy j hj => by
    rcases List.mem_or_eq_of_mem_set hy with hy | rfl
    · exact h.ok y hy j hj
    · cases hj
      exact ⟨h0, h1⟩⟩
theorem SmC.get {ks : List Int} {n : Nat} {b : Int} (h : SmC ks n b) (hn : 1 ≤ n) (i : Int) : 0 ≤ cyc ks i ∧ cyc ks i < b := h.ok _ (cyL_mem (d := (0 : Int)) (by rw [h.len]; exact hn) i)
theorem SmC.mono {ks : List Int} {n : Nat} {b c : Int} (h : SmC ks n b) (hb : b ≤ c) : SmC ks n c := ⟨h.len, fun z hz => ⟨(h.ok z hz).1, Int.lt_of_lt_of_le (h.ok z hz).2 hb⟩⟩
theorem SmC.zero (n : Nat) {b : Int} (hb : 0 < b) : SmC (List.replicate n 0) n b := ⟨List.length_replicate, fun z hz => by
  rw [List.eq_of_mem_replicate hz]
  exact ⟨Int.le_refl _, hb⟩⟩
theorem SmO.non (n : Nat) {b : Int} : SmO (List.replicate n none) n b := ⟨List.length_replicate, fun z hz i hi => by
  rw [List.eq_of_mem_replicate hz] at hi
  cases hi⟩
structure Hs.sm (X : Hs) : Prop where
  ns : SmC X.ns X.s.length (10 ^ 32)
  rs : SmO X.rs X.s.length (10 ^ 32)
  ks : SmC X.ks X.s.length (10 ^ 32)
  ds : SmO X.ds X.s.length (10 ^ 32)
theorem Hs.sm.ok {X : Hs} (h : X.sm) (g : Good X.s) : X.ok where
  cs := g
  cn := ⟨by rw [h.ns.len]; exact g.ne, by rw [h.ns.len]; exact g.le, fun i => (h.ns.get g.ne i).1⟩
  ln := h.ns.len
  lr := h.rs.len
  lk := h.ks.len
  ld := h.ds.len
  cr := fun r hr i hi => (h.rs.ok r hr i hi).1
  ck := fun z hz => (h.ks.ok z hz).1
  cd := fun r hr i hi => (h.ds.ok r hr i hi).1
theorem Hs.sm.lim {X : Hs} (h : X.sm) (g : Good X.s) {w : Wd} {i l : Int} (e : X.lim w i = some l) : 0 ≤ l ∧ l < 10 ^ 32 := by
  have key : ∀ {rs : List (Option Int)}, SmO rs X.s.length (10 ^ 32) → cyo rs i = some l → 0 ≤ l ∧ l < 10 ^ 32 := fun {rs} q e => q.ok (cyo rs i) (cyL_mem (d := (none : Option Int)) (by rw [q.len]; exact g.ne) i) l e
  cases w with
  | need => cases e; exact h.ns.get g.ne i
  | room => exact key h.rs e
  | keep => cases e; exact h.ks.get g.ne i
  | door => exact key h.ds e
theorem rep1 {x : PV} {n : Nat} : (List.replicate n [x]).flatten = List.replicate n x := by
  rw [List.flatten_replicate_singleton]
theorem set_i {ks : List Int} {i : Nat} {z : Int} : (iL ks).set i (.int z) = iL (ks.set i z) := by rw [iL, iL, List.map_set]
theorem ixN_in {n i : Nat} (h : i < n) : ixN n (i : Int) = some i := by
  unfold ixN
  rw [if_pos (by omega), if_pos (by omega), Int.toNat_natCast]
theorem tk {u : Int} {P : PV → Prop} (h0 : 0 < u) (h1 : u < 1000000000000000000000000000000000000000000000000000) (h : ∀ n : Int, 0 ≤ n → n < u → P (.int n)) : w_take [.bag, .int u] P := ⟨u, rfl, h0, h1, h⟩
end Wx
namespace Hn
open PySem PySem.W PySem.Calls PyProof.Rows PySem.HandSPX
def eA (fld : Str) (p1 p2 : Pos) : Arguments := { posonlyargs := [], args := [{ arg := "self", annotation := none, pos := p1 }, { arg := fld, annotation := none, pos := p2 }], vararg := none, kwonlyargs := [], kw_defaults := [], kwarg := none, defaults := [] }
def eB (fld : Str) (p0 p1 p2 p3 p4 p5 q1 q2 q3 q4 : Pos) : List Stmt := [.Expr (.Call (.Attribute (.Call (.Name "super" p0) [] [] p1) "__init__" p2) [.Name fld p3] [] p4) p5, .Assign [.Attribute (.Name "self" q1) fld q2] (.Name fld q3) q4]
abbrev eS (names : List (Str × NameKind)) : Scope := { kind := .function, names := names, isGenerator := false, isCoroutine := false, more := [] }
def CallEq (fld : Str) (a0 a1 a2 a3 a4 : Pos) (env : Env) : Prop := ∃ pl : Sem Bool, eval (.Call (.Attribute (.Call (.Name "super" a0) [] [] a1) "__init__" a2) [.Name fld a3] [] a4) env = (do
  let ov ← attributeBase (.Call (.Name "super" a0) [] [] a1) "__init__" env (eval (.Call (.Name "super" a0) [] [] a1) env)
  standAt a2.atName
  let (f, first) ← holding [ov] (getMethod ov "__init__" pl)
  callWith a4 f first (backTo a4 (starEach [.Name fld a3] env)) [])
structure ErrC (P : Program) (K : Frag) (mg : Str → Option Value) (x fld : Str) (C fI : Addr) : Prop where
  gC : mg x = some (.ref C)
  cls : ∃ nm q N bs bm sn sub ab col dd k0 k1 k2 k3 k5, K.lookup C = some (excClassObj nm q C N bs bm true sn sub ab col dd k0 k1 k2 k3 k5 "ValueError.__new__") ∧ refsVE bm = true
  sa : findIn K (.ref C) "__setattr__" = some (some (.builtin "object.__setattr__"))
  ga : findIn K (.ref C) "__getattribute__" = some (some (.builtin "BaseException.__getattribute__"))
  gg : findIn K (.ref C) "__getattr__" = some none
  noN : findIn K (.ref C) fld = some none
  iC : findIn K (.ref C) "__init__" = some (some (.ref fI))
  tC : typeIn K (.ref fI) = some (.type "function")
  kC : keepIn K (.ref C) = true
  exC : subIn K (.ref C) (.type "BaseException") = some true
  vB : subIn K (.ref C) (.type "ValueError") = some true
  tyC : typeIn K (.ref C) = some (.type "type")
  hdC : hasDictIn K C = true
  mr : mroIn K C (.ref C) = some true
  sup : ks_superIn K C C "__init__" = some (some (.builtin "ValueError.__init__"))
  noT : nsIn K cStatics "thirdparty.any" = some none
  noS : mg "super" = none
  sf : (fld == ("self" : Str)) = false
  db : (fld == ("__debug__" : Str)) = false
  fn : ∃ (qual : Str) (names : List (Str × NameKind)) (oc : Value) (od : Option Addr) (doc pm : Value) (an : Option Addr) (cda cc : Addr) (ct : Value) (osl : Array (Option Value)) (p1 p2 a0 a1 a2 a3 a4 a5 q1 q2 q3 q4 : Pos) (ccl cl : Value) (cdd cld : Option Addr) (vs : Array Value) (ccs csl : Array (Option Value)) (file : Str) (tf : Tok),
    K.lookup fI = some ⟨oc, od, .func (ksFn "__init__" qual (eA fld p1 p2) (eB fld a0 a1 a2 a3 a4 a5 q1 q2 q3 q4) (eS names) .none .none doc pm an (.ref cda) ct cc), osl⟩ ∧ codeIn K (.ref cda) qual = true ∧ K.lookup cda = some ⟨ccl, cdd, .fields vs, ccs⟩ ∧ vs[2]? = some (.str file tf) ∧ ((P.main.file : Str) == file) = true ∧
    K.lookup cc = some ⟨cl, cld, .cell (some (.ref C)), csl⟩ ∧ names.lookup ("super" : Str) = some .globalImplicit ∧ names.lookup ("__class__" : Str) = some .free ∧ names.lookup ("self" : Str) = some .local ∧ names.lookup fld = some .local ∧ (∀ x ∈ names, x.2 ≠ .cell) ∧
    (P.main.scope.names.lookup ("super" : Str)).isSome = false ∧ (∀ L, CallEq fld a0 a1 a2 a3 a4 (ksEnv qual (eS names) L fI (.ref cda) cc)) ∧
    (∀ (s : Shared) (e v : Value), BindsTo s (ksFn "__init__" qual (eA fld p1 p2) (eB fld a0 a1 a2 a3 a4 a5 q1 q2 q3 q4) (eS names) .none .none doc pm an (.ref cda) ct cc) ⟨[e, v], []⟩ [("self", e), (fld, v)])
structure InitE (h h' : Heap) (x C dx t1 : Addr) (fld : Str) (v : Value) : Prop where
  keep : ∀ b o, b ≠ x → h.get? b = some o → h'.get? b = some o
  obj : h'.get? x = some { cls := .ref C, dict := some dx, data := .fields #[.ref t1, .none, .none, .none, .bool false, .none] }
  dbig : h.objs.size ≤ dx
  dne : dx ≠ x
  ns : h'.Ns1 dx (fun y => if y = fld then some v else none)
section
variable {P : Program} {w : World} {A : Around} {E : Value → Shared → Prop} {R : Result → Shared → Prop} {s : Shared} {K : Frag} {mg mb : Str → Option Value} {x fld : Str} {C fI : Addr}
theorem err_init (T : ErrC P K mg x fld C fI) {e t0 : Addr} {v : Value} (X : K.In s.heap) (G : s.heap.Ns mainGlobals mg) (Bt : s.heap.Ns builtinsNs mb) (hb : mb "super" = some (.type "super")) (hlim : s.heap.NoLimit) (hx : s.heap.get? e = some (excO C t0)) (hKe : K.lookup e = none) (hroom : A.depth < recursionLimit)
    (hq : ∀ h' tk dx t1, InitE s.heap h' e C dx t1 fld v → R (.ok (.ret .none)) { s with heap := h', toks := tk }) :
    codeAny (model P w) A (.call (.ref fI) ⟨[.ref e, v], []⟩) R s := by
  obtain ⟨qual, names, oc, od, doc, pm, an, cda, cc, ct, osl, p1, p2, a0, a1, a2, a3, a4, a5, q1, q2, q3, q4, ccl, cl, cdd, cld, vs, ccs, csl, file, tf, ho, hcd, hcda, hvs, hfile, hcell, hks, hkc, hksf, hkf, hnc, htop, hceq, hbd⟩ := T.fn
  obtain ⟨nm, q, N, bs, bm, sn, sub, ab, col, dd, k0, k1, k2, k3, k5, hC, hbm⟩ := T.cls
  have hcl : clsIn K C = some { name := nm, bases := bs, mro := .ref C :: bm, ns := N, qualname := q, hasDict := true, slotNames := sn, subclasses := sub, abstract := ab, collection := col, hasDel := false } := by unfold clsIn; rw [hC] <;> rfl
  refine ks_codeAny_call_defAt (fd := ksFn "__init__" qual (eA fld p1 p2) (eB fld a0 a1 a2 a3 a4 a5 q1 q2 q3 q4) (eS names) .none .none doc pm an (.ref cda) ct cc) (body := eB fld a0 a1 a2 a3 a4 a5 q1 q2 q3 q4) (binds := [("self", .ref e), (fld, v)]) hroom (X _ _ ho) rfl hlim (codeRec_of X hcd) rfl ?_ hnc ?_ (fun h₁ hn k => ?_) rfl rfl rfl
  · exact hbd _ _ _
  · intro y hy
    simp only [List.mem_cons, List.not_mem_nil, or_false] at hy
    rcases hy with rfl | rfl
    · exact hksf
    · exact hkf
  have X₁ : K.In h₁ := X.keeps k
  have hx₁ := k _ _ hx
  have hCe : e ≠ C := ks_ne (ox := excO C t0) (odx := none) X ⟨hx, rfl, rfl, trivial⟩ hcl
  have hself : (fun y => ([("self", Value.ref e), (fld, v)] : List (Str × Value)).reverse.lookup y) "self" = some (.ref e) := by
    show List.lookup ("self" : Str) [(fld, v), ("self", Value.ref e)] = _
    have z : (("self" : Str) == fld) = false := by
      have := T.sf
      rw [beq_eq_false_iff_ne] at this ⊢
      exact fun z => this z.symm
    simp only [List.lookup, z]
    rfl
  have hfld : (fun y => ([("self", Value.ref e), (fld, v)] : List (Str × Value)).reverse.lookup y) fld = some v := by
    show List.lookup fld [(fld, v), ("self", Value.ref e)] = _
    simp only [List.lookup, beq_self_eq_true]
  have hI : ∀ h', (∀ b o, h₁.get? b = some o → h'.get? b = some o) → Looks (model P w) h' (isInstance (.ref e) (.type "ValueError")) true := fun h' k' =>
    (InstAt.type (od := none) (ox := excO C t0) ⟨k' _ _ hx₁, rfl, rfl, trivial⟩).andThen (looks_subIn (X₁.keeps k') T.vB)
  obtain ⟨oD, hD1, hD2⟩ : ∃ oD, h₁.get? C = some oD ∧ oD.data = .cls _ := ⟨_, X₁ _ _ hC, rfl⟩
  have hsup := T.sup
  unfold ks_superIn at hsup
  rw [hcl] at hsup
  obtain ⟨sh, sg, sd, st, sos⟩ := s
  obtain ⟨pl, hpl⟩ := hceq sh.objs.size
  refine ks_wpAt_execs_cons (ks_wpAt_Expr_any (ks_wpAt_MethodCall (pl := pl) ?_ hpl))
  refine ks_wpAt_super_base (env := ksEnv qual (eS names) _ fI (.ref cda) cc) hks hkc rfl rfl (X₁ _ _ ho) rfl rfl rfl (X₁ _ _ hcda) rfl hvs hfile htop ?_
  refine ks_loadName_global rfl hks (loadGlobal_builtin (env := ksEnv qual (eS names) _ fI (.ref cda) cc) (G.keeps k) T.noS (Bt.keeps k) hb ⟨rfl, ?_⟩)
  refine wpAny_loadName_free rfl hkc rfl ⟨_, X₁ _ _ hcell, rfl⟩ ?_
  refine wpAny_loadName_local rfl hksf hn hself ?_
  refine ks_wpAny_isType_cls hD1 hD2 ⟨rfl, ?_⟩
  refine ks_wpAny_call_super hD1 hD2 hx₁ rfl (fun c z => nomatch z) (looks_mroIn X₁ T.mr) (fun h₂ hso k₂ => ?_)
  have X₂ : K.In h₂ := X₁.keeps k₂
  refine kxs_getMethod kxs_ValueError hso (looks_opaque X₂ T.noT) (l₀ := .ref C :: bm) (fun A Q E s kk q => wpAny_bind ((looks_clsIn X₂ hcl) A _ E s kk (wpAny_pure q))) rfl X₂ hsup (hI h₂ k₂) hCe rfl ?_
  have k₃ : ∀ b o, h₁.get? b = some o → (h₂.push (kxs_mw "ValueError.__init__" e)).get? b = some o := fun b o z => Heap.get?_push_of_some _ (k₂ b o z)
  have hu : (h₂.push (kxs_mw "ValueError.__init__" e)).get? h₂.objs.size = some (kxs_mw "ValueError.__init__" e) := Heap.get?_push_at rfl rfl
  show wpAny _ _ (callWith a4 (.ref h₂.objs.size) [] (backTo a4 (starEach [.Name fld a3] (ksEnv qual (eS names) sh.objs.size fI (.ref cda) cc))) []) _ _ _
  refine kxs_callWith (i := "ValueError.__init__") (x := e) rfl (evalArgs_plain ?_)
  refine args_cons (wpAny_Name (wpAny_loadName_local (env := ksEnv qual (eS names) sh.objs.size fI (.ref cda) cc) rfl hkf (hn.keeps k₃) hfld ?_) T.db) rfl
  refine args_nil ⟨hu, ?_⟩
  refine wpAny_call (codeAny_of_tree ?_)
  show wpAny _ _ (callAny (.ref h₂.objs.size) ⟨[v], []⟩) _ _ _
  simp only [callAny]
  refine wpAny_bind (wpAny_load hu ?_)
  simp only [kxs_mw, show (Value.type "method-wrapper" == Value.type "method" || Value.type "method-wrapper" == Value.type "builtin_function_or_method" || Value.type "method-wrapper" == Value.type "method-wrapper") = true by decide, if_true]
  refine KFB.if_so (by decide) ?_
  refine wpAny_bind (check_bound_init F.excBase_ValueError.toExcCallFacts (k₃ _ _ (X₁ _ _ hC)) (k₃ _ _ hx₁) rfl ?_)
  refine wpAny_bind (wpAny_pure (wpAny_pure ?_))
  refine ⟨plainId_quiet F.excBase_ValueError.init.plain _, codeAny_builtin F.excBase_ValueError.initEntry ?_⟩
  refine exc_init_tree (cls := .ref C) (t0 := t0) (dv := none) (c2 := .none) (c3 := .none) (b4 := .bool false) (k₃ _ _ hx₁) (by rw [sizeLine_eq]; exact (by decide : 1 ≤ 16777216)) fun h₄ k₄ e₄ t₄ => ?_
  have k₅ : ∀ b o, b ≠ e → h₁.get? b = some o → h₄.get? b = some o := fun b o hb z => k₄ b o hb (k₃ b o z)
  have X₄ : K.In h₄ := fun a o z => k₅ a o (fun y => by rw [y, hKe] at z; cases z) (X₁ a o z)
  have hn₄ : h₄.Ns sh.objs.size (fun y => ([("self", Value.ref e), (fld, v)] : List (Str × Value)).reverse.lookup y) := hn.at fun o z => k₅ _ _ (Nat.ne_of_gt (Heap.lt_size hx)) z
  show PySem.wpAt _ _ _ (execs _ _) _ _ _
  refine ks_wpAt_execs_cons (ks_wpAt_Assign_Attr (wpAt_of_wpAny (wpAny_Name (wpAny_loadName_local (env := ksEnv qual (eS names) sh.objs.size fI (.ref cda) cc) rfl hkf hn₄ hfld (wpAny_Name (wpAny_loadName_local (env := ksEnv qual (eS names) sh.objs.size fI (.ref cda) cc) rfl hksf hn₄ hself ?_)))  T.db)))
  refine set_plain X₄ (ox := excO C (h₂.push (kxs_mw "ValueError.__init__" e)).objs.size) (od := none) ⟨e₄, rfl, rfl, trivial⟩ T.sa ?_
  refine exc_osa X₄ e₄ hcl (show refsVE (.ref C :: bm) = true from hbm) rfl T.noN (fun h₅ tk₅ dx k₆ dn dne hx₅ hn₅ => ?_)
  show PySem.wpAt _ _ _ (execs _ _) _ _ _
  refine wpAt_of_wpAny (wpAny_execs_nil (hq h₅ tk₅ dx _ ⟨fun b o hb z => k₆ b o hb (k₅ b o hb (k b o z)), hx₅, Nat.le_trans (Nat.le_of_lt hn₄.lt) dn, dne, hn₅⟩))
structure ErrMade (h h' : Heap) (e C d : Addr) (fld : Str) (v : Value) : Prop where
  keep : ∀ b o, h.get? b = some o → h'.get? b = some o
  new : h.objs.size ≤ e
  obj : ∃ oe vs, h'.get? e = some oe ∧ oe.cls = .ref C ∧ oe.dict = some d ∧ oe.data = .fields vs ∧ vs[1]? = some .none
  dbig : h.objs.size ≤ d
  dne : d ≠ e
  ns : h'.Ns1 d (fun y => if y = fld then some v else none)
theorem one_sz (v : Value) : [v].length ≤ sizeLine := by
  rw [sizeLine_eq]
  exact (by decide : 1 ≤ 16777216)
theorem err_made (T : ErrC P K mg x fld C fI) {v : Value} (X : K.In s.heap) (G : s.heap.Ns mainGlobals mg) (Bt : s.heap.Ns builtinsNs mb) (hb : mb "super" = some (.type "super")) (hlim : s.heap.NoLimit) (hroom : A.depth + 1 < recursionLimit)
    (hq : ∀ h' tk e d, ErrMade s.heap h' e C d fld v → R (.ok (.ret (.ref e))) { s with heap := h', toks := tk }) :
    codeAny (model P w) A (.call (.ref C) ⟨[v], []⟩) R s := by
  obtain ⟨nm, q, N, bs, bm, sn, sub, ab, col, dd, k0, k1, k2, k3, k5, hC, hbm⟩ := T.cls
  obtain ⟨hp, g, dr, tk, os⟩ := s
  have k : ∀ b o, hp.get? b = some o → ((hp.push (kdv_tup [v])).push (excO C hp.objs.size)).get? b = some o := fun b o e => Heap.get?_push_of_some _ (Heap.get?_push_of_some _ e)
  have hget : ((hp.push (kdv_tup [v])).push (excO C hp.objs.size)).get? (hp.objs.size + 1) = some (excO C hp.objs.size) := by heap_get
  have hnx : K.lookup (hp.objs.size + 1) = none := by
    cases e : K.lookup (hp.objs.size + 1) with
    | none => rfl
    | some o =>
      have z : hp.get? (hp.objs.size + 1) = some o := X _ _ e
      exact absurd (Nat.lt_of_succ_lt (Heap.lt_size z)) (Nat.lt_irrefl _)
  refine call_own F.excBase_ValueError (fun X => refsVE_contains X bm hbm) (X _ _ hC) (looks_findIn X T.iC) (fun self => bind_fn X self T.tC) (one_sz v) ?_
  refine err_init (s := ⟨(hp.push (kdv_tup [v])).push (excO C hp.objs.size), g, dr, tk, os⟩) T (X.keeps k) (G.keeps k) (Bt.keeps k) hb (hlim.keeps k) hget hnx ?_ fun h' tk' dx t1 ⟨k', hx, dn, dne, hns⟩ => ?_
  · show A.depth + 1 < recursionLimit
    exact hroom
  · have old : ∀ b o, hp.get? b = some o → h'.get? b = some o := fun b o e => k' b o (Nat.ne_of_lt (Nat.lt_succ_of_lt (Heap.lt_size e))) (k b o e)
    have z : hp.objs.size + 1 + 1 ≤ dx := by
      first
        | (simpa only [Heap.size_push] using dn)
        | exact dn
        | (have q := dn; rw [Heap.size_push, Heap.size_push] at q; exact q)
    exact ⟨rfl, hq h' tk' (hp.objs.size + 1) dx ⟨old, Nat.le_succ _, ⟨_, _, hx, rfl, rfl, rfl, rfl⟩, Nat.le_trans (Nat.le_trans (Nat.le_succ _) (Nat.le_succ _)) z, dne, hns⟩⟩
end
end Hn
namespace Hn
open PySem PySem.Spec PyProof.Rows L2
theorem relO_err {v : V} {v' : Value} (r : RelV v v') (fld f : Str) : RelO (List.lookup f [(fld, v)]) (if f = fld then some v' else none) := by
  by_cases hw : f = fld
  · subst hw
    rw [if_pos rfl]
    have q : List.lookup f [(f, v)] = some v := by simp [List.lookup]
    rw [q]
    exact r
  · rw [if_neg hw]
    have qw : (f == fld) = false := by simpa using hw
    have q2 : List.lookup f [(fld, v)] = none := by simp [List.lookup, qw]
    rw [q2]
    trivial
section
variable {X : Cx} {C fI : Addr} {x fld : Str}
def tMkE (C : Addr) (fld : Str) (ta : TA) : L2.St → Hp → XK → Prop := fun σ H Q => ta σ H fun vs H1 => ∃ v, vs = [v] ∧ ∀ d, H1 d = none → Q (.ref C) (some d) (upd H1 d (.xd [(fld, v)]))
theorem pmk_err {a : Expr} {ta : TA} {p pos : Pos} {k : Nat} (T : ErrC X.prog X.K X.mg x fld C fI) (hr : Room k X.A) (ha : PA X [a] ta) (hg : Gl X x)
    (hxd : (x == ("__debug__" : Str)) = false := by decide) (he : starEach (a :: []) X.env = (false, eval a X.env) :: starEach [] X.env := by rfl) (hpl : (backTo pos (starEach [] X.env)).any (·.1) = false := by rfl) :
    PMk X (.Call (.Name x p) [a] [] pos) (tMkE C fld ta) := by
  intro pins s σ H Q I h
  refine wpAny_Call_Name_kw (ld_glob I hg T.gC ?_ hxd)
  refine PySem.W.callWith_K (h₀ := X.base) I.ok.mod.kin T.kC (thn (ha.run pos pins s σ H _ I h) fun us s1 hh => ?_) he hpl
  obtain ⟨vs, H1, I1, r1, v, ev, q1⟩ := hh
  subst ev
  refine ⟨I1.kIn, ?_⟩
  cases r1 with
  | cons rv rn =>
    rename_i v' us'
    cases rn
    show wpAny _ _ (call (.ref C) [v']) _ _ _
    have hlim := I1.nolimit
    obtain ⟨mb, b1, b2⟩ := I1.mod.blt
    have G1 := I1.mod.glob.keeps I1.bk
    have B1 := b1.keeps I1.bk
    have hb : mb "super" = some (.type "super") := (b2 "super" (by decide)).trans rfl
    obtain ⟨hp, g, dr, tk, os⟩ := s1
    refine wpAny_call (err_made T I1.kIn G1 B1 hb hlim (by have := hr.dp; omega) fun h' tk' e d M => ?_)
    show MkP X pins σ Q (.ref e) ⟨h', g, dr, tk', os⟩
    obtain ⟨oe, fv, hoe, hc, hd, hdat, h1⟩ := M.obj
    have hns := M.ns
    obtain ⟨G', g1, g2⟩ := restrict h' fun b => decide (b ≠ e)
    have gk : ∀ b, b ≠ e → G'.get? b = h'.get? b := fun b hb => g1 b (decide_eq_true hb)
    have ge : G'.get? e = none := g2 e (by simp)
    have old : ∀ b o, hp.get? b = some o → G'.get? b = some o := fun b o q => (gk b (Nat.ne_of_lt (Nat.lt_of_lt_of_le (Heap.lt_size q) M.new))).trans (M.keep b o q)
    have ob : ObjOk X.prog X.w (upd H1 d (.xd [(fld, v)])) G' d (.xd [(fld, v)]) :=
      ⟨_, hns.at (fun o q => (gk d M.dne).trans q), fun f => relO_err rv fld f⟩
    have J : L2.Inv X pins σ (upd H1 d (.xd [(fld, v)])) ⟨G', g, dr, tk', os⟩ := I1.laid (t' := tk') old M.dbig ob
    refine ⟨e, oe, fv, ⟨G', g, dr, tk', os⟩, _, .ref C, some d, rfl, J, fun b o q => ?_, ge, hoe, ⟨hc, hd⟩, hdat, h1, ?_, rfl, I1.bare, raises_own T.exC T.tyC, q1 d (I1.hok.fresh M.dbig)⟩
    · by_cases hb : b = e
      · have q' : G'.get? b = some o := q
        rw [hb, ge] at q'; cases q'
      · exact (gk b hb).symm.trans q
    · rw [upd_ne (Ne.symm M.dne)]
      exact I1.hok.fresh M.new
def rIsX (K : PySem.W.Frag) (a : Addr) (cls : Value) (d : Option Addr) : List V → Hp → VK → Prop := fun xs H Q => ∃ (D : Addr) (c : V) (cv : Value) (b : Bool), xs = [.ref a, c] ∧ cls = .ref D ∧ ExcC K D ∧ (d = none ∨ ∃ dd fs, d = some dd ∧ H dd = some (.xd fs)) ∧ (∀ u, RelV c u → u = cv) ∧ PySem.W.kitOne K (.ref D) cv = some b ∧ Q (.bl b) H
theorem call_isX {a : Addr} {oe : Obj} {cls : Value} {d : Option Addr} {pn : List (Addr × Obj)} (hz : Zc cls d oe) (hf : ∃ vs, oe.data = .fields vs) : CallR (X.suite a ((a, oe) :: pn)) (.builtin "isinstance") (rIsX X.K a cls d) := by
  intro pins s σ H xs us Q I r h
  obtain ⟨D, c, cv, b, rfl, rfl, C, hd, hcv, e, q⟩ := h
  cases r with
  | cons rx rr =>
    cases rr with
    | cons rt rr =>
      cases rr
      cases rx
      have ec := hcv _ rt
      subst ec
      obtain ⟨hget, _⟩ := I.pin (a, oe) (List.mem_append.mpr (.inl List.mem_cons_self))
      obtain ⟨vs, hv⟩ := hf
      obtain ⟨od, J⟩ : ∃ od, PySem.W.InstAt s.heap a oe D od := by
        rcases hd with rfl | ⟨dd, fs, rfl, ea⟩
        · exact ⟨none, hget, hz.1, by unfold PySem.W.notCls; rw [hv] <;> rfl, by rw [hz.2]; trivial⟩
        · have hx : ObjOk X.prog X.w H s.heap dd (.xd fs) := I.hok dd _ ea
          obtain ⟨mA, hns, hr⟩ := hx
          obtain ⟨od, ho, hl⟩ := lookIn_ns hns
          exact ⟨some od, hget, hz.1, by unfold PySem.W.notCls; rw [hv] <;> rfl, by rw [hz.2]; exact ho⟩
      obtain ⟨cd, hc, _⟩ := PySem.W.any_some C.hd
      exact PySem.W.kia_one (PySem.W.kitx_exc (by rw [hc]; rfl) C.hg C.hk C.hs C.ha C.hn C.ht C.hm) I.kIn J e (fun z => nomatch z) fun tk => ⟨.bl b, H, I.kept (t' := tk) fun _ _ z => z, rfl, q⟩
structure ExF (K : PySem.W.Frag) (D : Addr) (fld : Str) : Prop where
  ga : PySem.W.findIn K (.ref D) "__getattribute__" = some (some (.builtin "BaseException.__getattribute__"))
  gg : PySem.W.findIn K (.ref D) "__getattr__" = some none
  ex : PySem.W.subIn K (.ref D) (.type "BaseException") = some true
  hd : PySem.W.hasDictIn K D = true
  no : PySem.W.findIn K (.ref D) fld = some none
theorem ErrC.exF {P : Program} {K : PySem.W.Frag} {mg : Str → Option Value} (T : ErrC P K mg x fld C fI) : ExF K C fld := ⟨T.ga, T.gg, T.exC, T.hdC, T.noN⟩
def tExF (K : PySem.W.Frag) (a : Addr) (cls : Value) (d : Option Addr) (fld : Str) (te : TE) : TE := fun σ H Q => te σ H fun x H1 => ∃ (D dd : Addr) (v : V), x = .ref a ∧ cls = .ref D ∧ ExF K D fld ∧ d = some dd ∧ H1 dd = some (.xd [(fld, v)]) ∧ Q v H1
theorem pe_exF {a : Addr} {oe : Obj} {cls : Value} {d : Option Addr} {pn : List (Addr × Obj)} {e : Expr} {te : TE} {pos : Pos} (hz : Zc cls d oe) (hf : ∃ vs, oe.data = .fields vs) (he : PE (X.suite a ((a, oe) :: pn)) e te)
    (hb : attributeBase e fld X.env (eval e X.env) = eval e X.env := by rfl) :
    PE (X.suite a ((a, oe) :: pn)) (.Attribute e fld pos) (tExF X.K a cls d fld te) := by
  refine ⟨fun pins s σ H Q I h => ?_⟩
  refine attr_of hb (thn (he.run pins s σ H _ I h) fun u s1 hh => ?_)
  obtain ⟨x, H1, I1, rx, D, dd, v, ex, ec, T, ed, ea, q⟩ := hh
  subst ex
  obtain rfl : u = Value.ref a := rx
  subst ec
  subst ed
  obtain ⟨ha, _⟩ := I1.pin (a, oe) (List.mem_append_left _ List.mem_cons_self)
  obtain ⟨vs, hd⟩ := hf
  have hx : ObjOk X.prog X.w H1 s1.heap dd (.xd [(fld, v)]) := I1.hok dd _ ea
  obtain ⟨mA, hns, hr⟩ := hx
  obtain ⟨od, ho, hl⟩ := lookIn_ns hns
  have l : List.lookup fld [(fld, v)] = some v := by simp [List.lookup]
  obtain ⟨u, hu, ru⟩ := RelO.some_of (v := v) (o := mA fld) (by rw [← l]; exact hr fld)
  have J : PySem.W.InstAt s1.heap a oe D (some od) := ⟨ha, hz.1, by unfold PySem.W.notCls; rw [hd] <;> rfl, by rw [hz.2]; exact ho⟩
  exact HandSPX.exc_get I1.kIn J T.ga T.gg T.ex (PySem.W.findObj_own T.hd T.no rfl (by rw [hl, hu])) (handed_of ru) ⟨v, H1, I1.tok _, ru, q⟩
end
section
variable {P : Program} {w : World} {K : PySem.W.Frag} {mg : Str → Option Value} {base : Heap}
theorem okx_of {x qual : Str} {st : Stmt} {f : Addr} {N ps : List Str} {k : Nat} {sp : Sp} (F : Df K x qual st f ps) (S : FnScope N ps (defScope st)) (len : ∀ vs H Q E, sp vs H Q E → vs.length = ps.length)
    (hbody : ∀ (cdv : Value) (A : Around) (outer : List Env) (s : Shared) (H : Hp) (vs : List V) (Q : VK) (E : XK), Room k (A.deeper (envOfC qual (defScope st) s.heap.objs.size f cdv)) → sp vs H Q E →
      ∃ t, PSs (cxOf (L2.CX P w) P w K mg base N qual (defScope st) f cdv A outer s H E) (defBody st) t ∧ t { nx := fun _ H' => Q .non H', rt := Q } (start N vs) H) : Okf P w K mg base (k + 1) f ps sp :=
  let ⟨fd, a, b⟩ := F
  ⟨fd, a.okX S len hbody, b⟩
end
section
variable {X : Cx} {k : Nat} {f C : Addr} {ps : List Str} {sp : Sp} {x m : Str} {p pos apos : Pos} {e o : Expr} {es : List Expr} {ta : TE} {t : TA} {E : XK}
end
section
variable {X : Cx} {k : Nat} {f C : Addr} {ps : List Str} {sp : Sp} {x m : Str} {p pos apos : Pos} {e o : Expr} {es : List Expr} {ta : TE} {t : TA} {E : L2.St → XK}
def tCallY (sp : Sp) (E : L2.St → XK) (t : TA) : TE := fun σ H Q => t σ H fun vs H1 => sp vs H1 Q (E σ)
def tMakeY (C : Addr) (sp : Sp) (E : L2.St → XK) (t : TA) : TE := fun σ H Q => t σ H fun vs H1 => ∀ x dx, H1 x = none → H1 dx = none → dx ≠ x → sp (.ref x :: (vs ++ [])) (upd (upd H1 dx (.own x)) x (.ins C dx [])) (fun v H2 => v = .non ∧ Q (.ref x) H2) (E σ)
def tMethY (C : Addr) (m : Str) (sp : Sp) (E : L2.St → XK) (ta : TE) (t : TA) : TE := fun σ H Q => ta σ H fun x H1 => ∃ a dx fs, x = .ref a ∧ H1 a = some (.ins C dx fs) ∧ fs.lookup m = none ∧ t σ H1 fun vs H2 => sp (.ref a :: vs) H2 Q (E σ)
theorem pf_callS (G : Okf X.prog X.w X.K X.mg X.base k f ps sp) (hr : Room k X.A) (hg : Gl X x) (hm : X.mg x = some (.ref f)) (hk : PySem.W.keepIn X.K (.ref f) = true) (hx : ∀ σ, PassesAt (L2.CX X.prog X.w) X σ (E σ))
    (ha : PA X (e :: es) t) (hdb : (x == ("__debug__" : Str)) = false := by decide) (he : starEach (e :: es) X.env = (false, eval e X.env) :: starEach es X.env := by rfl) (hpl : (backTo pos (starEach es X.env)).any (·.1) = false := by rfl) :
    PE X (.Call (.Name x p) (e :: es) [] pos) (tCallY sp E t) := by
  obtain ⟨_, F, hb⟩ := G
  refine ⟨fun pins s σ H Q I h => ?_⟩
  refine wpAny_Call_Name_kw (ld_glob I hg hm ?_ hdb)
  refine PySem.W.callWith_K (h₀ := X.base) I.ok.mod.kin hk (thn (ha.run pos pins s σ H _ I h) fun us s1 ⟨vs, H1, I1, r, q⟩ => ⟨I1.kIn, ?_⟩) he hpl
  exact run_fnS F hr hb (hx σ) I1 r q
theorem pf_makeS (G : Okf X.prog X.w X.K X.mg X.base k f ps sp) (hr : Room (k + 1) X.A) (M : Mk X.K C f) (hg : Gl X x) (hm : X.mg x = some (.ref C)) (hx : ∀ σ, PassesAt (L2.CX X.prog X.w) X σ (E σ))
    (ha : PA X (e :: es) t) (hdb : (x == ("__debug__" : Str)) = false := by decide) (he : starEach (e :: es) X.env = (false, eval e X.env) :: starEach es X.env := by rfl) (hpl : (backTo pos (starEach es X.env)).any (·.1) = false := by rfl) :
    PE X (.Call (.Name x p) (e :: es) [] pos) (tMakeY C sp E t) := by
  obtain ⟨fd, F, hb⟩ := G
  refine ⟨fun pins s σ H Q I h => ?_⟩
  refine wpAny_Call_Name_kw (ld_glob I hg hm ?_ hdb)
  refine PySem.W.callWith_K (h₀ := X.base) I.ok.mod.kin M.kp (thn (ha.run pos pins s σ H _ I h) fun us s1 ⟨vs, H1, I1, r, q⟩ => ⟨I1.kIn, ?_⟩) he hpl
  have hq := q (s1.heap.objs.size + 1) s1.heap.objs.size (I1.hok.fresh (Nat.le_succ _)) (I1.hok.fresh (Nat.le_refl _)) (Nat.ne_of_lt (Nat.lt_succ_self _))
  have I2 := L2.Inv.made (C := C) I1
  have r2 : Vals (V.ref (s1.heap.objs.size + 1) :: (vs ++ [])) ((Value.ref (s1.heap.objs.size + 1) :: us) ++ []) := .cons rfl (r.append .nil)
  have hl : (Value.ref (s1.heap.objs.size + 1) :: us ++ []).length = ps.length := by
    have e := r2.length
    rw [F.len _ _ _ _ hq] at e
    exact e.symm
  refine wpAny_call (make_map (f := f) I1.kIn M.makes M.init (beq_iff_eq.mp M.fn) (codeAny_mono (F.run _ X.stack _ _ ⟨Value.ref (s1.heap.objs.size + 1) :: us, []⟩ ((Value.ref (s1.heap.objs.size + 1) :: us) ++ []) _ _ (E σ) (hr.make C us [])
    (I2.env0.make C us []) (hb _ (Value.ref (s1.heap.objs.size + 1) :: us) I2.kIn hl) r2 hq) fun r s' hq' => ?_))
  cases r with
  | error e => exact hx σ pins _ _ e s' I2 hq'
  | ok fl =>
    cases fl with
    | ret u =>
      obtain ⟨v, H', I3, rv, ev, q3⟩ := I2.after hq'
      subst ev
      exact ⟨rv, ⟨V.ref (s1.heap.objs.size + 1), H', I3, rfl, q3⟩⟩
    | next => exact False.elim hq'
    | brk => exact False.elim hq'
    | cont => exact False.elim hq'
theorem pf_methS {pl : Sem Bool} (G : Okf X.prog X.w X.K X.mg X.base k f ps sp) (hr : Room k X.A) (c : Cls X.K C) (hm : Meth X.K C m f) (hx : ∀ σ, PassesAt (L2.CX X.prog X.w) X σ (E σ)) (he : PE X o ta) (ha : PA X (e :: es) t)
    (hst : starEach (e :: es) X.env = (false, eval e X.env) :: starEach es X.env := by rfl) (hpl : (backTo pos (starEach es X.env)).any (·.1) = false := by rfl)
    (ht : eval (.Call (.Attribute o m apos) (e :: es) [] pos) X.env = (do
      let ov ← eval o X.env
      standAt apos.atName
      let (f, first) ← holding [ov] (getMethod ov m pl)
      callWith pos f first (backTo pos (starEach (e :: es) X.env)) (backToKw pos (keywordEach [] X.env))) := by rfl) :
    PE X (.Call (.Attribute o m apos) (e :: es) [] pos) (tMethY C m sp E ta t) := by
  obtain ⟨fd, F, hb⟩ := G
  refine ⟨fun pins s σ H Q I h => ?_⟩
  refine PySem.W.methodCall_KW (pl := pl) (thn (he.run pins s σ H _ I h) fun u s1 ⟨x, H1, I1, rx, a, dx, fs, ex, ea, l, q⟩ => ?_) ht
  subst ex
  obtain rfl : u = Value.ref a := rx
  refine getmeth_ok I1 ea c hm l ?_
  refine PySem.W.callWith_K (first := [.ref a]) (h₀ := X.base) I.ok.mod.kin hm.kp (thn (ha.run pos pins s1 σ H1 _ I1 q) fun us s2 ⟨vs, H2, I2, r, q2⟩ => ⟨I2.kIn, ?_⟩) hst hpl
  exact run_fnS (us := .ref a :: us) (vs := .ref a :: vs) F hr hb (hx σ) I2 (.cons rfl r) q2
end
section
variable {X : Cx} {C fI : Addr} {x fld : Str}
def tRaiseE (C : Addr) (fld : Str) (W : WX) (ta : TA) : TS := fun _ σ H => tMkE C fld ta σ H fun cls d H' => W cls d σ H'
theorem ps_raiseE {a : Expr} {ta : TA} {W : WX} {p pos pos2 : Pos} {k : Nat} (hc : X.calm = true) (T : ErrC X.prog X.K X.mg x fld C fI) (hr : Room k X.A) (tk : Takes X W) (ha : PA X [a] ta) (hg : Gl X x)
    (hxd : (x == ("__debug__" : Str)) = false := by decide) (he : starEach (a :: []) X.env = (false, eval a X.env) :: starEach [] X.env := by rfl) (hpl : (backTo pos (starEach [] X.env)).any (·.1) = false := by rfl) :
    PS X (.Raise (some (.Call (.Name x p) [a] [] pos)) none pos2) (tRaiseE C fld W ta) := ps_raise hc tk (pmk_err T hr ha hg hxd he hpl)
theorem r_raiseE {W : WX} {ta : TA} {D : Ends} {σ : L2.St} {H : Hp} (h : ta σ H fun vs H1 => ∃ v, vs = [v] ∧ ∀ d, H1 d = none → W (.ref C) (some d) σ (upd H1 d (.xd [(fld, v)]))) : tRaiseE C fld W ta D σ H := h
theorem r_callY {sp : Sp} {E : L2.St → XK} {t : TA} {σ : L2.St} {H : Hp} {Q : VK} (h : t σ H fun vs H1 => sp vs H1 Q (E σ)) : tCallY sp E t σ H Q := h
theorem r_makeY {sp : Sp} {E : L2.St → XK} {t : TA} {σ : L2.St} {H : Hp} {Q : VK} (h : t σ H fun vs H1 => ∀ x dx, H1 x = none → H1 dx = none → dx ≠ x → sp (.ref x :: (vs ++ [])) (upd (upd H1 dx (.own x)) x (.ins C dx [])) (fun v H2 => v = .non ∧ Q (.ref x) H2) (E σ)) : tMakeY C sp E t σ H Q := h
theorem r_methY {m : Str} {sp : Sp} {E : L2.St → XK} {ta : TE} {t : TA} {σ : L2.St} {H : Hp} {Q : VK} (h : ta σ H fun x H1 => ∃ a dx fs, x = .ref a ∧ H1 a = some (.ins C dx fs) ∧ fs.lookup m = none ∧ t σ H1 fun vs H2 => sp (.ref a :: vs) H2 Q (E σ)) : tMethY C m sp E ta t σ H Q := h
theorem r_exF {K : PySem.W.Frag} {a : Addr} {cls : Value} {d : Option Addr} {te : TE} {σ : L2.St} {H : Hp} {Q : VK} (h : te σ H fun x H1 => ∃ (D dd : Addr) (v : V), x = .ref a ∧ cls = .ref D ∧ ExF K D fld ∧ d = some dd ∧ H1 dd = some (.xd [(fld, v)]) ∧ Q v H1) : tExF K a cls d fld te σ H Q := h
end
end Hn
namespace Hn
open PySem L2
def over (s : List Int) (j : Nat) : Prop := s.getD j 0 > 1 + cyc s ((j : Int) + 1)
theorem good_of {s : List Int} (h : okStays s = true) (o : ∀ j, j < s.length → ¬ over s j) : Good s := Good.of h fun j hj => by
  have := o j hj
  unfold over at this
  omega
theorem good_not {s : List Int} (g : Good s) : ∀ j, j < s.length → ¬ over s j := fun j hj q => by
  have := g.od (j : Int)
  rw [cyc_at hj] at this
  unfold over at q
  omega
end Hn
namespace Hn
open PySem PySem.Spec PyProof.Rows L2 Srt SrtO
section
variable {prog : Program} {w : World} {A : Around} {s : Shared}
end
section
variable {X : Cx}
end
end Hn
namespace Hn
open PySem PySem.Spec PyProof.Rows L2 Srt SrtO
def wrk (s : Str) : Int := if s = "door" then 0 else if s = "keep" then 1 else if s = "need" then 2 else 3
def Wrd (s : Str) : Prop := s = "door" ∨ s = "keep" ∨ s = "need" ∨ s = "room"
def IsPairW (h : Heap) (v : Value) (r y : Int) : Prop := ∃ (s : Str) (a : Addr) (o : Obj) (t u : Tok) (n : Nat), Wrd s ∧ wrk s = r ∧ v = .ref a ∧ h.get? a = some o ∧ o.cls = .type "tuple" ∧ o.data = .seq #[.str s t, .int y u] n
theorem IsPairW.keeps {h h' : Heap} {v : Value} {x y : Int} (p : IsPairW h v x y) (k : ∀ b o, h.get? b = some o → o.cls = .type "tuple" → h'.get? b = some o) : IsPairW h' v x y := by
  obtain ⟨s, a, o, t, u, n, w, e0, e, ho, hc, hd⟩ := p
  exact ⟨s, a, o, t, u, n, w, e0, e, k _ _ ho hc, hc, hd⟩
section
variable {prog : Program} {w : World} {A : Around} {s : Shared} {E : Value → Shared → Prop}
end
noncomputable def kV (h : Heap) (v : Value) : Int × Int := @dite _ (∃ p : Int × Int, IsPairW h v p.1 p.2) (Classical.propDecidable _) (fun e => e.choose) fun _ => (0, 0)
def Wd.r : Wx.Wd → Int
  | .door => 0
  | .keep => 1
  | .need => 2
  | .room => 3
section
variable {X : Cx}
end
end Hn
namespace Wx
open PySem PySem.Spec PyProof.Rows L2 Evl Hn RZ
variable [TabC]
section
variable [XC]
variable {K : PySem.W.Frag} {d : Cn → Addr} {F : Fz} {H : Hp}
end
end Wx
namespace Wx
open PySem PySem.Spec PyProof.Rows L2 Evl Hn RZ
variable [TabC]
section
variable [XC]
variable {K : PySem.W.Frag} {d : Cn → Addr} {F F' : Fz} {H H' : Hp} {v : V} {P : PV → Prop} {Q : VK}
end
def Hs.ed (X : Hs) (t : Stp4) : Ed Stp := ⟨(X.a t).toNat, (X.b t).toNat, (X.a t + X.l t) / X.n, X.v t, some (t.1.s, t.2)⟩
section
variable [XC]
variable {K : PySem.W.Frag} {d : Cn → Addr} {ts bt ct : List Tag} {R : RR} {te : TE} {we : WE}
def wSubN (i j : Nat) (we wi : WE) : WS := fun D ρ => we ρ fun z => match z with
  | .tup [y, y2] => wi ρ fun q => match ρ.getD i .non, q with
    | .lst xs, .int k => ∃ m, ixN xs.length k = some m ∧ D.nx ((ρ.set i (.lst (xs.set m y))).set j y2)
    | _, _ => False
  | _ => False
end
section
variable [XC]
variable {K : PySem.W.Frag} {d : Cn → Addr} {ts : List Tag} {te : TE} {we : WE} {ta : TA} {wa : WA}
end
end Wx
namespace L2
open PySem PySem.Spec PyProof.Rows
section
variable {X : Cx} {ta tb tc td : TE} {a b c d : Expr} {pos : Pos}
end
end L2
namespace Wx
open PySem PySem.Spec PyProof.Rows L2 Evl Hn RZ
variable [TabC]
section
variable [XC]
variable {K : PySem.W.Frag} {d : Cn → Addr} {ts : List Tag} {ta tb tc td : TE} {wa wb wc wd : WE}
def wChain3 (w w' w'' : W2) (wa wb wc wd : WE) : WE := fun ρ P => wa ρ fun x => wb ρ fun y => w x y fun z => match z with
  | .bl c => if c = true then wc ρ fun u => w' y u fun z => match z with
    | .bl c => if c = true then wd ρ fun t => w'' u t P else P (.bl false)
    | _ => False
    else P (.bl false)
  | _ => False
end
end Wx
namespace Wx
open PySem PySem.Spec PyProof.Rows L2 Evl Hn RZ
variable [TabC]
inductive En where
  | Wrong | Overtaken | NoHour | Unlike | NoBegin | TooFew | NoStep | Stuck | Impossible | OutOf | NoNumber | Unfit | Never | TooLong | NoDays | NoPace | NoText | NoDeed | Full | Refused | Nothing | NoEntry | NoCommand
  deriving DecidableEq
def En.fld : En → Option Str
  | .Wrong => some "place"
  | .Overtaken => some "hour"
  | .NoHour => some "hour"
  | .NoBegin => some "hour"
  | .TooFew => some "ring"
  | .NoStep => some "step"
  | .Stuck => some "ways"
  | .Impossible => some "way"
  | .NoNumber => some "index"
  | .Never => some "ways"
  | .TooLong => some "most"
  | .NoDays => some "days"
  | .NoPace => some "fraction"
  | .Full => some "limit"
  | .Refused => some "deed"
  | .NoEntry => some "many"
  | _ => none
def En.nw : En → Bool
  | .TooFew => true
  | .Impossible => true
  | _ => false
abbrev Fs := List (Str × PV)
abbrev WFX := List PV → (PV → Prop) → (En → Fs → Prop) → Prop
def XdOk (K : PySem.W.Frag) (d : Cn → Addr) (H0 : Hp) (n : En) (F : Fz) (H : Hp) (o : Option Addr) (fs : Fs) : Prop := (o = none ∧ fs = []) ∨ ∃ dd gs, o = some dd ∧ H dd = some (.xd gs) ∧ Rvf K d F H gs fs ∧ (n.nw = true → XdN H0 gs fs)
section
variable (K : PySem.W.Frag) (d : Cn → Addr) (ea : En → Option Addr)
def spWX (R : RR) (w : WFX) : Sp := fun vs H Q E => ∃ (F : Fz) (xs : List PV) (P : PV → Prop) (EX : En → Fs → Prop), Dom F H ∧ Rvs K d F H vs xs ∧ w xs P EX ∧ (∀ x v F' H', Step F H F' H' → R F H F' H' v x → P x → Q v H') ∧
  ∀ n C fs o F' H', ea n = some C → Step F H F' H' → XdOk K d H n F' H' o fs → EX n fs → E (.ref C) o H'
@[reducible] def xcOf (W : WX) (EX : List PV → En → Fs → Prop) (tx : List Tag) : XC where
  h := fun F0 H0 => ∀ n C fs o F' H' σ' ρ', ea n = some C → @EnvR _ xc0 K d tx H0 F0 F' H' σ' ρ' → XdOk K d H0 n F' H' o fs → EX ρ' n fs → W (.ref C) o σ' H'
  a := 0
  o := none
  fs := []
  nw := false
end
@[reducible] def xcS (a : Addr) (o : Option Addr) (fs : Fs) (n : En) : XC := ⟨Dom, a, o, fs, n.nw⟩
section
variable {K : PySem.W.Frag} {d : Cn → Addr} {ea : En → Option Addr} {F F' F0 F1 F2 : Fz} {H H' H0 H1 H2 : Hp} {v u : V} {ts ts' ts1 ts2 bt ct tx : List Tag} {R : RR} {te : TE} {we : WE} {σ : L2.St} {ρ : List PV} {W : WX} {EX : List PV → En → Fs → Prop}
theorem XdOk.mono {n : En} {o : Option Addr} {fs : Fs} (e : Stb F H H') (f : ∀ a, F a → F' a) (h : XdOk K d H0 n F H o fs) : XdOk K d H0 n F' H' o fs := by
  rcases h with h | ⟨dd, gs, h1, h2, h3, h4⟩
  · exact .inl h
  · exact .inr ⟨dd, gs, h1, e _ _ h2 (.inl rfl), h3.mono e f, h4⟩
theorem XdOk.back {n : En} {o : Option Addr} {fs : Fs} (e : Xn H0 H1) (h : XdOk K d H1 n F H o fs) : XdOk K d H0 n F H o fs := by
  rcases h with h | ⟨dd, gs, h1, h2, h3, h4⟩
  · exact .inl h
  · refine .inr ⟨dd, gs, h1, h2, h3, fun q k f v ys k1 k2 => ?_⟩
    obtain ⟨p, e1, e2⟩ := h4 q k f v ys k1 k2
    exact ⟨p, e1, back_x e e2⟩
def noX (ts : List Tag) : Bool := ts.all fun t => !decide (t = .ex)
theorem noX_get (h : noX ts = true) {i : Nat} (q : ts[i]? = some .ex) : False := by
  have := List.all_eq_true.mp h _ (List.mem_of_getElem? q)
  simp at this
structure EnvB (K : PySem.W.Frag) (d : Cn → Addr) (ts : List Tag) (H0 : Hp) (F0 F : Fz) (H : Hp) (σ : L2.St) (ρ : List PV) : Prop where
  st : Step F0 H0 F H
  ls : σ.length = ts.length
  lr : ρ.length = ts.length
  sh : ∀ i : Nat, ts[i]? = some .sh → ∃ v x, σ[i]? = some (some v) ∧ ρ[i]? = some x ∧ Rv K d F H v x
  ow : ∀ i : Nat, ts[i]? = some .ow → ∃ a vs xs, σ[i]? = some (some (.ref a)) ∧ ρ[i]? = some (.lst xs) ∧ H a = some (.lst vs) ∧ ¬ F a ∧ H0 a = none ∧ Rvs K d F H vs xs
  ap : ∀ (i j : Nat) (a : Addr), ts[i]? = some .ow → ts[j]? = some .ow → σ[i]? = some (some (.ref a)) → σ[j]? = some (some (.ref a)) → i = j
  od : ∀ i : Nat, ts[i]? = some .od → ∃ v x, σ[i]? = some (some v) ∧ ρ[i]? = some x ∧ OdL K d H0 F H v x
  ad : ∀ (i : Nat) (a : Addr), ts[i]? = some .od → Dpl H σ i a → (∀ j : Nat, ts[j]? = some .ow → σ[j]? ≠ some (some (.ref a))) ∧ ∀ j : Nat, ts[j]? = some .od → Dpl H σ j a → i = j
theorem EnvR.base {X : XC} (E : @EnvR _ X K d ts H0 F0 F H σ ρ) : EnvB K d ts H0 F0 F H σ ρ := ⟨E.st, E.ls, E.lr, E.sh, E.ow, E.ap, E.od, E.ad⟩
theorem EnvR.xc_ {X : XC} (E : @EnvR _ X K d ts H0 F0 F H σ ρ) : X.h F0 H0 := E.xc
theorem EnvR.ex_ {X : XC} (E : @EnvR _ X K d ts H0 F0 F H σ ρ) : @Exv X K d ts H0 F H σ := E.ex
theorem EnvR.step_ {X : XC} (E : @EnvR _ X K d ts H0 F0 F H σ ρ) (s : Step F H F' H') : @EnvR _ X K d ts H0 F0 F' H' σ ρ := E.step s
theorem EnvR.conv_ {X : XC} (E : @EnvR _ X K d ts H0 F0 F H σ ρ) (c : cv ts ts' = true) : ∃ F', (∀ a, F a → F' a) ∧ @EnvR _ X K d ts' H0 F0 F' H σ ρ := E.conv c
theorem EnvR.drop_ {X : XC} {i : Nat} {o : Option V} (E : @EnvR _ X K d ts H0 F0 F H σ ρ) : @EnvR _ X K d (ts.set i .no) H0 F0 F H (σ.set i o) ρ := E.drop1
theorem EnvB.to {X : XC} (B : EnvB K d ts H0 F0 F H σ ρ) (hx : X.h F0 H0) (n : noX ts = true) : @EnvR _ X K d ts H0 F0 F H σ ρ := ⟨B.st, B.ls, B.lr, B.sh, B.ow, B.ap, B.od, B.ad, hx, fun i h => (noX_get n h).elim⟩
theorem EnvR.swap {X Y : XC} (E : @EnvR _ X K d ts H0 F0 F H σ ρ) (n : noX ts = true) (hx : Y.h F0 H0) : @EnvR _ Y K d ts H0 F0 F H σ ρ := E.base.to hx n
theorem EnvR.to0 {X : XC} (E : @EnvR _ X K d ts H0 F0 F H σ ρ) (c : cv ts tx = true) (n : noX tx = true) : ∃ F', (∀ a, F a → F' a) ∧ @EnvR _ xc0 K d tx H0 F0 F' H σ ρ := by
  obtain ⟨F', up, E1⟩ := E.conv_ c
  exact ⟨F', up, E1.swap n trivial⟩
theorem xc_goes (E : @EnvR _ (xcOf K d ea W EX tx) K d ts H0 F0 F H σ ρ) (c : cv ts tx = true) (nx : noX tx = true) {n : En} {C : Addr} {fs : Fs} {o : Option Addr} (hn : ea n = some C) (xd : XdOk K d H0 n F H o fs) (ex : EX ρ n fs) : W (.ref C) o σ H := by
  obtain ⟨F2, up, E2⟩ := E.to0 c nx
  exact E.xc_ n C fs o F2 H σ ρ hn E2 (xd.mono .refl up) ex
def wCallX (EX : List PV → En → Fs → Prop) (w : WFX) (wa : WA) : WE := fun ρ P => wa ρ fun xs => w xs P (EX ρ)
theorem sim_callX {w : WFX} {ar : TA} {wr : WA} (o : ROk R) (c : cv ts tx = true) (nx : noX tx = true) (ha : @SimA _ (xcOf K d ea W EX tx) K d ts ar wr) : @Sim _ (xcOf K d ea W EX tx) K d R ts (tCallY (spWX K d ea R w) (fun σ c o H => W c o σ H) ar) (wCallX EX w wr) := fun H0 F0 F H σ ρ Q P E hw k =>
  ha H0 F0 F H σ ρ _ _ E hw fun xs vs F1 H1 s1 r1 h1 => ⟨F1, xs, P, EX ρ, s1.dm, r1, h1, fun x v F' H' s r p => k x v F' H' (s1.trans s) (o.back s1 r) p, fun n C fs oo F' H' hn s xd ex => xc_goes ((E.step_ s1).step_ s) c nx hn (xd.back (E.step_ s1).base.st.ex) ex⟩
def wMethX (EX : List PV → En → Fs → Prop) (c : Cn) (m : Str) (w : WFX) (wo : WE) (wa : WA) : WE := fun ρ P => wo ρ fun x => (∃ fs, x = .ins c fs ∧ fs.lookup m = none) ∧ wa ρ fun xs => w (x :: xs) P (EX ρ)
theorem sim_methX {w : WFX} {m : Str} {to : TE} {wo : WE} {ar : TA} {wr : WA} {C : Addr} (cn : Cn) (o : ROk R) (c : cv ts tx = true) (nx : noX tx = true) (ho : @Sim _ (xcOf K d ea W EX tx) K d (rS K d) ts to wo) (ha : @SimA _ (xcOf K d ea W EX tx) K d ts ar wr) (hC : d cn = C := by rfl) : @Sim _ (xcOf K d ea W EX tx) K d R ts (tMethY C m (spWX K d ea R w) (fun σ c o H => W c o σ H) to ar) (wMethX EX cn m w wo wr) := fun H0 F0 F H σ ρ Q P E hw k =>
  ho H0 F0 F H σ ρ _ _ E hw fun x v F1 H1 s1 r1 ⟨⟨fs, ex, lk⟩, h1⟩ => by
    subst hC
    subst ex
    obtain ⟨p, dx, gs, rfl, h2, h3⟩ := Rv.insE r1
    refine ⟨p, dx, gs, rfl, h2, h3.none lk, ha H0 F0 F1 H1 σ ρ _ _ (E.step_ s1) h1 fun xs vs F2 H2 s2 r2 h4 => ⟨F2, .ins cn fs :: xs, P, EX ρ, s2.dm, .cons (Rv.step s2 r1) r2, h4, fun x v F' H' s r q => k x v F' H' ((s1.trans s2).trans s) (o.back (s1.trans s2) r) q, fun n C fs oo F' H' hn s xd ex => xc_goes (((E.step_ s1).step_ s2).step_ s) c nx hn (xd.back ((E.step_ s1).step_ s2).base.st.ex) ex⟩⟩
def MkSX (K : PySem.W.Frag) (d : Cn → Addr) (ea : En → Option Addr) (c : Cn) (sp : Sp) (w : WFX) : Prop := ∀ (F : Fz) (H : Hp) (vs : List V) (xs : List PV) (Q : V → Hp → Prop) (P : PV → Prop) (EX : En → Fs → Prop) (E : XK), Dom F H → Rvs K d F H vs xs → w xs P EX →
  (∀ x v F' H', Step F H F' H' → Rv K d F' H' v x → notL x → P x → Q v H') → (∀ n C fs o F' H', ea n = some C → Step F H F' H' → XdOk K d H n F' H' o fs → EX n fs → E (.ref C) o H') →
  ∀ y dx, H y = none → H dx = none → dx ≠ y → sp (.ref y :: (vs ++ [])) (upd (upd H dx (.own y)) y (.ins (d c) dx [])) (fun v H2 => v = .non ∧ Q (.ref y) H2) E
theorem sim_makeX {w : WFX} {sp : Sp} {ar : TA} {wr : WA} {C : Addr} {cn : Cn} (m : MkSX K d ea cn sp w) (c : cv ts tx = true) (nx : noX tx = true) (ha : @SimA _ (xcOf K d ea W EX tx) K d ts ar wr) (hC : d cn = C := by rfl) : @Sim _ (xcOf K d ea W EX tx) K d (rN K d) ts (tMakeY C sp (fun σ c o H => W c o σ H) ar) (wCallX EX w wr) := fun H0 F0 F H σ ρ Q P E hw k =>
  ha H0 F0 F H σ ρ _ _ E hw fun xs vs F1 H1 s1 r1 h1 y dx ny nd ne => by
    subst hC
    exact m F1 H1 vs xs Q P (EX ρ) _ s1.dm r1 h1 (fun x v F' H' s r nl p => k x v F' H' (s1.trans s) (.inl ⟨nl, r⟩) p) (fun n C fs oo F' H' hn s xd ex => xc_goes ((E.step_ s1).step_ s) c nx hn (xd.back (E.step_ s1).base.st.ex) ex) y dx ny nd ne
def noEX : List PV → En → Fs → Prop := fun _ _ _ => False
theorem opt_or (o : Option Addr) : o = none ∨ ∃ dd, o = some dd := by
  cases o with
  | none => exact .inl rfl
  | some d => exact .inr ⟨d, rfl⟩
def wRaise (EX : List PV → En → Fs → Prop) (n : En) (f : Str) (we : WE) : WS := fun _ ρ => we ρ fun x => EX ρ n [(f, x)]
theorem simS_raise {n : En} {C : Addr} {f : Str} (hw0 : n.nw = false) (hn : ea n = some C) (c : cv ts tx = true) (nx : noX tx = true) (h : @Sim _ (xcOf K d ea W EX tx) K d (rS K d) ts te we) : @SimS _ (xcOf K d ea W EX tx) K d R bt ct ts (tRaiseE C f W (tCons te tNil)) (wRaise EX n f we) ts := fun H0 F0 F H σ ρ D D' E hw _ _ _ _ =>
  h H0 F0 F H σ ρ _ _ E hw fun x v F1 H1 s1 r1 p1 => ⟨v, rfl, fun dd nd => by
    have s2 := Step.new (o := .xd [(f, v)]) s1.dm nd
    exact xc_goes ((E.step_ s1).step_ s2) c nx hn (.inr ⟨dd, _, rfl, upd_same, .cons (Rv.step s2 r1) .nil, fun q => by rw [hw0] at q; cases q⟩) p1⟩
def wTry (wb : (List PV → En → Fs → Prop) → WS) (wu : En → Fs → WS) : WS := fun D ρ => wb (fun ρ' n fs => wu n fs { nx := D.nx, rt := D.rt } ρ') { nx := D.nx, rt := D.rt } ρ
def nos (ts : List Tag) : List Tag := ts.map fun t => match t with | .sh => .sh | _ => .no
def shno (ts : List Tag) : Bool := ts.all fun t => decide (t = .sh) || decide (t = .no)
theorem shno_get (h : shno ts = true) {i : Nat} {t : Tag} (q : ts[i]? = some t) : t = .sh ∨ t = .no := by
  have := List.all_eq_true.mp h _ (List.mem_of_getElem? q)
  simpa using this
theorem shno_noX (h : shno ts = true) : noX ts = true := List.all_eq_true.mpr fun t ht => by
  have := List.all_eq_true.mp h t ht
  cases t <;> simp_all
theorem nos_get {i : Nat} {t : Tag} (q : (nos ts)[i]? = some t) : (t = .sh ∧ ts[i]? = some .sh) ∨ t = .no := by
  unfold nos at q
  rw [List.getElem?_map] at q
  cases e : ts[i]? with
  | none => rw [e] at q; cases q
  | some u =>
    rw [e] at q
    cases q
    cases u
    · exact .inl ⟨rfl, rfl⟩
    all_goals exact .inr rfl
theorem EnvB.under (E : EnvB K d ts H F F' H' σ ρ) (s : Step F0 H0 F H) : EnvB K d ts H0 F0 F' H' σ ρ where
  st := s.trans E.st
  ls := E.ls
  lr := E.lr
  sh := E.sh
  ow := fun i h => let ⟨a, vs, xs, h1, h2, h3, h4, h5, h6⟩ := E.ow i h; ⟨a, vs, xs, h1, h2, h3, h4, back_x s.ex h5, h6⟩
  ap := E.ap
  od := fun i h => by
    obtain ⟨v, x, h1, h2, c, bs, yss, e1, e2, h3, h4, h5, h6, h7, h8, h9⟩ := E.od i h
    refine ⟨v, x, h1, h2, c, bs, yss, e1, e2, h3, h4, back_x s.ex h5, h6, h7, h8, fun k w z q1 q2 => ?_⟩
    rcases h9 k w z q1 q2 with ⟨b, us, ys, rfl, rfl, u1, u2, u3, u4⟩ | t
    · exact .inl ⟨b, us, ys, rfl, rfl, u1, u2, back_x s.ex u3, u4⟩
    · exact .inr t
  ad := E.ad
theorem EnvR.under {X Y : XC} (E : @EnvR _ X K d ts H F F' H' σ ρ) (s : Step F0 H0 F H) (hx : Y.h F0 H0) (n : noX ts = true) : @EnvR _ Y K d ts H0 F0 F' H' σ ρ := (E.base.under s).to hx n
theorem EnvB.nos_ (E : EnvB K d ts H0 F0 F H σ ρ) : EnvB K d (nos ts) H F F H σ ρ where
  st := Step.refl E.st.dm
  ls := by rw [E.ls]; unfold nos; rw [List.length_map]
  lr := by rw [E.lr]; unfold nos; rw [List.length_map]
  sh := fun i h => by
    rcases nos_get h with ⟨_, q⟩ | q
    · exact E.sh i q
    · cases q
  ow := fun i h => by rcases nos_get h with ⟨q, _⟩ | q <;> cases q
  ap := fun i j a h => by rcases nos_get h with ⟨q, _⟩ | q <;> cases q
  od := fun i h => by rcases nos_get h with ⟨q, _⟩ | q <;> cases q
  ad := fun i a h => by rcases nos_get h with ⟨q, _⟩ | q <;> cases q
theorem nos_noX : noX (nos ts) = true := List.all_eq_true.mpr fun t ht => by
  unfold nos at ht
  obtain ⟨u, _, rfl⟩ := List.mem_map.mp ht
  cases u <;> rfl
theorem EnvR.nos_ {X Y : XC} (E : @EnvR _ X K d ts H0 F0 F H σ ρ) (hx : Y.h F H) : @EnvR _ Y K d (nos ts) H F F H σ ρ := E.base.nos_.to hx nos_noX
theorem EnvR.suite {i : Nat} {a : Addr} {n : En} {o : Option Addr} {fs : Fs} (E : @EnvR _ xc0 K d tx H0 F0 F H σ ρ) (dm0 : Dom F0 H0) (s : shno tx = true) (hi : i < tx.length) (xd : XdOk K d H0 n F H o fs) : @EnvR _ (xcS a o fs n) K d (tx.set i .ex) H0 F0 F H (σ.set i (some (.ref a))) ρ := by
  have ne : ∀ {j : Nat} {t : Tag}, t ≠ .ex → (tx.set i .ex)[j]? = some t → i ≠ j ∧ tx[j]? = some t := fun {j t} ht h => by
    rw [List.getElem?_set] at h
    by_cases e : i = j
    · subst e
      rw [if_pos rfl, if_pos hi] at h
      cases h
      exact absurd rfl ht
    · rw [if_neg e] at h
      exact ⟨e, h⟩
  have no : ∀ {j : Nat} {t : Tag}, t ≠ .sh → t ≠ .no → t ≠ .ex → (tx.set i .ex)[j]? = some t → False := fun {j t} h1 h2 h3 h => by
    rcases shno_get s (ne h3 h).2 with e | e
    · exact h1 e
    · exact h2 e
  have B := E.base
  have l1 : (σ.set i (some (V.ref a))).length = (tx.set i Tag.ex).length := by rw [List.length_set, List.length_set, B.ls]
  have l2 : ρ.length = (tx.set i Tag.ex).length := by rw [List.length_set, B.lr]
  refine @EnvR.mk _ (xcS a o fs n) K d (tx.set i .ex) H0 F0 F H _ _ B.st l1 l2 (fun j h => ?_) (fun j h => (no (by decide) (by decide) (by decide) h).elim) (fun j l b h => (no (by decide) (by decide) (by decide) h).elim) (fun j h => (no (by decide) (by decide) (by decide) h).elim) (fun j b h => (no (by decide) (by decide) (by decide) h).elim) dm0 (fun j h => ?_)
  · obtain ⟨e, h⟩ := ne (by decide) h
    obtain ⟨w, y, g1, g2, g3⟩ := B.sh j h
    exact ⟨w, y, by rw [List.getElem?_set_ne e]; exact g1, g2, g3⟩
  · have e : i = j := by
      rw [List.getElem?_set] at h
      split at h
      · next e => exact e
      · exact (noX_get (shno_noX s) h).elim
    subst e
    refine ⟨(List.getElem?_set_self (by rw [B.ls]; exact hi)).trans rfl, fun dd hd => ?_⟩
    rcases xd with ⟨e, _⟩ | ⟨d2, gs, e, h2, h3, h4⟩
    · rw [show o = some dd from hd] at e; cases e
    · rw [show o = some dd from hd] at e
      cases e
      exact ⟨gs, h2, h3, h4⟩
theorem simS_try {X : XC} {i : Nat} {c : Value} {tb : WX → TS} {tu : Addr → Value → Option Addr → TS} {wb : (List PV → En → Fs → Prop) → WS} {wu : En → Fs → WS} (o : ROk R)
    (hb : ∀ (W : WX) (EX : List PV → En → Fs → Prop), @SimS _ (xcOf K d ea W EX tx) K d R [] [] (nos ts) (tb W) (wb EX) ts1)
    (hu : ∀ (a : Addr) (n : En) (C : Addr) (o : Option Addr) (fs : Fs), ea n = some C → (o = none → fs = []) → @SimS _ (xcS a o fs n) K d R [] [] (tx.set i .ex) (tu a (.ref C) o) (wu n fs) ts2)
    (hc : ∀ n C, ea n = some C → PySem.W.exmOne K (.ref C) c = some true)
    (s : shno tx = true) (hi : decide (i < tx.length) = true) (n1 : noX ts1 = true) (n2 : noX (ts2.set i .no) = true) (c1 : cv ts1 ts' = true) (c2 : cv (ts2.set i .no) ts' = true)
    {t : TS} (ht : t = fun D σ H => tb (wAs K c i tu (fun _ _ _ _ => False) D) D σ H) : @SimS _ X K d R bt ct ts t (wTry wb wu) ts' := fun H0 F0 F H σ ρ D D' E hw n r b c' => by
  subst ht
  have hx : (xcOf K d ea (wAs K c i tu (fun _ _ _ _ => False) D) (fun ρ' n fs => wu n fs { nx := D'.nx, rt := D'.rt } ρ') tx).h F H := by
    intro m C fs oo F1 H1 σ1 ρ1 hm E1 xd hex
    refine ⟨true, hc m C hm, fun _ a na => ?_, fun q => nomatch q⟩
    have hz : oo = none → fs = [] := fun e => by
      rcases xd with ⟨_, q⟩ | ⟨dd, _, q, _⟩
      · exact q
      · rw [e] at q; cases q
    refine hu a m C oo fs hm hz H F F1 H1 (σ1.set i (some (.ref a))) ρ1 _ _ (E1.suite E.base.st.dm s (of_decide_eq_true hi) xd) hex (fun F2 H2 σ2 ρ2 g2 E2 p => ?_) (fun x v F2 H2 st rr p => r x v F2 H2 (E.base.st.trans st) (o.back E.base.st rr) p) (fun _ _ _ _ _ _ q => q.elim) (fun _ _ _ _ _ _ q => q.elim)
    obtain ⟨F3, up, E3⟩ := (EnvR.under (Y := X) (EnvR.drop_ (i := i) (o := none) E2) E.base.st E.xc_ n2).conv_ c2
    exact n F3 H2 _ _ ⟨fun z h => up z (E2.base.st.up z h), .of E2.base.st.ex⟩ E3 p
  refine hb _ _ H F F H σ ρ D { nx := D'.nx, rt := D'.rt } (E.nos_ hx) hw (fun F2 H2 σ2 ρ2 g2 E2 p => ?_) (fun x v F2 H2 st rr p => r x v F2 H2 (E.base.st.trans st) (o.back E.base.st rr) p) (fun _ _ _ _ _ _ q => q.elim) (fun _ _ _ _ _ _ q => q.elim)
  obtain ⟨F3, up, E3⟩ := (EnvR.under (Y := X) E2 E.base.st E.xc_ n1).conv_ c1
  exact n F3 H2 _ _ ⟨fun z h => up z (E2.base.st.up z h), .of E2.base.st.ex⟩ E3 p
def wTryC (cat : En → Bool) (EXo : List PV → En → Fs → Prop) (wb : (List PV → En → Fs → Prop) → WS) (wu : En → Fs → WS) : WS := fun D ρ => wb (fun ρ' n fs => if cat n = true then wu n fs { nx := D.nx, rt := D.rt } ρ' else EXo ρ' n fs) { nx := D.nx, rt := D.rt } ρ
def wIsX (n m : En) : WE := fun _ P => P (.bl (decide (n = m)))
theorem sim_isX {a C C2 : Addr} {o : Option Addr} {fs : Fs} {i : Nat} {n m : En} (hi : ts[i]? = some .ex) (hn : ea n = some C) (hm : ea m = some C2) (hk : ∀ n m C C2, ea n = some C → ea m = some C2 → PySem.W.kitOne K (.ref C) (.ref C2) = some (decide (n = m))) (hx : ∀ n C, ea n = some C → ExcC K C) (ho : o = none ∨ ∃ dd, o = some dd) :
    @Sim _ (xcS a o fs n) K d (rN K d) ts (tCB (rIsX K a (.ref C) o) (tCons (tVar i) (tCons (tC (.ref C2)) tNil))) (wIsX n m) := fun H0 F0 F H σ ρ Q P E hw k => by
  obtain ⟨h1, h2⟩ := E.ex_ i hi
  refine ⟨_, h1, C, .ref C2, .ref C2, decide (n = m), rfl, rfl, hx n C hn, ?_, fun u r => r, hk n m C C2 hn hm, fin_val E.base.st.dm (.bl _) hw k⟩
  rcases ho with h | ⟨dd, h⟩
  · exact .inl h
  · obtain ⟨gs, g1, _⟩ := h2 dd h
    exact .inr ⟨dd, gs, h, g1⟩
def wExF (n : En) (f : Str) (fs : Fs) : WE := fun _ P => n.fld = some f ∧ ∃ x, fs = [(f, x)] ∧ P x
theorem sim_exF {a C : Addr} {o : Option Addr} {fs : Fs} {i : Nat} {n : En} {f : Str} (hi : ts[i]? = some .ex) (hn : ea n = some C) (hf : ∀ n C f, ea n = some C → n.fld = some f → ExF K C f) (ho : o = none ∨ ∃ dd, o = some dd) (hn0 : o = none → fs = []) :
    @Sim _ (xcS a o fs n) K d (rS K d) ts (tExF K a (.ref C) o f (tVar i)) (wExF n f fs) := fun H0 F0 F H σ ρ Q P E ⟨hf1, x, e, hw⟩ k => by
  obtain ⟨h1, h2⟩ := E.ex_ i hi
  rcases ho with h | ⟨dd, h⟩
  · rw [hn0 h] at e; cases e
  · obtain ⟨gs, g1, g2, _⟩ := h2 dd h
    rw [show (xcS a o fs n).fs = [(f, x)] from e] at g2
    cases g2 with
    | cons rv rn =>
      cases rn
      exact ⟨_, h1, C, dd, _, rfl, rfl, hf n C f hn hf1, h, g1, k _ _ F H (Step.refl E.base.st.dm) rv hw⟩
end
section
variable {P : Program} {w : World} {K : PySem.W.Frag} {mg : Str → Option Value} {base : Heap} {d : Cn → Addr} {ea : En → Option Addr} {R : RR}
def wDefX (n m : Nat) (ws : (List PV → En → Fs → Prop) → WS) : WFX := fun xs P EX => xs.length = n ∧ ws (fun _ => EX) { nx := fun _ => P .non, rt := P } (xs ++ List.replicate m .non)
theorem okwX_of {x qual : Str} {st : Stmt} {f : Addr} {N ps : List Str} {k n m : Nat} {ws : (List PV → En → Fs → Prop) → WS} {tx ts' : List Tag} (Df' : Df K x qual st f ps) (S : FnScope N ps (defScope st)) (hn : ps.length = n) (hN : N.length = n + m) (hR : RNon K d R)
    (hbody : ∀ (cdv : Value) (A : Around) (outer : List Env) (s : Shared) (H : Hp) (E : XK), Room k (A.deeper (envOfC qual (defScope st) s.heap.objs.size f cdv)) →
      ∃ t, PSs (cxOf (L2.CX P w) P w K mg base N qual (defScope st) f cdv A outer s H E) (defBody st) t ∧ ∀ EX, @SimS _ (xcOf K d ea (fun c o _ H' => E c o H') EX tx) K d R [] [] (tags n m) t (ws EX) ts') : Okf P w K mg base (k + 1) f ps (spWX K d ea R (wDefX n m ws)) :=
  okx_of Df' S (fun vs H Q E h => by
    obtain ⟨F, xs, P, EX, dm, r, ⟨hl, _⟩, _⟩ := h
    rw [r.length, hl, hn]) fun cdv A outer s H vs Q E hr h => by
    obtain ⟨t, D, sim⟩ := hbody cdv A outer s H E hr
    obtain ⟨F, xs, P, EX, dm, r, ⟨hl, hw⟩, k, kE⟩ := h
    refine ⟨t, D, sim (fun _ => EX) H F F H _ _ _ _ (env_start (X := xcOf K d ea (fun c o _ H' => E c o H') (fun _ => EX) tx) dm r hl hN fun n C fs o F' H' σ' ρ' hn E1 xd ex => kE n C fs o F' H' hn E1.base.st xd ex) hw (fun F' H' σ' ρ' g E' p => k .non .non F' H' E'.base.st (hR _ _ _ _) p) (fun x v F' H' s rr p => k x v F' H' s rr p) (fun _ _ _ _ _ _ q => q.elim) (fun _ _ _ _ _ _ q => q.elim)⟩
end
end Wx
namespace Hn
open PySem PySem.Spec PyProof.Rows L2 Evl
def rCount (K : PySem.W.Frag) : V → List V → Hp → VK → Prop := fun x xs H Q => ∃ (a : Addr) (ys : List V) (y : V), x = V.ref a ∧ xs = [y] ∧ SqL K H a ys ∧ flatV y = true ∧ ys.all flatV = true ∧ Q (.int ((ys.countP fun z => eqV z y : Nat) : Int)) H
theorem count_vals {y : V} : ∀ {ys : List V} {us : List Value}, Vals ys us → ys.all flatV = true → us.countP (eqU y) = ys.countP fun z => eqV z y
  | _, _, .nil, _ => rfl
  | z :: ys, u :: us, .cons r t, f => by
    rw [List.all_cons, Bool.and_eq_true] at f
    rw [List.countP_cons, List.countP_cons, count_vals t f.2, eqU_of r f.1]
theorem mt_countL {X : Cx} : MtR X "list.count" (rCount X.K) := by
  intro pins s σ H x xs v us Q I rx rxs h
  obtain ⟨a, ys, y, rfl, rfl, hs, fy, fys, q⟩ := h
  cases rx
  cases rxs with
  | cons ry rt =>
    rename_i uy ut
    cases rt
    obtain ⟨its, rv, ⟨⟨cls, dd, data, sl⟩, n, ho, hc, hdn, hd⟩, hlen⟩ := I.list hs
    simp only at hc hd
    subst hc hd
    refine call_meets PySem.F.slot_list_count ⟨_, ho, rfl⟩ PySem.F.entry_list_count (PySem.F.args_list_count_2 _ _)
      (SeqAt.list_countAt a its.toArray n dd sl uy (eqU y)) ⟨ho, fun u' hu' => mem_eqAt ry fy rv fys u' (by simpa using hu'), ?_⟩
    rw [show its.toArray.toList = its from rfl, count_vals rv fys]
    exact ⟨.int _, H, I.tok _, ⟨_, rfl⟩, q⟩
theorem k_count {X : Cx} {K : PySem.W.Frag} (h : X.K = K) : MtR X "list.count" (rCount K) := h ▸ mt_countL
end Hn
namespace Wx
open PySem PySem.Spec PyProof.Rows L2 Evl Hn
variable [TabC]
def wCountP (ys zs : List PV) (P : PV → Prop) : Prop := ∃ (ws : List V) (w : V) (x : PV), zs = [x] ∧ flatPs ys = some ws ∧ flatP x = some w ∧ P (.int ((ws.countP fun z => eqV z w : Nat) : Int))
def wCount (wo : WE) (wa : WA) : WE := fun ρ P => wo ρ fun y => ∃ ys, y = .lst ys ∧ wa ρ fun zs => wCountP ys zs P
section
variable [XC]
variable {K : PySem.W.Frag} {d : Cn → Addr} {ts : List Tag}
theorem sim_count {T : String} {to : TE} {wo : WE} {ar : TA} {wr : WA} (hT : T = "list") (ho : Sim K d (rW K d) ts to wo) (ha : SimAW K d ts ar wr) : Sim K d (rN K d) ts (tBM K T (rCount K) to ar) (wCount wo wr) := fun H0 F0 F H σ ρ Q P E hw k =>
  ho H0 F0 F H σ ρ _ _ E hw fun y v F1 H1 s1 r1 ⟨ys, ey, h1⟩ => by
    subst hT
    subst ey
    obtain ⟨p, vs, rfl, g1, g2⟩ := Rw.lst r1
    refine ⟨ty_lst g1, ha H0 F0 F1 H1 σ ρ _ _ (E.step s1) h1 fun zs us F2 H2 s2 r2 ⟨ws, w, x, e2, h3, h4, h8⟩ => ?_⟩
    subst e2
    obtain ⟨q, rfl, r3⟩ := r2.one
    obtain ⟨e, fl⟩ := g2.flat2 h3
    subst e
    have e3 := r3.flat h4
    subst e3
    exact ⟨p, vs, q, rfl, rfl, .inl (.inl (s2.ex.at g1)), flatP_V h4, fl, k (.int _) _ F2 H2 (s1.trans s2) (.inl ⟨trivial, .int _⟩) h8⟩
end
end Wx
namespace Hn
open PySem PySem.W PySem.Calls PyProof.Rows PySem.HandSPX
def eA0 (p1 : Pos) : Arguments := { posonlyargs := [], args := [{ arg := "self", annotation := none, pos := p1 }], vararg := none, kwonlyargs := [], kw_defaults := [], kwarg := none, defaults := [] }
def eB0 (p0 p1 p2 p4 p5 : Pos) : List Stmt := [.Expr (.Call (.Attribute (.Call (.Name "super" p0) [] [] p1) "__init__" p2) [] [] p4) p5]
def CallEq0 (a0 a1 a2 a4 : Pos) (env : Env) : Prop := ∃ pl : Sem Bool, eval (.Call (.Attribute (.Call (.Name "super" a0) [] [] a1) "__init__" a2) [] [] a4) env = (do
  let ov ← attributeBase (.Call (.Name "super" a0) [] [] a1) "__init__" env (eval (.Call (.Name "super" a0) [] [] a1) env)
  standAt a2.atName
  let (f, first) ← holding [ov] (getMethod ov "__init__" pl)
  callWith a4 f first (backTo a4 (starEach [] env)) [])
structure ErrC0 (P : Program) (K : Frag) (mg : Str → Option Value) (x : Str) (C fI : Addr) : Prop where
  gC : mg x = some (.ref C)
  cls : ∃ nm q N bs bm sn sub ab col dd k0 k1 k2 k3 k5, K.lookup C = some (excClassObj nm q C N bs bm true sn sub ab col dd k0 k1 k2 k3 k5 "ValueError.__new__") ∧ refsVE bm = true
  ga : findIn K (.ref C) "__getattribute__" = some (some (.builtin "BaseException.__getattribute__"))
  gg : findIn K (.ref C) "__getattr__" = some none
  iC : findIn K (.ref C) "__init__" = some (some (.ref fI))
  tC : typeIn K (.ref fI) = some (.type "function")
  kC : keepIn K (.ref C) = true
  exC : subIn K (.ref C) (.type "BaseException") = some true
  vB : subIn K (.ref C) (.type "ValueError") = some true
  tyC : typeIn K (.ref C) = some (.type "type")
  hdC : hasDictIn K C = true
  mr : mroIn K C (.ref C) = some true
  sup : ks_superIn K C C "__init__" = some (some (.builtin "ValueError.__init__"))
  noT : nsIn K cStatics "thirdparty.any" = some none
  noS : mg "super" = none
  fn : ∃ (qual : Str) (names : List (Str × NameKind)) (oc : Value) (od : Option Addr) (doc pm : Value) (an : Option Addr) (cda cc : Addr) (ct : Value) (osl : Array (Option Value)) (p1 a0 a1 a2 a4 a5 : Pos) (ccl cl : Value) (cdd cld : Option Addr) (vs : Array Value) (ccs csl : Array (Option Value)) (file : Str) (tf : Tok),
    K.lookup fI = some ⟨oc, od, .func (ksFn "__init__" qual (eA0 p1) (eB0 a0 a1 a2 a4 a5) (eS names) .none .none doc pm an (.ref cda) ct cc), osl⟩ ∧ codeIn K (.ref cda) qual = true ∧ K.lookup cda = some ⟨ccl, cdd, .fields vs, ccs⟩ ∧ vs[2]? = some (.str file tf) ∧ ((P.main.file : Str) == file) = true ∧
    K.lookup cc = some ⟨cl, cld, .cell (some (.ref C)), csl⟩ ∧ names.lookup ("super" : Str) = some .globalImplicit ∧ names.lookup ("__class__" : Str) = some .free ∧ names.lookup ("self" : Str) = some .local ∧ (∀ x ∈ names, x.2 ≠ .cell) ∧
    (P.main.scope.names.lookup ("super" : Str)).isSome = false ∧ (∀ L, CallEq0 a0 a1 a2 a4 (ksEnv qual (eS names) L fI (.ref cda) cc)) ∧
    (∀ (s : Shared) (e : Value), BindsTo s (ksFn "__init__" qual (eA0 p1) (eB0 a0 a1 a2 a4 a5) (eS names) .none .none doc pm an (.ref cda) ct cc) ⟨[e], []⟩ [("self", e)])
structure InitE0 (h h' : Heap) (x C t1 : Addr) : Prop where
  keep : ∀ b o, b ≠ x → h.get? b = some o → h'.get? b = some o
  obj : h'.get? x = some (excO C t1)
section
variable {P : Program} {w : World} {A : Around} {E : Value → Shared → Prop} {R : Result → Shared → Prop} {s : Shared} {K : Frag} {mg mb : Str → Option Value} {x : Str} {C fI : Addr}
structure ErrMade0 (h h' : Heap) (e C : Addr) : Prop where
  keep : ∀ b o, h.get? b = some o → h'.get? b = some o
  new : h.objs.size ≤ e
  obj : ∃ oe vs, h'.get? e = some oe ∧ oe.cls = .ref C ∧ oe.dict = none ∧ oe.data = .fields vs ∧ vs[1]? = some .none
end
end Hn
namespace Hn
open PySem PySem.Spec PyProof.Rows L2
section
variable {X : Cx} {C fI : Addr} {x : Str}
end
end Hn
namespace Wx
open PySem PySem.Spec PyProof.Rows L2 Evl Hn
variable [TabC]
def wRaise0 (EX : List PV → En → Fs → Prop) (n : En) : WS := fun _ ρ => EX ρ n []
section
variable {K : PySem.W.Frag} {d : Cn → Addr} {ea : En → Option Addr} {R : RR} {ts tx : List Tag} {bt ct : List Tag} {W : WX} {EX : List PV → En → Fs → Prop}
end
end Wx
namespace Wx
open PySem PySem.Spec PyProof.Rows L2 Evl Hn RZ
variable [TabC]
def Hs.es (X : Hs) : List (Ed Stp) := X.rows.map X.ed
def Hs.x0 (X : Hs) (t : Stp4) : Int := match t.1 with
  | .need => t.2 - wd X.s t.2 + 1
  | .room => t.2 + 1
  | .keep => t.2
  | .door => t.2 + 1
theorem ed_mk {X : Hs} (g : X.ok) {t : Stp4} (ht : X.st t) : X.ed t = mkE X.s.length (X.x0 t) (X.l t) (X.v t) (some (t.1.s, t.2)) := by
  obtain ⟨w, h⟩ := t
  obtain ⟨h0, h1, h2⟩ := ht
  have hn := g.cs.ne
  have hm : h % X.n = h := Int.emod_eq_of_lt h0 h1
  have key : ∀ (f l x len v : Int) (s : Stp), f = x % X.n → l = (x + len) % X.n → (⟨f.toNat, l.toNat, (f + len) / X.n, v, s⟩ : Ed Stp) = mkE X.s.length x len v s := fun f l x len v s e1 e2 => by
    unfold mkE
    rw [mdN_int hn]
    subst e1 e2
    rfl
  unfold Hs.ed
  cases w with
  | need =>
    refine key _ _ _ _ _ _ rfl ?_
    show ((h - wd X.s h + 1) % X.n + wd X.s h) % X.n = _
    rw [Int.emod_add_emod]
    rfl
  | room =>
    refine key _ _ _ _ _ _ (b_need X h) ?_
    show (h - wd X.s h + 1) % X.n = (h + 1 + -wd X.s h) % X.n
    congr 1
    omega
  | keep =>
    refine key _ _ _ _ _ _ hm.symm rfl
  | door =>
    refine key _ _ _ _ _ _ rfl ?_
    show h = (h + 1 + -1) % X.n
    rw [show h + 1 + -1 = h from by omega, hm]
theorem es_of {X : Hs} {e : Ed Stp} : e ∈ X.es ↔ ∃ t, X.st t ∧ e = X.ed t := by
  unfold Hs.es
  rw [List.mem_map]
  constructor
  · rintro ⟨t, ht, rfl⟩
    exact ⟨t, (rows_mem t).mp ht, rfl⟩
  · rintro ⟨t, ht, rfl⟩
    exact ⟨t, (rows_mem t).mpr ht, rfl⟩
def Hs.Kp (X : Hs) (P : Int) (A : Int → Int) : Prop := ∀ t, X.st t → X.v t ≤ ext X.s.length P A (X.x0 t + X.l t) - ext X.s.length P A (X.x0 t)
def Hs.Pt (X : Hs) (pa pb : Int) (Y : Nat → Int) : Prop := ∀ e ∈ X.es, Y e.f + gn pa pb e ≤ Y e.l
def Hs.Can (X : Hs) (P : Int) : Prop := ∃ Y, X.Pt P 1 Y
theorem Hs.Kp.mono {X : Hs} (g : X.ok) {P : Int} {A : Int → Int} (h : X.Kp P A) (h0 : A 0 = 0) (hP : A X.n = P) : Hn.mono X.s.length A := fun j hj => by
  have k : X.st (.keep, (j : Int)) := st_keep _ (by omega) (by show (j : Int) < (X.s.length : Int); omega)
  have a := h _ k
  have b : X.v (.keep, (j : Int)) = cyc X.ks (j : Int) := rfl
  have c : 0 ≤ cyc X.ks (j : Int) := g.ck _ (cyL_mem (d := (0 : Int)) (by rw [g.lk]; exact g.cs.ne) _)
  have d := ext_step g.cs.ne h0 hP (j : Int)
  have e : cyc (byS X.s.length A) (j : Int) = A ((j : Int) + 1) - A (j : Int) := by
    unfold byS
    rw [cyc_rowOf _ g.cs.ne, Int.emod_eq_of_lt (by omega) (by omega)]
  have f : ext X.s.length P A (X.x0 (.keep, (j : Int)) + X.l (.keep, (j : Int))) = ext X.s.length P A ((j : Int) + 1) := rfl
  have f2 : ext X.s.length P A (X.x0 (.keep, (j : Int))) = ext X.s.length P A (j : Int) := rfl
  rw [f, f2] at a
  omega
structure Hs.Keep (X : Hs) (bs : List Int) : Prop where
  len : bs.length = X.s.length
  need : ∀ h, 0 ≤ h → h < X.n → cyc X.ns h ≤ thF X.s.length X.s (cyc bs) h
  room : ∀ h, 0 ≤ h → h < X.n → ∀ r, cyo X.rs h = some r → thF X.s.length X.s (cyc bs) h ≤ r
  keep : ∀ h, 0 ≤ h → h < X.n → cyc X.ks h ≤ cyc bs h
  door : ∀ h, 0 ≤ h → h < X.n → ∀ r, cyo X.ds h = some r → cyc bs h ≤ r
theorem keep_goodN {X : Hs} (g : X.ok) {bs : List Int} (h : X.Keep bs) : GoodN bs := by
  refine ⟨by rw [h.len]; exact g.cs.ne, by rw [h.len]; exact g.cs.le, fun i => ?_⟩
  have hb := mod_bd g.cs.ne i
  have a := h.keep (i % X.n) hb.1 hb.2
  have c : 0 ≤ cyc X.ks (i % X.n) := g.ck _ (cyL_mem (d := (0 : Int)) (by rw [g.lk]; exact g.cs.ne) _)
  have e : cyc bs (i % X.n) = cyc bs i := by
    unfold cyc
    rw [h.len]
    show bs.getD (i % X.n % X.n).toNat 0 = bs.getD (i % X.n).toNat 0
    rw [Int.emod_emod_of_dvd _ (Int.dvd_refl _)]
  omega
theorem val_wo {X : Hs} : ∀ ts : List Stp4, wo (ts.map X.ed) = X.val ts
  | [] => rfl
  | t :: ts => by
    have := val_wo (X := X) ts
    unfold wo Hs.val at *
    rw [List.map_cons, List.map_cons, List.sum_cons, List.map_cons, List.sum_cons, this]
    rfl
theorem ab_bd {X : Hs} (g : X.ok) {t : Stp4} (ht : X.st t) : 0 ≤ X.a t ∧ X.a t < X.n ∧ 0 ≤ X.b t ∧ X.b t < X.n := by
  have f := fst_bd g (w := t.1) ht.1 ht.2.1
  have m : 0 ≤ (X.fst t.1 t.2 + X.len t.1 t.2) % X.n ∧ (X.fst t.1 t.2 + X.len t.1 t.2) % X.n < X.n := mod_bd g.cs.ne _
  unfold Hs.a Hs.b
  split <;> exact ⟨by omega, by omega, by omega, by omega⟩
theorem ed_f {X : Hs} (g : X.ok) {t : Stp4} (ht : X.st t) : ((X.ed t).f : Int) = X.a t ∧ ((X.ed t).l : Int) = X.b t := by
  have := ab_bd g ht
  exact ⟨Int.toNat_of_nonneg this.1, Int.toNat_of_nonneg this.2.2.1⟩
theorem walk_len {X : Hs} (g : X.ok) : ∀ {ts : List Stp4} {a b : Nat}, (∀ t ∈ ts, X.st t) → Wk a (ts.map X.ed) b → (a : Int) + (ts.map X.l).sum = b + X.n * tn (ts.map X.ed)
  | [], a, b, _, h => by
    have h : a = b := h
    subst h
    show (a : Int) + 0 = a + X.n * 0
    rw [Int.mul_zero]
  | t :: ts, a, b, hs, h => by
    have ht := hs t List.mem_cons_self
    have ih := walk_len g (fun u hu => hs u (List.mem_cons_of_mem _ hu)) h.2
    have q := mkE_len g.cs.ne (X.x0 t) (X.l t) (X.v t) (some (t.1.s, t.2))
    rw [← ed_mk g ht, show (X.ed t).f = a from h.1] at q
    have e : tn ((t :: ts).map X.ed) = (X.ed t).t + tn (ts.map X.ed) := by
      unfold tn
      rw [List.map_cons, List.map_cons, List.sum_cons]
    rw [e, List.map_cons, List.sum_cons, Int.mul_add]
    have hN : X.n = (X.s.length : Int) := rfl
    rw [← hN] at q
    omega
theorem trn_tn {X : Hs} (g : X.ok) {ts : List Stp4} {a : Nat} (hs : ∀ t ∈ ts, X.st t) (h : Wk a (ts.map X.ed) a) : X.trn ts = tn (ts.map X.ed) := by
  have := walk_len g hs h
  unfold Hs.trn
  rw [show (ts.map X.l).sum = X.n * tn (ts.map X.ed) from by omega]
  exact Int.mul_ediv_cancel_left _ (by have := g.pos; omega)
theorem wk_run {X : Hs} (g : X.ok) : ∀ {ts : List Stp4} {a b : Nat}, (∀ t ∈ ts, X.st t) → (Wk a (ts.map X.ed) b ↔ X.run a ts b)
  | [], a, b, _ => by
    show a = b ↔ (a : Int) = b
    omega
  | t :: ts, a, b, hs => by
    have ht := hs t List.mem_cons_self
    have q := ed_f g ht
    have ih := wk_run g (ts := ts) (a := (X.ed t).l) (b := b) (fun u hu => hs u (List.mem_cons_of_mem _ hu))
    rw [q.2] at ih
    show ((X.ed t).f = a ∧ Wk (X.ed t).l (ts.map X.ed) b) ↔ (X.a t = a ∧ X.run (X.b t) ts b)
    rw [ih]
    exact ⟨fun ⟨h1, h2⟩ => ⟨by omega, h2⟩, fun ⟨h1, h2⟩ => ⟨by omega, h2⟩⟩
structure Hs.Way (X : Hs) (ts : List Stp4) : Prop where
  st : ∀ t ∈ ts, X.st t
  ne : 1 ≤ ts.length
  jn : X.joins ts = true
theorem joins_run {X : Hs} {ts : List Stp4} (h1 : 1 ≤ ts.length) (h : X.joins ts = true) : X.run (X.a (cyS ts 0)) ts (X.a (cyS ts 0)) := by
  have J : X.Joins ts := of_decide_eq_true h
  have key : ∀ (k : Nat), k ≤ ts.length → X.run (X.a (cyS ts ((ts.length - k : Nat) : Int))) (ts.drop (ts.length - k)) (X.a (cyS ts 0)) := by
    intro k
    induction k with
    | zero =>
      intro _
      rw [Nat.sub_zero, List.drop_length]
      show X.a (cyS ts (ts.length : Int)) = X.a (cyS ts 0)
      have := cyL_add (d := ((.keep, 0) : Stp4)) (xs := ts) (i := 0)
      rw [Int.zero_add] at this
      unfold cyS
      rw [this]
    | succ k ih =>
      intro hk
      have hi : ts.length - (k + 1) < ts.length := by omega
      rw [List.drop_eq_getElem_cons hi]
      have e1 : ts[ts.length - (k + 1)] = cyS ts ((ts.length - (k + 1) : Nat) : Int) := (cyL_get hi).symm
      have e2 : ts.length - (k + 1) + 1 = ts.length - k := by omega
      rw [e1, e2]
      refine ⟨rfl, ?_⟩
      rw [J, show (((ts.length - (k + 1) : Nat) : Int) + 1) = ((ts.length - k : Nat) : Int) from by omega]
      exact ih (by omega)
  have := key ts.length (Nat.le_refl _)
  rw [Nat.sub_self] at this
  exact this
theorem Hs.Way.wk {X : Hs} (g : X.ok) {ts : List Stp4} (W : X.Way ts) : ∃ a : Nat, Wk a (ts.map X.ed) a := by
  have r := joins_run W.ne W.jn
  have m : X.st (cyS ts 0) := W.st _ (cyL_mem W.ne 0)
  have b := ab_bd g m
  refine ⟨(X.a (cyS ts 0)).toNat, (wk_run g W.st).mpr ?_⟩
  rw [Int.toNat_of_nonneg b.1]
  exact r
theorem Hs.Way.trn {X : Hs} (g : X.ok) {ts : List Stp4} (W : X.Way ts) : X.trn ts = tn (ts.map X.ed) := let ⟨_, h⟩ := W.wk g; trn_tn g W.st h
theorem Hs.Way.pt {X : Hs} (g : X.ok) {ts : List Stp4} (W : X.Way ts) {pa pb : Int} {Y : Nat → Int} (h : X.Pt pa pb Y) : pb * X.val ts ≤ pa * X.trn ts := by
  obtain ⟨a, w⟩ := W.wk g
  have q := pot_sum (pa := pa) (pb := pb) (X := Y) w fun e he => by
    obtain ⟨t, ht, rfl⟩ := List.mem_map.mp he
    exact h _ (es_of.mpr ⟨t, W.st t ht, rfl⟩)
  rw [gn_sum, val_wo, ← W.trn g] at q
  omega
theorem Hs.Way.can {X : Hs} (g : X.ok) {ts : List Stp4} (W : X.Way ts) {P : Int} (h : X.Can P) : X.val ts ≤ P * X.trn ts := by
  obtain ⟨Y, h⟩ := h
  have := W.pt g h
  omega
structure Hs.Lw (X : Hs) (pa pb : Int) (w : List (Ed Stp)) (ts : List Stp4) : Prop where
  e : w = ts.map X.ed
  way : X.Way ts
  len : ts.length ≤ X.s.length
  tn : tn w = X.trn ts
  wo : wo w = X.val ts
  gain : pa * X.trn ts < pb * X.val ts
def Hs.all (X : Hs) : List Stp4 := [Wd.need, .room, .keep, .door].flatMap fun w => (List.range X.s.length).map fun (i : Nat) => (w, (i : Int))
def Hs.stB (X : Hs) (t : Stp4) : Bool := decide (0 ≤ t.2) && decide (t.2 < X.n) && (X.lim t.1 t.2).isSome
structure Hs.Lst (X : Hs) (z : Int) : Prop where
  can : X.Can z
  le : ∀ P, X.Can P → z ≤ P
inductive Hs.Stk (X : Hs) : List (List Stp4) → Prop
  | one {w : List Stp4} : X.Way w → w.length ≤ X.s.length → X.trn w = 0 → 0 < X.val w → Stk X [w]
  | two {a b : List Stp4} (p : Int) : X.Way a → a.length ≤ X.s.length → X.Way b → b.length ≤ X.s.length → 0 < X.trn a → X.trn b < 0 → (p - 1) * X.trn a < X.val a → p * X.trn b < X.val b → Stk X [a, b]
theorem Hs.Stk.no {X : Hs} (g : X.ok) {ws : List (List Stp4)} (h : X.Stk ws) {P : Int} : ¬ X.Can P := fun c => by
  cases h with
  | @one w W _ t v =>
    have := W.can g c
    rw [t, Int.mul_zero] at this
    omega
  | @two a b p A _ B _ ta tb va vb =>
    have h1 := A.can g c
    have h2 := B.can g c
    rcases Int.lt_or_le P p with q | q
    · have : P * X.trn a ≤ (p - 1) * X.trn a := Int.mul_le_mul_of_nonneg_right (by omega : P ≤ p - 1) (Int.le_of_lt ta)
      omega
    · have := Int.mul_le_mul_of_nonpos_right q (Int.le_of_lt tb)
      omega
structure Hs.Ls (X : Hs) (B p : Int) (low : List Stp4) : Prop where
  p0 : 0 ≤ p
  way : X.Way low
  len : low.length ≤ X.s.length
  tn : 0 < X.trn low
  lo : p ≤ upI (X.val low) (X.trn low)
  hi : p ≤ B
end Wx
namespace Wx
open PySem PySem.Spec PyProof.Rows L2 Evl Hn RZ
variable [TabC]
section
variable {wg : WG} {wt : WT} {we : WE} {ρ : List PV} {P : List PV → Prop} {α : Type}
end
structure RC (ks : List Int) (n : Nat) (R : Int → Int → Prop) : Prop where
  len : ks.length = n
  ok : ∀ i : Nat, i < n → R (i : Int) (cyc ks (i : Int))
structure RO (rs : List (Option Int)) (n : Nat) (R : Int → Int → Prop) : Prop where
  len : rs.length = n
  ok : ∀ i : Nat, i < n → ∀ z, cyo rs (i : Int) = some z → R (i : Int) z
theorem cyc_set {ks : List Int} {i j : Nat} {z : Int} (hi : i < ks.length) (hj : j < ks.length) : cyc (ks.set i z) (j : Int) = if i = j then z else cyc ks (j : Int) := by
  rw [cyc_at (by rw [List.length_set]; exact hj), cyc_at hj, List.getD_eq_getElem?_getD, List.getD_eq_getElem?_getD]
  split
  · next e =>
    subst e
    rw [List.getElem?_set_self hi]
    rfl
  · next e => rw [List.getElem?_set_ne e]
theorem cyo_at {rs : List (Option Int)} {j : Nat} (h : j < rs.length) : cyo rs (j : Int) = rs.getD j none := by
  unfold cyo
  rw [Int.emod_eq_of_lt (by omega) (by omega), Int.toNat_natCast]
theorem cyo_set {rs : List (Option Int)} {i j : Nat} {z : Option Int} (hi : i < rs.length) (hj : j < rs.length) : cyo (rs.set i z) (j : Int) = if i = j then z else cyo rs (j : Int) := by
  rw [cyo_at (by rw [List.length_set]; exact hj), cyo_at hj, List.getD_eq_getElem?_getD, List.getD_eq_getElem?_getD]
  split
  · next e =>
    subst e
    rw [List.getElem?_set_self hi]
    rfl
  · next e => rw [List.getElem?_set_ne e]
theorem RC.set {ks : List Int} {n : Nat} {R : Int → Int → Prop} {i : Nat} {z : Int} (h : RC ks n R) (hi : i < n) (r : R (i : Int) z) : RC (ks.set i z) n R :=
  ⟨by rw [List.length_set]; exact h.len, fun j hj => by
    rw [cyc_set (by rw [h.len]; exact hi) (by rw [h.len]; exact hj)]
    split
    · next e => subst e; exact r
    · exact h.ok j hj⟩
theorem RO.set {rs : List (Option Int)} {n : Nat} {R : Int → Int → Prop} {i : Nat} {z : Int} (h : RO rs n R) (hi : i < n) (r : R (i : Int) z) : RO (rs.set i (some z)) n R :=
  ⟨by rw [List.length_set]; exact h.len, fun j hj y hy => by
    rw [cyo_set (by rw [h.len]; exact hi) (by rw [h.len]; exact hj)] at hy
    split at hy
    · next e => subst e; cases hy; exact r
    · exact h.ok j hj y hy⟩
theorem RC.zero (n : Nat) {R : Int → Int → Prop} (h : ∀ i : Nat, i < n → R (i : Int) 0) : RC (List.replicate n 0) n R :=
  ⟨List.length_replicate, fun i hi => by
    rw [cyc_at (by rw [List.length_replicate]; exact hi), List.getD_eq_getElem?_getD, List.getElem?_replicate, if_pos hi]
    exact h i hi⟩
theorem RO.non (n : Nat) {R : Int → Int → Prop} : RO (List.replicate n none) n R :=
  ⟨List.length_replicate, fun i hi z hz => by
    rw [cyo_at (by rw [List.length_replicate]; exact hi), List.getD_eq_getElem?_getD, List.getElem?_replicate, if_pos hi] at hz
    cases hz⟩
theorem RC.at {ks : List Int} {n : Nat} {R : Int → Int → Prop} (h : RC ks n R) {x : Int} (h0 : 0 ≤ x) (h1 : x < (n : Int)) : R x (cyc ks x) := by
  have := h.ok x.toNat (by omega)
  rw [Int.toNat_of_nonneg h0] at this
  exact this
theorem RO.at {rs : List (Option Int)} {n : Nat} {R : Int → Int → Prop} (h : RO rs n R) {x : Int} (h0 : 0 ≤ x) (h1 : x < (n : Int)) {z : Int} (hz : cyo rs x = some z) : R x z := by
  have := h.ok x.toNat (by omega) z
  rw [Int.toNat_of_nonneg h0] at this
  exact this hz
theorem RC.sm {ks : List Int} {n : Nat} {R : Int → Int → Prop} {b : Int} (h : RC ks n R) (hb : ∀ i : Nat, i < n → ∀ z, R (i : Int) z → 0 ≤ z ∧ z < b) : SmC ks n b :=
  ⟨h.len, fun z hz => by
    obtain ⟨i, hi, e⟩ := List.getElem_of_mem hz
    have := h.ok i (by rw [← h.len]; exact hi)
    rw [cyc_at hi, List.getD_eq_getElem?_getD, List.getElem?_eq_getElem hi, e] at this
    exact hb i (by rw [← h.len]; exact hi) z this⟩
theorem RO.sm {rs : List (Option Int)} {n : Nat} {R : Int → Int → Prop} {b : Int} (h : RO rs n R) (hb : ∀ i : Nat, i < n → ∀ z, R (i : Int) z → 0 ≤ z ∧ z < b) : SmO rs n b :=
  ⟨h.len, fun z hz y hy => by
    obtain ⟨i, hi, e⟩ := List.getElem_of_mem hz
    refine hb i (by rw [← h.len]; exact hi) y (h.ok i (by rw [← h.len]; exact hi) y ?_)
    rw [cyo_at hi, List.getD_eq_getElem?_getD, List.getElem?_eq_getElem hi, e]
    exact hy⟩
theorem sum_bd {b : Int} : ∀ {bs : List Int}, (∀ z ∈ bs, 0 ≤ z ∧ z < b) → 0 ≤ bs.sum ∧ bs.sum ≤ bs.length * b
  | [], _ => by simp
  | x :: l, h => by
    have a := h x List.mem_cons_self
    have c := sum_bd fun z hz => h z (List.mem_cons_of_mem _ hz)
    rw [List.sum_cons, List.length_cons, show ((l.length + 1 : Nat) : Int) * b = l.length * b + b from by rw [Int.natCast_add, Int.add_mul]; omega]
    omega
theorem SmC.sum {bs : List Int} {n : Nat} {b : Int} (h : SmC bs n b) : 0 ≤ bs.sum ∧ bs.sum ≤ n * b := by
  have := sum_bd h.ok
  rw [h.len] at this
  exact this
structure Hs.sB (X : Hs) (b : Int) : Prop where
  ns : SmC X.ns X.s.length b
  rs : SmO X.rs X.s.length b
  ks : SmC X.ks X.s.length b
  ds : SmO X.ds X.s.length b
theorem SmO.mono {rs : List (Option Int)} {n : Nat} {b c : Int} (h : SmO rs n b) (hb : b ≤ c) : SmO rs n c := ⟨h.len, fun z hz i hi => ⟨(h.ok z hz i hi).1, Int.lt_of_lt_of_le (h.ok z hz i hi).2 hb⟩⟩
theorem Hs.sB.mono {X : Hs} {b c : Int} (h : X.sB b) (hb : b ≤ c) : X.sB c := ⟨h.ns.mono hb, h.rs.mono hb, h.ks.mono hb, h.ds.mono hb⟩
theorem Hs.sB.sm {X : Hs} {b : Int} (h : X.sB b) (hb : b ≤ 10 ^ 32) : X.sm := ⟨h.ns.mono hb, h.rs.mono hb, h.ks.mono hb, h.ds.mono hb⟩
end Wx
namespace Wx
open PySem PySem.Spec PyProof.Rows L2 Evl Hn RZ
variable [TabC]
theorem cutP_take {xs : List PV} {k : Nat} : cutP xs none (some (k : Int)) = xs.take k := by
  unfold cutP
  rw [HT.sIx_none, HT.sIx_nat, List.drop_zero, Nat.sub_zero]
  rcases Nat.le_total k xs.length with h | h
  · rw [Nat.min_eq_left h]
  · rw [Nat.min_eq_right h, List.take_of_length_le (Nat.le_refl _), List.take_of_length_le h]
theorem cutP_drop {xs : List PV} {k : Nat} : cutP xs (some (k : Int)) none = xs.drop k := by
  unfold cutP
  rw [HT.sIx_none, HT.sIx_nat, List.take_of_length_le (by rw [List.length_drop]; exact Nat.le_refl _)]
  rcases Nat.le_total k xs.length with h | h
  · rw [Nat.min_eq_left h]
  · rw [Nat.min_eq_right h, List.drop_of_length_le (Nat.le_refl _), List.drop_of_length_le h]
def Hs.set (X : Hs) (w : Wd) (h : Nat) (z : Option Int) : Hs := match w with
  | .need => ⟨X.s, X.ns.set h (z.getD 0), X.rs, X.ks, X.ds⟩
  | .room => ⟨X.s, X.ns, X.rs.set h z, X.ks, X.ds⟩
  | .keep => ⟨X.s, X.ns, X.rs, X.ks.set h (z.getD 0), X.ds⟩
  | .door => ⟨X.s, X.ns, X.rs, X.ks, X.ds.set h z⟩
abbrev Hs.nd (X : Hs) (h : Nat) (z : Int) : Hs := X.set .need h (some z)
end Wx
namespace Wx
open PySem PySem.Spec PyProof.Rows L2 Evl Hn RZ
variable [TabC]
structure Hs.Rc (X : Hs) (pa pb : Int) (m : Nat) (R : Nat → Int) : Prop where
  pt : X.Pt pa pb R
  zero : R m = 0
  le : ∀ Y, X.Pt pa pb Y → ∀ v, v < X.s.length → R v ≤ Y v - Y m
  wk : ∀ v, v < X.s.length → ∃ w : List (Ed Stp), Wk m w v ∧ (∀ e ∈ w, e ∈ X.es) ∧ R v = (w.map (gn pa pb)).sum
def Hs.sp (X : Hs) (P : Int) (Y : Nat → Int) (m len : Int) : Int := ext X.s.length P (fun k => Y k.toNat) (m + len) - ext X.s.length P (fun k => Y k.toNat) m
structure Hs.Rg (X : Hs) (P m len a b : Int) : Prop where
  lo : ∀ Y, X.Pt P 1 Y → a ≤ X.sp P Y m len
  hi : ∀ Y, X.Pt P 1 Y → X.sp P Y m len ≤ b
  atl : ∃ Y, X.Pt P 1 Y ∧ X.sp P Y m len = a
  ath : ∃ Y, X.Pt P 1 Y ∧ X.sp P Y m len = b
theorem Hs.Rg.le {X : Hs} {P m len a b : Int} (h : X.Rg P m len a b) : a ≤ b := by
  obtain ⟨Y, y1, y2⟩ := h.atl
  have := h.hi Y y1
  omega
def Hs.at (X : Hs) (bs : List Int) (w : Wd) (h : Int) : Int := if w.kd = true then cyc bs h else thF X.s.length X.s (cyc bs) h
structure Hs.Rb (X : Hs) (P : Int) (w : Wd) (h a b : Int) : Prop where
  lo : ∀ bs, X.Keep bs → bs.sum = P → a ≤ X.at bs w h
  hi : ∀ bs, X.Keep bs → bs.sum = P → X.at bs w h ≤ b
  atl : ∃ bs, X.Keep bs ∧ bs.sum = P ∧ X.at bs w h = a
  ath : ∃ bs, X.Keep bs ∧ bs.sum = P ∧ X.at bs w h = b
end Wx
namespace Wx
open PySem PySem.Spec PyProof.Rows L2 Evl Hn RZ
variable [TabC]
mutual
def peq : PV → PV → Bool
  | .non, .non => true
  | .bl a, .bl b => a == b
  | .bl a, .int j => (if a then 1 else 0) == j
  | .int i, .bl b => i == (if b then 1 else 0)
  | .int i, .int j => decide (i = j)
  | .str x, .str y => x == y
  | .lst xs, .lst ys => peqs xs ys
  | .tup xs, .tup ys => peqs xs ys
  | _, _ => false
def peqs : List PV → List PV → Bool
  | [], [] => true
  | x :: xs, y :: ys => peq x y && peqs xs ys
  | _, _ => false
end
mutual
theorem eqv_peq : ∀ {x y : PV} {a b : PyData}, toD x = some a → toD y = some b → PyData.eqv a b = peq x y
  | .lst xs, y, a, b, ha, hb => by
    simp only [toD, Option.map_eq_some_iff] at ha
    obtain ⟨as, h1, rfl⟩ := ha
    cases y with
    | lst ys =>
      simp only [toD, Option.map_eq_some_iff] at hb
      obtain ⟨bs, h2, rfl⟩ := hb
      simp only [PyData.eqv, peq]
      exact eqvs_peqs h1 h2
    | tup ys =>
      simp only [toD, Option.map_eq_some_iff] at hb
      obtain ⟨bs, h2, rfl⟩ := hb
      rfl
    | _ => simp only [toD, Option.some.injEq, reduceCtorEq] at hb <;> (subst hb; rfl)
  | .tup xs, y, a, b, ha, hb => by
    simp only [toD, Option.map_eq_some_iff] at ha
    obtain ⟨as, h1, rfl⟩ := ha
    cases y with
    | tup ys =>
      simp only [toD, Option.map_eq_some_iff] at hb
      obtain ⟨bs, h2, rfl⟩ := hb
      simp only [PyData.eqv, peq]
      exact eqvs_peqs h1 h2
    | lst ys =>
      simp only [toD, Option.map_eq_some_iff] at hb
      obtain ⟨bs, h2, rfl⟩ := hb
      rfl
    | _ => simp only [toD, Option.some.injEq, reduceCtorEq] at hb <;> (subst hb; rfl)
  | .non, y, a, b, ha, hb => by
    simp only [toD, Option.some.injEq] at ha
    subst ha
    cases y <;> simp only [toD, Option.map_eq_some_iff, Option.some.injEq, reduceCtorEq] at hb <;> first | (subst hb; rfl) | (obtain ⟨bs, h2, rfl⟩ := hb; rfl)
  | .bl p, y, a, b, ha, hb => by
    simp only [toD, Option.some.injEq] at ha
    subst ha
    cases y <;> simp only [toD, Option.map_eq_some_iff, Option.some.injEq, reduceCtorEq] at hb <;> first | (subst hb; rfl) | (obtain ⟨bs, h2, rfl⟩ := hb; rfl)
  | .int p, y, a, b, ha, hb => by
    simp only [toD, Option.some.injEq] at ha
    subst ha
    cases y <;> simp only [toD, Option.map_eq_some_iff, Option.some.injEq, reduceCtorEq] at hb <;> first | (subst hb; rfl) | (obtain ⟨bs, h2, rfl⟩ := hb; rfl) | (subst hb; simp only [PyData.eqv, peq]; rw [Bool.eq_iff_iff, beq_iff_eq, decide_eq_true_iff])
  | .str p, y, a, b, ha, hb => by
    simp only [toD, Option.some.injEq] at ha
    subst ha
    cases y <;> simp only [toD, Option.map_eq_some_iff, Option.some.injEq, reduceCtorEq] at hb <;> first | (subst hb; rfl) | (obtain ⟨bs, h2, rfl⟩ := hb; rfl)
  | .ty _, _, _, _, ha, _ => by simp only [toD, reduceCtorEq] at ha
  | .cls _, _, _, _, ha, _ => by simp only [toD, reduceCtorEq] at ha
  | .ins _ _, _, _, _, ha, _ => by simp only [toD, reduceCtorEq] at ha
  | .bag, _, _, _, ha, _ => by simp only [toD, reduceCtorEq] at ha
  | .scr _, _, _, _, ha, _ => by simp only [toD, reduceCtorEq] at ha
  | .fnv _ _, _, _, _, ha, _ => by simp only [toD, reduceCtorEq] at ha
  | .dct _ _, _, _, _, ha, _ => by simp only [toD, reduceCtorEq] at ha
  | .idv _ _, _, _, _, ha, _ => by simp only [toD, reduceCtorEq] at ha
theorem eqvs_peqs : ∀ {xs ys : List PV} {as bs : List PyData}, toDs xs = some as → toDs ys = some bs → PyData.eqvAll as bs = peqs xs ys
  | [], [], as, bs, ha, hb => by
    simp only [toDs, Option.some.injEq] at ha hb
    subst ha hb
    rfl
  | [], y :: ys, as, bs, ha, hb => by
    simp only [toDs, Option.some.injEq] at ha hb
    subst ha
    split at hb
    · cases hb; rfl
    · cases hb
  | x :: xs, [], as, bs, ha, hb => by
    simp only [toDs, Option.some.injEq] at ha hb
    subst hb
    split at ha
    · cases ha; rfl
    · cases ha
  | x :: xs, y :: ys, as, bs, ha, hb => by
    simp only [toDs] at ha hb
    split at ha
    · next h1 h2 =>
      split at hb
      · next h3 h4 =>
        cases ha
        cases hb
        simp only [PyData.eqvAll, peqs]
        rw [eqv_peq h1 h3, eqvs_peqs h2 h4]
      · cases hb
    · cases ha
end
def Dt (x : PV) (k : Nat) : Prop := ∃ e, toD x = some e ∧ e.canLay0 = true ∧ e.depth ≤ k
theorem PvD.dt {x : PV} {w k : Nat} (h : PvD x w k) : Dt x k := let ⟨e, h1, _, h3, h4⟩ := h; ⟨e, h1, h3, h4⟩
theorem Dt.mono {x : PV} {k l : Nat} (h : Dt x k) (hk : k ≤ l) : Dt x l := let ⟨e, h1, h3, h4⟩ := h; ⟨e, h1, h3, Nat.le_trans h4 hk⟩
theorem dt_int {i : Int} : Dt (.int i) 0 := ⟨.int i, by simp only [toD], rfl, Nat.le_refl _⟩
theorem dt_all {k : Nat} : ∀ {xs : List PV}, (∀ x ∈ xs, Dt x k) → ∃ es, toDs xs = some es ∧ es.length = xs.length ∧ PyData.canLayAll0 es = true ∧ PyData.depthAll es ≤ k
  | [], _ => ⟨[], by simp only [toDs], rfl, rfl, Nat.zero_le _⟩
  | x :: xs, h => by
    obtain ⟨e, h1, h3, h4⟩ := h x List.mem_cons_self
    obtain ⟨es, g1, g2, g4, g5⟩ := dt_all fun y hy => h y (List.mem_cons_of_mem _ hy)
    refine ⟨e :: es, by simp only [toDs, h1, g1], by rw [List.length_cons, List.length_cons, g2], ?_, ?_⟩
    · simp only [PyData.canLayAll0, h3, g4, Bool.and_self]
    · simp only [PyData.depthAll]
      omega
theorem dt_lst {k : Nat} {xs : List PV} (h : ∀ x ∈ xs, Dt x k) : Dt (.lst xs) (k + 1) := by
  obtain ⟨es, g1, g2, g4, g5⟩ := dt_all h
  refine ⟨.list es, by simp only [toD, g1, Option.map_some], by simp only [PyData.canLay0]; exact g4, ?_⟩
  simp only [PyData.depth]
  omega
theorem dt_iL {ns : List Int} : Dt (.lst (iL ns)) 1 := dt_lst fun x hx => by
  obtain ⟨i, _, rfl⟩ := List.mem_map.mp hx
  exact dt_int
theorem Dt.shaped {x : PV} {k : Nat} (h : Dt x k) (hk : k ≤ 64) : ∃ e, toD x = some e ∧ SeqAt.shaped e = true := by
  obtain ⟨e, h1, h3, h4⟩ := h
  refine ⟨e, h1, ?_⟩
  unfold SeqAt.shaped
  rw [h3, decide_eq_true (by omega : e.depth ≤ 64)]
  rfl
theorem eq_dt {x y : PV} {k l : Nat} {P : PV → Prop} (hx : Dt x k) (hy : Dt y l) (p : P (.bl (peq x y))) (hk : k ≤ 64 := by decide) (hl : l ≤ 64 := by decide) : wEqD false x y P := by
  obtain ⟨a, h1, h2⟩ := hx.shaped hk
  obtain ⟨b, h3, h4⟩ := hy.shaped hl
  refine ⟨a, b, h1, h3, h2, h4, ?_⟩
  rw [if_neg Bool.false_ne_true, eqv_peq h1 h3]
  exact p
mutual
theorem peq_self : ∀ x : PV, (∃ e, toD x = some e) → peq x x = true
  | .non, _ => rfl
  | .bl b, _ => by simp [peq]
  | .int i, _ => by simp [peq]
  | .str s, _ => by simp [peq]
  | .lst xs, ⟨e, h⟩ => by
    simp only [toD, Option.map_eq_some_iff] at h
    obtain ⟨es, h, _⟩ := h
    simp only [peq]
    exact peqs_self xs ⟨es, h⟩
  | .tup xs, ⟨e, h⟩ => by
    simp only [toD, Option.map_eq_some_iff] at h
    obtain ⟨es, h, _⟩ := h
    simp only [peq]
    exact peqs_self xs ⟨es, h⟩
  | .ty _, ⟨_, h⟩ => by simp only [toD, reduceCtorEq] at h
  | .cls _, ⟨_, h⟩ => by simp only [toD, reduceCtorEq] at h
  | .ins _ _, ⟨_, h⟩ => by simp only [toD, reduceCtorEq] at h
  | .bag, ⟨_, h⟩ => by simp only [toD, reduceCtorEq] at h
  | .scr _, ⟨_, h⟩ => by simp only [toD, reduceCtorEq] at h
  | .fnv _ _, ⟨_, h⟩ => by simp only [toD, reduceCtorEq] at h
  | .dct _ _, ⟨_, h⟩ => by simp only [toD, reduceCtorEq] at h
  | .idv _ _, ⟨_, h⟩ => by simp only [toD, reduceCtorEq] at h
theorem peqs_self : ∀ xs : List PV, (∃ e, toDs xs = some e) → peqs xs xs = true
  | [], _ => rfl
  | x :: xs, ⟨e, h⟩ => by
    simp only [toDs] at h
    split at h
    · next h1 h2 =>
      simp only [peqs]
      rw [peq_self x ⟨_, h1⟩, peqs_self xs ⟨_, h2⟩]
      rfl
    · cases h
end
theorem Dt.self {x : PV} {k : Nat} (h : Dt x k) : peq x x = true := let ⟨e, h1, _⟩ := h; peq_self x ⟨e, h1⟩
theorem eq_self {x : PV} {k : Nat} {P : PV → Prop} (h : Dt x k) (p : P (.bl true)) (hk : k ≤ 64 := by decide) : wEqD false x x P := eq_dt h h (by rw [h.self]; exact p) hk hk
end Wx
namespace Wx
open PySem PySem.Spec PyProof.Rows L2 Evl Hn RZ
variable [TabC]
def Hs.Str (X : Hs) (w : Wd) (h z : Int) : Prop := ∀ l, X.lim w h = some l → if w.on = true then l ≤ z else z ≤ l
theorem at_eq {X : Hs} {bs : List Int} {v w : Wd} {h : Int} (e : v.kd = w.kd) : X.at bs v h = X.at bs w h := by
  unfold Hs.at
  rw [e]
theorem Hs.Rb.to {X : Hs} {P : Int} {v w : Wd} {h a b : Int} (R : X.Rb P v h a b) (e : v.kd = w.kd) : X.Rb P w h a b := by
  have q := fun bs => at_eq (X := X) (bs := bs) (h := h) e
  refine ⟨fun bs K s => ?_, fun bs K s => ?_, ?_, ?_⟩
  · rw [← q]; exact R.lo bs K s
  · rw [← q]; exact R.hi bs K s
  · obtain ⟨bs, K, s, m⟩ := R.atl
    exact ⟨bs, K, s, by rw [← q]; exact m⟩
  · obtain ⟨bs, K, s, m⟩ := R.ath
    exact ⟨bs, K, s, by rw [← q]; exact m⟩
theorem at_nn {X : Hs} (g : X.ok) {bs : List Int} (K : X.Keep bs) (w : Wd) (h : Int) : 0 ≤ X.at bs w h := by
  have q := keep_goodN g K
  unfold Hs.at
  split
  · exact q.nn h
  · exact th_nn q.nn h
theorem Hs.Rb.nn {X : Hs} (g : X.ok) {P : Int} {w : Wd} {h a b : Int} (R : X.Rb P w h a b) : 0 ≤ a ∧ a ≤ b := by
  obtain ⟨bs, K, s, m⟩ := R.atl
  have := at_nn g K w h
  have := R.hi bs K s
  omega
end Wx
namespace Wx
open PySem PySem.Spec PyProof.Rows L2 Evl Hn RZ
variable [TabC]
end Wx
namespace Wx
open PySem PySem.Spec PyProof.Rows L2 Evl Hn RZ
variable [TabC]
end Wx
namespace Wx
open PySem PySem.Spec PyProof.Rows L2 Evl Hn RZ
variable [TabC]
def Hs.abs (X : Hs) : Int := (X.rows.map fun t => ((X.v t).natAbs : Int)).sum
structure Hs.Lp (X : Hs) (pa pb : Int) : Prop where
  a0 : 0 ≤ pa
  b1 : 1 ≤ pb
  bn : pb ≤ X.n
  cp : Int.gcd pa pb = 1
  can : ∃ Y, X.Pt pa pb Y
  le : ∀ qa qb, 0 < qb → (∃ Y, X.Pt qa qb Y) → pa * qb ≤ qa * pb
  bd : pa ≤ X.abs * pb
inductive Hs.Nv (X : Hs) : List (List Stp4) → Prop
  | one {w : List Stp4} : X.Way w → w.length ≤ X.s.length → X.trn w = 0 → 0 < X.val w → Nv X [w]
  | two {a b : List Stp4} : X.Way a → a.length ≤ X.s.length → X.Way b → b.length ≤ X.s.length → 0 < X.trn a → X.trn b < 0 → X.val a * X.trn b < X.val b * X.trn a → Nv X [a, b]
theorem Hs.Nv.no {X : Hs} (g : X.ok) {ws : List (List Stp4)} (h : X.Nv ws) {pa pb : Int} (hb : 0 < pb) : ¬ ∃ Y, X.Pt pa pb Y := fun ⟨Y, c⟩ => by
  cases h with
  | @one w W _ t v =>
    have := W.pt g c
    rw [t, Int.mul_zero] at this
    have := Int.mul_pos hb v
    omega
  | @two a b A _ B _ ta tb v =>
    have h1 := A.pt g c
    have h2 := B.pt g c
    have k1 : pb * X.val a * (-X.trn b) ≤ pa * X.trn a * (-X.trn b) := Int.mul_le_mul_of_nonneg_right h1 (by omega)
    have k2 : pb * X.val b * X.trn a ≤ pa * X.trn b * X.trn a := Int.mul_le_mul_of_nonneg_right h2 (by omega)
    have k3 : pb * (X.val a * X.trn b) < pb * (X.val b * X.trn a) := Int.mul_lt_mul_of_pos_left v hb
    have e1 : pb * X.val a * (-X.trn b) = -(pb * (X.val a * X.trn b)) := by rw [Int.mul_neg, Int.mul_assoc]
    have e2 : pb * X.val b * X.trn a = pb * (X.val b * X.trn a) := by rw [Int.mul_assoc]
    have e3 : pa * X.trn a * (-X.trn b) = -(pa * X.trn b * X.trn a) := by rw [Int.mul_neg, Int.mul_assoc, Int.mul_comm (X.trn a), ← Int.mul_assoc]
    omega
structure Hs.Ps (X : Hs) (pa pb : Int) (low : List Stp4) : Prop where
  a0 : 0 ≤ pa
  b1 : 1 ≤ pb
  bn : pb ≤ X.n
  cp : Int.gcd pa pb = 1
  bd : pa ≤ X.abs * pb
  way : X.Way low
  len : low.length ≤ X.s.length
  tn : 0 < X.trn low
  lo : pa * X.trn low ≤ pb * X.val low
end Wx
namespace Wx
variable [TabC]
theorem seq_two {a b : WS} {D : WEnds} {ρ : List PV} (I : List PV → Prop) (h1 : ∀ N : List PV → Prop, (∀ ρ', I ρ' → N ρ') → a { D with nx := N } ρ) (h2 : ∀ ρ', I ρ' → b D ρ') : wSeq a b D ρ := h1 (b D) fun _ q => h2 _ q
end Wx
namespace Wx
open PySem PySem.Spec PyProof.Rows L2 Evl Hn RZ
variable [TabC]
section
variable [XC]
variable {K : PySem.W.Frag} {d : Cn → Addr} {F F' F0 F1 : Fz} {H H' H0 : Hp} {ts ts' bt ct : List Tag} {te : TE} {we : WE} {ta : TA} {wa : WA} {v u : V} {R : RR}
def wDct (kvs : List (Key × Int)) : WE := fun _ P => ∀ a, P (.dct a kvs)
theorem fin_dct {p : Addr} {kvs : List (Key × Int)} {Q : VK} {P : PV → Prop} (dm : Dom F H) (n : H p = none) (pp : P (.dct p kvs)) (k : ∀ z v' F' H', Step F H F' H' → rN K d F H F' H' v' z → P z → Q v' H') : Q (.ref p) (upd H p (.dK (dkV kvs))) := by
  have s0 := Step.new (o := .dK (dkV kvs)) dm n
  refine k (.dct p kvs) _ (fun a => F a ∨ a = p) _ ⟨s0.ex, fun a h => .inl h, fun a h => h.elim .inl fun e => .inr (e ▸ n), s0.dm.of fun a h => ?_⟩ (.inl ⟨trivial, .dct upd_same (.inr rfl)⟩) pp
  rcases h with h | rfl
  · exact s0.dm.at_ a h
  · rw [upd_same]; intro z; cases z
theorem sim_dct0 : Sim K d (rN K d) ts tDNewK (wDct []) := fun H0 F0 F H σ ρ Q P E hw k => fun p np => fin_dct E.dm np (hw p) k
def tKs (kvs : List (Key × Int)) : List (TE × TE) := kvs.map fun p => (tC (kV p.1), tC (.int p.2))
theorem tKs_run : ∀ {kvs : List (Key × Int)} {σ : L2.St} {H : Hp} {Q : List (V × V) → Hp → Prop}, Q (kvs.map fun p => (kV p.1, V.int p.2)) H → tPairs (tKs kvs) σ H Q
  | [], _, _, _, q => q
  | (k, i) :: r, _, _, _, q => tKs_run (kvs := r) q
theorem sim_dct {kvs : List (Key × Int)} (hl : kvs.length ≤ 15 := by decide) (hm : mergeK [] (dkV kvs) = dkV kvs := by rfl) : Sim K d (rN K d) ts (tDisp (tKs kvs)) (wDct kvs) := fun H0 F0 F H σ ρ Q P E hw k => fun p np =>
  tKs_run ⟨upd_same, dkV kvs, by simp [dkV], by simpa [dkV] using hl, by
    have e : upd (upd H p (.dK [])) p (.dK (mergeK [] (dkV kvs))) = upd H p (.dK (dkV kvs)) := by
      rw [hm]
      funext a
      by_cases h : a = p
      · rw [h, upd_same, upd_same]
      · rw [upd_ne h, upd_ne h, upd_ne h]
    rw [e]
    exact fin_dct E.dm np (hw p) k⟩
def insC : PV → Option Cn
  | .ins c _ => some c
  | .idv _ (.ins c _) => some c
  | _ => none
structure KiOk (K : PySem.W.Frag) (d : Cn → Addr) (ps : List (Cn × String)) : Prop where
  ok : ∀ p ∈ ps, IsC K (d p.1) ∧ PySem.W.kitOne K (.ref (d p.1)) (.type p.2) = some false
theorem ki_nil : KiOk K d [] := ⟨fun _ h => nomatch h⟩
theorem ki_cons {C : Addr} {c : Cn} {b : String} {ps : List (Cn × String)} (h : IsC K C) (k : PySem.W.kitOne K (.ref C) (.type b) = some false) (r : KiOk K d ps) (e : d c = C := by rfl) : KiOk K d ((c, b) :: ps) := by
  subst e
  refine ⟨fun p hp => ?_⟩
  rcases List.mem_cons.mp hp with rfl | hp
  · exact ⟨h, k⟩
  · exact r.ok p hp
theorem insC_ty {x : PV} {c : Cn} (h : Rw K d F H v x) (e : insC x = some c) (i : IsC K (d c)) : TyX K H v (.ref (d c)) := by
  unfold insC at e
  split at e
  · cases e
    obtain ⟨p, dx, gs, rfl, h1, _⟩ := h.insE
    exact .base (.ins h1 i.cl i.ha i.hn i.tk i.mr)
  · cases e
    obtain ⟨rfl, h2⟩ := h.idvE
    obtain ⟨p, dx, gs, e, h1, _⟩ := Rw.insE (.inl h2)
    cases e
    exact .base (.ins h1 i.cl i.ha i.hn i.tk i.mr)
  · cases e
def wIsiG (ps : List (Cn × String)) : WC := fun xs P => ∃ x b, xs = [x, .ty b] ∧ ((∃ c, insC x = some c ∧ (c, b) ∈ ps ∧ P (.bl false)) ∨ ∃ a k, tyP x = some a ∧ kitB a b = some k ∧ P (.bl k))
theorem cas_isiG {ps : List (Cn × String)} (ki : KiOk K d ps) : CaS K d (rN K d) (rIsi K) (wIsiG ps) := fun F H vs xs Q P dm r h k => by
  obtain ⟨x, b, rfl, h⟩ := h
  obtain ⟨v, u, rfl, r1, r2⟩ := r.two
  cases r2.tyE
  rcases h with ⟨c, h1, h2, h3⟩ | ⟨a, l, h1, h2, h3⟩
  · obtain ⟨i, hk⟩ := ki.ok _ h2
    exact ⟨v, _, _, _, false, rfl, .ty _, insC_ty r1 h1 i, hk, fin_val dm (.bl _) h3 k⟩
  · exact ⟨v, _, _, _, l, rfl, .ty _, tyP_ok r1 h1, kit_ty h2, fin_val dm (.bl _) h3 k⟩
def EqC (K : PySem.W.Frag) (H : Hp) (E : V → V → Prop) (x y : V) : Prop := ∃ a b xs ys, x = .ref a ∧ y = .ref b ∧ ((SqL K H a xs ∧ SqL K H b ys) ∨ (SqT K H a xs ∧ SqT K H b ys)) ∧ Paired E xs ys
def EqN (K : PySem.W.Frag) (H : Hp) : Nat → V → V → Prop
  | 0 => fun _ _ => False
  | n + 1 => fun x y => (x = y ∧ flatB x = true) ∨ (∃ a, x = .ref a ∧ y = .ref a) ∨ EqC K H (EqN K H n) x y
end
section
theorem items_at {A : Around} {s : Shared} {F : V → V → Prop} (ih : ∀ x y v u, F x y → RelV x v → RelV y u → SeqAt.EqAt A s v u true) {xs ys : List V} (hp : Paired F xs ys) :
    ∀ {us ws : List Value}, Vals xs us → Vals ys ws → ∀ j (h1 : j < us.length) (h2 : j < ws.length), SeqAt.EqAt A s us[j] ws[j] true := by
  induction hp with
  | nil =>
    intro us ws r1 r2 j h1 h2
    cases r1
    exact absurd h1 (Nat.not_lt_zero j)
  | cons h _ k =>
    intro us ws r1 r2 j h1 h2
    cases r1 with
    | cons a1 b1 =>
      cases r2 with
      | cons a2 b2 =>
        cases j with
        | zero => exact ih _ _ _ _ h a1 a2
        | succ j => exact k b1 b2 j (Nat.lt_of_succ_lt_succ h1) (Nat.lt_of_succ_lt_succ h2)
variable {X : Cx} {pins : List (Addr × Obj)} {σ : L2.St} {H : Hp} {s : Shared}
theorem eqC_run (I : Inv X pins σ H s) {A : Around} {F : V → V → Prop} (hu : A.units < cLine) (ih : ∀ x y v u, F x y → RelV x v → RelV y u → SeqAt.EqAt A.in1 s v u true) {x y : V} {v u : Value} (h : EqC X.K H F x y) (rx : RelV x v) (ry : RelV y u) :
    SeqAt.RcAt A s v u true ∧ SeqAt.RcNeAt A s v u false := by
  obtain ⟨a, b, xs, ys, rfl, rfl, h, hp⟩ := h
  cases (show v = Value.ref a from rx)
  cases (show u = Value.ref b from ry)
  have al : ∀ n : Nat, ((List.range n).all fun _ => true) = true := fun n => List.all_eq_true.mpr fun _ _ => rfl
  rcases h with ⟨ha, hb⟩ | ⟨ha, hb⟩
  · obtain ⟨us, r1, p1, _⟩ := I.list ha
    obtain ⟨ws, r2, p2, _⟩ := I.list hb
    have hsz : us.toArray.size = ws.toArray.size := by
      rw [List.size_toArray, List.size_toArray, ← r1.length, ← r2.length]
      exact Paired.length hp
    have he : ∀ j (h1 : j < us.toArray.size) (h2 : j < ws.toArray.size), SeqAt.EqAt A.in1 s us.toArray[j] ws.toArray[j] ((fun _ => true) j) := fun j h1 h2 => by
      have k := items_at ih hp r1 r2 j (by simpa using h1) (by simpa using h2)
      simpa using k
    have k1 := SeqAt.RcAt.lists (e := fun _ => true) p1.isList p2.isList hsz hu he
    have k2 := SeqAt.RcNeAt.lists (e := fun _ => true) p1.isList p2.isList hsz hu he
    rw [al] at k1 k2
    exact ⟨k1, k2⟩
  · obtain ⟨us, r1, p1, _⟩ := I.tuple ha
    obtain ⟨ws, r2, p2, _⟩ := I.tuple hb
    have hsz : us.toArray.size = ws.toArray.size := by
      rw [List.size_toArray, List.size_toArray, ← r1.length, ← r2.length]
      exact Paired.length hp
    have he : ∀ j (h1 : j < us.toArray.size) (h2 : j < ws.toArray.size), SeqAt.EqAt A.in1 s us.toArray[j] ws.toArray[j] ((fun _ => true) j) := fun j h1 h2 => by
      have k := items_at ih hp r1 r2 j (by simpa using h1) (by simpa using h2)
      simpa using k
    have k1 := SeqAt.RcAt.tuples (e := fun _ => true) p1 p2 hu he
    have k2 := SeqAt.RcNeAt.tuples (e := fun _ => true) p1 p2 hu he
    rw [al, hsz] at k1 k2
    simp only [beq_self_eq_true, Bool.and_self, Bool.not_true] at k1 k2
    exact ⟨k1, k2⟩
theorem eqN_run (I : Inv X pins σ H s) : ∀ (n : Nat) (A : Around), A.units + n < cLine → ∀ (x y : V) (v u : Value), EqN X.K H n x y → RelV x v → RelV y u → SeqAt.EqAt A s v u true
  | 0, _, _, _, _, _, _, h, _, _ => (show False from h).elim
  | n + 1, A, hu, x, y, v, u, h, rx, ry => by
    rcases h with ⟨rfl, f⟩ | ⟨a, rfl, rfl⟩ | h
    · exact eqAt_same rx ry f
    · cases (show v = Value.ref a from rx)
      cases (show u = Value.ref a from ry)
      exact SeqAt.EqAt.same _
    · have step := eqC_run I (A := A) (by omega) (eqN_run I n A.in1 (by show A.units + 1 + n < cLine; omega)) h rx ry
      obtain ⟨a, b, _, _, rfl, rfl, _⟩ := h
      cases (show v = Value.ref a from rx)
      cases (show u = Value.ref b from ry)
      by_cases e : a = b
      · subst e
        exact SeqAt.EqAt.same _
      · exact SeqAt.EqAt.of_refs e step.1
end
section
variable {X : Cx} {K : PySem.W.Frag}
def rEqT (K : PySem.W.Frag) : R2 := fun x y H Q => ∃ n, n ≤ 60 ∧ EqC K H (EqN K H n) x y ∧ Q (.bl true) H
def rNeT (K : PySem.W.Frag) : R2 := fun x y H Q => ∃ n, n ≤ 60 ∧ EqC K H (EqN K H n) x y ∧ Q (.bl false) H
theorem op_eqT (hu : X.A.units + 64 < cLine) : OpR X (compareOp .Eq) (rEqT X.K) := by
  intro pins s σ H x y v u Q I rx ry h
  obtain ⟨n, hn, h, q⟩ := h
  exact (eqC_run I (A := X.A) (by omega) (eqN_run I n X.A.in1 (by show X.A.units + 1 + n < cLine; omega)) h rx ry).1 _ _ _ _ ⟨.bl true, H, I, rfl, q⟩
theorem op_neT (hu : X.A.units + 64 < cLine) : OpR X (compareOp .NotEq) (rNeT X.K) := by
  intro pins s σ H x y v u Q I rx ry h
  obtain ⟨n, hn, h, q⟩ := h
  exact (eqC_run I (A := X.A) (by omega) (eqN_run I n X.A.in1 (by show X.A.units + 1 + n < cLine; omega)) h rx ry).2 _ _ _ _ ⟨.bl false, H, I, rfl, q⟩
def rEqG (K : PySem.W.Frag) : R2 := orR (rEqU K) (rEqT K)
def rNeG (K : PySem.W.Frag) : R2 := orR (rNeU K) (rNeT K)
theorem u_eqG (h : X.K = K) (hu : X.A.units + 64 < cLine) : OpR X (compareOp .Eq) (rEqG K) := h ▸ op_or (u_eq rfl hu) (op_eqT hu)
theorem u_neG (h : X.K = K) (hu : X.A.units + 64 < cLine) : OpR X (compareOp .NotEq) (rNeG K) := h ▸ op_or (u_ne rfl hu) (op_neT hu)
end
section
variable [XC]
variable {K : PySem.W.Frag} {d : Cn → Addr} {F F' F0 F1 : Fz} {H H' H0 : Hp} {ts ts' bt ct : List Tag} {te : TE} {we : WE} {ta : TA} {wa : WA} {v u : V} {R : RR}
def EqCP (E : PV → PV → Prop) (x y : PV) : Prop := ∃ xs ys, ((x = .lst xs ∧ y = .lst ys) ∨ (x = .tup xs ∧ y = .tup ys)) ∧ Paired E xs ys
def EqNP : Nat → PV → PV → Prop
  | 0 => fun _ _ => False
  | n + 1 => fun x y => (∃ w, flatP x = some w ∧ flatP y = some w) ∨ (∃ a k l, x = .dct a k ∧ y = .dct a l) ∨ (∃ a z w, x = .idv a z ∧ y = .idv a w) ∨ EqCP (EqNP n) x y
theorem eqC_of {E : V → V → Prop} {G : PV → PV → Prop} (ih : ∀ v u x y, G x y → Rv K d F H v x → Rv K d F H u y → E v u) {x y : PV} (h : EqCP G x y) (r1 : Rw K d F H v x) (r2 : Rw K d F H u y) : EqC K H E v u := by
  obtain ⟨xs, ys, h, hp⟩ := h
  have pr : ∀ {xs ys : List PV}, Paired G xs ys → ∀ {vs us : List V}, Rvs K d F H vs xs → Rvs K d F H us ys → Paired E vs us := by
    intro xs ys hp
    induction hp with
    | nil => intro vs us q1 q2; cases q1; cases q2; exact .nil
    | cons h _ k => intro vs us q1 q2; cases q1 with
      | cons a1 b1 => cases q2 with
        | cons a2 b2 => exact .cons (ih _ _ _ _ h a1 a2) (k b1 b2)
  rcases h with ⟨rfl, rfl⟩ | ⟨rfl, rfl⟩
  · obtain ⟨p, vs, rfl, g1, g2⟩ := r1.lst
    obtain ⟨q, us, rfl, g3, g4⟩ := r2.lst
    exact ⟨p, q, vs, us, rfl, rfl, .inl ⟨.inl (.inl g1), .inl (.inl g3)⟩, pr hp g2 g4⟩
  · obtain ⟨p, vs, rfl, g1, g2⟩ := r1.tupE
    obtain ⟨q, us, rfl, g3, g4⟩ := r2.tupE
    exact ⟨p, q, vs, us, rfl, rfl, .inr ⟨g1, g3⟩, pr hp g2 g4⟩
theorem eqN_of : ∀ (n : Nat) (v u : V) (x y : PV), EqNP n x y → Rv K d F H v x → Rv K d F H u y → EqN K H n v u
  | 0, _, _, _, _, h, _, _ => (show False from h).elim
  | n + 1, v, u, x, y, h, r1, r2 => by
    rcases h with ⟨w, h1, h2⟩ | ⟨a, k, l, rfl, rfl⟩ | ⟨a, z, w, rfl, rfl⟩ | h
    · cases r1.flat h1
      cases r2.flat h2
      refine .inl ⟨rfl, ?_⟩
      have := flatP_V h1
      cases v <;> first | rfl | cases this
    · obtain ⟨rfl, _⟩ := (show Rw K d F H _ _ from .inl r1).dctE
      obtain ⟨rfl, _⟩ := (show Rw K d F H _ _ from .inl r2).dctE
      exact .inr (.inl ⟨a, rfl, rfl⟩)
    · obtain ⟨rfl, _⟩ := (show Rw K d F H _ _ from .inl r1).idvE
      obtain ⟨rfl, _⟩ := (show Rw K d F H _ _ from .inl r2).idvE
      exact .inr (.inl ⟨a, rfl, rfl⟩)
    · exact .inr (.inr (eqC_of (eqN_of n) h (.inl r1) (.inl r2)))
def wEqT (neg : Bool) : W2 := fun x y P => ∃ n, n ≤ 60 ∧ EqCP (EqNP n) x y ∧ P (.bl !neg)
def wEqG : W2 := fun x y P => wEq x y P ∨ wEqT false x y P
def wNeG : W2 := fun x y P => wNe x y P ∨ wEqT true x y P
theorem ops_eqG : OpS K d (rN K d) (rEqG K) wEqG := fun F H v u x y Q P dm rx ry h k => by
  rcases h with h | ⟨n, hn, h, p⟩
  · exact .inl (ops_eq F H v u x y Q P dm rx ry h k)
  · exact .inr ⟨n, hn, eqC_of (eqN_of n) h rx ry, fin_val dm (.bl _) p k⟩
theorem ops_neG : OpS K d (rN K d) (rNeG K) wNeG := fun F H v u x y Q P dm rx ry h k => by
  rcases h with h | ⟨n, hn, h, p⟩
  · exact .inl (ops_ne F H v u x y Q P dm rx ry h k)
  · exact .inr ⟨n, hn, eqC_of (eqN_of n) h rx ry, fin_val dm (.bl _) p k⟩
end
section
theorem smB_ok {K : PySem.W.Frag} (h : smB K = true) : ∃ o, K.lookup sysModules = some o ∧ o.cls = .type "dict" := by
  unfold smB at h
  split at h
  · rename_i q
    exact ⟨_, q, rfl⟩
  · cases h
def keyD : Key → PyData
  | .inl i => .int i
  | .inr x => .str x
def kvD (kvs : List (Key × Int)) : List (PyData × PyData) := kvs.map fun p => (keyD p.1, .int p.2)
mutual
inductive Dg (K : PySem.W.Frag) (H : Hp) : V → PyData → Prop
  | non : Dg K H .non .none
  | bl (b : Bool) : Dg K H (.bl b) (.bool b)
  | int (i : Int) : Dg K H (.int i) (.int i)
  | str (x : Str) : Dg K H (.str x) (.str x)
  | lst {a : Addr} {xs : List V} {ds : List PyData} : SqL K H a xs → DgAll K H xs ds → Dg K H (.ref a) (.list ds)
  | tup {a : Addr} {xs : List V} {ds : List PyData} : SqT K H a xs → DgAll K H xs ds → Dg K H (.ref a) (.tuple ds)
  | dct {a : Addr} {kvs : List (Key × Int)} : H a = some (.dK (dkV kvs)) → Dg K H (.ref a) (.dict (kvD kvs))
inductive DgAll (K : PySem.W.Frag) (H : Hp) : List V → List PyData → Prop
  | nil : DgAll K H [] []
  | cons {v : V} {vs : List V} {d : PyData} {ds : List PyData} : Dg K H v d → DgAll K H vs ds → DgAll K H (v :: vs) (d :: ds)
end
theorem reads_keys {P : Program} {w : World} {h : Heap} : ∀ {kvs : List (Key × Int)} {vs : List (Key × Value)} {es : List DictEntry}, KV (dkV kvs) vs → Pairs (mixKind P w) es vs →
    ReadsAll h (es.map (·.key)) ((kvD kvs).map (·.1)) [] ∧ ReadsAll h (es.map (·.val)) ((kvD kvs).map (·.2)) []
  | [], _, _, hk, hp => by
    cases hk
    cases hp
    exact ⟨.nil, .nil⟩
  | (k, i) :: r, vs, es, hk, hp => by
    cases hk with
    | @cons _ kv _ vs h t =>
    cases hp with
    | @cons e _ es _ q1 q2 q3 =>
    obtain ⟨a, b⟩ := reads_keys t q3
    obtain ⟨h1, h2⟩ := h
    obtain ⟨tk, h2⟩ := (show ∃ t, kv.2 = Value.int i t from h2)
    have h1 : k = kv.1 := h1
    rw [← h1] at q1
    rw [h2] at q2
    refine ⟨?_, ?_⟩
    · rcases keyIs_shape q1 with ⟨j, t, rfl, e1⟩ | ⟨x, t, rfl, e1⟩
      · show ReadsAll _ (e.key :: _) (PyData.int j :: _) []
        rw [e1]
        exact .cons (Reads.int j t) a
      · show ReadsAll _ (e.key :: _) (PyData.str x :: _) []
        rw [e1]
        exact .cons (Reads.str x t) a
    · show ReadsAll _ (e.val :: _) (PyData.int i :: _) []
      rw [q2]
      exact .cons (Reads.int i tk) b
variable {X : Cx} {pins : List (Addr × Obj)} {σ : L2.St} {H : Hp} {s : Shared}
mutual
theorem Dg.reads (I : Inv X pins σ H s) (hm : ∃ o, s.heap.get? sysModules = some o ∧ o.cls = .type "dict") : ∀ (d : PyData) (v : V) (u : Value), Dg X.K H v d → RelV v u → ∃ as, Reads s.heap u d as ∧ sysModules ∉ as
  | .none, _, _, h, r => by
    cases h
    cases r
    exact ⟨_, Reads.none, List.not_mem_nil⟩
  | .bool b, _, _, h, r => by
    cases h
    cases r
    exact ⟨_, Reads.bool b, List.not_mem_nil⟩
  | .int i, _, _, h, r => by
    cases h
    obtain ⟨t, rfl⟩ := r
    exact ⟨_, Reads.int i t, List.not_mem_nil⟩
  | .str x, _, _, h, r => by
    cases h
    obtain ⟨t, rfl⟩ := r
    exact ⟨_, Reads.str x t, List.not_mem_nil⟩
  | .list ds, _, _, h, r => by
    cases h with
    | lst hs ha =>
      cases r
      obtain ⟨its, rv, ⟨o, n, ho, hc, _, hd⟩, _⟩ := I.list hs
      obtain ⟨as, hr, nm⟩ := Dg.readsAll I hm ds _ its ha rv
      refine ⟨_, Reads.list ho hc hd hr, fun z => ?_⟩
      rcases List.mem_cons.mp z with e | z
      · obtain ⟨q, q1, q2⟩ := hm
        rw [e, ho] at q1
        cases q1
        rw [hc] at q2
        injection q2 with e2
        exact absurd e2 (by decide)
      · exact nm z
  | .tuple ds, _, _, h, r => by
    cases h with
    | tup hs ha =>
      cases r
      obtain ⟨its, rv, ⟨o, ho, hc, n, hd⟩, _⟩ := I.tuple hs
      obtain ⟨as, hr, nm⟩ := Dg.readsAll I hm ds _ its ha rv
      exact ⟨_, Reads.tuple ho hc hd hr, nm⟩
  | .dict ks, _, _, h, r => by
    cases h with
    | @dct a kvs e =>
      cases r
      obtain ⟨_, ya, va, ra, o, es, ep, h1, h2, h3, _, h4, _⟩ := (show ObjOk X.prog X.w H s.heap a (.dK (dkV kvs)) from I.hok a _ e)
      obtain ⟨g1, g2⟩ := reads_keys (h := s.heap) ra h4
      refine ⟨_, Reads.dict h1 h2.1 h3 g1 g2, fun z => ?_⟩
      rcases List.mem_cons.mp z with e | z
      · rw [← e] at ya
        simp at ya
      · simp at z
theorem Dg.readsAll (I : Inv X pins σ H s) (hm : ∃ o, s.heap.get? sysModules = some o ∧ o.cls = .type "dict") : ∀ (ds : List PyData) (vs : List V) (us : List Value), DgAll X.K H vs ds → Vals vs us → ∃ as, ReadsAll s.heap us ds as ∧ sysModules ∉ as
  | [], _, _, h, r => by
    cases h
    cases r
    exact ⟨_, ReadsAll.nil, List.not_mem_nil⟩
  | d :: ds, _, _, h, r => by
    cases h with
    | cons h1 h2 =>
      cases r with
      | cons r1 r2 =>
        obtain ⟨as, q1, n1⟩ := Dg.reads I hm d _ _ h1 r1
        obtain ⟨bs, q2, n2⟩ := Dg.readsAll I hm ds _ _ h2 r2
        exact ⟨_, ReadsAll.cons q1 q2, fun z => (List.mem_append.mp z).elim n1 n2⟩
end
end
section
def rReprG (K : PySem.W.Frag) : List V → Hp → VK → Prop := fun vs H Q => smB K = true ∧ ∃ x d, vs = [x] ∧ Dg K H x d ∧ d.showable = true ∧ d.depth ≤ 64 ∧ d.shown.length ≤ 12900041 ∧ Q (.str d.shown) H
variable {X : Cx} {K : PySem.W.Frag} {k : Nat}
theorem k_reprG (hK : X.K = K) (hg : X.A.guards = some []) (hr : Room k X.A) : CallR X (.builtin "repr") (rReprG K) := by
  subst hK
  intro pins s σ H vs us Q I r h
  obtain ⟨hsm, x, d, rfl, hd, hs, hdp, hz, q⟩ := h
  obtain ⟨mo, m1, m2⟩ := smB_ok hsm
  obtain ⟨u, rfl, ru⟩ := r.one
  obtain ⟨as, rd, nm⟩ := Dg.reads I ⟨mo, I.kIn _ _ m1, m2⟩ d x u hd ru
  have un := hr.un
  have line : (12900041 : Nat) ≤ sizeLine := by decide
  have go : ∀ h' t' tk, (∀ b o, s.heap.get? b = some o → h'.get? b = some o) → EP X pins σ Q (.str d.shown t') { s with heap := h', toks := tk } := fun h' t' tk hk => ⟨.str d.shown, H, I.kept hk, ⟨_, rfl⟩, q⟩
  cases hd with
  | non => cases ru; exact PySem.P.repr_of_none (go s.heap _ _ fun _ _ e => e)
  | bl b =>
    cases ru
    refine PySem.P.repr_of_bool ?_
    have := go s.heap s.toks (s.toks + 1) fun _ _ e => e
    simp only [PyData.shown] at this
    cases b <;> exact this
  | int i =>
    obtain ⟨t, rfl⟩ := ru
    simp only [PyData.showable, decide_eq_true_eq] at hs
    refine PySem.P.repr_of_int hs ?_
    have := go s.heap s.toks (s.toks + 1) fun _ _ e => e
    simp only [PyData.shown] at this
    exact this
  | str y =>
    obtain ⟨t, rfl⟩ := ru
    simp only [PyData.shown] at go hz
    exact PySem.P.repr_of_str (go s.heap _ _ fun _ _ e => e) (by omega)
  | lst a b =>
    cases ru
    exact repr_of_reads' rd hs (fun _ => nm) hg (by omega) (fun _ _ e => e) go (by omega)
  | tup a b =>
    cases ru
    exact repr_of_reads' rd hs (fun _ => nm) hg (by omega) (fun _ _ e => e) go (by omega)
  | dct a =>
    cases ru
    exact repr_of_reads' rd hs (fun _ => nm) hg (by omega) (fun _ _ e => e) go (by omega)
end
mutual
def toG : PV → Option PyData
  | .non => some .none
  | .bl b => some (.bool b)
  | .int i => some (.int i)
  | .str x => some (.str x)
  | .lst xs => (toGs xs).map PyData.list
  | .tup xs => (toGs xs).map PyData.tuple
  | .dct _ kvs => some (.dict (kvD kvs))
  | .ty _ => none
  | .cls _ => none
  | .ins _ _ => none
  | .bag => none
  | .scr _ => none
  | .fnv _ _ => none
  | .idv _ _ => none
def toGs : List PV → Option (List PyData)
  | [] => some []
  | x :: xs => match toG x, toGs xs with
    | some a, some b => some (a :: b)
    | _, _ => none
end
theorem toGs_cons {x : PV} {xs : List PV} {es : List PyData} (h : toGs (x :: xs) = some es) : ∃ a b, toG x = some a ∧ toGs xs = some b ∧ es = a :: b := by
  simp only [toGs] at h
  split at h
  · cases h
    exact ⟨_, _, by assumption, by assumption, rfl⟩
  · cases h
mutual
theorem toD_G : ∀ {x : PV} {e : PyData}, toD x = some e → toG x = some e
  | .non, _, h => by simp only [toD] at h; simp only [toG]; exact h
  | .bl _, _, h => by simp only [toD] at h; simp only [toG]; exact h
  | .int _, _, h => by simp only [toD] at h; simp only [toG]; exact h
  | .str _, _, h => by simp only [toD] at h; simp only [toG]; exact h
  | .lst xs, _, h => by
    simp only [toD, Option.map_eq_some_iff] at h
    obtain ⟨es, h, rfl⟩ := h
    simp only [toG, toDs_G h, Option.map_some]
  | .tup xs, _, h => by
    simp only [toD, Option.map_eq_some_iff] at h
    obtain ⟨es, h, rfl⟩ := h
    simp only [toG, toDs_G h, Option.map_some]
  | .dct _ _, _, h => by simp only [toD, reduceCtorEq] at h
  | .ty _, _, h => by simp only [toD, reduceCtorEq] at h
  | .cls _, _, h => by simp only [toD, reduceCtorEq] at h
  | .ins _ _, _, h => by simp only [toD, reduceCtorEq] at h
  | .bag, _, h => by simp only [toD, reduceCtorEq] at h
  | .scr _, _, h => by simp only [toD, reduceCtorEq] at h
  | .fnv _ _, _, h => by simp only [toD, reduceCtorEq] at h
  | .idv _ _, _, h => by simp only [toD, reduceCtorEq] at h
theorem toDs_G : ∀ {xs : List PV} {es : List PyData}, toDs xs = some es → toGs xs = some es
  | [], _, h => by simp only [toDs] at h; simp only [toGs]; exact h
  | x :: xs, _, h => by
    simp only [toDs] at h
    split at h
    · next h1 h2 =>
      cases h
      simp only [toGs, toD_G h1, toDs_G h2]
    · cases h
end
section
variable [XC]
variable {K : PySem.W.Frag} {d : Cn → Addr} {F F' F0 F1 : Fz} {H H' H0 : Hp} {ts ts' bt ct : List Tag} {te : TE} {we : WE} {ta : TA} {wa : WA} {v u : V} {R : RR}
mutual
theorem Rv.dg : ∀ {v : V} {x : PV} {e : PyData}, Rv K d F H v x → toG x = some e → Dg K H v e
  | _, _, e, .non, h => by simp only [toG] at h; cases h; exact .non
  | _, _, e, .bl b, h => by simp only [toG] at h; cases h; exact .bl b
  | _, _, e, .int b, h => by simp only [toG] at h; cases h; exact .int b
  | _, _, e, .str b, h => by simp only [toG] at h; cases h; exact .str b
  | _, _, e, .lst h1 h2 h3, h => by
    simp only [toG, Option.map_eq_some_iff] at h
    obtain ⟨ds, hd, rfl⟩ := h
    exact .lst (.inl (.inl h1)) (Rvs.dg h3 hd)
  | _, _, e, .tup h1 h3, h => by
    simp only [toG, Option.map_eq_some_iff] at h
    obtain ⟨ds, hd, rfl⟩ := h
    exact .tup h1 (Rvs.dg h3 hd)
  | _, _, e, .dct h1 _, h => by simp only [toG] at h; cases h; exact .dct h1
  | _, _, e, .ty n, h => by simp only [toG, reduceCtorEq] at h
  | _, _, e, .cls n, h => by simp only [toG, reduceCtorEq] at h
  | _, _, e, .ins _ _, h => by simp only [toG, reduceCtorEq] at h
  | _, _, e, .bag _, h => by simp only [toG, reduceCtorEq] at h
  | _, _, e, .scr _ _, h => by simp only [toG, reduceCtorEq] at h
  | _, _, e, .fnv _ _, h => by simp only [toG, reduceCtorEq] at h
  | _, _, e, .idv _, h => by simp only [toG, reduceCtorEq] at h
theorem Rvs.dg : ∀ {vs : List V} {xs : List PV} {es : List PyData}, Rvs K d F H vs xs → toGs xs = some es → DgAll K H vs es
  | _, _, es, .nil, h => by simp only [toGs] at h; cases h; exact .nil
  | _, _, es, .cons (x := x) (xs := xs) a b, h => by
    obtain ⟨q, qs, e1, e2, rfl⟩ := toGs_cons h
    exact .cons (Rv.dg a e1) (Rvs.dg b e2)
end
theorem Rw.dg {x : PV} {e : PyData} (h : Rw K d F H v x) (he : toG x = some e) : Dg K H v e := by
  rcases h with h | ⟨p, vs, xs, rfl, rfl, h1, h2⟩
  · exact h.dg he
  · simp only [toG, Option.map_eq_some_iff] at he
    obtain ⟨ds, hd, rfl⟩ := he
    exact .lst (.inl (.inl h1)) (h2.dg hd)
def wReprG : WC := fun xs P => ∃ x e, xs = [x] ∧ toG x = some e ∧ e.showable = true ∧ e.depth ≤ 64 ∧ e.shown.length ≤ 12900041 ∧ P (.str e.shown)
theorem cas_reprG (hs : smB K = true) : CaS K d (rN K d) (rReprG K) wReprG := fun F H vs xs Q P dm r h k => by
  obtain ⟨x, e, rfl, h1, h3, h4, h5, h6⟩ := h
  obtain ⟨v, rfl, r1⟩ := r.one
  exact ⟨hs, v, e, rfl, r1.dg h1, h3, h4, h5, fin_val dm (.str _) h6 k⟩
end
structure FineG (d : PyData) (w : Nat) : Prop where
  sh : d.showable = true
  ls : d.leavesShort 64 = true
  wt : d.weight ≤ w
theorem FineG.len {d : PyData} {w : Nat} (h : FineG d w) (hw : w ≤ 190000) : d.shown.length ≤ 12900041 := by
  have e := PyData.shown_le 64 (by decide) d h.ls
  have := h.wt
  omega
mutual
theorem ls_mono : ∀ d : PyData, d.leavesShort 41 = true → d.leavesShort 64 = true
  | .none, _ => rfl
  | .bool _, _ => rfl
  | .int i, h => by
    simp only [PyData.leavesShort, decide_eq_true_eq] at h ⊢
    omega
  | .str x, h => by
    simp only [PyData.leavesShort] at h ⊢
    exact h
  | .list xs, h => by
    simp only [PyData.leavesShort] at h ⊢
    exact ls_monos xs h
  | .tuple xs, h => by
    simp only [PyData.leavesShort] at h ⊢
    exact ls_monos xs h
  | .dict kvs, h => by
    simp only [PyData.leavesShort] at h ⊢
    exact ls_monok kvs h
theorem ls_monos : ∀ ds : List PyData, PyData.leavesShortAll 41 ds = true → PyData.leavesShortAll 64 ds = true
  | [], _ => rfl
  | d :: ds, h => by
    simp only [PyData.leavesShortAll, Bool.and_eq_true] at h ⊢
    exact ⟨ls_mono d h.1, ls_monos ds h.2⟩
theorem ls_monok : ∀ ds : List (PyData × PyData), PyData.leavesShortKv 41 ds = true → PyData.leavesShortKv 64 ds = true
  | [], _ => rfl
  | (a, b) :: ds, h => by
    simp only [PyData.leavesShortKv, Bool.and_eq_true] at h ⊢
    exact ⟨⟨ls_mono a h.1.1, ls_mono b h.1.2⟩, ls_monok ds h.2⟩
end
def shG (x : PV) : Str := ((toG x).getD .none).shown
def PvG (x : PV) (w k : Nat) : Prop := ∃ e, toG x = some e ∧ FineG e w ∧ e.depth ≤ k
theorem PvG.mono {x : PV} {w k w' k' : Nat} (h : PvG x w k) (hw : w ≤ w') (hk : k ≤ k') : PvG x w' k' :=
  let ⟨e, h1, h2, h3⟩ := h; ⟨e, h1, ⟨h2.sh, h2.ls, Nat.le_trans h2.wt hw⟩, Nat.le_trans h3 hk⟩
theorem PvD.g {x : PV} {w k : Nat} (h : PvD x w k) : PvG x w k := let ⟨e, h1, h2, _, h4⟩ := h; ⟨e, toD_G h1, ⟨h2.sh, ls_mono e h2.ls, h2.wt⟩, h4⟩
theorem pg_all {w k : Nat} : ∀ {xs : List PV}, (∀ x ∈ xs, PvG x w k) → ∃ es, toGs xs = some es ∧ es.length = xs.length ∧ (PyData.showableAll es = true ∧ PyData.leavesShortAll 64 es = true ∧ PyData.weightAll es ≤ es.length * (w + 1)) ∧ PyData.depthAll es ≤ k
  | [], _ => ⟨[], by simp only [toGs], rfl, ⟨rfl, rfl, Nat.zero_le _⟩, Nat.zero_le _⟩
  | x :: xs, h => by
    obtain ⟨e, h1, h2, h3⟩ := h x List.mem_cons_self
    obtain ⟨es, g1, g2, ⟨g3, g4, g5⟩, g6⟩ := pg_all (xs := xs) fun y hy => h y (List.mem_cons_of_mem _ hy)
    refine ⟨e :: es, by simp only [toGs, h1, g1], by rw [List.length_cons, g2, List.length_cons], ⟨?_, ?_, ?_⟩, ?_⟩
    · simp only [PyData.showableAll, h2.sh, g3, Bool.and_self]
    · simp only [PyData.leavesShortAll, h2.ls, g4, Bool.and_self]
    · simp only [PyData.weightAll, List.length_cons]
      have := h2.wt
      rw [Nat.add_mul, Nat.one_mul]
      omega
    · simp only [PyData.depthAll]
      omega
theorem pg_lst {w k n : Nat} {xs : List PV} (h : ∀ x ∈ xs, PvG x w k) (hn : xs.length ≤ n) : PvG (.lst xs) (n * (w + 1)) (k + 1) := by
  obtain ⟨es, g1, g2, ⟨g3, g4, g5⟩, g6⟩ := pg_all h
  refine ⟨.list es, by simp only [toG, g1, Option.map_some], ⟨by simp only [PyData.showable]; exact g3, by simp only [PyData.leavesShort]; exact g4, ?_⟩, by simp only [PyData.depth]; omega⟩
  simp only [PyData.weight]
  exact Nat.le_trans g5 (Nat.mul_le_mul_right _ (g2 ▸ hn))
theorem pg_tup {w k n : Nat} {xs : List PV} (h : ∀ x ∈ xs, PvG x w k) (hn : xs.length ≤ n) : PvG (.tup xs) (n * (w + 1)) (k + 1) := by
  obtain ⟨es, g1, g2, ⟨g3, g4, g5⟩, g6⟩ := pg_all h
  refine ⟨.tuple es, by simp only [toG, g1, Option.map_some], ⟨by simp only [PyData.showable]; exact g3, by simp only [PyData.leavesShort]; exact g4, ?_⟩, by simp only [PyData.depth]; omega⟩
  simp only [PyData.weight]
  exact Nat.le_trans g5 (Nat.mul_le_mul_right _ (g2 ▸ hn))
theorem eqNP_all {n : Nat} (ih : ∀ x e, toG x = some e → e.depth ≤ n → EqNP (n + 1) x x) : ∀ {xs : List PV} {es : List PyData}, toGs xs = some es → PyData.depthAll es ≤ n → Paired (EqNP (n + 1)) xs xs
  | [], _, _, _ => .nil
  | x :: xs, _, h, hd => by
    obtain ⟨a, b, h1, h2, rfl⟩ := toGs_cons h
    simp only [PyData.depthAll] at hd
    exact .cons (ih x a h1 (by omega)) (eqNP_all ih h2 (by omega))
theorem eqNP_self : ∀ (n : Nat) (x : PV) (e : PyData), toG x = some e → e.depth ≤ n → EqNP (n + 1) x x := by
  intro n
  induction n with
  | zero =>
    intro x e h hd
    cases x with
    | non => exact .inl ⟨_, rfl, rfl⟩
    | bl b => exact .inl ⟨_, rfl, rfl⟩
    | int b => exact .inl ⟨_, rfl, rfl⟩
    | str b => exact .inl ⟨_, rfl, rfl⟩
    | dct a b => exact .inr (.inl ⟨_, _, _, rfl, rfl⟩)
    | lst xs =>
      simp only [toG, Option.map_eq_some_iff] at h
      obtain ⟨es, h, rfl⟩ := h
      simp only [PyData.depth] at hd
      omega
    | tup xs =>
      simp only [toG, Option.map_eq_some_iff] at h
      obtain ⟨es, h, rfl⟩ := h
      simp only [PyData.depth] at hd
      omega
    | _ => simp only [toG, reduceCtorEq] at h
  | succ n ih =>
    intro x e h hd
    cases x with
    | non => exact .inl ⟨_, rfl, rfl⟩
    | bl b => exact .inl ⟨_, rfl, rfl⟩
    | int b => exact .inl ⟨_, rfl, rfl⟩
    | str b => exact .inl ⟨_, rfl, rfl⟩
    | dct a b => exact .inr (.inl ⟨_, _, _, rfl, rfl⟩)
    | lst xs =>
      simp only [toG, Option.map_eq_some_iff] at h
      obtain ⟨es, h, rfl⟩ := h
      simp only [PyData.depth] at hd
      exact .inr (.inr (.inr ⟨xs, xs, .inl ⟨rfl, rfl⟩, eqNP_all ih h (by omega)⟩))
    | tup xs =>
      simp only [toG, Option.map_eq_some_iff] at h
      obtain ⟨es, h, rfl⟩ := h
      simp only [PyData.depth] at hd
      exact .inr (.inr (.inr ⟨xs, xs, .inr ⟨rfl, rfl⟩, eqNP_all ih h (by omega)⟩))
    | _ => simp only [toG, reduceCtorEq] at h
theorem PvG.eqn {x : PV} {w k : Nat} (h : PvG x w k) : EqNP (k + 1) x x := let ⟨e, h1, _, h3⟩ := h; eqNP_self k x e h1 h3
theorem eqT_self {neg : Bool} {xs : List PV} {x : PV} {w k : Nat} {P : PV → Prop} (hx : x = .lst xs ∨ x = .tup xs) (h : ∀ y ∈ xs, PvG y w k) (hk : k ≤ 59) (p : P (.bl !neg)) : wEqT neg x x P := by
  refine ⟨k + 1, by omega, ⟨xs, xs, by rcases hx with rfl | rfl <;> simp, ?_⟩, p⟩
  have go : ∀ {l : List PV}, (∀ y ∈ l, PvG y w k) → Paired (EqNP (k + 1)) l l := by
    intro l
    induction l with
    | nil => intro _; exact .nil
    | cons y l ih => intro hl; exact .cons (hl y List.mem_cons_self).eqn (ih fun z hz => hl z (List.mem_cons_of_mem _ hz))
  exact go h
theorem repr_G {x : PV} {w k : Nat} {P : PV → Prop} (h : PvG x w k) (hw : w ≤ 190000) (hk : k ≤ 64) (p : P (.str (shG x))) : wReprG [x] P := by
  obtain ⟨e, h1, h2, h3⟩ := h
  refine ⟨x, e, rfl, h1, h2.sh, Nat.le_trans h3 hk, h2.len hw, ?_⟩
  unfold shG at p
  rw [h1] at p
  exact p
theorem log_62 {i : Int} (h : i.natAbs < 10 ^ 62) : i.natAbs.log2 < 206 := by
  by_cases z : i.natAbs = 0
  · rw [z]
    decide
  · exact (Nat.log2_lt z).mpr (Nat.lt_trans h (by decide))
theorem pg_int {i : Int} (h : i.natAbs < 10 ^ 62) : PvG (.int i) 206 0 := by
  have hl := log_62 h
  refine ⟨.int i, by simp only [toG], ⟨?_, ?_, ?_⟩, Nat.le_refl _⟩
  · simp only [PyData.showable]
    exact decide_eq_true (by omega)
  · simp only [PyData.leavesShort]
    have e := int_text_length_le10 (k := 62) (by decide) h
    refine decide_eq_true ?_
    show (Str.ofString (toString i)).length ≤ 64
    rw [PySem.ofString_length]
    omega
  · simp only [PyData.weight]
    split <;> omega
theorem pg_small {i : Int} (h : i.natAbs < 1000) : PvG (.int i) 11 0 := by
  obtain ⟨e, h1, h2, h3⟩ := pg_int (i := i) (Nat.lt_trans h (by decide))
  have f := fine_small h
  exact ⟨.int i, by simp only [toG], ⟨f.sh, ls_mono _ f.ls, f.wt⟩, Nat.le_refl _⟩
theorem pg_bl {b : Bool} : PvG (.bl b) 0 0 := (pd_bl b).g
theorem pg_non : PvG .non 0 0 := pd_non.g
theorem pg_str {x : Str} {n : Nat} (h : Sml x n) : PvG (.str x) n 0 := (pd_str h).g
theorem pg_dct {a : Addr} {kvs : List (Key × Int)} {w k : Nat} (h1 : (PyData.dict (kvD kvs)).showable = true := by rfl) (h2 : (PyData.dict (kvD kvs)).leavesShort 64 = true := by rfl) (h3 : (PyData.dict (kvD kvs)).weight ≤ w := by decide) (h4 : (PyData.dict (kvD kvs)).depth ≤ k := by decide) : PvG (.dct a kvs) w k := ⟨_, by simp only [toG], ⟨h1, h2, h3⟩, h4⟩
def isW : PV → Bool
  | .int _ => true
  | _ => false
def isH (n : Int) : PV → Bool
  | .int i => decide (0 ≤ i) && decide (i < n)
  | _ => false
section
variable [XC]
variable {K : PySem.W.Frag} {d : Cn → Addr} {F F' F0 F1 : Fz} {H H' H0 : Hp} {ts ts' bt ct : List Tag} {te : TE} {we : WE} {ta : TA} {wa : WA} {v u : V} {R : RR} {t : TS} {w : WS}
def wVarU (i : Nat) : WE := fun ρ P => ∃ a x, ρ[i]? = some (.idv a x) ∧ P x
theorem sim_varU {i : Nat} (h : ts[i]? = some .sh) : Sim K d (rS K d) ts (tVar i) (wVarU i) := fun H0 F0 F H σ ρ Q P E hw k => by
  obtain ⟨v, y, h1, h2, h3⟩ := E.sh i h
  obtain ⟨a, x, e, p⟩ := hw
  rw [h2] at e
  cases e
  cases h3 with
  | idv r => exact ⟨_, h1, k x _ F H (Step.refl E.dm) r p⟩
def isI : PV → Prop
  | .ins _ _ => True
  | _ => False
def wGh (i : Nat) (w : WS) : WS := fun D ρ => ∃ x, ρ[i]? = some x ∧ isI x ∧ ∀ a, w { nx := fun ρ' => ρ'[i]? = some (.idv a x) ∧ D.nx (ρ'.set i x), rt := D.rt } (ρ.set i (.idv a x))
theorem set_bak {α : Type} : ∀ {l : List α} {i : Nat} {x : α}, l[i]? = some x → l.set i x = l
  | [], _, _, h => by simp at h
  | _ :: _, 0, _, h => by simp at h; subst h; rfl
  | y :: l, i + 1, x, h => by
    show y :: l.set i x = y :: l
    rw [set_bak (by simpa using h)]
theorem simS_gh {i : Nat} (hi : ts[i]? = some .sh) (hi' : ts'[i]? = some .sh) (h : SimS K d R bt ct ts t w ts') : SimS K d R bt ct ts t (wGh i w) ts' := fun H0 F0 F H σ ρ D D' E hw n r b c => by
  obtain ⟨v, y, h1, h2, h3⟩ := E.sh i hi
  obtain ⟨x, e, ix, hw⟩ := hw
  rw [h2] at e
  cases e
  have hr : ∃ a, v = .ref a := by
    cases y with
    | ins c fs => cases h3 with
      | ins _ _ => exact ⟨_, rfl⟩
    | _ => exact ix.elim
  obtain ⟨a, rfl⟩ := hr
  have E1 := E.set (i := i) (.idv (a := a) h3)
  rw [set_bak h1, set_bak hi] at E1
  refine h H0 F0 F H σ _ D _ E1 (hw a) (fun F' H' σ' ρ' g E' ⟨e1, p⟩ => ?_) r (fun _ _ _ _ _ _ z => z.elim) (fun _ _ _ _ _ _ z => z.elim)
  obtain ⟨v', y', g1, g2, g3⟩ := E'.sh i hi'
  rw [e1] at g2
  cases g2
  cases g3 with
  | idv g3 =>
    have E2 := E'.set (i := i) g3
    rw [set_bak g1, set_bak hi'] at E2
    exact n F' H' σ' _ g E2 p
def wIsiTG (ps : List (Cn × String)) (we : WE) (A B : String) : WE := fun ρ P => we ρ fun x => (∃ c, insC x = some c ∧ (c, A) ∈ ps ∧ (c, B) ∈ ps ∧ P (.bl false)) ∨ ∃ a k l, tyP x = some a ∧ kitB a A = some k ∧ kitB a B = some l ∧ P (.bl (k || l))
theorem sim_isiTG {A B : String} {ps : List (Cn × String)} (ki : KiOk K d ps) (h : Sim K d (rW K d) ts te we) : Sim K d (rN K d) ts (tCB (rIsiT K) (tCons te (tCons (tTup (tCons (tC (.ty A)) (tCons (tC (.ty B)) tNil))) tNil))) (wIsiTG ps we A B) := fun H0 F0 F H σ ρ Q P E hw k =>
  h H0 F0 F H σ ρ _ _ E hw fun x v F1 H1 s1 r1 h => ⟨szc rfl, fun p np => by
    have s2 := Step.new (o := .tup [.ty A, .ty B]) s1.dm np
    rcases h with ⟨c, h1, h2, h3, h4⟩ | ⟨b, a, l, h1, h2, h3, h4⟩
    · obtain ⟨i, ka⟩ := ki.ok _ h2
      obtain ⟨_, kb⟩ := ki.ok _ h3
      have ty := insC_ty (Rw.step s2 r1) h1 i
      refine ⟨v, p, _, _, [.type A, .type B], false, rfl, upd_same, .cons (.ty _) (.cons (.ty _) .nil), ty, ?_, k (.bl _) _ F1 _ (s1.trans s2) (.inl ⟨trivial, .bl _⟩) h4⟩
      exact kitAny_cons (b := false) ka (fun _ => kitAny_cons (b := false) kb (fun _ => rfl) (fun z => by cases z)) (fun z => by cases z)
    · have ty := tyP_ok (Rw.step s2 r1) h1
      refine ⟨v, p, _, _, [.type A, .type B], a || l, rfl, upd_same, .cons (.ty _) (.cons (.ty _) .nil), ty, ?_, k (.bl _) _ F1 _ (s1.trans s2) (.inl ⟨trivial, .bl _⟩) h4⟩
      exact kitAny_cons (b := a) (kit_ty h2) (fun z => by
        subst z
        exact kitAny_cons (b := l) (kit_ty h3) (fun z => by subst z; rfl) (fun z => by subst z; rfl)) (fun z => by subst z; rfl)⟩
end
section
variable [XC]
variable {K : PySem.W.Frag} {d : Cn → Addr}
def wRepT : W2 := fun x y P => ∃ xs k, x = .tup xs ∧ y = .int k ∧ xs ≠ [] ∧ 2 ≤ k ∧ k ≤ 1000 ∧ xs.length ≤ 1000 ∧ P (.tup (List.replicate k.toNat xs).flatten)
end
section
variable [XC]
variable {K : PySem.W.Frag} {d : Cn → Addr}
def rStrMulX : R2 := fun x y H Q => ∃ (a : Str) (n : Int), x = .str a ∧ y = .int n ∧ 0 ≤ n ∧ n ≤ 10000 ∧ a.length ≤ 10 ∧ Q (.str (Txt.mul a n)) H
theorem op_strmulX {X : Cx} : OpR X (binaryOp .Mult) rStrMulX := by
  intro pins s σ H x y v u Q I rx ry h
  obtain ⟨a, n, rfl, rfl, h0, h1, h2, q⟩ := h
  obtain ⟨t, rfl⟩ := rx
  obtain ⟨t', rfl⟩ := ry
  refine SB.mul ⟨?_, fun h3 _ => ?_, fun h3 _ => ?_⟩ fun t'' k => ⟨.str _, H, I.tok _, ⟨_, rfl⟩, q⟩
  · rw [Bool.or_eq_false_iff]
    exact ⟨decide_eq_false (by omega), decide_eq_false (by omega)⟩
  · have e : (10 : Int) ≤ (2 ^ 63 - 1) / n := (Int.le_ediv_iff_mul_le (by omega)).mpr (by omega)
    have e2 : (a.length : Int) ≤ 10 := by omega
    omega
  · unfold Builtin.Str.tooLong
    refine decide_eq_false ?_
    have : a.length * n.toNat ≤ 10 * 10000 := Nat.mul_le_mul h2 (by omega)
    have e : (10 * 10000 : Nat) ≤ sizeLine := by decide
    omega
def wMulX : W2 := fun x y P => ∃ (a : Str) (n : Int), x = .str a ∧ y = .int n ∧ 0 ≤ n ∧ n ≤ 10000 ∧ a.length ≤ 10 ∧ P (.str (Txt.mul a n))
theorem ops_strmulX : OpS K d (rN K d) rStrMulX wMulX := fun F H v u x y Q P dm rx ry h k => by
  obtain ⟨a, n, rfl, rfl, h0, h1, h2, p⟩ := h
  cases rx.strE
  cases ry.intE
  exact ⟨a, n, rfl, rfl, h0, h1, h2, fin_val dm (.str _) p k⟩
end
end Wx
namespace Wx
open PySem PySem.Spec PyProof.Rows L2 Evl Hn RZ
variable [TabC]
mutual
def noK (ks : List Str) : PV → Bool
  | .lst xs => noKs ks xs
  | .tup xs => noKs ks xs
  | .ins _ fs => noKf ks fs && !decide (fs.map (·.1) = ks)
  | .idv _ x => noK ks x
  | .fnv _ xs => noKs ks xs
  | .bag => false
  | _ => true
def noKs (ks : List Str) : List PV → Bool
  | [] => true
  | x :: xs => noK ks x && noKs ks xs
def noKf (ks : List Str) : List (Str × PV) → Bool
  | [] => true
  | (_, x) :: fs => noK ks x && noKf ks fs
end
def putP (f : Str) (v : PV) : List (Str × PV) → List (Str × PV)
  | [] => [(f, v)]
  | (g, x) :: r => if g = f then (g, v) :: r else (g, x) :: putP f v r
section
variable {K : PySem.W.Frag} {d : Cn → Addr} {F F' F0 F1 : Fz} {H H' H0 : Hp} {v : V}
theorem Rvf.keys : ∀ {gs : List (Str × V)} {fs : List (Str × PV)}, Rvf K d F H gs fs → gs.map (·.1) = fs.map (·.1)
  | _, _, .nil => rfl
  | _, _, .cons _ b => by rw [List.map_cons, List.map_cons, b.keys]
theorem Rvf.len : ∀ {gs : List (Str × V)} {fs : List (Str × PV)}, Rvf K d F H gs fs → gs.length = fs.length
  | _, _, .nil => rfl
  | _, _, .cons _ b => by rw [List.length_cons, List.length_cons, b.len]
theorem Rvf.put {f : Str} {y : PV} (r : Rv K d F H v y) : ∀ {gs : List (Str × V)} {fs : List (Str × PV)}, Rvf K d F H gs fs → Rvf K d F H (putF f v gs) (putP f y fs)
  | _, _, .nil => .cons r .nil
  | _, _, .cons (f := g) a b => by
    unfold putF putP
    split
    · exact .cons r b
    · exact .cons a (b.put r)
section
variable {ks : List Str} {x : Addr} {C dx : Addr} {gx : List (Str × V)} {o : HO}
theorem keep_ne {a : Addr} {u : HO} (hx : H x = some (.ins C dx gx)) (ha : H a = some u) (n : ∀ C dx gs, u ≠ .ins C dx gs) : upd H x o a = some u := by
  rw [upd_ne (fun e => by rw [e, hx] at ha; cases ha; exact n _ _ _ rfl)]
  exact ha
mutual
theorem Rv.wr (hx : H x = some (.ins C dx gx)) (hk : gx.map (·.1) = ks) : ∀ {v : V} {y : PV}, Rv K d F H v y → noK ks y = true → Rv K d F (upd H x o) v y
  | _, _, .non, _ => .non
  | _, _, .bl b, _ => .bl b
  | _, _, .int i, _ => .int i
  | _, _, .str s, _ => .str s
  | _, _, .ty n, _ => .ty n
  | _, _, .cls c, _ => .cls c
  | _, _, .lst h1 h2 h3, n => .lst (keep_ne hx h1 (fun _ _ _ e => by cases e)) h2 (Rvs.wr hx hk h3 (by simpa only [noK] using n))
  | _, _, .tup (a := a) h1 h2, n => .tup (by
      rcases h1 with (h | ⟨o', h⟩) | h
      · exact .inl (.inl (keep_ne hx h (fun _ _ _ e => by cases e)))
      · exact .inl (.inr ⟨o', keep_ne hx h (fun _ _ _ e => by cases e)⟩)
      · exact .inr h) (Rvs.wr hx hk h2 (by simpa only [noK] using n))
  | _, _, .ins (a := a) (dx := dy) (gs := gs) (fs := fs) h1 h2, n => by
    simp only [noK, Bool.and_eq_true] at n
    refine .ins (dx := dy) ?_ (Rvf.wr hx hk h2 n.1)
    rw [upd_ne (fun e => ?_)]
    · exact h1
    · rw [e, hx] at h1
      cases h1
      have := n.2
      rw [← h2.keys, hk] at this
      simp at this
  | _, _, .bag _, n => by simp only [noK] at n; cases n
  | _, _, .scr h1 h2, _ => .scr (by
      rcases h1 with ⟨h, q⟩ | ⟨o', h⟩ | h
      · exact .inl ⟨keep_ne hx h (fun _ _ _ e => by cases e), q⟩
      · exact .inr (.inl ⟨o', keep_ne hx h (fun _ _ _ e => by cases e)⟩)
      · exact .inr (.inr h)) h2
  | _, _, .fnv h1 h2, n => .fnv (keep_ne hx h1 (fun _ _ _ e => by cases e)) (Rvs.wr hx hk h2 (by simpa only [noK] using n))
  | _, _, .dct h1 h2, _ => .dct (keep_ne hx h1 (fun _ _ _ e => by cases e)) h2
  | _, _, .idv h, n => .idv (Rv.wr hx hk h (by simpa only [noK] using n))
theorem Rvs.wr (hx : H x = some (.ins C dx gx)) (hk : gx.map (·.1) = ks) : ∀ {vs : List V} {ys : List PV}, Rvs K d F H vs ys → noKs ks ys = true → Rvs K d F (upd H x o) vs ys
  | _, _, .nil, _ => .nil
  | _, _, .cons a b, n => by
    simp only [noKs, Bool.and_eq_true] at n
    exact .cons (Rv.wr hx hk a n.1) (Rvs.wr hx hk b n.2)
theorem Rvf.wr (hx : H x = some (.ins C dx gx)) (hk : gx.map (·.1) = ks) : ∀ {gs : List (Str × V)} {fs : List (Str × PV)}, Rvf K d F H gs fs → noKf ks fs = true → Rvf K d F (upd H x o) gs fs
  | _, _, .nil, _ => .nil
  | _, _, .cons a b, n => by
    simp only [noKf, Bool.and_eq_true] at n
    exact .cons (Rv.wr hx hk a n.1) (Rvf.wr hx hk b n.2)
end
end
end
section
variable {K : PySem.W.Frag} {d : Cn → Addr} {F : Fz} {H : Hp} {v : V}
theorem noKf_put {ks : List Str} {f : Str} {y : PV} (hy : noK ks y = true) : ∀ {fs : List (Str × PV)}, noKf ks fs = true → noKf ks (putP f y fs) = true
  | [], _ => by simp only [putP, noKf, hy, Bool.and_self]
  | (g, x) :: r, n => by
    simp only [noKf, Bool.and_eq_true] at n
    unfold putP
    split
    · simp only [noKf, hy, n.2, Bool.and_self]
    · simp only [noKf, n.1, noKf_put hy n.2, Bool.and_self]
theorem Rvf.wr_put {f : Str} {y : PV} {x C dx : Addr} {gs : List (Str × V)} {fs : List (Str × PV)} {o : HO} (r : Rvf K d F H (putF f v gs) (putP f y fs)) (hk : gs.map (·.1) = fs.map (·.1)) (hx : H x = some (.ins C dx gs)) (n1 : noK (fs.map (·.1)) y = true) (n2 : noKf (fs.map (·.1)) fs = true) : Rvf K d F (upd H x o) (putF f v gs) (putP f y fs) :=
  Rvf.wr hx hk r (noKf_put n1 n2)
theorem Dom.ins {p C dx : Addr} {gs : List (Str × V)} {o : HO} (h : Dom F H) (hp : H p = some (.ins C dx gs)) : Dom F (upd H p o) := ⟨fun a f => upd_def (h.at_ a f), h.tb.mut hp rfl rfl⟩
end
def shNo (ts : List Tag) : Bool := ts.all fun t => decide (t = .sh) || decide (t = .no)
theorem shNo_get {ts : List Tag} (h : shNo ts = true) {i : Nat} {t : Tag} (e : ts[i]? = some t) : t = .sh ∨ t = .no := by
  have := List.all_eq_true.mp h _ (List.mem_of_getElem? e)
  simpa using this
def wFldS (a : Addr) (c : Cn) (f : Str) (we : WE) : WS := fun D ρ => we ρ fun y => ∃ fs, ρ[0]? = some (.idv a (.ins c fs)) ∧ fs.length < 1000 ∧ noK (fs.map (·.1)) y = true ∧ noKf (fs.map (·.1)) fs = true ∧ noKs (fs.map (·.1)) (ρ.drop 1) = true ∧ D.nx (ρ.set 0 (.idv a (.ins c (putP f y fs))))
theorem noKs_get {ks : List Str} : ∀ {xs : List PV} {i : Nat} {x : PV}, noKs ks xs = true → xs[i]? = some x → noK ks x = true
  | [], _, _, _, h => by simp at h
  | y :: ys, 0, _, n, h => by
    simp only [noKs, Bool.and_eq_true] at n
    simp at h
    subst h
    exact n.1
  | y :: ys, i + 1, _, n, h => by
    simp only [noKs, Bool.and_eq_true] at n
    exact noKs_get n.2 (by simpa using h)
section
variable [XC]
variable {K : PySem.W.Frag} {d : Cn → Addr} {F F' F0 F1 : Fz} {H H' H0 : Hp} {ts ts' ts1 ts2 bt ct : List Tag} {te : TE} {we : WE} {R : RR} {a : Addr} {t t' : TS} {w w' : WS}
def SimZ (K : PySem.W.Frag) (d : Cn → Addr) (a : Addr) (R : RR) (ts : List Tag) (t : TS) (w : WS) (ts' : List Tag) : Prop := ∀ (H0 : Hp) (F0 F : Fz) (H : Hp) (σ : L2.St) (ρ : List PV) (D : Ends) (D' : WEnds), H0 a = none → (∀ ρ, ¬ D'.bk ρ) → (∀ ρ, ¬ D'.ct ρ) → EnvR K d ts H0 F0 F H σ ρ → w D' ρ →
  (∀ F' H' σ' ρ', EnvR K d ts' H0 F0 F' H' σ' ρ' → D'.nx ρ' → D.nx σ' H') →
  (∀ x v F' H', Step F0 H0 F' H' → R F0 H0 F' H' v x → D'.rt x → D.rt v H') → t D σ H
theorem simZ_of (h : SimS K d R [] [] ts t w ts') : SimZ K d a R ts t w ts' := fun H0 F0 F H σ ρ D D' ha nb nc E hw n r =>
  h H0 F0 F H σ ρ D D' E hw (fun F' H' σ' ρ' _ E' p => n F' H' σ' ρ' E' p) r (fun _ _ _ ρ' _ _ p => (nb ρ' p).elim) (fun _ _ _ ρ' _ _ p => (nc ρ' p).elim)
theorem simZ_seq (h : SimZ K d a R ts t w ts1) (h' : SimZ K d a R ts1 t' w' ts2) : SimZ K d a R ts (tSeq t t') (wSeq w w') ts2 := fun H0 F0 F H σ ρ D D' ha nb nc E hw n r =>
  h H0 F0 F H σ ρ _ { D' with nx := w' D' } ha nb nc E hw (fun F1 H1 σ1 ρ1 E1 h1 => h' H0 F0 F1 H1 σ1 ρ1 D D' ha nb nc E1 h1 n r) r
theorem simZ_fld {f : Str} {C : Addr} {c : Cn} (h0 : ts[0]? = some .sh) (hs : shNo ts = true) (hc : Cls K C) (hn : NoAttr K C f) (h : Sim K d (rS K d) ts te we) (hC : d c = C := by rfl) : SimZ K d a R ts (sFld K (tVar 0) te f) (wFldS a c f we) ts := fun H0 F0 F H σ ρ D D' ha nb nc E hw n r => by
  subst hC
  refine h H0 F0 F H σ ρ _ _ E hw fun y v F1 H1 s1 r1 ⟨fs, e0, hl, n1, n2, n3, p⟩ => ?_
  have E1 := E.step s1
  obtain ⟨v0, x0, g1, g2, g3⟩ := E1.sh 0 h0
  rw [e0] at g2
  cases g2
  cases g3 with
  | idv g3 =>
    cases g3 with
    | @ins _ dx _ gs _ g4 g5 =>
      refine ⟨_, g1, a, d c, dx, gs, rfl, g4, hc, hn, by rw [g5.len]; exact hl, ?_⟩
      have kk : gs.map (·.1) = fs.map (·.1) := g5.keys
      have new : Rv K d F1 (upd H1 a (.ins (d c) dx (putF f v gs))) (.ref a) (.ins c (putP f y fs)) := .ins (dx := dx) upd_same ((Rvf.put r1 g5).wr_put kk g4 n1 n2)
      refine n F1 _ σ _ ⟨⟨Xn.mut E1.st.ex ha, E1.st.up, E1.st.nw, E1.dm.ins g4⟩, E1.ls, by rw [List.length_set]; exact E1.lr, fun i hi => ?_, fun i hi => ?_, fun i j b hi => ?_, fun i hi => ?_, fun i b hi => ?_, E1.xc, fun i hi => ?_⟩ p
      · obtain ⟨vi, xi, q1, q2, q3⟩ := E1.sh i hi
        by_cases ei : i = 0
        · subst ei
          rw [g1] at q1
          cases q1
          exact ⟨_, _, g1, by rw [List.getElem?_set_self (by have := List.getElem?_eq_some_iff.mp e0; exact this.1)], .idv new⟩
        · refine ⟨vi, xi, q1, by rw [List.getElem?_set_ne (fun z => ei z.symm)]; exact q2, Rv.wr g4 kk q3 (noKs_get (i := i - 1) n3 ?_)⟩
          rw [List.getElem?_drop]
          rw [show 1 + (i - 1) = i by omega]
          exact q2
      · rcases shNo_get hs hi with z | z <;> cases z
      · rcases shNo_get hs hi with z | z <;> cases z
      · rcases shNo_get hs hi with z | z <;> cases z
      · rcases shNo_get hs hi with z | z <;> cases z
      · rcases shNo_get hs hi with z | z <;> cases z
end
section
variable {P : Program} {w : World} {K : PySem.W.Frag} {mg : Str → Option Value} {base : Heap} {d : Cn → Addr} {ea : En → Option Addr} {R : RR}
def spI (K : PySem.W.Frag) (d : Cn → Addr) (ea : En → Option Addr) (c : Cn) (w : WFX) : Sp := fun vs H Q E => ∃ (x dx : Addr) (H0 : Hp) (args : List V) (F : Fz) (xs : List PV) (P : PV → Prop) (EX : En → Fs → Prop), vs = .ref x :: args ∧ H = upd (upd H0 dx (.own x)) x (.ins (d c) dx []) ∧
  H0 x = none ∧ H0 dx = none ∧ dx ≠ x ∧ Dom F H0 ∧ Rvs K d F H0 args xs ∧ w xs P EX ∧ (∀ y F' H', Step F H0 F' H' → Rv K d F' H' (.ref x) y → notL y → P y → Q .non H') ∧ ∀ n C fs o F' H', ea n = some C → Step F H0 F' H' → XdOk K d H0 n F' H' o fs → EX n fs → E (.ref C) o H'
theorem mkI {c : Cn} {w : WFX} : MkSX K d ea c (spI K d ea c w) w := fun F H vs xs Q P EX E dm r hw k kE x dx nx ndx ne =>
  ⟨x, dx, H, vs, F, xs, P, EX, by simp, rfl, nx, ndx, ne, dm, r, hw, fun y F' H' s ry nl p => ⟨rfl, k y _ F' H' s ry nl p⟩, kE⟩
def wNoE (w : WFX) : WF := fun xs P => w xs P fun _ _ => False
theorem mkIE {c : Cn} {w : WFX} : MkS K d c (spI K d ea c w) (wNoE w) := fun F H vs xs Q P E dm r hw k x dx nx ndx ne =>
  ⟨x, dx, H, vs, F, xs, P, fun _ _ => False, by simp, rfl, nx, ndx, ne, dm, r, hw, fun y F' H' s ry nl p => ⟨rfl, k y _ F' H' s ry nl p⟩, fun _ _ _ _ _ _ _ _ _ z => z.elim⟩
def wInit (c : Cn) (n m : Nat) (ws : Addr → (List PV → En → Fs → Prop) → WS) : WFX := fun xs P EX => xs.length = n ∧ ∀ a, ws a (fun _ => EX) { nx := fun ρ => ∃ fs, ρ[0]? = some (.idv a (.ins c fs)) ∧ P (.ins c fs), rt := fun _ => False } (.idv a (.ins c []) :: (xs ++ List.replicate m .non))
theorem tags_no {n m i : Nat} {t : Tag} (h : (tags n m)[i]? = some t) : t = .sh ∨ t = .no := by
  unfold tags at h
  have := List.mem_of_getElem? h
  simp only [List.mem_append, List.mem_replicate] at this
  rcases this with ⟨_, e⟩ | ⟨_, e⟩
  · exact .inl e
  · exact .inr e
theorem okwI_of {c : Cn} {x qual : Str} {st : Stmt} {f : Addr} {N ps : List Str} {k n m : Nat} {ws : Addr → (List PV → En → Fs → Prop) → WS} {tx ts' : List Tag} (Df' : Df K x qual st f ps) (S : FnScope N ps (defScope st)) (hn : ps.length = n + 1) (hN : N.length = n + 1 + m) (h0 : ts'[0]? = some .sh)
    (hbody : ∀ (cdv : Value) (A : Around) (outer : List Env) (s : Shared) (H : Hp) (E : XK), Room k (A.deeper (envOfC qual (defScope st) s.heap.objs.size f cdv)) →
      ∃ t, PSs (cxOf (L2.CX P w) P w K mg base N qual (defScope st) f cdv A outer s H E) (defBody st) t ∧ ∀ a EX, @SimZ _ (xcOf K d ea (fun c o _ H' => E c o H') EX tx) K d a (rS K d) (tags (n + 1) m) t (ws a EX) ts') : Okf P w K mg base (k + 1) f ps (spI K d ea c (wInit c n m ws)) :=
  okx_of Df' S (fun vs H Q E h => by
    obtain ⟨x, dx, H0, args, F, xs, P, EX, rfl, _, _, _, _, _, r, ⟨hl, _⟩, _⟩ := h
    rw [List.length_cons, r.length, hl, hn]) fun cdv A outer s H vs Q E hr h => by
    obtain ⟨t, D, sim⟩ := hbody cdv A outer s H E hr
    obtain ⟨x, dx, H0, args, F, xs, P, EX, rfl, rfl, nx, ndx, ne, dm, r, ⟨hl, hw⟩, k, kE⟩ := h
    have s1 : Step F H0 F (upd H0 dx (.own x)) := Step.new dm ndx
    have s2 : Step F (upd H0 dx (.own x)) F (upd (upd H0 dx (.own x)) x (.ins (d c) dx [])) := Step.new s1.dm (by rw [upd_ne (fun e => ne e.symm)]; exact nx)
    have s12 := s1.trans s2
    have r2 : Rvs K d F (upd (upd H0 dx (.own x)) x (.ins (d c) dx [])) (.ref x :: args) (.idv x (.ins c []) :: xs) := .cons (.idv (.ins (dx := dx) upd_same .nil)) (r.step s12)
    have E0 := @env_start _ K d xc0 N F _ (.ref x :: args) (.idv x (.ins c []) :: xs) (n + 1) m s12.dm r2 (by rw [List.length_cons, hl]) hN trivial
    have i1 := E0.ls
    have i2 := E0.lr
    have i3 := E0.sh
    have E1 : @EnvR _ (xcOf K d ea (fun c o _ H' => E c o H') (fun _ => EX) tx) K d (tags (n + 1) m) H0 F F (upd (upd H0 dx (.own x)) x (.ins (d c) dx [])) (L2.start N (.ref x :: args)) ((.idv x (.ins c []) :: xs) ++ List.replicate m .non) := by
      letI : XC := xcOf K d ea (fun c o _ H' => E c o H') (fun _ => EX) tx
      refine ⟨s12, i1, i2, i3, fun i hi => ?_, fun i j b hi => ?_, fun i hi => ?_, fun i b hi => ?_, fun n C fs o F' H' σ' ρ' hn E1 xd ex => kE n C fs o F' H' hn E1.base.st xd ex, fun i hi => ?_⟩
      · rcases tags_no hi with z | z <;> cases z
      · rcases tags_no hi with z | z <;> cases z
      · rcases tags_no hi with z | z <;> cases z
      · rcases tags_no hi with z | z <;> cases z
      · rcases tags_no hi with z | z <;> cases z
    refine ⟨t, D, sim x (fun _ => EX) H0 F F _ _ _ _ _ nx (fun _ z => z) (fun _ z => z) E1 (hw x) (fun F' H' σ' ρ' E' ⟨fs, e1, p⟩ => ?_) (fun _ _ _ _ _ _ z => z.elim)⟩
    obtain ⟨v, y, g1, g2, g3⟩ := E'.base.sh 0 h0
    rw [e1] at g2
    cases g2
    cases g3 with
    | idv g3 => exact k _ F' H' E'.base.st g3 trivial p
end
end Wx
namespace Hn
open PySem PySem.Spec PyProof.Rows L2 Evl
def tSMethY (C : Addr) (sp : Sp) (E : L2.St → XK) (ta : TE) (t : TA) : TE := fun σ H Q => ta σ H fun x H1 => x = .ref C ∧ t σ H1 fun vs H2 => sp vs H2 Q (E σ)
section
variable {X : Cx} {k : Nat} {C p g : Addr} {mc : Value} {ps : List Str} {sp : Sp} {o e : Expr} {es : List Expr} {m : Str} {pos apos : Pos} {ta : TE} {t : TA} {pl : Sem Bool} {E : L2.St → XK}
theorem pf_staticS (he : PE X o ta) (c : SMet X.K C mc m p g) (hk : PySem.W.keepIn X.K (.ref g) = true) (G : Okf X.prog X.w X.K X.mg X.base k g ps sp) (hr : Room k X.A) (hx : ∀ σ, PassesAt (L2.CX X.prog X.w) X σ (E σ)) (ha : PA X (e :: es) t)
    (hst : starEach (e :: es) X.env = (false, eval e X.env) :: starEach es X.env := by rfl) (hpl : (backTo pos (starEach es X.env)).any (·.1) = false := by rfl)
    (ht : eval (.Call (.Attribute o m apos) (e :: es) [] pos) X.env = (do
      let ov ← eval o X.env
      standAt apos.atName
      let (f, first) ← holding [ov] (getMethod ov m pl)
      callWith pos f first (backTo pos (starEach (e :: es) X.env)) (backToKw pos (keywordEach [] X.env))) := by rfl) :
    PE X (.Call (.Attribute o m apos) (e :: es) [] pos) (tSMethY C sp E ta t) := by
  obtain ⟨fd, F, hb⟩ := G
  refine ⟨fun pins s σ H Q I h => ?_⟩
  refine PySem.W.methodCall_KW (pl := pl) (thn (he.run pins s σ H _ I h) fun u s1 ⟨x, H1, I1, rx, ex, q⟩ => ?_) ht
  subst ex
  obtain rfl : u = Value.ref C := rx
  obtain ⟨rest, hp⟩ := c.rc
  refine PySem.W.method_cls I1.kIn c.ga (PySem.W.cls_bind I1.kIn c.rd c.at_ (wpAny_call (PySem.W.sm_get (s := { s1 with toks := s1.toks + 1 }) I1.kIn hp (PySem.W.handed_on rfl ?_))))
  have I2 : L2.Inv X pins σ H1 { s1 with toks := s1.toks + 1 } := I1.tok _
  refine PySem.W.callWith_K (h₀ := X.base) I2.ok.mod.kin hk (thn (ha.run pos pins _ σ H1 _ I2 q) fun us s3 ⟨vs, H2, I3, rv, q2⟩ => ⟨I3.kIn, ?_⟩) hst hpl
  exact run_fnS F hr hb (hx σ) I3 rv q2
end
end Hn
namespace Wx
open PySem PySem.Spec PyProof.Rows L2 Evl Hn
section
variable [TabC] {K : PySem.W.Frag} {d : Cn → Addr} {ea : En → Option Addr} {W : WX} {EX : List PV → En → Fs → Prop} {R : RR} {ts tx : List Tag}
def wStatX (EX : List PV → En → Fs → Prop) (w : WFX) (wo : WE) (wa : WA) (c : Cn) : WE := fun ρ P => wo ρ fun x => x = .cls c ∧ wa ρ fun xs => w xs P (EX ρ)
theorem sim_statX {w : WFX} {to : TE} {wo : WE} {ar : TA} {wr : WA} {C : Addr} (cn : Cn) (o : ROk R) (c : cv ts tx = true) (nx : noX tx = true) (ho : @Sim _ (xcOf K d ea W EX tx) K d (rS K d) ts to wo) (ha : @SimA _ (xcOf K d ea W EX tx) K d ts ar wr) (hC : d cn = C := by rfl) : @Sim _ (xcOf K d ea W EX tx) K d R ts (tSMethY C (spWX K d ea R w) (fun σ c o H => W c o σ H) to ar) (wStatX EX w wo wr cn) := fun H0 F0 F H σ ρ Q P E hw k =>
  ho H0 F0 F H σ ρ _ _ E hw fun x v F1 H1 s1 r1 ⟨ex, h1⟩ => by
    subst hC
    subst ex
    cases r1
    refine ⟨rfl, ha H0 F0 F1 H1 σ ρ _ _ (E.step_ s1) h1 fun xs vs F2 H2 s2 r2 h4 => ⟨F2, xs, P, EX ρ, s2.dm, r2, h4, fun x v F' H' s r q => k x v F' H' ((s1.trans s2).trans s) (o.back (s1.trans s2) r) q, fun n C fs oo F' H' hn s xd ex => xc_goes (((E.step_ s1).step_ s2).step_ s) c nx hn (xd.back ((E.step_ s1).step_ s2).base.st.ex) ex⟩⟩
end
end Wx
namespace Wx
open PySem PySem.Spec PyProof.Rows L2 Evl Hn RZ
variable [TabC]
def Kpt (is : List Nat) (σ σ' : L2.St) : Prop := ∀ j, j ∉ is → σ'[j]? = σ[j]?
theorem Kpt.refl {is : List Nat} {σ : L2.St} : Kpt is σ σ := fun _ _ => rfl
theorem Kpt.trans {is : List Nat} {σ σ1 σ2 : L2.St} (a : Kpt is σ σ1) (b : Kpt is σ1 σ2) : Kpt is σ σ2 := fun j h => (b j h).trans (a j h)
theorem Kpt.of {is : List Nat} {σ σ' : L2.St} (h : wipe σ' is = wipe σ is) : Kpt is σ σ' := fun j hj => by
  rw [← wipe_out (σ := σ') hj, ← wipe_out (σ := σ) hj, h]
section
variable [XC]
variable {K : PySem.W.Frag} {d : Cn → Addr} {R : RR} {is : List Nat} {bt ct ts ts1 ts2 ts' : List Tag} {F F' F0 F1 : Fz} {H H' H0 H1 : Hp} {te : TE} {we : WE}
end
section
variable {K : PySem.W.Frag} {d : Cn → Addr} {F F' F0 F1 : Fz} {H H' H0 H1 : Hp}
end
section
variable {P : Program} {w : World} {K : PySem.W.Frag} {mg : Str → Option Value} {base : Heap} {d : Cn → Addr}
end
section
variable [XC]
variable {K : PySem.W.Frag} {d : Cn → Addr} {R : RR} {is : List Nat} {bt ct ts ts1 ts2 ts' : List Tag} {F F' F0 F1 : Fz} {H H' H0 H1 : Hp} {te : TE} {we : WE}
end
end Wx
namespace Wx
open PySem PySem.Spec PyProof.Rows L2 Evl Hn RZ
variable [TabC]
section
variable [XC]
variable {K : PySem.W.Frag} {d : Cn → Addr} {F F' F0 F1 : Fz} {H H' H0 H1 Hs : Hp} {ts bt ct : List Tag} {R : RR} {te : TE} {we : WE} {v : V} {x : PV}
def plainP : PV → Prop
  | .non => True
  | .int _ => True
  | .bl _ => True
  | _ => False
def wLstD (w1 w2 : WE) : WE := fun ρ P => w1 ρ fun y => w2 ρ fun z => (∃ s, y = .str s) ∧ ((∃ ys, z = .lst ys) ∨ plainP z) ∧ P (.lst [y, z])
def wMutD (i : Nat) (w1 we : WE) : WS := fun D ρ => w1 ρ fun j1 => match ρ.getD i .non, j1 with
  | .lst xs, .int k1 => ∃ m1 ys, ixN xs.length k1 = some m1 ∧ xs[m1]? = some (.lst ys) ∧ ys.length < 100000 ∧ we ρ fun y => D.nx (ρ.set i (.lst (xs.set m1 (.lst (ys ++ [y])))))
  | _, _ => False
def wPE (we : WE) : WE := fun ρ P => we ρ fun x => plainP x ∧ P x
def wSetE (i : Nat) (we : WE) : WS := fun D ρ => we ρ fun y => (∃ ys, y = .lst ys) ∧ D.nx (ρ.set i y)
end
section
variable {K : PySem.W.Frag} {d : Cn → Addr} {ea : En → Option Addr} {F F' F0 F1 F2 : Fz} {H H' H0 H1 H2 : Hp} {ts ts' bt ct tx : List Tag} {R : RR} {te : TE} {we : WE} {W : WX} {EX : List PV → En → Fs → Prop}
def wRetEx (n : En) (f : Str) (fs : Fs) (w1 : WE) : WS := fun D ρ => w1 ρ fun y => (∃ s, y = .str s) ∧ n.fld = some f ∧ ∃ x, fs = [(f, x)] ∧ ((n.nw = true ∧ ∃ ys, x = .lst ys ∧ fls ys = true) ∨ plainP x) ∧ D.rt (.lst [y, x])
end
end Wx
namespace Wx
open PySem PySem.Spec PyProof.Rows L2 Evl Hn RZ
variable [TabC]
open Classical in
section
variable {H : Hp} {S : Addr → Prop} {F F0 : Fz} {H0 : Hp}
theorem TabsR.keep {H H' : Hp} (t : TabsR H) (k : ∀ a o, H a = some o → (isTb o = true ∨ isEx o = true) → H' a = some o) : TabsR H' := fun q hq => by
  obtain ⟨ps, h1, h2, h3⟩ := t q hq
  refine ⟨ps, k _ _ h1 (.inl rfl), h2, fun pos cv hc => ?_⟩
  obtain ⟨c, e1, e2⟩ := h3 pos cv hc
  exact ⟨c, e1, k _ _ e2 (.inr rfl)⟩
end
section
variable {K : PySem.W.Frag} {d : Cn → Addr} {F F' F0 F1 : Fz} {H H' H0 H1 Hs : Hp} {ts ts' ts0 ts1 bt ct : List Tag} {R : RR} {te : TE} {we : WE} {v : V} {x y : PV} {σ : L2.St} {ρ : List PV} {i : Nat}
theorem OdL.rd (h : OdL K d H F' H' v x) : rD K d F H F' H' v x := by
  obtain ⟨c, ws, zs, rfl, hx, h3, h4, h5, h6, h7, h8, h9⟩ := h
  refine ⟨c, ws, zs, rfl, hx, h5, fun b hb => ?_, h3, h4, h6, h7, h8, fun k w z k1 k2 => ?_⟩
  · obtain ⟨k, hk, e⟩ := List.mem_iff_getElem.mp hb
    rcases h9 k (.ref b) _ (by rw [List.getElem?_eq_getElem hk, e]) (List.getElem?_eq_getElem (by omega)) with ⟨b', us, ys, e1, e2, u1, u2, u3, u4⟩ | s
    · cases e1
      exact u3
    · exact absurd rfl (s.1 b)
  · rcases h9 k w z k1 k2 with ⟨b, us, ys, rfl, rfl, u1, u2, u3, u4⟩ | s
    · exact .inl ⟨b, us, ys, rfl, rfl, u1, u2, u4⟩
    · exact .inr s
theorem OdL.stp (h : OdL K d H0 F H v x) (s : Step F H F' H') : OdL K d H0 F' H' v x := h.to s.ex (fun a z => s.nw a z) fun r => r.step s
end
section
variable {K : PySem.W.Frag} {d : Cn → Addr} {F F' F0 F1 : Fz} {H H' H0 H1 : Hp}
end
section
variable {P : Program} {w : World} {K : PySem.W.Frag} {mg : Str → Option Value} {base : Heap} {d : Cn → Addr} {R : RR}
end
section
variable {K : PySem.W.Frag} {d : Cn → Addr} {ea : En → Option Addr} {F F' F0 F1 F2 : Fz} {H H' H0 H1 H2 : Hp} {ts ts' ts1 bt ct tx : List Tag} {R : RR} {te : TE} {we : WE} {W : WX} {EX : List PV → En → Fs → Prop}
end
section
variable [XC]
variable {K : PySem.W.Frag} {d : Cn → Addr} {F F' F0 F1 : Fz} {H H' H0 H1 Hs : Hp} {ts ts' ts0 ts1 bt ct : List Tag} {R : RR} {te : TE} {we : WE} {ta : TA} {wa : WA} {v : V} {x y : PV} {i : Nat}
def wVarD (i : Nat) : WE := fun ρ P => (∃ ys, ρ.getD i .non = .lst ys) ∧ P (ρ.getD i .non)
end
section
variable {K : PySem.W.Frag} {d : Cn → Addr} {F F' F0 F1 : Fz} {H H' H0 H1 Hs : Hp} {ts ts' ts0 ts1 bt ct : List Tag} {R : RR} {te : TE} {we : WE} {v : V} {x y : PV} {i : Nat} {ws : List Str}
end
end Wx
namespace Hn
open PySem PySem.Spec PyProof.Rows L2
def tCallHx (N : List Str) (a : Addr) (tb : TS) (ta : TA) : TE := fun σ H Q => ta σ H fun vs H1 => vs = [.ref a] ∧ tb { nx := fun _ H' => Q .non H', rt := Q } (L2.start N [.ref a]) H1
section
variable {X : Cx} {a f : Addr} {oe : Obj} {pn : List (Addr × Obj)} {x qual y : Str} {st : Stmt} {N : List Str} {k : Nat} {p pos : Pos} {e : Expr} {ta : TA} {tb : TS}
theorem pe_callHx (hf : ∃ vs, oe.data = .fields vs) (F : Df X.K x qual st f [y]) (S : FnScope N [y] (defScope st)) (hr : Room (k + 1) X.A) (hg : Gl X x) (hm : X.mg x = some (.ref f)) (hk : PySem.W.keepIn X.K (.ref f) = true)
    (body : ∀ (cdv : Value) (outer : List Env) (s : Shared) (H : Hp), Room k (X.A.deeper (envOfC qual (defScope st) s.heap.objs.size f cdv)) → PSs ((cxOf CX0 X.prog X.w X.K X.mg X.base N qual (defScope st) f cdv X.A outer s H (fun _ _ _ => False)).suite a [(a, oe)]) (defBody st) tb)
    (ha : PA (X.suite a ((a, oe) :: pn)) [e] ta) (hdb : (x == ("__debug__" : Str)) = false := by decide) (he : starEach [e] X.env = [(false, eval e X.env)] := by rfl) (hpl : (backTo pos (starEach [] X.env)).any (·.1) = false := by rfl) :
    PE (X.suite a ((a, oe) :: pn)) (.Call (.Name x p) [e] [] pos) (tCallHx N a tb ta) := by
  refine ⟨fun pins s σ H Q I h => ?_⟩
  refine wpAny_Call_Name_kw (ld_glob I hg hm ?_ hdb)
  refine PySem.W.callWith_K (h₀ := X.base) I.ok.mod.kin hk (thn (ha.run pos pins s σ H _ I h) fun us s1 ⟨vs, H1, I1, r, ev, q⟩ => ⟨I1.kIn, ?_⟩) he hpl
  subst ev
  obtain ⟨fd, F1, bd⟩ := F
  obtain ⟨oc, od, kV, doc, pm, an, cdv, ct, osl, rfl, lk, hcd⟩ := F1.ex
  obtain ⟨p1, p2, p3, p4, p5⟩ := I1.pin (a, oe) (List.mem_append.mpr (.inl List.mem_cons_self))
  have nofs : a ∉ frs X.stack := fun hm => (List.mem_cons.mp (I1.stkSub a hm)).elim p3 p4
  have hus : us.length = 1 := by rw [← r.length]; rfl
  have hb := bd s1 us I1.kIn (by rw [List.append_nil]; exact hus)
  rw [List.append_nil] at hb
  have rc : codeAny (model X.prog X.w) (X.A.mark (some (.ref a))) (.call (.ref f) ⟨us, []⟩) (CR CX0 X.stack X.prog X.w H1 s1 Q (fun _ _ _ => False)) s1 := by
    have e0 := I1.env0
    have e1 : Env0 X.prog X.w X.K X.mg X.base X.A X.stack s1 H1 := ⟨e0.frames, e0.mod, e0.bs, e0.bsz, e0.funs, e0.frf, e0.hok, e0.bare⟩
    have KX : X.K.In s1.heap := e0.mod.kin.keeps fun b o e => (e0.bs b o e).1
    have lim : s1.heap.NoLimit := e0.mod.nolimit.keeps fun b o e => (e0.bs b o e).1
    have hkind : ∀ z ∈ [y].zip us, (defScope st).names.lookup z.1 = some .local ∨ ((defScope st).names.lookup z.1 = some .cell ∧ ((cellsFrom (s1.heap.objs.size + 1) (defScope st).names []).lookup z.1).isSome = true) := fun ⟨n, v⟩ hy => by
      rcases S.par n (List.of_mem_zip hy).1 with q | q
      · exact .inl q
      · exact .inr ⟨q, PySem.W.cellsFrom_some _ _ _ (.inl q)⟩
    have dp : (X.A.mark (some (.ref a))).depth < recursionLimit := by have := hr.dp; show X.A.depth < _; omega
    refine codeAny_call_function dp (KX _ _ lk) rfl S.co S.gen rfl (PySem.W.codeRec_of KX hcd) (hb _ _ _ _ ?_)
    refine wpAny_newFunctionEnv_cells S.kind hkind fun env he s2 x2 => ?_
    subst he
    refine ⟨lim.keeps x2.toInCall.keep, codeAny_func ?_⟩
    have I0 : L2.Inv (cxOf CX0 X.prog X.w X.K X.mg X.base N qual (defScope st) f cdv X.A X.stack s1 H1 (fun _ _ _ => False)) [] (L2.start N [.ref a]) H1 s2 := inv_start S hr.hd e1 rfl r x2
    obtain ⟨vs, hd⟩ := hf
    have S0 := I0.suite (a := a) (oe := oe) (x2.toInCall.keep a oe p1) hd p2 (Nat.ne_of_lt (Heap.lt_size p1)) nofs
    refine wpAny_mono ((body cdv X.stack s1 H1 (hr.deeper _)).run [] s2 (L2.start N [.ref a]) H1 _ S0 q) (fun fl s' hs => ?_) fun e s' hs => hs.elim
    have fin : ∀ {σ' : L2.St} {H' : Hp} {v : V} {u : Value}, L2.Inv ((cxOf CX0 X.prog X.w X.K X.mg X.base N qual (defScope st) f cdv X.A X.stack s1 H1 (fun _ _ _ => False)).suite a [(a, oe)]) [] σ' H' s' → RelV v u → Q v H' → CE X.stack X.prog X.w H1 s1 Q u s' :=
      fun {σ' H' v u} J rv q => ⟨v, H', J.os, J.bare, J.base, J.hok, rv, q⟩
    cases fl with
    | ret u =>
      obtain ⟨v, σ', H', J, rv, q⟩ := hs
      exact fin J rv q
    | next =>
      obtain ⟨σ', H', J, q⟩ := hs
      exact fin (v := V.non) (u := Value.none) J rfl q
    | brk =>
      obtain ⟨_, _, _, q⟩ := hs
      exact False.elim q
    | cont =>
      obtain ⟨_, _, _, q⟩ := hs
      exact False.elim q
  refine wpAny_call (codeAny_mono rc fun rr s' hq => ?_)
  cases rr with
  | error e => exact False.elim hq
  | ok fl =>
    cases fl with
    | ret u => exact I1.after hq
    | next => exact hq.elim
    | brk => exact hq.elim
    | cont => exact hq.elim
theorem call_isXK {X : Cx} {K : PySem.W.Frag} {a : Addr} {oe : Obj} {cls : Value} {d : Option Addr} {pn : List (Addr × Obj)} (hK : X.K = K) (hz : Zc cls d oe) (hf : ∃ vs, oe.data = .fields vs) : CallR (X.suite a ((a, oe) :: pn)) (.builtin "isinstance") (rIsX K a cls d) := by
  subst hK
  exact call_isX hz hf
theorem pe_exFK {X : Cx} {K : PySem.W.Frag} {fld : Str} {a : Addr} {oe : Obj} {cls : Value} {d : Option Addr} {pn : List (Addr × Obj)} {e : Expr} {te : TE} {pos : Pos} (hK : X.K = K) (hz : Zc cls d oe) (hf : ∃ vs, oe.data = .fields vs) (he : PE (X.suite a ((a, oe) :: pn)) e te)
    (hb : attributeBase e fld X.env (eval e X.env) = eval e X.env := by rfl) :
    PE (X.suite a ((a, oe) :: pn)) (.Attribute e fld pos) (tExF K a cls d fld te) := by
  subst hK
  exact pe_exF hz hf he hb
end
end Hn
namespace Wx
open PySem PySem.Spec PyProof.Rows L2 Evl Hn RZ
variable [TabC]
section
variable {K : PySem.W.Frag} {d : Cn → Addr} {F F' F0 F1 F2 : Fz} {H H' H0 H1 H2 : Hp} {ts ts' tsE bt ct : List Tag} {R : RR}
def wRetHx (m : Nat) (w : WS) : WS := fun D _ => w { nx := fun _ => D.rt .non, rt := D.rt } (.non :: List.replicate m .non)
def tagsX (m : Nat) : List Tag := .ex :: List.replicate m .no
theorem tagsX_get {m j : Nat} {t : Tag} (h : (tagsX m)[j]? = some t) : (j = 0 ∧ t = .ex) ∨ t = .no := by
  unfold tagsX at h
  cases j with
  | zero => cases h; exact .inl ⟨rfl, rfl⟩
  | succ j =>
    rw [List.getElem?_cons_succ, List.getElem?_replicate] at h
    split at h
    · cases h; exact .inr rfl
    · cases h
theorem simS_retHx {a : Addr} {o : Option Addr} {fs : Fs} {n : En} {i m : Nat} {N : List Str} {tb : TS} {w : WS} (hi : ts[i]? = some .ex) (hN : N.length = m + 1) (hR : RNon K d R)
    (h : @SimS _ (xcS a o fs n) K d R [] [] (tagsX m) tb w tsE) : @SimS _ (xcS a o fs n) K d R bt ct ts (tRet (tCallHx N a tb (tCons (tVar i) tNil))) (wRetHx m w) ts' := fun H0 F0 F H σ ρ D D' E hw _ r _ _ => by
  obtain ⟨g1, g2⟩ := E.ex_ i hi
  have l1 : (L2.start N [V.ref a]).length = m + 1 := by
    unfold L2.start
    rw [List.length_append, List.length_map, List.length_replicate, hN]
    simp
    omega
  have E' : @EnvR _ (xcS a o fs n) K d (tagsX m) H0 F0 F H (L2.start N [.ref a]) (.non :: List.replicate m .non) := by
    refine @EnvR.mk _ (xcS a o fs n) K d (tagsX m) H0 F0 F H _ _ E.base.st (by rw [l1]; unfold tagsX; simp) (by unfold tagsX; simp) (fun j h => ?_) (fun j h => ?_) (fun j l b h => ?_) (fun j h => ?_) (fun j b h => ?_) E.xc_ (fun j h => ?_)
    · rcases tagsX_get h with ⟨_, z⟩ | z <;> cases z
    · rcases tagsX_get h with ⟨_, z⟩ | z <;> cases z
    · rcases tagsX_get h with ⟨_, z⟩ | z <;> cases z
    · rcases tagsX_get h with ⟨_, z⟩ | z <;> cases z
    · rcases tagsX_get h with ⟨_, z⟩ | z <;> cases z
    · rcases tagsX_get h with ⟨rfl, _⟩ | z
      · exact ⟨rfl, g2⟩
      · cases z
  refine ⟨_, g1, rfl, ?_⟩
  exact h H0 F0 F H _ _ { nx := fun _ H' => D.rt .non H', rt := D.rt } _ E' hw (fun F3 H3 σ3 ρ3 g3 E3 p => r .non .non F3 H3 E3.base.st (hR _ _ _ _) p) (fun x v F3 H3 st rr p => r x v F3 H3 st rr p) (fun _ _ _ _ _ _ q => q.elim) (fun _ _ _ _ _ _ q => q.elim)
end
end Wx
namespace Hn
open PySem PySem.Spec PyProof.Rows L2
variable {X : Cx}
def rNeE (K : PySem.W.Frag) : R2 := fun x y H Q => ∃ a b xs, x = .ref a ∧ y = .ref b ∧ SqL K H a xs ∧ SqL K H b [] ∧ Q (.bl (!xs.isEmpty)) H
theorem op_neE (hu : X.A.units < cLine) : OpR X (compareOp .NotEq) (rNeE X.K) := by
  intro pins s σ H x y v u Q I rx ry h
  obtain ⟨a, b, xs, rfl, rfl, ha, hb, q⟩ := h
  cases rx
  cases ry
  obtain ⟨its, r, pl, _⟩ := I.list ha
  obtain ⟨its2, r2, pl2, _⟩ := I.list hb
  have l1 := r.length
  have l2 := r2.length
  cases its2 with
  | cons z zs => cases l2
  | nil =>
    show wpAny (model X.prog X.w) X.A (richCompare .NotEq _ _) _ _ _
    cases xs with
    | nil =>
      cases its with
      | cons z zs => cases l1
      | nil => exact SeqAt.RcNeAt.lists (e := fun _ => true) pl.isList pl2.isList rfl hu (fun j h1 _ => absurd h1 (Nat.not_lt_zero _)) _ _ _ _ ⟨.bl false, H, I, rfl, q⟩
    | cons x xs =>
      cases its with
      | nil => cases l1
      | cons z zs => exact SeqAt.RcNeAt.lists_lengths pl.isList pl2.isList rfl hu _ _ _ _ ⟨.bl true, H, I, rfl, q⟩
theorem u_neE {K : PySem.W.Frag} (h : X.K = K) (hu : X.A.units + 64 < cLine) : OpR X (compareOp .NotEq) (rNeE K) := h ▸ op_neE (by omega)
end Hn
namespace Wx
open PySem PySem.Spec PyProof.Rows L2 Evl Hn RZ
variable [TabC]
section
variable [XC]
variable {K : PySem.W.Frag} {d : Cn → Addr} {ts : List Tag}
def wEqE (neg : Bool) : W2 := fun x y P => ∃ xs, x = .lst xs ∧ y = .lst [] ∧ P (.bl (if neg then !xs.isEmpty else xs.isEmpty))
theorem rvs_empty {F : Fz} {H : Hp} {vs : List V} {xs : List PV} (h : Rvs K d F H vs xs) : vs.isEmpty = xs.isEmpty := by cases h <;> rfl
theorem ops_neE : OpS K d (rN K d) (rNeE K) (wEqE true) := fun F H v u x y Q P dm rx ry h k => by
  obtain ⟨xs, rfl, rfl, p⟩ := h
  obtain ⟨a, vs, rfl, h2, h3⟩ := Rw.lst rx
  obtain ⟨b, us, rfl, g2, g3⟩ := Rw.lst ry
  cases g3
  exact ⟨a, b, vs, rfl, rfl, .inl (.inl h2), .inl (.inl g2), by rw [rvs_empty h3]; exact fin_val dm (.bl _) p k⟩
end
end Wx
namespace Wx
open PySem PySem.Spec PyProof.Rows L2 Evl Hn RZ
variable [TabC]
section
variable {is : List Nat}
structure DEq (is : List Nat) (σ0 : L2.St) (D D' : Ends) : Prop where
  nx : ∀ σ H, Kpt is σ0 σ → D.nx σ H = D'.nx σ H
  rt : D.rt = D'.rt
  bk : ∀ σ H, Kpt is σ0 σ → D.bk σ H = D'.bk σ H
  ct : ∀ σ H, Kpt is σ0 σ → D.ct σ H = D'.ct σ H
theorem DEq.symm {σ0 : L2.St} {D D' : Ends} (h : DEq is σ0 D D') : DEq is σ0 D' D := ⟨fun σ H k => (h.nx σ H k).symm, h.rt.symm, fun σ H k => (h.bk σ H k).symm, fun σ H k => (h.ct σ H k).symm⟩
theorem Kpt.set {σ0 σ : L2.St} {i : Nat} {v : Option V} (k : Kpt is σ0 σ) (hi : i ∈ is) : Kpt is σ0 (σ.set i v) := fun j hj => by
  have : i ≠ j := by rintro rfl; exact hj hi
  rw [List.getElem?_set_ne this]
  exact k j hj
end
mutual
def fx : PV → Bool
  | .lst _ => false
  | .scr _ => false
  | .fnv _ _ => false
  | .ins _ fs => fxf fs
  | .dct _ _ => false
  | .idv _ _ => false
  | .tup xs => fxs xs
  | _ => true
def fxs : List PV → Bool
  | [] => true
  | x :: xs => fx x && fxs xs
def fxf : List (Str × PV) → Bool
  | [] => true
  | (_, x) :: xs => fx x && fxf xs
end
section
variable {K : PySem.W.Frag} {d : Cn → Addr} {F F' F0 F1 : Fz} {H H' H0 : Hp}
mutual
theorem Rv.frx : ∀ {v : V} {x : PV}, Rv K d F H v x → fx x = true → Rv K d F' H v x
  | _, _, .non, _ => .non
  | _, _, .bl b, _ => .bl b
  | _, _, .int i, _ => .int i
  | _, _, .str x, _ => .str x
  | _, _, .ty n, _ => .ty n
  | _, _, .cls c, _ => .cls c
  | _, _, .lst _ _ _, e => by simp only [fx] at e; cases e
  | _, _, .tup h1 h2, e => .tup h1 (Rvs.frx h2 (by simpa only [fx] using e))
  | _, _, .ins h1 h2, e => .ins h1 (Rvf.frx h2 (by simpa only [fx] using e))
  | _, _, .bag h, _ => .bag h
  | _, _, .scr _ _, e => by simp only [fx] at e; cases e
  | _, _, .fnv _ _, e => by simp only [fx] at e; cases e
  | _, _, .dct _ _, e => by simp only [fx] at e; cases e
  | _, _, .idv _, e => by simp only [fx] at e; cases e
theorem Rvs.frx : ∀ {vs : List V} {xs : List PV}, Rvs K d F H vs xs → fxs xs = true → Rvs K d F' H vs xs
  | _, _, .nil, _ => .nil
  | _, _, .cons a b, e => by
    simp only [fxs, Bool.and_eq_true] at e
    exact .cons (Rv.frx a e.1) (Rvs.frx b e.2)
theorem Rvf.frx : ∀ {vs : List (Str × V)} {xs : List (Str × PV)}, Rvf K d F H vs xs → fxf xs = true → Rvf K d F' H vs xs
  | _, _, .nil, _ => .nil
  | _, _, .cons a b, e => by
    simp only [fxf, Bool.and_eq_true] at e
    exact .cons (Rv.frx a e.1) (Rvf.frx b e.2)
end
end
section
variable [XC]
variable {K : PySem.W.Frag} {d : Cn → Addr} {F F' F0 F1 F2 : Fz} {H H' H0 H1 H2 : Hp} {ts ts' ts2 bt ct : List Tag} {R : RR} {σ σ2 : L2.St} {ρ ρ2 : List PV} {v : V} {x : PV}
def isLst : PV → Bool
  | .lst _ => true
  | .tup _ => true
  | _ => false
end
section
variable [XC]
variable {K : PySem.W.Frag} {d : Cn → Addr} {ts ts1 ts' bt ct : List Tag} {R : RR} {a b c e f g h i r : TS} {w w' : WS}
theorem simS_grp3 (q : SimS K d R bt ct ts (tSeq a (tSeq b c)) w ts1) (q' : SimS K d R bt ct ts1 r w' ts') : SimS K d R bt ct ts (tSeq a (tSeq b (tSeq c r))) (wSeq w w') ts' := by
  have x : SimS K d R bt ct ts (tSeq (tSeq a (tSeq b c)) r) (wSeq w w') ts' := simS_seq q q'
  exact x
end
end Wx
namespace Hn
open PySem PySem.Spec PyProof.Rows L2 Evl
theorem walkGE {l : PySem.W.OpenLaw} {n k : Nat} {q : Program} {loose : List Str} {XP : (Str → Option Value) → Heap → Prop} {YP : World → Heap → Prop} {d : DefRec} {x : Str}
    (most : l.most = some n) (line : n ≤ sizeLine) (nodf : d.params.defaults = []) (room : Room k callerA)
    (F : ∀ (w : World) (mg : Str → Option Value) (fa : Addr) (h : Heap), YP w h → h.Ns mainGlobals mg → mg d.name = some (.ref fa) → ∃ (K : PySem.W.Frag) (sp : Sp), K.In h ∧ (∀ (H : Hp) (a : Addr) (ns : List Int), ns.length ≤ n → SqL K H a (ns.map V.int) → sp [.ref a] H (fun v _ => v = .bl true) E0) ∧
      ∀ base : Heap, K.In base → base.Ns mainGlobals mg → OkP NoG l.prog w K mg base k fa [x] sp) : PySem.W.WalkO q loose XP YP l.row.toRowW d [] (fun f vs => PySem.call f vs) := by
  refine Att.attach_call most nodf fun w s₀ s₁ mg mb fa o pm cd doc a vs ns G Y _ _ _ hmg obj inn len gens => ?_
  obtain ⟨K, sp, kX, hsp, hF⟩ := F w mg fa _ Y G.T.g hmg
  exact head_law kX G.T.g G.T.b G.T.builtins G.T.nolimit gens obj inn (Nat.le_trans len line) room hF fun H hS => hsp H a ns len hS
end Hn
namespace L2
open PySem PySem.Spec PyProof.Rows
end L2
namespace Pf
open PySem PySem.Spec PyProof.Rows L2 Evl Hn Wx
local macro_rules | `(tactic| walk_at "rd") => `(tactic| repeat (first
  | with_reducible refine r_raiseE ?_
  | with_reducible refine r_callY ?_
  | with_reducible refine r_makeY ?_
  | with_reducible refine r_methY ?_
  | with_reducible refine r_exF ?_
  | with_reducible refine r_m1 ?_
  | with_reducible refine r_isS ?_
  | with_reducible refine r_break ?_
  | with_reducible refine r_cont ?_
  | with_reducible refine r_listZip ?_
  | with_reducible refine r_smeth ?_
  | with_reducible refine r_isC ?_
  | with_reducible refine r_lstRg ?_
  | with_reducible refine r_rg1 ?_
  | with_reducible refine r_seq ?_
  | with_reducible refine r_next ?_
  | with_reducible refine r_asg ?_
  | with_reducible refine r_name ?_
  | with_reducible refine r_ret ?_
  | with_reducible refine r_retN ?_
  | with_reducible refine r_drop ?_
  | with_reducible refine r_ifS ?_
  | with_reducible refine r_test ?_
  | with_reducible refine r_B ?_
  | with_reducible refine r_and ?_
  | with_reducible refine r_or ?_
  | with_reducible refine r_not ?_
  | with_reducible refine r_andV ?_
  | with_reducible refine r_orV ?_
  | with_reducible refine r_notV ?_
  | with_reducible refine r_if ?_
  | with_reducible refine r_c ?_
  | with_reducible refine r_op ?_
  | with_reducible refine r_un ?_
  | with_reducible refine r_chain ?_
  | with_reducible refine r_lst ?_
  | with_reducible refine r_tup ?_
  | with_reducible refine r_nil ?_
  | with_reducible refine r_cons ?_
  | with_reducible refine r_call ?_
  | with_reducible refine r_meth ?_
  | with_reducible refine r_make ?_
  | with_reducible refine r_prop ?_
  | with_reducible refine r_cb ?_
  | with_reducible refine r_bm ?_
  | with_reducible refine r_bm0 ?_
  | with_reducible refine r_sl ?_
  | with_reducible refine r_noPart ?_
  | with_reducible refine r_part ?_
  | with_reducible refine r_int1 ?_
  | with_reducible refine r_bl1 ?_
  | with_reducible refine r_revL ?_
  | with_reducible refine r_lc ?_
  | with_reducible refine r_par ?_
  | with_reducible refine r_par3 ?_
  | with_reducible refine r_two ?_
  | with_reducible refine r_three ?_
  | with_reducible refine r_augS ?_
  | with_reducible refine r_sub ?_
  | with_reducible refine r_fld ?_
  | with_reducible refine r_sfld ?_
  | with_reducible refine r_iList ?_
  | with_reducible refine r_iTup ?_
  | with_reducible refine r_iRng1 ?_
  | with_reducible refine r_iRng2 ?_
  | with_reducible refine r_iEnum ?_
  | with_reducible refine r_iZip ?_
  | with_reducible refine r_iZipA ?_
  | with_reducible refine r_iSeq ?_
  | with_reducible refine r_iOwn ?_
  | with_reducible refine r_iEnumS ?_
  | with_reducible refine r_revT ?_
  | with_reducible refine r_ixO ?_
  | with_reducible refine r_yes ?_
  | with_reducible refine r_for ?_
  | with_reducible refine r_I0 ?_
  | with_reducible refine r_U ?_
  | with_reducible refine r_eqI ?_
  | with_reducible refine r_neI ?_
  | with_reducible refine r_eqB ?_
  | with_reducible refine r_neB ?_
  | with_reducible refine r_eqS ?_
  | with_reducible refine r_neS ?_
  | with_reducible refine r_ipI ?_
  | with_reducible refine r_abs ?_
  | with_reducible refine r_intP ?_
  | with_reducible refine r_intB ?_
  | with_reducible refine r_min2 ?_
  | with_reducible refine r_max2 ?_
  | with_reducible refine r_isNi ?_
  | with_reducible refine r_isNr ?_
  | with_reducible refine r_isNn ?_
  | with_reducible refine r_notNi ?_
  | with_reducible refine r_notNr ?_
  | with_reducible refine r_notNn ?_
  | with_reducible refine r_call1 ?_
  | (with_reducible refine' r_var ?hv ?_); (case hv => exact rfl)
  | (with_reducible refine' r_aug ?hv ?_); (case hv => exact rfl)
  | (with_reducible refine r_wipe ?hv ?_); (case hv => exact rfl)
  | (with_reducible refine r_I ?hv ?_); (case hv => (first | (show (0 : Int) < _; omega) | exact Or.inl ⟨by omega, by omega⟩ | exact Or.inr ⟨by omega, by omega⟩ | exact ⟨by omega, by omega⟩ | exact ⟨by omega, by omega, by decide⟩))
  | (with_reducible refine r_range1 ?hv ?hw ?_); (case hv => omega); (case hw => omega)))
local macro_rules | `(tactic| walk_at "ex") => `(tactic| first
  | assumption
  | exact Ex.refl _
  | exact Ex.new (by assumption)
  | (refine Ex.trans ?_ (Ex.new (by assumption)); walk_at "ex")
  | (refine Ex.mut ?_ (by walk_at "fr"); walk_at "ex")
  | (refine Ex.trans ?_ (by assumption); walk_at "ex"))
local macro_rules | `(tactic| walk_at "xl") => `(tactic| first
  | exact Xl.refl _
  | (refine Xl.trans ?_ (Xl.of (by assumption)); walk_at "xl")
  | (refine Xl.trans ?_ (Xl.of (Ex.new (by assumption))); walk_at "xl")
  | (refine Xl.trans ?_ (Xl.set (by assumption)); walk_at "xl")
  | (refine Xl.trans ?_ (Xl.set (by walk_at "kn")); walk_at "xl"))
local macro_rules | `(tactic| walk_at "fr") => `(tactic| first
  | assumption
  | (refine fresh_back ?_ (by assumption); walk_at "ex"))
local macro_rules | `(tactic| walk_at "kn") => `(tactic| first
  | assumption
  | exact upd_same
  | (refine mv_bag (by assumption) ?_; walk_at "xl")
  | (refine mv_rw (by assumption) ?_; walk_at "xl")
  | (refine mv_ps (by assumption) ?_; walk_at "xl")
  | (refine mv_clk (by assumption) ?_; walk_at "xl")
  | (refine mv_sqL (by assumption) ?_; walk_at "ex")
  | (refine mv_sqT (by assumption) ?_; walk_at "ex")
  | (refine mv_at (by assumption) ?_; walk_at "ex")
  | (refine' mv_at upd_same ?hk; (case hk => walk_at "ex"))
  | (refine' at_sqL ?hk; (case hk => walk_at "kn"))
  | (refine' at_sqT ?hk; (case hk => walk_at "kn"))
  | (refine mv_sq (by assumption) ?_; walk_at "ex")
  | (refine' sqL_sq ?hk; (case hk => walk_at "kn"))
  | (refine' sqT_sq ?hk; (case hk => walk_at "kn"))
  | (refine' ps_rw ?hk; (case hk => walk_at "kn")))
structure Ads where
  c_Clock : Addr
  f__law_alike : Addr
  f__law_bag : Addr
  f__law_take : Addr
  f__law_stays : Addr
  f__law_one : Addr
  f__law_odd : Addr
  f__law_is_whole : Addr
  f__law_spoilt : Addr
  f_Clock_stays : Addr
  f_is_integer : Addr
  f_are_stays : Addr
  f_need_order : Addr
  f_width_of : Addr
  f_Clock___init__ : Addr
  f_Clock_even : Addr
  p_Clock_even : Addr
  f__law_caught : Addr
  f__law_tried : Addr
  f__law_first_over : Addr
  f__law_due : Addr
  f__law_is_hour : Addr
  f_is_hour : Addr
  f_Clock_hours : Addr
  q_Clock_hours : Addr
  f_Clock_with_stay : Addr
  f__law_changed : Addr
  f__law_stay_right : Addr
  f__law_even_due : Addr
  f_law : Addr
  c_NeedError : Addr
  c_NoHour : Addr
  fi_NoHour : Addr
  c_Overtaken : Addr
  fi_Overtaken : Addr
  c_Wrong : Addr
  fi_Wrong : Addr
def cnA (d : Ads) : Cn → Addr
  | .Clock => d.c_Clock
  | .Needs => 0
  | .Plan => 0
  | .House => 0
  | .Book => 0
  | .Desk => 0
  | .Endless => 0
structure Tx (P : Program) (K : PySem.W.Frag) (mg : Str → Option Value) (d : Ads) : Prop where
  g_Clock : mg "Clock" = some (.ref d.c_Clock)
  cl_Clock : Cls K d.c_Clock
  sf_Clock : PySem.W.selfFirst K d.c_Clock = true
  n_Clock_kept_stays : NoAttr K d.c_Clock "kept_stays"
  n_Clock_kept_widths : NoAttr K d.c_Clock "kept_widths"
  g__law_alike : mg "_law_alike" = some (.ref d.f__law_alike)
  d__law_alike : Df K "_law_alike" "_law_alike" s__law_alike d.f__law_alike ["_law_found", "_law_due_here"]
  g__law_bag : mg "_law_bag" = some (.ref d.f__law_bag)
  d__law_bag : Df K "_law_bag" "_law_bag" s__law_bag d.f__law_bag ["_law_script"]
  g__law_take : mg "_law_take" = some (.ref d.f__law_take)
  d__law_take : Df K "_law_take" "_law_take" s__law_take d.f__law_take ["_law_bag_here", "_law_upto"]
  g__law_stays : mg "_law_stays" = some (.ref d.f__law_stays)
  d__law_stays : Df K "_law_stays" "_law_stays" s__law_stays d.f__law_stays ["_law_bag_here", "_law_many"]
  g__law_one : mg "_law_one" = some (.ref d.f__law_one)
  d__law_one : Df K "_law_one" "_law_one" s__law_one d.f__law_one ["_law_bag_here", "_law_some"]
  g__law_odd : mg "_law_odd" = some (.ref d.f__law_odd)
  d__law_odd : Df K "_law_odd" "_law_odd" s__law_odd d.f__law_odd ["_law_bag_here"]
  g__law_is_whole : mg "_law_is_whole" = some (.ref d.f__law_is_whole)
  d__law_is_whole : Df K "_law_is_whole" "_law_is_whole" s__law_is_whole d.f__law_is_whole ["_law_thing"]
  g__law_spoilt : mg "_law_spoilt" = some (.ref d.f__law_spoilt)
  d__law_spoilt : Df K "_law_spoilt" "_law_spoilt" s__law_spoilt d.f__law_spoilt ["_law_bag_here", "_law_stays_here"]
  m_Clock_stays : Meth K d.c_Clock "stays" d.f_Clock_stays
  d_Clock_stays : Df K "stays" "Clock.stays" s_Clock_stays d.f_Clock_stays ["self"]
  g_is_integer : mg "is_integer" = some (.ref d.f_is_integer)
  d_is_integer : Df K "is_integer" "is_integer" s_is_integer d.f_is_integer ["thing"]
  g_are_stays : mg "are_stays" = some (.ref d.f_are_stays)
  d_are_stays : Df K "are_stays" "are_stays" s_are_stays d.f_are_stays ["thing"]
  g_need_order : mg "need_order" = some (.ref d.f_need_order)
  d_need_order : Df K "need_order" "need_order" s_need_order d.f_need_order ["stays"]
  g_width_of : mg "width_of" = some (.ref d.f_width_of)
  d_width_of : Df K "width_of" "width_of" s_width_of d.f_width_of ["stays", "hour"]
  mk_Clock : Mk K d.c_Clock d.f_Clock___init__
  d_Clock___init__ : Df K "__init__" "Clock.__init__" s_Clock___init__ d.f_Clock___init__ ["self", "stays"]
  st_Clock_even : SMet K d.c_Clock (.type "type") "even" d.p_Clock_even d.f_Clock_even
  d_Clock_even : Df K "even" "Clock.even" s_Clock_even d.f_Clock_even ["hours", "stay"]
  g__law_caught : mg "_law_caught" = some (.ref d.f__law_caught)
  d__law_caught : Df K "_law_caught" "_law_caught" s__law_caught d.f__law_caught ["_law_error"]
  g__law_tried : mg "_law_tried" = some (.ref d.f__law_tried)
  d__law_tried : Df K "_law_tried" "_law_tried" s__law_tried d.f__law_tried ["_law_way", "_law_one_here", "_law_other"]
  g__law_first_over : mg "_law_first_over" = some (.ref d.f__law_first_over)
  d__law_first_over : Df K "_law_first_over" "_law_first_over" s__law_first_over d.f__law_first_over ["_law_stays_here"]
  g__law_due : mg "_law_due" = some (.ref d.f__law_due)
  d__law_due : Df K "_law_due" "_law_due" s__law_due d.f__law_due ["_law_thing"]
  g__law_is_hour : mg "_law_is_hour" = some (.ref d.f__law_is_hour)
  d__law_is_hour : Df K "_law_is_hour" "_law_is_hour" s__law_is_hour d.f__law_is_hour ["_law_many", "_law_thing"]
  g_is_hour : mg "is_hour" = some (.ref d.f_is_hour)
  d_is_hour : Df K "is_hour" "is_hour" s_is_hour d.f_is_hour ["hours", "thing"]
  p_Clock_hours : PropOf K d.c_Clock "hours" d.q_Clock_hours d.f_Clock_hours
  d_Clock_hours : Df K "hours" "Clock.hours" s_Clock_hours d.f_Clock_hours ["self"]
  m_Clock_with_stay : Meth K d.c_Clock "with_stay" d.f_Clock_with_stay
  d_Clock_with_stay : Df K "with_stay" "Clock.with_stay" s_Clock_with_stay d.f_Clock_with_stay ["self", "hour", "stay"]
  g__law_changed : mg "_law_changed" = some (.ref d.f__law_changed)
  d__law_changed : Df K "_law_changed" "_law_changed" s__law_changed d.f__law_changed ["_law_clock", "_law_hour", "_law_stay"]
  g__law_stay_right : mg "_law_stay_right" = some (.ref d.f__law_stay_right)
  d__law_stay_right : Df K "_law_stay_right" "_law_stay_right" s__law_stay_right d.f__law_stay_right ["_law_bag_here", "_law_clock", "_law_stays_here", "_law_hour", "_law_stay"]
  g__law_even_due : mg "_law_even_due" = some (.ref d.f__law_even_due)
  d__law_even_due : Df K "_law_even_due" "_law_even_due" s__law_even_due d.f__law_even_due ["_law_one_here", "_law_other"]
  d_law : Df K "law" "law" s_law d.f_law ["_law_script"]
  z_abs : mg "abs" = none
  z_all : mg "all" = none
  z_bool : mg "bool" = none
  z_enumerate : mg "enumerate" = none
  z_int : mg "int" = none
  z_isinstance : mg "isinstance" = none
  z_len : mg "len" = none
  z_list : mg "list" = none
  z_max : mg "max" = none
  z_min : mg "min" = none
  z_range : mg "range" = none
  z_repr : mg "repr" = none
  z_tuple : mg "tuple" = none
  k_MOST_HOURS : ∃ t : Tok, mg "MOST_HOURS" = some (.int 48 t)
  ic_Clock : IsC K d.c_Clock
  kx_Clock_int : PySem.W.kitOne K (.ref d.c_Clock) (.type "int") = some false
  kx_Clock_list : PySem.W.kitOne K (.ref d.c_Clock) (.type "list") = some false
  kx_Clock_tuple : PySem.W.kitOne K (.ref d.c_Clock) (.type "tuple") = some false
  sm : Wx.smB K = true
  g_NeedError : mg "NeedError" = some (.ref d.c_NeedError)
  g_NoHour : mg "NoHour" = some (.ref d.c_NoHour)
  er_NoHour : ErrC P K mg "NoHour" "hour" d.c_NoHour d.fi_NoHour
  xc_NoHour : ExcC K d.c_NoHour
  xm_NoHour : PySem.W.exmOne K (.ref d.c_NoHour) (.ref d.c_NeedError) = some true
  ix_NoHour_NoHour : PySem.W.kitOne K (.ref d.c_NoHour) (.ref d.c_NoHour) = some true
  ix_NoHour_Overtaken : PySem.W.kitOne K (.ref d.c_NoHour) (.ref d.c_Overtaken) = some false
  ix_NoHour_Wrong : PySem.W.kitOne K (.ref d.c_NoHour) (.ref d.c_Wrong) = some false
  g_Overtaken : mg "Overtaken" = some (.ref d.c_Overtaken)
  er_Overtaken : ErrC P K mg "Overtaken" "hour" d.c_Overtaken d.fi_Overtaken
  xc_Overtaken : ExcC K d.c_Overtaken
  xm_Overtaken : PySem.W.exmOne K (.ref d.c_Overtaken) (.ref d.c_NeedError) = some true
  ix_Overtaken_NoHour : PySem.W.kitOne K (.ref d.c_Overtaken) (.ref d.c_NoHour) = some false
  ix_Overtaken_Overtaken : PySem.W.kitOne K (.ref d.c_Overtaken) (.ref d.c_Overtaken) = some true
  ix_Overtaken_Wrong : PySem.W.kitOne K (.ref d.c_Overtaken) (.ref d.c_Wrong) = some false
  g_Wrong : mg "Wrong" = some (.ref d.c_Wrong)
  er_Wrong : ErrC P K mg "Wrong" "place" d.c_Wrong d.fi_Wrong
  xc_Wrong : ExcC K d.c_Wrong
  xm_Wrong : PySem.W.exmOne K (.ref d.c_Wrong) (.ref d.c_NeedError) = some true
  ix_Wrong_NoHour : PySem.W.kitOne K (.ref d.c_Wrong) (.ref d.c_NoHour) = some false
  ix_Wrong_Overtaken : PySem.W.kitOne K (.ref d.c_Wrong) (.ref d.c_Overtaken) = some false
  ix_Wrong_Wrong : PySem.W.kitOne K (.ref d.c_Wrong) (.ref d.c_Wrong) = some true
section
variable [TabC] {P : Program} {w : World} {K : PySem.W.Frag} {mg : Str → Option Value} {base : Heap} {d : Ads}
def eaA (d : Ads) : En → Option Addr
  | .NoHour => some d.c_NoHour
  | .Overtaken => some d.c_Overtaken
  | .Wrong => some d.c_Wrong
  | _ => none
theorem ea_is {n : En} {C : Addr} (h : eaA d n = some C) : n = .NoHour ∧ C = d.c_NoHour ∨ n = .Overtaken ∧ C = d.c_Overtaken ∨ n = .Wrong ∧ C = d.c_Wrong := by
  cases n <;> first | (cases h; done) | (cases h; simp)
theorem ex_kit (T : Tx P K mg d) : ∀ n m C C2, eaA d n = some C → eaA d m = some C2 → PySem.W.kitOne K (.ref C) (.ref C2) = some (decide (n = m)) := fun n m C C2 h1 h2 => by
  rcases ea_is h1 with ⟨rfl, rfl⟩ | ⟨rfl, rfl⟩ | ⟨rfl, rfl⟩ <;> rcases ea_is h2 with ⟨rfl, rfl⟩ | ⟨rfl, rfl⟩ | ⟨rfl, rfl⟩ <;> first | exact T.ix_NoHour_NoHour | exact T.ix_NoHour_Overtaken | exact T.ix_NoHour_Wrong | exact T.ix_Overtaken_NoHour | exact T.ix_Overtaken_Overtaken | exact T.ix_Overtaken_Wrong | exact T.ix_Wrong_NoHour | exact T.ix_Wrong_Overtaken | exact T.ix_Wrong_Wrong
theorem ex_exc (T : Tx P K mg d) : ∀ n C, eaA d n = some C → ExcC K C := fun n C h => by
  rcases ea_is h with ⟨rfl, rfl⟩ | ⟨rfl, rfl⟩ | ⟨rfl, rfl⟩ <;> first | exact T.xc_NoHour | exact T.xc_Overtaken | exact T.xc_Wrong
theorem ex_all (T : Tx P K mg d) : ∀ n C, eaA d n = some C → PySem.W.exmOne K (.ref C) (.ref d.c_NeedError) = some true := fun n C h => by
  rcases ea_is h with ⟨rfl, rfl⟩ | ⟨rfl, rfl⟩ | ⟨rfl, rfl⟩ <;> first | exact T.xm_NoHour | exact T.xm_Overtaken | exact T.xm_Wrong
theorem ex_fld (T : Tx P K mg d) : ∀ n C f, eaA d n = some C → n.fld = some f → ExF K C f := fun n C f h hf => by
  rcases ea_is h with ⟨rfl, rfl⟩ | ⟨rfl, rfl⟩ | ⟨rfl, rfl⟩ <;> cases hf <;> first | exact T.er_NoHour.exF | exact T.er_Overtaken.exF | exact T.er_Wrong.exF
def t__law_alike : WS := (wRet (wAndV (wOp wEqG (wVar 0) (wVar 1)) (wOp wEq (wCB wReprG (wCons (wVar 0) wNil)) (wCB wReprG (wCons (wVar 1) wNil)))))
def w__law_alike : WF := wDef 2 0 t__law_alike
theorem scw__law_alike : FnScope ["_law_found", "_law_due_here"] ["_law_found", "_law_due_here"] (defScope s__law_alike) := ⟨rfl, rfl, rfl, by decide +kernel, rfl, by decide +kernel, by decide +kernel⟩
set_option maxHeartbeats 4000000 in
theorem ow__law_alike (T : Tx P K mg d) : OkP NoG P w K mg base 1 d.f__law_alike ["_law_found", "_law_due_here"] (spW K (cnA d) (rN K (cnA d)) w__law_alike) :=
  okwG_of (ts' := [.sh, .sh]) T.d__law_alike scw__law_alike rfl rfl rnonN fun cdv A outer s H E hg hr =>
    ⟨_, (pss_one (ps_ret (pe_and (pe_cmpR (u_eqG (K := K) rfl hr.units) (pv 0) (pv 1) (nomark _)) (pe_one (pe_cmpR (u_eq (K := K) rfl hr.units) (pe_callB (k_reprG (K := K) (k := 0) rfl hg (hr.mono (by decide))) (by rfl) T.z_repr (by decide +kernel) (pa_cons (pv 0) pa_nil)) (pe_callB (k_reprG (K := K) (k := 0) rfl hg (hr.mono (by decide))) (by rfl) T.z_repr (by decide +kernel) (pa_cons (pv 1) pa_nil)) (nomark _)))))),
    (simS_ret okN (sim_andV (sim_NS (sim_op okN ops_eqG (sim_SW (sim_var rfl)) (sim_SW (sim_var rfl)))) (sim_op okN ops_eq (sim_NW (sim_cb okN (cas_reprG T.sm) (simAW_cons (sim_SW (sim_var rfl)) simAW_nil))) (sim_NW (sim_cb okN (cas_reprG T.sm) (simAW_cons (sim_SW (sim_var rfl)) simAW_nil))))))⟩
theorem sc__law_bag : FnScope ["_law_script", "_law_cell"] ["_law_script"] (defScope s__law_bag) := ⟨rfl, rfl, rfl, by decide +kernel, rfl, by decide +kernel, by decide +kernel⟩
theorem absI (i : Int) : 0 ≤ (if i < 0 then -i else i) := by split <;> omega
theorem cut_some (xs : List V) (h : xs.length ≤ 63) : cutV xs none (some 63) = xs := by
  unfold cutV
  rw [HT.sIx_none, show HT.sIx xs.length xs.length (some 63) = min 63 xs.length from HT.sIx_nat xs.length xs.length 63]
  rw [List.drop_zero, Nat.sub_zero, Nat.min_eq_right h, List.take_length]
def sp__law_bag (K : PySem.W.Frag) (d : Ads) : Sp := spBag K
def spBagL0 (K : PySem.W.Frag) (d : Ads) : Sp := spBagL K
set_option maxHeartbeats 4000000 in
theorem ok0__law_bag (T : Tx P K mg d) : Okf P w K mg base 1 d.f__law_bag ["_law_script"] (spBagL0 K d) := by
  refine okf_of T.d__law_bag sc__law_bag (fun vs H Q E h => ?_) (fun cdv A outer s H vs Q E hr h => ?_)
  · obtain ⟨a, ns, rfl, hS, hl, k⟩ := h
    rfl
  · obtain ⟨a, ns, rfl, hS, hl, k⟩ := h
    refine ⟨_, (pss_one (ps_ret (pe_lst (pa_cons pe_int (pa_cons pe_int (pa_cons pe_int (pa_cons (pe_lc (own := [("_law_cell", 1)]) rfl sc__law_bag.nd (k_piL (K := K) rfl (pe_slice (k_slL (K := K) rfl) (pv 0) po_none (po_some pe_int))) (blkOk_by (by kernel_rfl)) (fun _ _ _ _ _ => (pg_name (i := 1) sc__law_bag.nd rfl (by first | exact Or.inl rfl | exact Or.inr rfl))) (fun _ _ _ _ _ => pts_nil) (fun _ _ _ _ _ => (pe_callB k_abs (by rfl) T.z_abs (by decide +kernel) (pa_cons (pv 1) pa_nil)))) pa_nil))))))), ?_⟩
    walk_at "rd"
    refine ⟨a, _, rfl, hS, fun c nc => ?_⟩
    rw [cut_some _ (by rw [List.length_map]; exact hl)]
    refine ⟨c, rfl, ⟨_, .inl (.inl upd_same)⟩, lc_fun (walk_list (xs := ns.map V.int)) (fun i => .int (if ns.getD i 0 < 0 then - ns.getD i 0 else ns.getD i 0)) (fun H' e => .inl (.inl (e _ _ upd_same))) (by rw [List.length_map]; omega) ?_ ?_⟩
    · rintro i x H1 H2 hi e ⟨rfl, hx⟩ kk hk
      obtain rfl := int_at hx
      walk_at "rd"
      exact hk _ (Ex.refl _)
    · intro D H' nD e hD
      rw [List.length_map] at hD
      walk_at "rd"
      refine ⟨by show 4 ≤ sizeLine; decide, fun b nb => ?_⟩
      have e1 : Ex H H' := (Ex.new nc).trans e
      have nH : H D = none := fresh_back (Ex.new nc) nD
      refine k b D ((List.range ns.length).map fun i => if ns.getD i 0 < 0 then - ns.getD i 0 else ns.getD i 0) _ (e1.trans (Ex.new nb)) (fresh_back e1 nb) nH upd_same ?_ ?_ ?_
      · rw [upd_ne (ne_of_none hD nb), hD, List.map_map]
        rfl
      · intro c hc
        obtain ⟨i, _, rfl⟩ := List.mem_map.mp hc
        exact absI _
      · rw [List.length_map, List.length_range]
        exact hl
theorem ok__law_bag (T : Tx P K mg d) : Okf P w K mg base 1 d.f__law_bag ["_law_script"] (sp__law_bag K d) := bag_ok (ok0__law_bag T)
theorem ow__law_bag (T : Tx P K mg d) : Okf P w K mg base 1 d.f__law_bag ["_law_script"] (spW K (cnA d) (rN K (cnA d)) w_bag) := okw_imp (ok__law_bag T) tells_bag
theorem sc__law_take : FnScope ["_law_bag_here", "_law_upto", "_law_cell", "_law_mixed", "_law_drawn", "_law_early", "_law_second"] ["_law_bag_here", "_law_upto"] (defScope s__law_take) := ⟨rfl, rfl, rfl, by decide +kernel, rfl, by decide +kernel, by decide +kernel⟩
def sp__law_take (K : PySem.W.Frag) (d : Ads) : Sp := spTake
def spTakeL0 (K : PySem.W.Frag) (d : Ads) : Sp := spTakeL
set_option maxHeartbeats 4000000 in
theorem ok0__law_take (T : Tx P K mg d) : Okf P w K mg base 1 d.f__law_take ["_law_bag_here", "_law_upto"] (spTakeL0 K d) := by
  refine okf_of T.d__law_take sc__law_take (fun vs H Q E h => ?_) (fun cdv A outer s H vs Q E hr h => ?_)
  · obtain ⟨b, l, u, o, cs, xs, rfl, hb, ⟨c0, c1, c2, rfl, h0, h1, h1u, h2⟩, hL, hc, hcl, hu0, hu1, k⟩ := h
    rfl
  · obtain ⟨b, l, u, o, cs, xs, rfl, hb, ⟨c0, c1, c2, rfl, h0, h1, h1u, h2⟩, hL, hc, hcl, hu0, hu1, k⟩ := h
    refine ⟨_, (Evl.pss_cut (ps_if (pt_cmpR op_eq (pe_ix (k_ixL (K := K) rfl) (pv 0) pe_int (fun _ _ => rfl)) pe_int (nomark _)) (pss_cons (ps_set (i := 2) sc__law_take.nd rfl (by first | exact Or.inl rfl | exact Or.inr rfl) pe_int)
      (Evl.pss_cut (ps_if (pt_cmpR op_lt (pe_ix (k_ixL (K := K) rfl) (pv 0) pe_int (fun _ _ => rfl)) (pe_callB (k_len (K := K) rfl) (by rfl) T.z_len (by decide +kernel) (pa_cons (pe_ix (k_ixL (K := K) rfl) (pv 0) pe_int (fun _ _ => rfl)) pa_nil)) (nomark _)) (pss_one (ps_set (i := 2) sc__law_take.nd rfl (by first | exact Or.inl rfl | exact Or.inr rfl) (pe_ix (k_ixL (K := K) rfl) (pe_ix (k_ixL (K := K) rfl) (pv 0) pe_int (fun _ _ => rfl)) (pe_ix (k_ixL (K := K) rfl) (pv 0) pe_int (fun _ _ => rfl)) (fun _ _ => rfl)))) pss_nil)
      (pss_cons (ps_augS (pv 0) pe_int (k_getL (K := K) rfl) pe_int ip_add set_list)
      (Evl.pss_cut (ps_if (pt_cmpR op_ge (pv 2) pe_int (nomark _)) (pss_one (ps_asg (pv 2) (pg_sub (pv 0) pe_int set_list))) pss_nil)
      (pss_cons (ps_set (i := 3) sc__law_take.nd rfl (by first | exact Or.inl rfl | exact Or.inr rfl) (pe_op op_add (pe_op op_add (pe_op op_mul (pe_ix (k_ixL (K := K) rfl) (pv 0) pe_int (fun _ _ => rfl)) pe_int) (pe_op op_mod (pe_callTy k_int1 (by rfl) T.z_int (by decide +kernel) (pa_cons (pv 2) pa_nil)) pe_int)) (pe_op op_mul pe_int (pe_ix (k_ixL (K := K) rfl) (pv 0) pe_int (fun _ _ => rfl)))))
      (pss_one (ps_asg (pe_op op_mod (pe_callTy k_int1 (by rfl) T.z_int (by decide +kernel) (pa_cons (pv 3) pa_nil)) pe_int) (pg_sub (pv 0) pe_int set_list)))))))) pss_nil)
      (pss_cons (ps_if (pt_cmpR op_gt (pe_ix (k_ixL (K := K) rfl) (pv 0) pe_int (fun _ _ => rfl)) pe_int (nomark _)) (pss_cons (ps_set (i := 4) sc__law_take.nd rfl (by first | exact Or.inl rfl | exact Or.inr rfl) (pe_op op_mod (pe_callTy k_int1 (by rfl) T.z_int (by decide +kernel) (pa_cons (pe_ix (k_ixL (K := K) rfl) (pv 0) pe_int (fun _ _ => rfl)) pa_nil)) (pv 1)))
      (pss_cons (ps_asg (pe_op op_fdivW (pe_callTy k_int1 (by rfl) T.z_int (by decide +kernel) (pa_cons (pe_ix (k_ixL (K := K) rfl) (pv 0) pe_int (fun _ _ => rfl)) pa_nil)) (pv 1)) (pg_sub (pv 0) pe_int set_list))
      (pss_one (ps_ret (pv 4))))) pss_nil)
      (pss_cons (ps_set (i := 5) sc__law_take.nd rfl (by first | exact Or.inl rfl | exact Or.inr rfl) (pe_op op_mod (pe_callTy k_int1 (by rfl) T.z_int (by decide +kernel) (pa_cons (pe_op op_mul (pe_op op_add (pe_ix (k_ixL (K := K) rfl) (pv 0) pe_int (fun _ _ => rfl)) pe_int) pe_int) pa_nil)) pe_int))
      (pss_cons (ps_set (i := 6) sc__law_take.nd rfl (by first | exact Or.inl rfl | exact Or.inr rfl) (pe_op op_mod (pe_callTy k_int1 (by rfl) T.z_int (by decide +kernel) (pa_cons (pe_op op_mul (pe_op op_mod (pe_callTy k_int1 (by rfl) T.z_int (by decide +kernel) (pa_cons (pe_op op_mul (pv 5) (pv 5)) pa_nil)) pe_int) pe_int) pa_nil)) pe_int))
      (pss_one (ps_ret (pe_op op_mod (pe_callTy k_int1 (by rfl) T.z_int (by decide +kernel) (pa_cons (pe_op op_fdiv (pv 6) pe_int) pa_nil)) (pv 1)))))))), ?_⟩
    have lb : l ≠ b := ne_of hL hb (by intro z; cases z)
    refine ⟨fun σ H' => ∃ (d0 d1 d2 : Int) (y2 y3 : Option V), σ = [some (.ref b), some (.int u), y2, y3, none, none, none] ∧ H' = upd H b (.lst [.int d0, .int d1, .int d2, .ref l]) ∧ 0 ≤ d0 ∧ 0 ≤ d1 ∧ d1 < 2147483647 ∧ 0 ≤ d2, ?_, ?_⟩
    · refine ⟨_, rfl, b, _, 0, _, rfl, rfl, SqL.of hb, rfl, rfl, _, rfl, ite2 (fun _ => ?_) (fun _ => ?_)⟩
      ·
        refine ⟨fun σ H' => ∃ cell : Int, 0 ≤ cell ∧ σ = [some (.ref b), some (.int u), some (.int cell), none, none, none, none] ∧ H' = H, ?_, ?_⟩
        · refine ⟨_, rfl, b, _, 2, _, rfl, rfl, SqL.of hb, rfl, _, rfl, b, _, 3, _, rfl, rfl, SqL.of hb, rfl, l, _, rfl, .inl (.inl (.inr ⟨o, hL⟩)), _, _, rfl, rfl, _, rfl, ite2 (fun hlt => ?_) (fun _ => ?_)⟩
          · have hlt' : c2 < ((cs.map V.int).length : Int) := of_decide_eq_true hlt
            rw [List.length_map] at hlt'
            have hx := at_int (ns := cs) h2 hlt'
            refine ⟨_, rfl, b, _, 3, _, rfl, rfl, SqL.of hb, rfl, _, rfl, b, _, 2, _, rfl, rfl, SqL.of hb, rfl, l, _, c2, _, rfl, rfl, .inl (.inr ⟨o, hL⟩), hx, _, hc _ (gD_mem (by omega)), rfl, rfl⟩
          · exact ⟨0, Int.le_refl 0, rfl, rfl⟩
        · rintro σ' H' ⟨cell, hcell, rfl, hH⟩
          rw [hH]
          refine ⟨_, rfl, b, _, 2, _, rfl, rfl, SqL.of hb, rfl, _, _, rfl, rfl, b, _, 2, 2, rfl, rfl, hb, rfl, ?_⟩
          refine ⟨fun σ H' => ∃ d0 : Int, 0 ≤ d0 ∧ σ = [some (.ref b), some (.int u), some (.int cell), none, none, none, none] ∧ H' = upd H b (.lst [.int d0, .int c1, .int (c2 + 1), .ref l]), ?_, ?_⟩
          · refine ⟨_, rfl, _, _, rfl, rfl, _, rfl, ite2 (fun _ => ?_) (fun _ => ?_)⟩
            · refine ⟨_, rfl, _, rfl, b, _, 0, 0, rfl, rfl, upd_same, rfl, cell, hcell, rfl, ?_⟩
              rw [upd_upd]
              rfl
            · exact ⟨c0, h0, rfl, rfl⟩
          · rintro σ' H' ⟨d0, hd0, rfl, rfl⟩
            refine ⟨_, rfl, b, _, 1, _, rfl, rfl, SqL.of upd_same, rfl, c1, _, rfl, rfl, .inl ⟨by omega, by omega⟩, _, rfl, .inl ⟨_, rfl, _, _, rfl, rfl, (by show (0 : Int) < 2147483647; decide), _, _, rfl, rfl, _, rfl, b, _, 2, _, rfl, rfl, SqL.of upd_same, rfl, _, _, rfl, rfl, .inl ⟨by decide, by decide⟩, _, _, rfl, rfl, ?_⟩⟩
            refine ⟨_, rfl, .inl ⟨_, rfl, _, _, rfl, rfl, (by show (0 : Int) < 2147483647; decide), _, rfl, b, _, 1, 1, rfl, rfl, upd_same, rfl, ?_⟩⟩
            refine ⟨d0, _, c2 + 1, _, _, rfl, by rw [upd_upd]; rfl, hd0, Int.emod_nonneg _ (by decide), Int.emod_lt_of_pos _ (by decide), by omega⟩
      · refine ⟨c0, c1, c2, none, none, rfl, ?_, h0, h1, h1u, h2⟩
        funext a
        by_cases ha : a = b
        · subst ha
          rw [upd_same, hb]
        · rw [upd_ne ha]
    · rintro σ' H' ⟨d0, d1, d2, y2, y3, rfl, rfl, g0, g1, g1u, g2⟩
      have kk : ∀ (n : Int) (ys : List V), 0 ≤ n → n < u → BagV l ys → Q (.int n) (upd (upd H b (.lst [.int d0, .int d1, .int d2, .ref l])) b (.lst ys)) := fun n ys a1 a2 a3 => by
        rw [upd_upd]
        exact k n ys a1 a2 a3
      refine ⟨_, rfl, b, _, 0, _, rfl, rfl, SqL.of upd_same, rfl, _, _, rfl, rfl, _, rfl, ite2 (fun hp => ?_) (fun _ => ?_)⟩
      · have hp' : 0 < d0 := of_decide_eq_true hp
        refine ⟨_, rfl, b, _, 0, _, rfl, rfl, SqL.of upd_same, rfl, .inl ⟨_, rfl, _, rfl, _, _, rfl, rfl, hu0, ?_⟩⟩
        refine ⟨_, rfl, b, _, 0, _, rfl, rfl, SqL.of upd_same, rfl, .inl ⟨_, rfl, _, rfl, _, _, rfl, rfl, ⟨hu0, Nat.lt_of_lt_of_le (PySem.Flt.log2_lt_of (by decide : 0 < 200) (by omega)) (by decide)⟩, _, rfl, b, _, 0, 0, rfl, rfl, upd_same, rfl, _, rfl, ?_⟩⟩
        exact kk _ _ (Int.emod_nonneg _ (by omega)) (Int.emod_lt_of_pos _ hu0) ⟨_, d1, d2, rfl, Int.ediv_nonneg (by omega) (by omega), g1, g1u, g2⟩
      · refine ⟨_, rfl, b, _, 1, _, rfl, rfl, SqL.of upd_same, rfl, _, _, rfl, rfl, _, _, rfl, rfl, .inr ⟨by decide, by decide⟩, .inl ⟨_, rfl, _, _, rfl, rfl, (by show (0 : Int) < 1000000007; decide), ?_⟩⟩
        have e0 : 0 ≤ (d1 + 1) * 39373 % 1000000007 := Int.emod_nonneg _ (by decide)
        have e1 : (d1 + 1) * 39373 % 1000000007 < 1000000007 := Int.emod_lt_of_pos _ (by decide)
        refine ⟨_, rfl, _, rfl, _, _, rfl, rfl, .inl ⟨by omega, by omega⟩, .inl ⟨_, rfl, _, _, rfl, rfl, (by show (0 : Int) < 998244353; decide), _, _, rfl, rfl, .inr ⟨by decide, by decide⟩, .inl ⟨_, rfl, _, _, rfl, rfl, (by show (0 : Int) < 998244353; decide), ?_⟩⟩⟩
        refine ⟨_, rfl, _, _, rfl, rfl, ⟨by decide, by decide⟩, .inl ⟨_, rfl, _, rfl, _, _, rfl, rfl, hu0, ?_⟩⟩
        exact k _ _ (Int.emod_nonneg _ (by omega)) (Int.emod_lt_of_pos _ hu0) ⟨d0, d1, d2, rfl, g0, g1, g1u, g2⟩
theorem ok__law_take (T : Tx P K mg d) : Okf P w K mg base 1 d.f__law_take ["_law_bag_here", "_law_upto"] (sp__law_take K d) := take_ok (ok0__law_take T) rfl
theorem ow__law_take (T : Tx P K mg d) : Okf P w K mg base 1 d.f__law_take ["_law_bag_here", "_law_upto"] (spW K (cnA d) (rN K (cnA d)) w_take) := okw_imp (ok__law_take T) tells_take
theorem sc__law_stays : FnScope ["_law_bag_here", "_law_many", "_law_most", "_law_drawn", "_law_hour", "_law_ahead"] ["_law_bag_here", "_law_many"] (defScope s__law_stays) := ⟨rfl, rfl, rfl, by decide +kernel, rfl, by decide +kernel, by decide +kernel⟩
def sp__law_stays (K : PySem.W.Frag) (d : Ads) : Sp := fun vs H Q _ => ∃ (b : Addr) (n : Nat), vs = [.ref b, .int (n : Int)] ∧ Bag H b ∧ 1 ≤ n ∧ n ≤ 48 ∧ ∀ s : List Int, s.length = n → Good s → RetN (s.map V.int) H Q
set_option maxHeartbeats 4000000 in
theorem ok__law_stays (T : Tx P K mg d) : Okf P w K mg base 2 d.f__law_stays ["_law_bag_here", "_law_many"] (sp__law_stays K d) := by
  refine okf_of T.d__law_stays sc__law_stays (fun vs H Q E h => ?_) (fun cdv A outer s H vs Q E hr h => ?_)
  · obtain ⟨b, n, rfl, hB, hn, hn2, k⟩ := h
    rfl
  · obtain ⟨b, n, rfl, hB, hn, hn2, k⟩ := h
    refine ⟨_, (pss_cons (ps_if (pt_cmpR op_eq (pf_call (ok__law_take T) (hr.mono (by decide)) (by rfl) T.g__law_take T.d__law_take.kp (pa_cons (pv 0) (pa_cons pe_int pa_nil))) pe_int (nomark _)) (pss_one (ps_ret (pe_op op_rep (pe_lst (pa_cons (pe_op op_add pe_int (pf_call (ok__law_take T) (hr.mono (by decide)) (by rfl) T.g__law_take T.d__law_take.kp (pa_cons (pv 0) (pa_cons (pv 1) pa_nil)))) pa_nil)) (pv 1)))) pss_nil)
      (pss_cons (ps_set (i := 2) sc__law_stays.nd rfl (by first | exact Or.inl rfl | exact Or.inr rfl) (pe_op op_add pe_int (pf_call (ok__law_take T) (hr.mono (by decide)) (by rfl) T.g__law_take T.d__law_take.kp (pa_cons (pv 0) (pa_cons (pv 1) pa_nil)))))
      (pss_cons (ps_set (i := 3) sc__law_stays.nd rfl (by first | exact Or.inl rfl | exact Or.inr rfl) (pe_lc (own := [("_law_hour", 4)]) rfl sc__law_stays.nd (pi_range1 (by rfl) T.z_range (pa_cons (pv 1) pa_nil)) (blkOk_by (by kernel_rfl)) (fun _ _ _ _ _ => (pg_name (i := 4) sc__law_stays.nd rfl (by first | exact Or.inl rfl | exact Or.inr rfl))) (fun _ _ _ _ _ => pts_nil) (fun _ _ _ _ _ => (pe_op op_add pe_int (pf_call (ok__law_take T) (hr.mono (by decide)) (by rfl) T.g__law_take T.d__law_take.kp (pa_cons (pv 0) (pa_cons (pv 2) pa_nil)))))))
      (pss_one (ps_ret (pe_lc (own := [("_law_hour", 4)]) rfl sc__law_stays.nd (pi_range1 (by rfl) T.z_range (pa_cons (pv 1) pa_nil)) (blkOk_by (by kernel_rfl)) (fun _ _ _ _ _ => (pg_name (i := 4) sc__law_stays.nd rfl (by first | exact Or.inl rfl | exact Or.inr rfl))) (fun _ _ _ _ _ => pts_nil) (fun _ _ _ _ _ => (pe_callB (k_min (K := K) rfl rfl) (by rfl) T.z_min (by decide +kernel) (pa_cons (pe_lc (own := [("_law_ahead", 5)]) rfl sc__law_stays.nd (pi_range1 (by rfl) T.z_range (pa_cons (pv 1) pa_nil)) (blkOk_by (by kernel_rfl)) (fun _ _ _ _ _ => (pg_name (i := 5) sc__law_stays.nd rfl (by first | exact Or.inl rfl | exact Or.inr rfl))) (fun _ _ _ _ _ => pts_nil) (fun _ _ _ _ _ => (pe_op op_add (pe_ix (k_ixL (K := K) rfl) (pv 3) (pe_op op_mod (pe_callTy k_int1 (by rfl) T.z_int (by decide +kernel) (pa_cons (pe_op op_add (pv 4) (pv 5)) pa_nil)) (pv 1)) (fun _ _ => rfl)) (pv 5)))) pa_nil))))))))), ?_⟩
    walk_at "rd"
    refine ⟨b, _, rfl, hB, by omega, by omega, fun c0 _ _ => ?_⟩
    walk_at "rd"
    refine r_ite (fun _ => ?_) (fun _ => ?_)
    · walk_at "rd"
      refine ⟨b, _, rfl, hB, by omega, by omega, fun c c1 c2 => ?_⟩
      walk_at "rd"
      refine ⟨szc rfl, fun p np => ?_⟩
      walk_at "rd"
      refine ⟨p, _, _, rfl, rfl, upd_same, by omega, by omega, ?_, fun q nq => ?_⟩
      · rw [Int.toNat_natCast]
        show 1 * n ≤ sizeLine
        have : (48 : Nat) ≤ sizeLine := by decide
        omega
      · refine k (List.replicate n (1 + c)) List.length_replicate (Good.const hn hn2 (by omega) (by omega)) q _ ?_ ((Ex.new np).trans (Ex.new nq)) ?_
        · exact fresh_back (Ex.new np) nq
        · rw [upd_same, Int.toNat_natCast, flat_rep, List.map_replicate]
    · walk_at "rd"
      refine ⟨b, _, rfl, hB, by omega, by omega, fun c c1 c2 => ?_⟩
      walk_at "rd"
      refine lc_val walk_r0 (fun _ v => ∃ z : Int, 0 ≤ z ∧ z < 1 + c ∧ v = .int (1 + z)) (fun _ _ => trivial) (by omega) ?_ ?_
      · rintro i x H1 H2 hi e ⟨rfl, rfl⟩ kk hk
        walk_at "rd"
        refine ⟨b, _, rfl, hB.mono (.of e), by omega, by omega, fun z z1 z2 => ?_⟩
        walk_at "rd"
        exact hk _ _ (Ex.refl _) ⟨z, z1, z2, rfl⟩
      · intro D H1 ys nD e1 hD yl yv
        rw [Int.toNat_natCast] at yl
        obtain ⟨dr, hdr, rfl⟩ : ∃ dr : List Int, (∀ z ∈ dr, 1 ≤ z ∧ z ≤ 1 + c) ∧ ys = dr.map V.int := ints_of fun v hv => by
          obtain ⟨i, hi, rfl⟩ := List.mem_iff_getElem.mp hv
          obtain ⟨z, z0, z1, ez⟩ := yv i _ (List.getElem?_eq_getElem hi)
          exact ⟨1 + z, by omega, ez⟩
        rw [List.length_map] at yl
        have hcy : ∀ i, 1 ≤ cyc dr i ∧ cyc dr i ≤ 1 + c := fun i => hdr _ (cyc_mem (by omega) i)
        walk_at "rd"
        refine lc_val walk_r0 (fun i v => ∃ m : Int, v = .int m ∧ (∃ a : Nat, a < n ∧ m = cyc dr ((i : Int) + a) + a) ∧ ∀ a : Nat, a < n → m ≤ cyc dr ((i : Int) + a) + a) (fun _ _ => trivial) (by omega) ?_ ?_
        · rintro i x H2 H3 hi e ⟨rfl, rfl⟩ kk hk
          walk_at "rd"
          refine lc_fun walk_r0 (fun a => .int (cyc dr ((i : Int) + a) + a)) (fun _ _ => trivial) (by omega) ?_ ?_
          · rintro a x H4 H5 ha e' ⟨rfl, rfl⟩ kk' hk'
            walk_at "rd"
            have ea := at_cyc (ns := dr) (by omega) ((i : Int) + a)
            rw [yl] at ea
            refine r_ixL (.inl (.inl (e' _ _ (e _ _ hD)))) ea ?_
            walk_at "rd"
            exact hk' _ (Ex.refl _)
          · intro D2 H4 nD2 e4 hD2
            walk_at "rd"
            refine ⟨D2, (List.range n).map (fun a : Nat => cyc dr ((i : Int) + a) + a), rfl, .inl (.inl ?_), ?_, fun m hm hle => ?_⟩
            · rw [hD2, List.map_map, Int.toNat_natCast]
              rfl
            · rw [List.length_map, List.length_range]
              omega
            · refine hk _ _ e4 ⟨m, rfl, ?_, fun a ha => hle _ (List.mem_map.mpr ⟨a, List.mem_range.mpr ha, rfl⟩)⟩
              obtain ⟨a, ha, ea⟩ := List.mem_map.mp hm
              exact ⟨a, List.mem_range.mp ha, ea.symm⟩
        · intro D2 H2 zs nD2 e2 hD2 zl zv
          rw [Int.toNat_natCast] at zl
          obtain ⟨m, _, rfl⟩ : ∃ m : List Int, (∀ z ∈ m, True) ∧ zs = m.map V.int := ints_of fun v hv => by
            obtain ⟨i, hi, rfl⟩ := List.mem_iff_getElem.mp hv
            obtain ⟨z, ez, _⟩ := zv i _ (List.getElem?_eq_getElem hi)
            exact ⟨z, trivial, ez⟩
          rw [List.length_map] at zl
          refine k m zl (Good.least (dr := dr) (top := 1 + c) hn hn2 zl yl (by omega) hcy fun j hj => ?_) D2 H2 (fresh_back e1 nD2) (e1.trans e2) hD2
          obtain ⟨z, ez, h1, h2⟩ := zv j _ (by rw [List.getElem?_map, List.getElem?_eq_getElem (by omega)]; rfl)
          have ez' : m.getD j 0 = z := by
            rw [List.getD_eq_getElem?_getD, List.getElem?_eq_getElem (by omega)]
            exact V.int.inj ez
          rw [ez']
          exact ⟨h1, h2⟩
def w__law_stays : WF := fun xs P => ∃ (n : Nat), xs = [.bag, .int (n : Int)] ∧ 1 ≤ n ∧ n ≤ 48 ∧ ∀ s : List Int, s.length = n → Good s → P (.lst (iL s))
theorem ow__law_stays (T : Tx P K mg d) : Okf P w K mg base 2 d.f__law_stays ["_law_bag_here", "_law_many"] (spW K (cnA d) (rN K (cnA d)) w__law_stays) := okw_imp (ok__law_stays T) (fun vs H Q E ⟨F, xs, P, dm, r, ⟨n, ex, c1, c2, p⟩, k⟩ => by
  subst ex
  obtain ⟨v1, v2, rfl, r1, r2⟩ := r.two
  obtain ⟨a1, rfl, h1⟩ := r1.bagE
  cases r2.intE
  exact ⟨a1, n, rfl, h1, c1, c2, fun s hl g => ret_ints dm k (p s hl g)⟩)
def t__law_one : WS := (wRet (wOp wIx (wVar 1) (wCall w_take (wCons (wVar 0) (wCons (wCB wLen (wCons (wVar 1) wNil)) wNil)))))
def w__law_one : WF := wDef 2 0 t__law_one
theorem scw__law_one : FnScope ["_law_bag_here", "_law_some"] ["_law_bag_here", "_law_some"] (defScope s__law_one) := ⟨rfl, rfl, rfl, by decide +kernel, rfl, by decide +kernel, by decide +kernel⟩
set_option maxHeartbeats 4000000 in
theorem ow__law_one (T : Tx P K mg d) : Okf P w K mg base 2 d.f__law_one ["_law_bag_here", "_law_some"] (spW K (cnA d) (rS K (cnA d)) w__law_one) :=
  okw_of (ts' := [.sh, .sh]) T.d__law_one scw__law_one rfl rfl rnonS fun cdv A outer s H E hr =>
    ⟨_, (pss_one (ps_ret (pe_ix (k_ixS (K := K) rfl) (pv 1) (pf_call (ow__law_take T) (hr.mono (by decide)) (by rfl) T.g__law_take T.d__law_take.kp (pa_cons (pv 0) (pa_cons (pe_callB (u_len (K := K) rfl) (by rfl) T.z_len (by decide +kernel) (pa_cons (pv 1) pa_nil)) pa_nil))) (fun _ _ => rfl)))),
    (simS_ret okS (sim_op okS ops_ix (sim_SW (sim_var rfl)) (sim_NW (sim_call okN (simA_cons (sim_var rfl) (simA_cons (sim_NS (sim_cb okN cas_len (simAW_cons (sim_SW (sim_var rfl)) simAW_nil))) simA_nil))))))⟩
def t__law_odd : WS := (wSeq (wPar 1 2 false false (wCB wInt1 (wCons (wOp wAdd (wC (.str "1")) (wOp wMulX (wC (.str "0")) (wCall w_take (wCons (wVar 0) (wCons (wC (.int 41)) wNil))))) wNil)) (wLst (wCons (wC (.int 0)) wNil)))
      (wSeq (wFor (wRng1 (wCons (wCall w_take (wCons (wVar 0) (wCons (wC (.int 55)) wNil))) wNil)) (wgName 3) (wSet 2 (wLst (wCons (wVar 2) wNil))))
      (wSeq (wSet 4 (wLst (wCons (wC (.int 0)) (wCons (wC (.int 1)) (wCons (wUn wNeg (wC (.int 1))) (wCons (wC (.int 2)) (wCons (wC (.int 47)) (wCons (wC (.int 48)) (wCons (wC (.int 49)) (wCons (wVar 1) (wCons (wOp (wI0 fun i j => i - j) (wC (.int 0)) (wVar 1)) (wCons (wC (.bl true)) (wCons (wC (.bl false)) (wCons (wC .non) (wCons (wC (.str "")) (wCons (wC (.str "0")) (wCons (wC (.str "1")) (wCons (wC (.str "a")) (wCons (wC (.str "need")) (wCons (wC (.str "need 0")) wNil))))))))))))))))))))
      (wSeq (wSet 4 (wOp wAdd (wVar 4) (wLst (wCons (wTup wNil) (wCons (wLst wNil) (wCons (wDct []) (wCons (wTup (wCons (wC (.int 0)) wNil)) (wCons (wLst (wCons (wC (.int 0)) wNil)) (wCons (wLst (wCons (wC (.int 1)) wNil)) (wCons (wLst (wCons (wLst (wCons (wC (.int 0)) wNil)) wNil)) (wCons (wLst (wCons (wC .non) wNil)) (wCons (wLst (wCons (wC (.bl true)) wNil)) (wCons (wTup (wCons (wC (.int 0)) (wCons (wC (.int 1)) wNil))) (wCons (wTup (wCons (wC (.int 1)) (wCons (wC (.int 2)) wNil))) (wCons (wTup (wCons (wC (.int 2)) (wCons (wC (.int 4)) wNil))) (wCons (wTup (wCons (wUn wNeg (wC (.int 1))) (wCons (wC (.int 2)) wNil))) (wCons (wTup (wCons (wC (.int 1)) (wCons (wC (.int 0)) wNil))) wNil)))))))))))))))))
      (wSeq (wSet 4 (wOp wAdd (wVar 4) (wLst (wCons (wLst (wCons (wC (.int 1)) (wCons (wC (.int 2)) wNil))) (wCons (wLst (wCons (wC (.int 1)) (wCons (wC (.int 1)) wNil))) (wCons (wTup (wCons (wC (.int 1)) (wCons (wC (.int 1)) wNil))) (wCons (wDct [(.inl 0, 1)]) (wCons (wDct [(.inr "need", 0)]) (wCons (wTup (wCons (wC (.str "need")) (wCons (wC (.int 0)) wNil))) (wCons (wLst (wCons (wC (.str "need")) (wCons (wC (.int 0)) wNil))) (wCons (wLst (wCons (wTup (wCons (wC (.str "need")) (wCons (wC (.int 0)) wNil))) wNil)) (wCons (wTup (wCons (wC (.int 0)) (wCons (wC (.int 2)) wNil))) wNil))))))))))))
      (wSeq (wSet 4 (wOp wAdd (wVar 4) (wLst (wCons (wTup (wCons (wC (.str "keep")) (wCons (wC (.int 0)) wNil))) (wCons (wLst (wCons (wTup (wCons (wC (.str "keep")) (wCons (wC (.int 0)) wNil))) wNil)) (wCons (wTup (wCons (wC (.str "need")) (wCons (wC (.int 0)) (wCons (wC (.int 1)) wNil)))) (wCons (wTup (wCons (wC (.str "stay")) (wCons (wC (.int 0)) (wCons (wC (.int 1)) wNil)))) (wCons (wLst (wCons (wC (.str "need")) (wCons (wC (.int 0)) (wCons (wC (.int 1)) wNil)))) (wCons (wTup (wCons (wC (.str "need")) (wCons (wC (.bl true)) wNil))) wNil)))))))))
      (wSeq (wSet 4 (wOp wAdd (wVar 4) (wLst (wCons (wTup (wCons (wC (.str "need")) (wCons (wC (.int 0)) (wCons (wC .non) wNil)))) (wCons (wC (.str "1/2")) wNil)))))
      (wRet (wCall w__law_one (wCons (wVar 0) (wCons (wOp wAdd (wVar 4) (wLst (wCons (wTup (wCons (wC (.str "room")) (wCons (wC (.int 0)) (wCons (wC .non) wNil)))) (wCons (wTup (wCons (wC (.str "need")) wNil)) (wCons (wTup (wCons (wC (.str "stay")) (wCons (wC (.int 0)) wNil))) (wCons (wVar 2) (wCons (wOp wMul (wLst (wCons (wC (.int 0)) wNil)) (wC (.int 3000))) (wCons (wOp wMul (wLst (wCons (wC (.int 1)) wNil)) (wC (.int 49))) (wCons (wC (.str "\n")) (wCons (wC (.str "\t")) wNil)))))))))) wNil)))))))))))
def w__law_odd : WF := wDef 1 4 t__law_odd
theorem scw__law_odd : FnScope ["_law_bag_here", "_law_wide", "_law_deep", "_law_k", "_law_some"] ["_law_bag_here"] (defScope s__law_odd) := ⟨rfl, rfl, rfl, by decide +kernel, rfl, by decide +kernel, by decide +kernel⟩
set_option maxHeartbeats 4000000 in
theorem ow__law_odd (T : Tx P K mg d) : Okf P w K mg base 3 d.f__law_odd ["_law_bag_here"] (spW K (cnA d) (rS K (cnA d)) w__law_odd) :=
  okw_of (ts' := [.sh, .sh, .sh, .no, .sh]) T.d__law_odd scw__law_odd rfl rfl rnonS fun cdv A outer s H E hr =>
    ⟨_, (pss_cons (ps_par (i := 1) (j := 2) (by rfl) scw__law_odd.nd rfl rfl (by decide) rfl rfl (pa_cons (pe_callTy u_int (by rfl) T.z_int (by decide +kernel) (pa_cons (pe_op (u_add (K := K) rfl) pe_str (pe_op op_strmulX pe_str (pf_call (ow__law_take T) (hr.mono (by decide)) (by rfl) T.g__law_take T.d__law_take.kp (pa_cons (pv 0) (pa_cons pe_int pa_nil))))) pa_nil)) (pa_cons (pe_lst (pa_cons pe_int pa_nil)) pa_nil)) (by rfl))
      (pss_cons (ps_for PassesOwn.never rfl (pi_range1 (by rfl) T.z_range (pa_cons (pf_call (ow__law_take T) (hr.mono (by decide)) (by rfl) T.g__law_take T.d__law_take.kp (pa_cons (pv 0) (pa_cons pe_int pa_nil))) pa_nil)) (pg_name (i := 3) scw__law_odd.nd rfl (by first | exact Or.inl rfl | exact Or.inr rfl)) (pss_one (ps_set (i := 2) scw__law_odd.nd rfl (by first | exact Or.inl rfl | exact Or.inr rfl) (pe_lst (pa_cons (pv 2) pa_nil)))))
      (pss_cons (ps_set (i := 4) scw__law_odd.nd rfl (by first | exact Or.inl rfl | exact Or.inr rfl) (pe_lst (pa_cons pe_int (pa_cons pe_int (pa_cons (pe_un un_neg pe_int) (pa_cons pe_int (pa_cons pe_int (pa_cons pe_int (pa_cons pe_int (pa_cons (pv 1) (pa_cons (pe_op op_sub pe_int (pv 1)) (pa_cons pe_bl (pa_cons pe_bl (pa_cons pe_non (pa_cons pe_str (pa_cons pe_str (pa_cons pe_str (pa_cons pe_str (pa_cons pe_str (pa_cons pe_str pa_nil))))))))))))))))))))
      (pss_cons (ps_set (i := 4) scw__law_odd.nd rfl (by first | exact Or.inl rfl | exact Or.inr rfl) (pe_op (u_add (K := K) rfl) (pv 4) (pe_lst (pa_cons (pe_tup pa_nil) (pa_cons (pe_lst pa_nil) (pa_cons pe_dnewK (pa_cons (pe_tup (pa_cons pe_int pa_nil)) (pa_cons (pe_lst (pa_cons pe_int pa_nil)) (pa_cons (pe_lst (pa_cons pe_int pa_nil)) (pa_cons (pe_lst (pa_cons (pe_lst (pa_cons pe_int pa_nil)) pa_nil)) (pa_cons (pe_lst (pa_cons pe_non pa_nil)) (pa_cons (pe_lst (pa_cons pe_bl pa_nil)) (pa_cons (pe_tup (pa_cons pe_int (pa_cons pe_int pa_nil))) (pa_cons (pe_tup (pa_cons pe_int (pa_cons pe_int pa_nil))) (pa_cons (pe_tup (pa_cons pe_int (pa_cons pe_int pa_nil))) (pa_cons (pe_tup (pa_cons (pe_un un_neg pe_int) (pa_cons pe_int pa_nil))) (pa_cons (pe_tup (pa_cons pe_int (pa_cons pe_int pa_nil))) pa_nil)))))))))))))))))
      (pss_cons (ps_set (i := 4) scw__law_odd.nd rfl (by first | exact Or.inl rfl | exact Or.inr rfl) (pe_op (u_add (K := K) rfl) (pv 4) (pe_lst (pa_cons (pe_lst (pa_cons pe_int (pa_cons pe_int pa_nil))) (pa_cons (pe_lst (pa_cons pe_int (pa_cons pe_int pa_nil))) (pa_cons (pe_tup (pa_cons pe_int (pa_cons pe_int pa_nil))) (pa_cons (pe_disp (pps_cons pe_int pe_int pps_nil) (by rfl) (by rfl) (by intro z; cases z) (by decide)) (pa_cons (pe_disp (pps_cons pe_str pe_int pps_nil) (by rfl) (by rfl) (by intro z; cases z) (by decide)) (pa_cons (pe_tup (pa_cons pe_str (pa_cons pe_int pa_nil))) (pa_cons (pe_lst (pa_cons pe_str (pa_cons pe_int pa_nil))) (pa_cons (pe_lst (pa_cons (pe_tup (pa_cons pe_str (pa_cons pe_int pa_nil))) pa_nil)) (pa_cons (pe_tup (pa_cons pe_int (pa_cons pe_int pa_nil))) pa_nil))))))))))))
      (pss_cons (ps_set (i := 4) scw__law_odd.nd rfl (by first | exact Or.inl rfl | exact Or.inr rfl) (pe_op (u_add (K := K) rfl) (pv 4) (pe_lst (pa_cons (pe_tup (pa_cons pe_str (pa_cons pe_int pa_nil))) (pa_cons (pe_lst (pa_cons (pe_tup (pa_cons pe_str (pa_cons pe_int pa_nil))) pa_nil)) (pa_cons (pe_tup (pa_cons pe_str (pa_cons pe_int (pa_cons pe_int pa_nil)))) (pa_cons (pe_tup (pa_cons pe_str (pa_cons pe_int (pa_cons pe_int pa_nil)))) (pa_cons (pe_lst (pa_cons pe_str (pa_cons pe_int (pa_cons pe_int pa_nil)))) (pa_cons (pe_tup (pa_cons pe_str (pa_cons pe_bl pa_nil))) pa_nil)))))))))
      (pss_cons (ps_set (i := 4) scw__law_odd.nd rfl (by first | exact Or.inl rfl | exact Or.inr rfl) (pe_op (u_add (K := K) rfl) (pv 4) (pe_lst (pa_cons (pe_tup (pa_cons pe_str (pa_cons pe_int (pa_cons pe_non pa_nil)))) (pa_cons pe_str pa_nil)))))
      (pss_one (ps_ret (pf_call (ow__law_one T) (hr.mono (by decide)) (by rfl) T.g__law_one T.d__law_one.kp (pa_cons (pv 0) (pa_cons (pe_op (u_add (K := K) rfl) (pv 4) (pe_lst (pa_cons (pe_tup (pa_cons pe_str (pa_cons pe_int (pa_cons pe_non pa_nil)))) (pa_cons (pe_tup (pa_cons pe_str pa_nil)) (pa_cons (pe_tup (pa_cons pe_str (pa_cons pe_int pa_nil))) (pa_cons (pv 2) (pa_cons (pe_op u_mul (pe_lst (pa_cons pe_int pa_nil)) pe_int) (pa_cons (pe_op u_mul (pe_lst (pa_cons pe_int pa_nil)) pe_int) (pa_cons pe_str (pa_cons pe_str pa_nil)))))))))) pa_nil)))))))))))),
    (simS_seq (simS_par (i := 1) (j := 2) (k := false) (l := false) (sim_NS (sim_cb okN cas_int (simAW_cons (sim_NW (sim_op okN ops_add (sim_NW sim_str) (sim_NW (sim_op okN ops_strmulX (sim_NW sim_str) (sim_NW (sim_call okN (simA_cons (sim_var rfl) (simA_cons (sim_NS sim_int) simA_nil)))))))) simAW_nil))) (sim_NS (sim_lst (simA_cons (sim_NS sim_int) simA_nil))))
      (simS_seq (simS_for (ts := [.sh, .sh, .sh, .no, .no]) (simI_rng1 (simAW_cons (sim_NW (sim_call okN (simA_cons (sim_var rfl) (simA_cons (sim_NS sim_int) simA_nil)))) simAW_nil)) (simG_name (i := 3)) (simS_set (i := 2) (sim_NS (sim_lst (simA_cons (sim_var rfl) simA_nil)))) rfl)
      (simS_seq (simS_set (i := 4) (sim_NS (sim_lst (simA_cons (sim_NS sim_int) (simA_cons (sim_NS sim_int) (simA_cons (sim_NS (sim_un uns_neg (sim_NW sim_int))) (simA_cons (sim_NS sim_int) (simA_cons (sim_NS sim_int) (simA_cons (sim_NS sim_int) (simA_cons (sim_NS sim_int) (simA_cons (sim_var rfl) (simA_cons (sim_NS (sim_op okN (ops_I0 (g := fun i j => i - j)) (sim_NW sim_int) (sim_SW (sim_var rfl)))) (simA_cons (sim_NS sim_bl) (simA_cons (sim_NS sim_bl) (simA_cons (sim_NS sim_non) (simA_cons (sim_NS sim_str) (simA_cons (sim_NS sim_str) (simA_cons (sim_NS sim_str) (simA_cons (sim_NS sim_str) (simA_cons (sim_NS sim_str) (simA_cons (sim_NS sim_str) simA_nil)))))))))))))))))))))
      (simS_seq (simS_set (i := 4) (sim_NS (sim_op okN ops_add (sim_SW (sim_var rfl)) (sim_NW (sim_lst (simA_cons (sim_NS (sim_tup simA_nil)) (simA_cons (sim_NS (sim_lst simA_nil)) (simA_cons (sim_NS sim_dct0) (simA_cons (sim_NS (sim_tup (simA_cons (sim_NS sim_int) simA_nil))) (simA_cons (sim_NS (sim_lst (simA_cons (sim_NS sim_int) simA_nil))) (simA_cons (sim_NS (sim_lst (simA_cons (sim_NS sim_int) simA_nil))) (simA_cons (sim_NS (sim_lst (simA_cons (sim_NS (sim_lst (simA_cons (sim_NS sim_int) simA_nil))) simA_nil))) (simA_cons (sim_NS (sim_lst (simA_cons (sim_NS sim_non) simA_nil))) (simA_cons (sim_NS (sim_lst (simA_cons (sim_NS sim_bl) simA_nil))) (simA_cons (sim_NS (sim_tup (simA_cons (sim_NS sim_int) (simA_cons (sim_NS sim_int) simA_nil)))) (simA_cons (sim_NS (sim_tup (simA_cons (sim_NS sim_int) (simA_cons (sim_NS sim_int) simA_nil)))) (simA_cons (sim_NS (sim_tup (simA_cons (sim_NS sim_int) (simA_cons (sim_NS sim_int) simA_nil)))) (simA_cons (sim_NS (sim_tup (simA_cons (sim_NS (sim_un uns_neg (sim_NW sim_int))) (simA_cons (sim_NS sim_int) simA_nil)))) (simA_cons (sim_NS (sim_tup (simA_cons (sim_NS sim_int) (simA_cons (sim_NS sim_int) simA_nil)))) simA_nil)))))))))))))))))))
      (simS_seq (simS_set (i := 4) (sim_NS (sim_op okN ops_add (sim_SW (sim_var rfl)) (sim_NW (sim_lst (simA_cons (sim_NS (sim_lst (simA_cons (sim_NS sim_int) (simA_cons (sim_NS sim_int) simA_nil)))) (simA_cons (sim_NS (sim_lst (simA_cons (sim_NS sim_int) (simA_cons (sim_NS sim_int) simA_nil)))) (simA_cons (sim_NS (sim_tup (simA_cons (sim_NS sim_int) (simA_cons (sim_NS sim_int) simA_nil)))) (simA_cons (sim_NS (sim_dct (kvs := [(.inl 0, 1)]))) (simA_cons (sim_NS (sim_dct (kvs := [(.inr "need", 0)]))) (simA_cons (sim_NS (sim_tup (simA_cons (sim_NS sim_str) (simA_cons (sim_NS sim_int) simA_nil)))) (simA_cons (sim_NS (sim_lst (simA_cons (sim_NS sim_str) (simA_cons (sim_NS sim_int) simA_nil)))) (simA_cons (sim_NS (sim_lst (simA_cons (sim_NS (sim_tup (simA_cons (sim_NS sim_str) (simA_cons (sim_NS sim_int) simA_nil)))) simA_nil))) (simA_cons (sim_NS (sim_tup (simA_cons (sim_NS sim_int) (simA_cons (sim_NS sim_int) simA_nil)))) simA_nil))))))))))))))
      (simS_seq (simS_set (i := 4) (sim_NS (sim_op okN ops_add (sim_SW (sim_var rfl)) (sim_NW (sim_lst (simA_cons (sim_NS (sim_tup (simA_cons (sim_NS sim_str) (simA_cons (sim_NS sim_int) simA_nil)))) (simA_cons (sim_NS (sim_lst (simA_cons (sim_NS (sim_tup (simA_cons (sim_NS sim_str) (simA_cons (sim_NS sim_int) simA_nil)))) simA_nil))) (simA_cons (sim_NS (sim_tup (simA_cons (sim_NS sim_str) (simA_cons (sim_NS sim_int) (simA_cons (sim_NS sim_int) simA_nil))))) (simA_cons (sim_NS (sim_tup (simA_cons (sim_NS sim_str) (simA_cons (sim_NS sim_int) (simA_cons (sim_NS sim_int) simA_nil))))) (simA_cons (sim_NS (sim_lst (simA_cons (sim_NS sim_str) (simA_cons (sim_NS sim_int) (simA_cons (sim_NS sim_int) simA_nil))))) (simA_cons (sim_NS (sim_tup (simA_cons (sim_NS sim_str) (simA_cons (sim_NS sim_bl) simA_nil)))) simA_nil)))))))))))
      (simS_seq (simS_set (i := 4) (sim_NS (sim_op okN ops_add (sim_SW (sim_var rfl)) (sim_NW (sim_lst (simA_cons (sim_NS (sim_tup (simA_cons (sim_NS sim_str) (simA_cons (sim_NS sim_int) (simA_cons (sim_NS sim_non) simA_nil))))) (simA_cons (sim_NS sim_str) simA_nil)))))))
      (simS_ret okS (sim_call okS (simA_cons (sim_var rfl) (simA_cons (sim_NS (sim_op okN ops_add (sim_SW (sim_var rfl)) (sim_NW (sim_lst (simA_cons (sim_NS (sim_tup (simA_cons (sim_NS sim_str) (simA_cons (sim_NS sim_int) (simA_cons (sim_NS sim_non) simA_nil))))) (simA_cons (sim_NS (sim_tup (simA_cons (sim_NS sim_str) simA_nil))) (simA_cons (sim_NS (sim_tup (simA_cons (sim_NS sim_str) (simA_cons (sim_NS sim_int) simA_nil)))) (simA_cons (sim_var rfl) (simA_cons (sim_NS (sim_op okN ops_mul (sim_NW (sim_lst (simA_cons (sim_NS sim_int) simA_nil))) (sim_NW sim_int))) (simA_cons (sim_NS (sim_op okN ops_mul (sim_NW (sim_lst (simA_cons (sim_NS sim_int) simA_nil))) (sim_NW sim_int))) (simA_cons (sim_NS sim_str) (simA_cons (sim_NS sim_str) simA_nil)))))))))))) simA_nil)))))))))))⟩
def t__law_is_whole : WS := (wRet (wAndV (wCB wIsi (wCons (wVar 0) (wCons (wC (.ty "int")) wNil))) (wNotV (wCB wIsi (wCons (wVar 0) (wCons (wC (.ty "bool")) wNil))))))
def w__law_is_whole : WF := wDef 1 0 t__law_is_whole
theorem scw__law_is_whole : FnScope ["_law_thing"] ["_law_thing"] (defScope s__law_is_whole) := ⟨rfl, rfl, rfl, by decide +kernel, rfl, by decide +kernel, by decide +kernel⟩
set_option maxHeartbeats 4000000 in
theorem ow__law_is_whole (T : Tx P K mg d) : Okf P w K mg base 1 d.f__law_is_whole ["_law_thing"] (spW K (cnA d) (rN K (cnA d)) w__law_is_whole) :=
  okw_of (ts' := [.sh]) T.d__law_is_whole scw__law_is_whole rfl rfl rnonN fun cdv A outer s H E hr =>
    ⟨_, (pss_one (ps_ret (pe_and (pe_callB (k_isi (K := K) rfl) (by rfl) T.z_isinstance (by decide +kernel) (pa_cons (pv 0) (pa_cons (pe_bty (n := "int") (by rfl) T.z_int (by decide +kernel)) pa_nil))) (pe_one (pe_not (pe_callB (k_isi (K := K) rfl) (by rfl) T.z_isinstance (by decide +kernel) (pa_cons (pv 0) (pa_cons (pe_bty (n := "bool") (by rfl) T.z_bool (by decide +kernel)) pa_nil)))))))),
    (simS_ret okN (sim_andV (sim_NS (sim_cb okN cas_isi (simAW_cons (sim_SW (sim_var rfl)) (simAW_cons (sim_NW sim_ty) simAW_nil)))) (sim_notV (sim_NS (sim_cb okN cas_isi (simAW_cons (sim_SW (sim_var rfl)) (simAW_cons (sim_NW sim_ty) simAW_nil)))))))⟩
def t__law_spoilt : WS := (wSeq (wPar 2 3 true false (wCB wListOf (wCons (wVar 1) wNil)) (wCall w_take (wCons (wVar 0) (wCons (wC (.int 8)) wNil))))
      (wSeq (wSet 4 (wCall w_take (wCons (wVar 0) (wCons (wOp wAdd (wCB wLen (wCons (wVar 2) wNil)) (wC (.int 1))) wNil))))
      (wSeq (wSet 5 (wCB wMin2 (wCons (wVar 4) (wCons (wOp (wI0 fun i j => i - j) (wCB wLen (wCons (wVar 2) wNil)) (wC (.int 1))) wNil))))
      (wCut (wIfS (wTest (wOp wEq (wVar 3) (wC (.int 0)))) (wMut 2 wInsert (wCons (wVar 4) (wCons (wCall w__law_odd (wCons (wVar 0) wNil)) wNil))) (fun D ρ => D.nx ρ))
      (wCut (wIfS (wTand (wTest (wOp wEq (wVar 3) (wC (.int 1)))) (wTest (wOp (wEqE true) (wVar 2) (wLst wNil)))) (wSub 2 (wCall w__law_one (wCons (wVar 0) (wCons (wLst (wCons (wC (.int 0)) (wCons (wCB wLen (wCons (wVar 2) wNil)) (wCons (wOp wAdd (wCB wLen (wCons (wVar 2) wNil)) (wC (.int 1))) (wCons (wC (.bl true)) (wCons (wC .non) (wCons (wC (.str "1")) (wCons (wC (.int 1)) (wCons (wLst (wCons (wC (.int 1)) wNil)) wNil))))))))) wNil))) (wVar 5)) (fun D ρ => D.nx ρ))
      (wCut (wIfS (wTest (wOp wEq (wVar 3) (wC (.int 2)))) (wSetO 2 (wOp wAdd (wSl (wVar 2) wNoPart (wPart (wVar 4))) (wSl (wVar 2) (wPart (wOp wAdd (wVar 4) (wC (.int 1)))) wNoPart))) (fun D ρ => D.nx ρ))
      (wCut (wIfS (wTest (wOp wEq (wVar 3) (wC (.int 3)))) (wSetO 2 (wOp wAdd (wVar 2) (wVar 2))) (fun D ρ => D.nx ρ))
      (wCut (wIfS (wTest (wOp wEq (wVar 3) (wC (.int 4)))) (wSetO 2 (wRev (wVar 2))) (fun D ρ => D.nx ρ))
      (wCut (wIfS (wTand (wTest (wOp (wIB fun i j => decide (j < i)) (wVar 3) (wC (.int 4)))) (wTand (wTest (wOp (wEqE true) (wVar 2) (wLst wNil))) (wTest (wCall w__law_is_whole (wCons (wOp wIx (wVar 2) (wVar 5)) wNil))))) (wSub 2 (wCB wMax2 (wCons (wC (.int 1)) (wCons (wOp (wI0 fun i j => i - j) (wOp wAdd (wOp wIx (wVar 2) (wVar 5)) (wCall w_take (wCons (wVar 0) (wCons (wC (.int 5)) wNil)))) (wC (.int 2))) wNil))) (wVar 5)) (fun D ρ => D.nx ρ))
      (wRet (wVar 2)))))))))))
def w__law_spoilt : WF := wDef 2 4 t__law_spoilt
theorem scw__law_spoilt : FnScope ["_law_bag_here", "_law_stays_here", "_law_row", "_law_way", "_law_at", "_law_spot"] ["_law_bag_here", "_law_stays_here"] (defScope s__law_spoilt) := ⟨rfl, rfl, rfl, by decide +kernel, rfl, by decide +kernel, by decide +kernel⟩
set_option maxHeartbeats 4000000 in
theorem ow__law_spoilt (T : Tx P K mg d) : Okf P w K mg base 4 d.f__law_spoilt ["_law_bag_here", "_law_stays_here"] (spW K (cnA d) (rN K (cnA d)) w__law_spoilt) :=
  okw_of (ts' := [.sh, .sh, .ow, .sh, .sh, .sh]) T.d__law_spoilt scw__law_spoilt rfl rfl rnonN fun cdv A outer s H E hr =>
    ⟨_, (pss_cons (ps_par (i := 2) (j := 3) (by rfl) scw__law_spoilt.nd rfl rfl (by decide) rfl rfl (pa_cons (pe_callTy (k_listOf (K := K) rfl) (by rfl) T.z_list (by decide +kernel) (pa_cons (pv 1) pa_nil)) (pa_cons (pf_call (ow__law_take T) (hr.mono (by decide)) (by rfl) T.g__law_take T.d__law_take.kp (pa_cons (pv 0) (pa_cons pe_int pa_nil))) pa_nil)) (by rfl))
      (pss_cons (ps_set (i := 4) scw__law_spoilt.nd rfl (by first | exact Or.inl rfl | exact Or.inr rfl) (pf_call (ow__law_take T) (hr.mono (by decide)) (by rfl) T.g__law_take T.d__law_take.kp (pa_cons (pv 0) (pa_cons (pe_op (u_add (K := K) rfl) (pe_callB (u_len (K := K) rfl) (by rfl) T.z_len (by decide +kernel) (pa_cons (pv 2) pa_nil)) pe_int) pa_nil))))
      (pss_cons (ps_set (i := 5) scw__law_spoilt.nd rfl (by first | exact Or.inl rfl | exact Or.inr rfl) (pe_callB (k_min2 rfl) (by rfl) T.z_min (by decide +kernel) (pa_cons (pv 4) (pa_cons (pe_op op_sub (pe_callB (u_len (K := K) rfl) (by rfl) T.z_len (by decide +kernel) (pa_cons (pv 2) pa_nil)) pe_int) pa_nil))))
      (Evl.pss_cut (ps_if (pt_cmpR (u_eq (K := K) rfl hr.units) (pv 3) pe_int (nomark _)) (pss_one (ps_expr (pe_bm PySem.F.plainAttrs_list PySem.F.slot_list_insert PySem.F.type_list_insert k_insert (pv 2) (pa_cons (pv 4) (pa_cons (pf_call (ow__law_odd T) (hr.mono (by decide)) (by rfl) T.g__law_odd T.d__law_odd.kp (pa_cons (pv 0) pa_nil)) pa_nil))))) pss_nil)
      (Evl.pss_cut (ps_if (PW.pt (pw_and (pt_cmpR (u_eq (K := K) rfl hr.units) (pv 3) pe_int (nomark _)) (pw_and1 (pt_cmpR (u_neE (K := K) rfl hr.units) (pv 2) (pe_lst pa_nil) (nomark _))))) (pss_one (ps_asg (pf_call (ow__law_one T) (hr.mono (by decide)) (by rfl) T.g__law_one T.d__law_one.kp (pa_cons (pv 0) (pa_cons (pe_lst (pa_cons pe_int (pa_cons (pe_callB (u_len (K := K) rfl) (by rfl) T.z_len (by decide +kernel) (pa_cons (pv 2) pa_nil)) (pa_cons (pe_op (u_add (K := K) rfl) (pe_callB (u_len (K := K) rfl) (by rfl) T.z_len (by decide +kernel) (pa_cons (pv 2) pa_nil)) pe_int) (pa_cons pe_bl (pa_cons pe_non (pa_cons pe_str (pa_cons pe_int (pa_cons (pe_lst (pa_cons pe_int pa_nil)) pa_nil))))))))) pa_nil))) (pg_sub (pv 2) (pv 5) set_list))) pss_nil)
      (Evl.pss_cut (ps_if (pt_cmpR (u_eq (K := K) rfl hr.units) (pv 3) pe_int (nomark _)) (pss_one (ps_set (i := 2) scw__law_spoilt.nd rfl (by first | exact Or.inl rfl | exact Or.inr rfl) (pe_op (u_add (K := K) rfl) (pe_slice (u_sl (K := K) rfl) (pv 2) po_none (po_some (pv 4))) (pe_slice (u_sl (K := K) rfl) (pv 2) (po_some (pe_op (u_add (K := K) rfl) (pv 4) pe_int)) po_none)))) pss_nil)
      (Evl.pss_cut (ps_if (pt_cmpR (u_eq (K := K) rfl hr.units) (pv 3) pe_int (nomark _)) (pss_one (ps_set (i := 2) scw__law_spoilt.nd rfl (by first | exact Or.inl rfl | exact Or.inr rfl) (pe_op (u_add (K := K) rfl) (pv 2) (pv 2)))) pss_nil)
      (Evl.pss_cut (ps_if (pt_cmpR (u_eq (K := K) rfl hr.units) (pv 3) pe_int (nomark _)) (pss_one (ps_set (i := 2) scw__law_spoilt.nd rfl (by first | exact Or.inl rfl | exact Or.inr rfl) (k_revL (K := K) rfl (pv 2)))) pss_nil)
      (Evl.pss_cut (ps_if (PW.pt (pw_and (pt_cmpR op_gt (pv 3) pe_int (nomark _)) (pw_and (pt_cmpR (u_neE (K := K) rfl hr.units) (pv 2) (pe_lst pa_nil) (nomark _)) (pw_and1 (pt_val (pf_call (ow__law_is_whole T) (hr.mono (by decide)) (by rfl) T.g__law_is_whole T.d__law_is_whole.kp (pa_cons (pe_ix (k_ixS (K := K) rfl) (pv 2) (pv 5) (fun _ _ => rfl)) pa_nil))))))) (pss_one (ps_asg (pe_callB (k_max2 rfl) (by rfl) T.z_max (by decide +kernel) (pa_cons pe_int (pa_cons (pe_op op_sub (pe_op (u_add (K := K) rfl) (pe_ix (k_ixS (K := K) rfl) (pv 2) (pv 5) (fun _ _ => rfl)) (pf_call (ow__law_take T) (hr.mono (by decide)) (by rfl) T.g__law_take T.d__law_take.kp (pa_cons (pv 0) (pa_cons pe_int pa_nil)))) pe_int) pa_nil))) (pg_sub (pv 2) (pv 5) set_list))) pss_nil)
      (pss_one (ps_ret (pv 2)))))))))))),
    (simS_seq (simS_par (i := 2) (j := 3) (k := true) (l := false) (sim_cb okN cas_listOf (simAW_cons (sim_SW (sim_var rfl)) simAW_nil)) (sim_NS (sim_call okN (simA_cons (sim_var rfl) (simA_cons (sim_NS sim_int) simA_nil)))))
      (simS_seq (simS_set (i := 4) (sim_NS (sim_call okN (simA_cons (sim_var rfl) (simA_cons (sim_NS (sim_op okN ops_add (sim_NW (sim_cb okN cas_len (simAW_cons (sim_varO rfl) simAW_nil))) (sim_NW sim_int))) simA_nil)))))
      (simS_seq (simS_set (i := 5) (sim_NS (sim_cb okN cas_min2 (simAW_cons (sim_SW (sim_var rfl)) (simAW_cons (sim_NW (sim_op okN (ops_I0 (g := fun i j => i - j)) (sim_NW (sim_cb okN cas_len (simAW_cons (sim_varO rfl) simAW_nil))) (sim_NW sim_int))) simAW_nil)))))
      (simS_cut (simS_if (simT_val (simT_test (sim_NS (sim_op okN ops_eq (sim_SW (sim_var rfl)) (sim_NW sim_int))))) (simS_after (ts2 := [.sh, .sh, .ow, .sh, .sh, .sh]) (simS_mut (i := 2) rfl rfl mus_insert (simA_cons (sim_var rfl) (simA_cons (sim_call okS (simA_cons (sim_var rfl) simA_nil)) simA_nil))) rfl) (simS_after (ts2 := [.sh, .sh, .ow, .sh, .sh, .sh]) simS_nil rfl))
      (simS_cut (simS_if (simT_val (simT_and (simT_test (sim_NS (sim_op okN ops_eq (sim_SW (sim_var rfl)) (sim_NW sim_int)))) (simT_test (sim_NS (sim_op okN ops_neE (sim_SW (sim_var rfl)) (sim_NW (sim_lst simA_nil))))))) (simS_after (ts2 := [.sh, .sh, .ow, .sh, .sh, .sh]) (simS_sub (i := 2) rfl (sim_call okS (simA_cons (sim_var rfl) (simA_cons (sim_NS (sim_lst (simA_cons (sim_NS sim_int) (simA_cons (sim_NS (sim_cb okN cas_len (simAW_cons (sim_varO rfl) simAW_nil))) (simA_cons (sim_NS (sim_op okN ops_add (sim_NW (sim_cb okN cas_len (simAW_cons (sim_varO rfl) simAW_nil))) (sim_NW sim_int))) (simA_cons (sim_NS sim_bl) (simA_cons (sim_NS sim_non) (simA_cons (sim_NS sim_str) (simA_cons (sim_NS sim_int) (simA_cons (sim_NS (sim_lst (simA_cons (sim_NS sim_int) simA_nil))) simA_nil)))))))))) simA_nil))) (sim_SW (sim_var rfl))) rfl) (simS_after (ts2 := [.sh, .sh, .ow, .sh, .sh, .sh]) simS_nil rfl))
      (simS_cut (simS_if (simT_val (simT_test (sim_NS (sim_op okN ops_eq (sim_SW (sim_var rfl)) (sim_NW sim_int))))) (simS_after (ts2 := [.sh, .sh, .ow, .sh, .sh, .sh]) (simS_setO (i := 2) (sim_op okN ops_add (sim_NW (sim_sl (sim_varO rfl) simO_none (simO_some (sim_SW (sim_var rfl))))) (sim_NW (sim_sl (sim_varO rfl) (simO_some (sim_NW (sim_op okN ops_add (sim_SW (sim_var rfl)) (sim_NW sim_int)))) simO_none)))) rfl) (simS_after (ts2 := [.sh, .sh, .ow, .sh, .sh, .sh]) simS_nil rfl))
      (simS_cut (simS_if (simT_val (simT_test (sim_NS (sim_op okN ops_eq (sim_SW (sim_var rfl)) (sim_NW sim_int))))) (simS_after (ts2 := [.sh, .sh, .ow, .sh, .sh, .sh]) (simS_setO (i := 2) (sim_op okN ops_add (sim_varO rfl) (sim_varO rfl))) rfl) (simS_after (ts2 := [.sh, .sh, .ow, .sh, .sh, .sh]) simS_nil rfl))
      (simS_cut (simS_if (simT_val (simT_test (sim_NS (sim_op okN ops_eq (sim_SW (sim_var rfl)) (sim_NW sim_int))))) (simS_after (ts2 := [.sh, .sh, .ow, .sh, .sh, .sh]) (simS_setO (i := 2) (sim_revL (sim_varO rfl))) rfl) (simS_after (ts2 := [.sh, .sh, .ow, .sh, .sh, .sh]) simS_nil rfl))
      (simS_cut (simS_if (simT_val (simT_and (simT_test (sim_NS (sim_op okN (ops_IB (g := fun i j => decide (j < i))) (sim_SW (sim_var rfl)) (sim_NW sim_int)))) (simT_and (simT_test (sim_NS (sim_op okN ops_neE (sim_SW (sim_var rfl)) (sim_NW (sim_lst simA_nil))))) (simT_B (sim_NS (sim_call okN (simA_cons (sim_op okS ops_ix (sim_SW (sim_var rfl)) (sim_SW (sim_var rfl))) simA_nil))))))) (simS_after (ts2 := [.sh, .sh, .ow, .sh, .sh, .sh]) (simS_sub (i := 2) rfl (sim_NS (sim_cb okN cas_max2 (simAW_cons (sim_NW sim_int) (simAW_cons (sim_NW (sim_op okN (ops_I0 (g := fun i j => i - j)) (sim_NW (sim_op okN ops_add (sim_SW (sim_op okS ops_ix (sim_varO rfl) (sim_SW (sim_var rfl)))) (sim_NW (sim_call okN (simA_cons (sim_var rfl) (simA_cons (sim_NS sim_int) simA_nil)))))) (sim_NW sim_int))) simAW_nil)))) (sim_SW (sim_var rfl))) rfl) (simS_after (ts2 := [.sh, .sh, .ow, .sh, .sh, .sh]) simS_nil rfl))
      (simS_retO (i := 2) rfl))))))))))⟩
theorem sc_Clock_stays : FnScope ["self"] ["self"] (defScope s_Clock_stays) := ⟨rfl, rfl, rfl, by decide +kernel, rfl, by decide +kernel, by decide +kernel⟩
def sp_Clock_stays (K : PySem.W.Frag) (d : Ads) : Sp := fun vs H Q _ => ∃ (v : V) (s : List Int), vs = [v] ∧ Clk K d.c_Clock H v s ∧ RetN (s.map V.int) H Q
set_option maxHeartbeats 4000000 in
theorem ok_Clock_stays (T : Tx P K mg d) : Okf P w K mg base 1 d.f_Clock_stays ["self"] (sp_Clock_stays K d) := by
  refine okf_of T.d_Clock_stays sc_Clock_stays (fun vs H Q E h => ?_) (fun cdv A outer s H vs Q E hr h => ?_)
  · obtain ⟨v, s, rfl, ⟨p, dx, a, b, rfl, hp, ha, hb, g⟩, k⟩ := h
    rfl
  · obtain ⟨v, s, rfl, ⟨p, dx, a, b, rfl, hp, ha, hb, g⟩, k⟩ := h
    refine ⟨_, (pss_one (ps_ret (pe_callTy (k_listOf (K := K) rfl) (by rfl) T.z_list (by decide +kernel) (pa_cons (k_fld (K := K) rfl (pv 0)) pa_nil)))), ?_⟩
    walk_at "rd"
    refine ⟨p, _, dx, _, _, rfl, hp, T.cl_Clock, T.n_Clock_kept_stays, clkF_stays _ _, ?_⟩
    walk_at "rd"
    refine r_listOf (.inr ha) fun l nl => ?_
    exact k l _ nl (Ex.new nl) upd_same
def w_Clock_stays : WF := fun xs P => ∃ (s : List Int), xs = [clkP s] ∧ Good s ∧ P (.lst (iL s))
theorem ow_Clock_stays (T : Tx P K mg d) : Okf P w K mg base 1 d.f_Clock_stays ["self"] (spW K (cnA d) (rN K (cnA d)) w_Clock_stays) := okw_imp (ok_Clock_stays T) (fun vs H Q E ⟨F, xs, P, dm, r, ⟨s, ex, c1, p⟩, k⟩ => by
  subst ex
  obtain ⟨v1, rfl, r1⟩ := r.one
  exact ⟨v1, s, rfl, clk_of r1 c1, ret_ints dm k p⟩)
def t_is_integer : WS := (wRet (wAndV (wCB (wIsiG [(.Clock, "int"), (.Clock, "list"), (.Clock, "tuple")]) (wCons (wVar 0) (wCons (wC (.ty "int")) wNil))) (wNotV (wCB (wIsiG [(.Clock, "int"), (.Clock, "list"), (.Clock, "tuple")]) (wCons (wVar 0) (wCons (wC (.ty "bool")) wNil))))))
def w_is_integer : WF := wDef 1 0 t_is_integer
theorem scw_is_integer : FnScope ["thing"] ["thing"] (defScope s_is_integer) := ⟨rfl, rfl, rfl, by decide +kernel, rfl, by decide +kernel, by decide +kernel⟩
set_option maxHeartbeats 4000000 in
theorem ow_is_integer (T : Tx P K mg d) : Okf P w K mg base 1 d.f_is_integer ["thing"] (spW K (cnA d) (rN K (cnA d)) w_is_integer) :=
  okw_of (ts' := [.sh]) T.d_is_integer scw_is_integer rfl rfl rnonN fun cdv A outer s H E hr =>
    ⟨_, (pss_one (ps_ret (pe_and (pe_callB (k_isi (K := K) rfl) (by rfl) T.z_isinstance (by decide +kernel) (pa_cons (pv 0) (pa_cons (pe_bty (n := "int") (by rfl) T.z_int (by decide +kernel)) pa_nil))) (pe_one (pe_not (pe_callB (k_isi (K := K) rfl) (by rfl) T.z_isinstance (by decide +kernel) (pa_cons (pv 0) (pa_cons (pe_bty (n := "bool") (by rfl) T.z_bool (by decide +kernel)) pa_nil)))))))),
    (simS_ret okN (sim_andV (sim_NS (sim_cb okN (cas_isiG (ps := [(.Clock, "int"), (.Clock, "list"), (.Clock, "tuple")]) (ki_cons (c := .Clock) T.ic_Clock T.kx_Clock_int (ki_cons (c := .Clock) T.ic_Clock T.kx_Clock_list (ki_cons (c := .Clock) T.ic_Clock T.kx_Clock_tuple ki_nil)))) (simAW_cons (sim_SW (sim_var rfl)) (simAW_cons (sim_NW sim_ty) simAW_nil)))) (sim_notV (sim_NS (sim_cb okN (cas_isiG (ps := [(.Clock, "int"), (.Clock, "list"), (.Clock, "tuple")]) (ki_cons (c := .Clock) T.ic_Clock T.kx_Clock_int (ki_cons (c := .Clock) T.ic_Clock T.kx_Clock_list (ki_cons (c := .Clock) T.ic_Clock T.kx_Clock_tuple ki_nil)))) (simAW_cons (sim_SW (sim_var rfl)) (simAW_cons (sim_NW sim_ty) simAW_nil)))))))⟩
def t_are_stays : WS := (wSeq (wIfS (wTor (wTnot (wTest (wIsiTG [(.Clock, "int"), (.Clock, "list"), (.Clock, "tuple")] (wVar 0) "list" "tuple"))) (wTnot (wTest (wChain (wIB fun i j => decide (i ≤ j)) (wIB fun i j => decide (i ≤ j)) (wC (.int 1)) (wCB wLen (wCons (wVar 0) wNil)) (wC (.int 48)))))) (wRet (wC (.bl false))) (fun D ρ => D.nx ρ))
      (wRet (wCB wAll (wCons (wLc (wSeqI (wVar 0)) (wgName 1) wTyes (wAndV (wCall w_is_integer (wCons (wVar 1) wNil)) (wChain (wIB fun i j => decide (i ≤ j)) (wIB fun i j => decide (i ≤ j)) (wC (.int 1)) (wVar 1) (wCB wLen (wCons (wVar 0) wNil))))) wNil))))
def w_are_stays : WF := wDef 1 1 t_are_stays
theorem scw_are_stays : FnScope ["thing", "stay"] ["thing"] (defScope s_are_stays) := ⟨rfl, rfl, rfl, by decide +kernel, rfl, by decide +kernel, by decide +kernel⟩
set_option maxHeartbeats 4000000 in
theorem ow_are_stays (T : Tx P K mg d) : Okf P w K mg base 2 d.f_are_stays ["thing"] (spW K (cnA d) (rN K (cnA d)) w_are_stays) :=
  okw_of (ts' := [.sh, .no]) T.d_are_stays scw_are_stays rfl rfl rnonN fun cdv A outer s H E hr =>
    ⟨_, (pss_cons (ps_if (PW.pt (pw_or (pt_not (pt_val (pe_callB (k_isiT (K := K) rfl) (by rfl) T.z_isinstance (by decide +kernel) (pa_cons (pv 0) (pa_cons (pe_tup (pa_cons (pe_bty (n := "list") (by rfl) T.z_list (by decide +kernel)) (pa_cons (pe_bty (n := "tuple") (by rfl) T.z_tuple (by decide +kernel)) pa_nil))) pa_nil))))) (pw_or1 (pt_not (pt_chain op_le op_le pe_int (pe_callB (u_len (K := K) rfl) (by rfl) T.z_len (by decide +kernel) (pa_cons (pv 0) pa_nil)) (pe_gint (by rfl) T.k_MOST_HOURS)))))) (pss_one (ps_ret pe_bl)) pss_nil)
      (pss_one (ps_ret (pe_callB (k_all (K := K) rfl rfl) (by rfl) T.z_all (by decide +kernel) (pa_cons (pe_lc (own := [("stay", 1)]) rfl scw_are_stays.nd (k_piS (K := K) rfl (pv 0)) (blkOk_by (by kernel_rfl)) (fun _ _ _ _ _ => (pg_name (i := 1) scw_are_stays.nd rfl (by first | exact Or.inl rfl | exact Or.inr rfl))) (fun _ _ _ _ _ => pts_nil) (fun _ _ _ _ _ => (pe_and (pf_call (ow_is_integer T) (hr.mono (by decide)) (by rfl) T.g_is_integer T.d_is_integer.kp (pa_cons (pv 1) pa_nil)) (pe_one (pe_chain op_le op_le pe_int (pv 1) (pe_callB (u_len (K := K) rfl) (by rfl) T.z_len (by decide +kernel) (pa_cons (pv 0) pa_nil))))))) pa_nil))))),
    (simS_seq (simS_if (simT_or (simT_not (simT_B (sim_NS (sim_isiTG (ps := [(.Clock, "int"), (.Clock, "list"), (.Clock, "tuple")]) (ki_cons (c := .Clock) T.ic_Clock T.kx_Clock_int (ki_cons (c := .Clock) T.ic_Clock T.kx_Clock_list (ki_cons (c := .Clock) T.ic_Clock T.kx_Clock_tuple ki_nil))) (sim_SW (sim_var rfl)))))) (simT_not (simT_test (sim_NS (sim_chain (ops_IB (g := fun i j => decide (i ≤ j))) (ops_IB (g := fun i j => decide (i ≤ j))) (sim_NW sim_int) (sim_NW (sim_cb okN cas_len (simAW_cons (sim_SW (sim_var rfl)) simAW_nil))) (sim_NW sim_int)))))) (simS_ret okN sim_bl) simS_nil)
      (simS_ret okN (sim_cb okN cas_all (simAW_cons (sim_NW (sim_lc (vs := [1]) (simI_seq (lp := false) (sim_SW (sim_var rfl))) (simG_name (i := 1)) simT_yes (sim_NS (sim_andV (sim_NS (sim_call okN (simA_cons (sim_var rfl) simA_nil))) (sim_chain (ops_IB (g := fun i j => decide (i ≤ j))) (ops_IB (g := fun i j => decide (i ≤ j))) (sim_NW sim_int) (sim_SW (sim_var rfl)) (sim_NW (sim_cb okN cas_len (simAW_cons (sim_SW (sim_var rfl)) simAW_nil)))))))) simAW_nil))))⟩
def t_need_order (EX : List PV → En → Fs → Prop) : WS := (wFor (wEnum (wCons (wVar 0) wNil)) (wgTup 2 (wgCons (wgName 1) (wgCons (wgName 2) wgNil))) (wIfS (wTest (wOp (wIB fun i j => decide (j < i)) (wVar 2) (wOp wAdd (wC (.int 1)) (wOp wIx (wVar 0) (wOp (wII (fun _ j => 0 < j) fun i j => i % j) (wOp wAdd (wVar 1) (wC (.int 1))) (wCB wLen (wCons (wVar 0) wNil))))))) (wRaise EX .Overtaken "hour" (wVar 1)) (fun D ρ => D.nx ρ)))
def w_need_order : WFX := wDefX 1 2 t_need_order
theorem scw_need_order : FnScope ["stays", "hour", "stay"] ["stays"] (defScope s_need_order) := ⟨rfl, rfl, rfl, by decide +kernel, rfl, by decide +kernel, by decide +kernel⟩
set_option maxHeartbeats 4000000 in
theorem ow_need_order (T : Tx P K mg d) : Okf P w K mg base 2 d.f_need_order ["stays"] (spWX K (cnA d) (eaA d) (rN K (cnA d)) w_need_order) :=
  okwX_of (tx := [.no, .no, .no]) (ts' := [.sh, .no, .no]) T.d_need_order scw_need_order rfl rfl rnonN fun cdv A outer s H E hr =>
    ⟨_, (pss_one (ps_for (passes_of rfl) rfl (k_piE (K := K) rfl (by rfl) T.z_enumerate (pa_cons (pv 0) pa_nil)) (k_gtup (K := K) (n := 2) rfl rfl (pgs_cons (pg_name (i := 1) scw_need_order.nd rfl (by first | exact Or.inl rfl | exact Or.inr rfl)) (pgs_cons (pg_name (i := 2) scw_need_order.nd rfl (by first | exact Or.inl rfl | exact Or.inr rfl)) pgs_nil))) (pss_one (ps_if (pt_cmpR op_gt (pv 2) (pe_op (u_add (K := K) rfl) pe_int (pe_ix (k_ixS (K := K) rfl) (pv 0) (pe_op op_mod (pe_op (u_add (K := K) rfl) (pv 1) pe_int) (pe_callB (u_len (K := K) rfl) (by rfl) T.z_len (by decide +kernel) (pa_cons (pv 0) pa_nil))) (fun _ _ => rfl))) (nomark _)) (pss_one (ps_raiseE (W := (fun c o _ H' => E c o H')) (k := 1) rfl T.er_Overtaken (hr.mono (by decide)) (takes_of rfl rfl rfl rfl) (pa_cons (pv 1) pa_nil) (by rfl))) pss_nil)))),
    fun EX => (letI : XC := (xcOf K (cnA d) (eaA d) (fun c o _ H' => E c o H') EX [.no, .no, .no]); (simS_for (ts := [.sh, .no, .no]) (simI_enum (simA_cons (sim_var rfl) simA_nil)) (simG_tup (simGs_cons (simG_name (i := 1)) (simGs_cons (simG_name (i := 2)) simGs_nil))) (simS_if (simT_test (sim_NS (sim_op okN (ops_IB (g := fun i j => decide (j < i))) (sim_SW (sim_var rfl)) (sim_NW (sim_op okN ops_add (sim_NW sim_int) (sim_SW (sim_op okS ops_ix (sim_SW (sim_var rfl)) (sim_NW (sim_op okN (ops_II (C := fun _ j => 0 < j) (g := fun i j => i % j)) (sim_NW (sim_op okN ops_add (sim_SW (sim_var rfl)) (sim_NW sim_int))) (sim_NW (sim_cb okN cas_len (simAW_cons (sim_SW (sim_var rfl)) simAW_nil)))))))))))) (simS_raise (n := .Overtaken) rfl rfl rfl rfl (sim_var rfl)) simS_nil) rfl))⟩
def t_width_of : WS := (wRet (wCB wLen (wCons (wLc (wRng1 (wCons (wCB wLen (wCons (wVar 0) wNil)) wNil)) (wgName 2) (wTest (wOp (wIB fun i j => decide (j < i)) (wOp wIx (wVar 0) (wOp (wII (fun _ j => 0 < j) fun i j => i % j) (wOp (wI0 fun i j => i - j) (wVar 1) (wVar 2)) (wCB wLen (wCons (wVar 0) wNil)))) (wVar 2))) (wVar 2)) wNil)))
def w_width_of : WF := wDef 2 1 t_width_of
theorem scw_width_of : FnScope ["stays", "hour", "back"] ["stays", "hour"] (defScope s_width_of) := ⟨rfl, rfl, rfl, by decide +kernel, rfl, by decide +kernel, by decide +kernel⟩
set_option maxHeartbeats 4000000 in
theorem ow_width_of (T : Tx P K mg d) : Okf P w K mg base 1 d.f_width_of ["stays", "hour"] (spW K (cnA d) (rN K (cnA d)) w_width_of) :=
  okw_of (ts' := [.sh, .sh, .no]) T.d_width_of scw_width_of rfl rfl rnonN fun cdv A outer s H E hr =>
    ⟨_, (pss_one (ps_ret (pe_callB (u_len (K := K) rfl) (by rfl) T.z_len (by decide +kernel) (pa_cons (pe_lc (own := [("back", 2)]) rfl scw_width_of.nd (pi_range1 (by rfl) T.z_range (pa_cons (pe_callB (u_len (K := K) rfl) (by rfl) T.z_len (by decide +kernel) (pa_cons (pv 0) pa_nil)) pa_nil)) (blkOk_by (by kernel_rfl)) (fun _ _ _ _ _ => (pg_name (i := 2) scw_width_of.nd rfl (by first | exact Or.inl rfl | exact Or.inr rfl))) (fun _ _ _ _ _ => (pts_one (pt_cmpR op_gt (pe_ix (k_ixS (K := K) rfl) (pv 0) (pe_op op_mod (pe_op op_sub (pv 1) (pv 2)) (pe_callB (u_len (K := K) rfl) (by rfl) T.z_len (by decide +kernel) (pa_cons (pv 0) pa_nil))) (fun _ _ => rfl)) (pv 2) (nomark _)))) (fun _ _ _ _ _ => (pv 2))) pa_nil)))),
    (simS_ret okN (sim_cb okN cas_len (simAW_cons (sim_NW (sim_lc (vs := [2]) (simI_rng1 (simAW_cons (sim_NW (sim_cb okN cas_len (simAW_cons (sim_SW (sim_var rfl)) simAW_nil))) simAW_nil)) (simG_name (i := 2)) (simT_test (sim_NS (sim_op okN (ops_IB (g := fun i j => decide (j < i))) (sim_SW (sim_op okS ops_ix (sim_SW (sim_var rfl)) (sim_NW (sim_op okN (ops_II (C := fun _ j => 0 < j) (g := fun i j => i % j)) (sim_NW (sim_op okN (ops_I0 (g := fun i j => i - j)) (sim_SW (sim_var rfl)) (sim_SW (sim_var rfl)))) (sim_NW (sim_cb okN cas_len (simAW_cons (sim_SW (sim_var rfl)) simAW_nil))))))) (sim_SW (sim_var rfl))))) (sim_var rfl))) simAW_nil)))⟩
def t_Clock___init__ (a : Addr) (EX : List PV → En → Fs → Prop) : WS := (wSeq (wIfS (wTnot (wTest (wCall w_are_stays (wCons (wVar 1) wNil)))) (wRaise EX .Wrong "place" (wC (.int 0))) (fun D ρ => D.nx ρ))
      (wSeq (wDrop (wCallX EX w_need_order (wCons (wVar 1) wNil)))
      (wSeq (wFldS a .Clock "kept_stays" (wCB wTupOf (wCons (wVar 1) wNil)))
      (wFldS a .Clock "kept_widths" (wCB wTupOf (wCons (wLc (wRng1 (wCons (wCB wLen (wCons (wVar 1) wNil)) wNil)) (wgName 2) wTyes (wCall w_width_of (wCons (wVar 1) (wCons (wVar 2) wNil)))) wNil))))))
def w_Clock___init__ : WFX := wInit .Clock 1 1 t_Clock___init__
theorem scw_Clock___init__ : FnScope ["self", "stays", "hour"] ["self", "stays"] (defScope s_Clock___init__) := ⟨rfl, rfl, rfl, by decide +kernel, rfl, by decide +kernel, by decide +kernel⟩
set_option maxHeartbeats 4000000 in
theorem ow_Clock___init__ (T : Tx P K mg d) : Okf P w K mg base 3 d.f_Clock___init__ ["self", "stays"] (spI K (cnA d) (eaA d) .Clock w_Clock___init__) :=
  okwI_of (tx := [.no, .no, .no]) (ts' := [.sh, .sh, .no]) T.d_Clock___init__ scw_Clock___init__ rfl rfl rfl fun cdv A outer s H E hr =>
    ⟨_, (pss_cons (ps_if (pt_not (pt_val (pf_call (ow_are_stays T) (hr.mono (by decide)) (by rfl) T.g_are_stays T.d_are_stays.kp (pa_cons (pv 1) pa_nil)))) (pss_one (ps_raiseE (W := (fun c o _ H' => E c o H')) (k := 1) rfl T.er_Wrong (hr.mono (by decide)) (takes_of rfl rfl rfl rfl) (pa_cons pe_int pa_nil) (by rfl))) pss_nil)
      (pss_cons (ps_expr (pf_callS (E := fun σ c o H => (fun c o _ H' => E c o H') c o σ H) (ow_need_order T) (hr.mono (by decide)) (by rfl) T.g_need_order T.d_need_order.kp (fun σ pins H s e s' I h => passes_call (takes_of rfl rfl rfl rfl) (fun _ _ _ _ h => h) pins σ H s e s' I h) (pa_cons (pv 1) pa_nil)))
      (pss_cons (k_sfld (K := K) rfl (pv 0) (pe_callTy (k_tupOf (K := K) rfl) (by rfl) T.z_tuple (by decide +kernel) (pa_cons (pv 1) pa_nil)))
      (pss_one (k_sfld (K := K) rfl (pv 0) (pe_callTy (k_tupOf (K := K) rfl) (by rfl) T.z_tuple (by decide +kernel) (pa_cons (pe_lc (own := [("hour", 2)]) rfl scw_Clock___init__.nd (pi_range1 (by rfl) T.z_range (pa_cons (pe_callB (u_len (K := K) rfl) (by rfl) T.z_len (by decide +kernel) (pa_cons (pv 1) pa_nil)) pa_nil)) (blkOk_by (by kernel_rfl)) (fun _ _ _ _ _ => (pg_name (i := 2) scw_Clock___init__.nd rfl (by first | exact Or.inl rfl | exact Or.inr rfl))) (fun _ _ _ _ _ => pts_nil) (fun _ _ _ _ _ => (pf_call (ow_width_of T) (hr.mono (by decide)) (by rfl) T.g_width_of T.d_width_of.kp (pa_cons (pv 1) (pa_cons (pv 2) pa_nil))))) pa_nil))))))),
    fun a EX => (letI : XC := (xcOf K (cnA d) (eaA d) (fun c o _ H' => E c o H') EX [.no, .no, .no]); (simZ_seq (simZ_of (simS_if (simT_not (simT_B (sim_NS (sim_call okN (simA_cons (sim_var rfl) simA_nil))))) (simS_raise (n := .Wrong) rfl rfl rfl rfl (sim_NS sim_int)) simS_nil))
      (simZ_seq (simZ_of (simS_drop (sim_NS (sim_callX okN rfl rfl (simA_cons (sim_var rfl) simA_nil)))))
      (simZ_seq (simZ_fld (c := .Clock) rfl rfl T.cl_Clock T.n_Clock_kept_stays (sim_NS (sim_cb okN cas_tupOf (simAW_cons (sim_SW (sim_var rfl)) simAW_nil))))
      (simZ_fld (c := .Clock) rfl rfl T.cl_Clock T.n_Clock_kept_widths (sim_NS (sim_cb okN cas_tupOf (simAW_cons (sim_NW (sim_lc (vs := [2]) (simI_rng1 (simAW_cons (sim_NW (sim_cb okN cas_len (simAW_cons (sim_SW (sim_var rfl)) simAW_nil))) simAW_nil)) (simG_name (i := 2)) simT_yes (sim_NS (sim_call okN (simA_cons (sim_var rfl) (simA_cons (sim_var rfl) simA_nil)))))) simAW_nil))))))))⟩
def t_Clock_even (EX : List PV → En → Fs → Prop) : WS := (wSeq (wIfS (wTor (wTnot (wTest (wCall w_is_integer (wCons (wVar 0) wNil)))) (wTnot (wTest (wChain (wIB fun i j => decide (i ≤ j)) (wIB fun i j => decide (i ≤ j)) (wC (.int 1)) (wVar 0) (wC (.int 48)))))) (wRaise EX .Wrong "place" (wC (.int 0))) (fun D ρ => D.nx ρ))
      (wSeq (wIfS (wTor (wTnot (wTest (wCall w_is_integer (wCons (wVar 1) wNil)))) (wTnot (wTest (wChain (wIB fun i j => decide (i ≤ j)) (wIB fun i j => decide (i ≤ j)) (wC (.int 1)) (wVar 1) (wVar 0))))) (wRaise EX .Wrong "place" (wC (.int 1))) (fun D ρ => D.nx ρ))
      (wRet (wCallX EX w_Clock___init__ (wCons (wLc (wRng1 (wCons (wVar 0) wNil)) (wgName 2) wTyes (wVar 1)) wNil)))))
def w_Clock_even : WFX := wDefX 2 1 t_Clock_even
theorem scw_Clock_even : FnScope ["hours", "stay", "hour"] ["hours", "stay"] (defScope s_Clock_even) := ⟨rfl, rfl, rfl, by decide +kernel, rfl, by decide +kernel, by decide +kernel⟩
set_option maxHeartbeats 4000000 in
theorem ow_Clock_even (T : Tx P K mg d) : Okf P w K mg base 5 d.f_Clock_even ["hours", "stay"] (spWX K (cnA d) (eaA d) (rN K (cnA d)) w_Clock_even) :=
  okwX_of (tx := [.no, .no, .no]) (ts' := [.sh, .sh, .no]) T.d_Clock_even scw_Clock_even rfl rfl rnonN fun cdv A outer s H E hr =>
    ⟨_, (pss_cons (ps_if (PW.pt (pw_or (pt_not (pt_val (pf_call (ow_is_integer T) (hr.mono (by decide)) (by rfl) T.g_is_integer T.d_is_integer.kp (pa_cons (pv 0) pa_nil)))) (pw_or1 (pt_not (pt_chain op_le op_le pe_int (pv 0) (pe_gint (by rfl) T.k_MOST_HOURS)))))) (pss_one (ps_raiseE (W := (fun c o _ H' => E c o H')) (k := 1) rfl T.er_Wrong (hr.mono (by decide)) (takes_of rfl rfl rfl rfl) (pa_cons pe_int pa_nil) (by rfl))) pss_nil)
      (pss_cons (ps_if (PW.pt (pw_or (pt_not (pt_val (pf_call (ow_is_integer T) (hr.mono (by decide)) (by rfl) T.g_is_integer T.d_is_integer.kp (pa_cons (pv 1) pa_nil)))) (pw_or1 (pt_not (pt_chain op_le op_le pe_int (pv 1) (pv 0)))))) (pss_one (ps_raiseE (W := (fun c o _ H' => E c o H')) (k := 1) rfl T.er_Wrong (hr.mono (by decide)) (takes_of rfl rfl rfl rfl) (pa_cons pe_int pa_nil) (by rfl))) pss_nil)
      (pss_one (ps_ret (pf_makeS (E := fun σ c o H => (fun c o _ H' => E c o H') c o σ H) (ow_Clock___init__ T) (hr.mono (by decide)) T.mk_Clock (by rfl) T.g_Clock (fun σ pins H s e s' I h => passes_call (takes_of rfl rfl rfl rfl) (fun _ _ _ _ h => h) pins σ H s e s' I h) (pa_cons (pe_lc (own := [("hour", 2)]) rfl scw_Clock_even.nd (pi_range1 (by rfl) T.z_range (pa_cons (pv 0) pa_nil)) (blkOk_by (by kernel_rfl)) (fun _ _ _ _ _ => (pg_name (i := 2) scw_Clock_even.nd rfl (by first | exact Or.inl rfl | exact Or.inr rfl))) (fun _ _ _ _ _ => pts_nil) (fun _ _ _ _ _ => (pv 1))) pa_nil)))))),
    fun EX => (letI : XC := (xcOf K (cnA d) (eaA d) (fun c o _ H' => E c o H') EX [.no, .no, .no]); (simS_seq (simS_if (simT_or (simT_not (simT_B (sim_NS (sim_call okN (simA_cons (sim_var rfl) simA_nil))))) (simT_not (simT_test (sim_NS (sim_chain (ops_IB (g := fun i j => decide (i ≤ j))) (ops_IB (g := fun i j => decide (i ≤ j))) (sim_NW sim_int) (sim_SW (sim_var rfl)) (sim_NW sim_int)))))) (simS_raise (n := .Wrong) rfl rfl rfl rfl (sim_NS sim_int)) simS_nil)
      (simS_seq (simS_if (simT_or (simT_not (simT_B (sim_NS (sim_call okN (simA_cons (sim_var rfl) simA_nil))))) (simT_not (simT_test (sim_NS (sim_chain (ops_IB (g := fun i j => decide (i ≤ j))) (ops_IB (g := fun i j => decide (i ≤ j))) (sim_NW sim_int) (sim_SW (sim_var rfl)) (sim_SW (sim_var rfl))))))) (simS_raise (n := .Wrong) rfl rfl rfl rfl (sim_NS sim_int)) simS_nil)
      (simS_ret okN (sim_makeX (cn := .Clock) mkI rfl rfl (simA_cons (sim_NS (sim_lc (vs := [2]) (simI_rng1 (simAW_cons (sim_SW (sim_var rfl)) simAW_nil)) (simG_name (i := 2)) simT_yes (sim_var rfl))) simA_nil))))))⟩
theorem scw__law_caught : FnScope ["_law_error", "_law_some"] ["_law_error"] (defScope s__law_caught) := ⟨rfl, rfl, rfl, by decide +kernel, rfl, by decide +kernel, by decide +kernel⟩
def t__law_caught (n : En) (fs : Fs) : WS := (wSeq (wSet 1 (wLst (wCons (wIsX n .Wrong) (wCons (wIsX n .NoHour) (wCons (wIsX n .Overtaken) wNil)))))
      (wSeq (wIfS (wTest (wOp wNe (wCount (wVar 1) (wCons (wC (.bl true)) wNil)) (wC (.int 1)))) (wRet (wLst (wCons (wC (.str "other")) (wCons (wC .non) wNil)))) (fun D ρ => D.nx ρ))
      (wSeq (wIfS (wTest (wOp wIx (wVar 1) (wC (.int 0)))) (wRet (wLst (wCons (wC (.str "wrong")) (wCons (wExF n "place" fs) wNil)))) (fun D ρ => D.nx ρ))
      (wRet (wLst (wCons (wIf (wTest (wOp wIx (wVar 1) (wC (.int 1)))) (wC (.str "none")) (wC (.str "over"))) (wCons (wExF n "hour" fs) wNil)))))))
def t__law_tried : WS := (wTry (fun EX => (wSeq (wIfS (wTest (wOp wEq (wVar 0) (wC (.int 0)))) (wRet (wLst (wCons (wC (.str "told")) (wCons (wMeth .Clock "stays" w_Clock_stays (wCallX EX w_Clock___init__ (wCons (wVar 1) wNil)) wNil) wNil)))) (fun D ρ => D.nx ρ))
      (wRet (wLst (wCons (wC (.str "told")) (wCons (wMeth .Clock "stays" w_Clock_stays (wStatX EX w_Clock_even (wC (.cls .Clock)) (wCons (wVar 1) (wCons (wVar 2) wNil)) .Clock) wNil) wNil)))))) (fun n fs => (wRetHx 1 (t__law_caught n fs))))
def w__law_tried : WF := wDef 3 1 t__law_tried
theorem scw__law_tried : FnScope ["_law_way", "_law_one_here", "_law_other", "e"] ["_law_way", "_law_one_here", "_law_other"] (defScope s__law_tried) := ⟨rfl, rfl, rfl, by decide +kernel, rfl, by decide +kernel, by decide +kernel⟩
set_option maxHeartbeats 4000000 in
theorem ow__law_tried (T : Tx P K mg d) : Okf P w K mg base 6 d.f__law_tried ["_law_way", "_law_one_here", "_law_other"] (spW K (cnA d) (rS K (cnA d)) w__law_tried) :=
  okw_of (ts' := [.sh, .sh, .sh, .no]) T.d__law_tried scw__law_tried rfl rfl rnonS fun cdv A outer s H E hr =>
    ⟨_, (pss_one (ps_try_as (i := 3) rfl rfl scw__law_tried.nd rfl rfl ⟨rfl, by decide, .inl T.g_NeedError⟩ takes0 (fun W pn xe tk _ => (pss_cons (ps_if (pt_cmpR (u_eq (K := K) rfl hr.units) (pv 0) pe_int (nomark _)) (pss_one (ps_ret (pe_lst (pa_cons pe_str (pa_cons (pf_meth0 (ow_Clock_stays T) (hr.mono (by decide) : Room 1 _) T.cl_Clock T.m_Clock_stays (pf_makeS (E := fun σ c o H => W c o σ H) (ow_Clock___init__ T) (hr.mono (by decide) : Room 4 _) T.mk_Clock (by rfl) T.g_Clock (fun σ => passAt tk σ) (pa_cons (pv 1) pa_nil))) pa_nil))))) pss_nil)
      (pss_one (ps_ret (pe_lst (pa_cons pe_str (pa_cons (pf_meth0 (ow_Clock_stays T) (hr.mono (by decide) : Room 1 _) T.cl_Clock T.m_Clock_stays (pf_staticS (E := fun σ c o H => W c o σ H) (pe_glob (v := .ref d.c_Clock) (by rfl) T.g_Clock rfl) T.st_Clock_even T.d_Clock_even.kp (ow_Clock_even T) (hr.mono (by decide) : Room 5 _) (fun σ => passAt tk σ) (pa_cons (pv 1) (pa_cons (pv 2) pa_nil)))) pa_nil))))))) (fun xa oe ecls ed pn hz hf => (pss_one (ps_ret (pe_callHx hf T.d__law_caught scw__law_caught (hr.mono (by decide) : Room 1 _) (by rfl) T.g__law_caught T.d__law_caught.kp (fun cdv outer s H hr => (pss_cons (ps_set (i := 1) scw__law_caught.nd rfl (by first | exact Or.inl rfl | exact Or.inr rfl) (pe_lst (pa_cons (pe_callB (call_isXK (K := K) rfl hz hf) (by rfl) T.z_isinstance (by decide +kernel) (pa_cons (pv 0) (pa_cons (pe_glob (v := .ref d.c_Wrong) (by rfl) T.g_Wrong rfl) pa_nil))) (pa_cons (pe_callB (call_isXK (K := K) rfl hz hf) (by rfl) T.z_isinstance (by decide +kernel) (pa_cons (pv 0) (pa_cons (pe_glob (v := .ref d.c_NoHour) (by rfl) T.g_NoHour rfl) pa_nil))) (pa_cons (pe_callB (call_isXK (K := K) rfl hz hf) (by rfl) T.z_isinstance (by decide +kernel) (pa_cons (pv 0) (pa_cons (pe_glob (v := .ref d.c_Overtaken) (by rfl) T.g_Overtaken rfl) pa_nil))) pa_nil)))))
      (pss_cons (ps_if (pt_cmpR (u_ne (K := K) rfl hr.units) (pe_bm PySem.F.plainAttrs_list PySem.F.slot_list_count PySem.F.type_list_count (k_count (K := K) rfl) (pv 1) (pa_cons pe_bl pa_nil)) pe_int (nomark _)) (pss_one (ps_ret (pe_lst (pa_cons pe_str (pa_cons pe_non pa_nil))))) pss_nil)
      (pss_cons (ps_if (pt_val (pe_ix (k_ixS (K := K) rfl) (pv 1) pe_int (fun _ _ => rfl))) (pss_one (ps_ret (pe_lst (pa_cons pe_str (pa_cons (pe_exFK (K := K) rfl hz hf (pv 0)) pa_nil))))) pss_nil)
      (pss_one (ps_ret (pe_lst (pa_cons (pe_ifExp (pt_val (pe_ix (k_ixS (K := K) rfl) (pv 1) pe_int (fun _ _ => rfl))) pe_str pe_str) (pa_cons (pe_exFK (K := K) rfl hz hf (pv 0)) pa_nil))))))))) (pa_cons (pv 3) pa_nil))))))),
    (simS_try (i := 3) (tx := [.sh, .sh, .sh, .no]) (ts1 := [.sh, .sh, .sh, .no]) (ts2 := [.sh, .sh, .sh, .no]) (ts' := [.sh, .sh, .sh, .no]) okS (fun W EX => (letI : XC := (xcOf K (cnA d) (eaA d) W EX [.sh, .sh, .sh, .no]); (simS_seq (simS_if (simT_test (sim_NS (sim_op okN ops_eq (sim_SW (sim_var rfl)) (sim_NW sim_int)))) (simS_ret okS (sim_NS (sim_lst (simA_cons (sim_NS sim_str) (simA_cons (sim_NS (sim_meth .Clock okN (sim_NS (sim_makeX (cn := .Clock) mkI rfl rfl (simA_cons (sim_var rfl) simA_nil))) simA_nil)) simA_nil))))) simS_nil)
      (simS_ret okS (sim_NS (sim_lst (simA_cons (sim_NS sim_str) (simA_cons (sim_NS (sim_meth .Clock okN (sim_NS (sim_statX .Clock okN rfl rfl (sim_NS (sim_cls .Clock)) (simA_cons (sim_var rfl) (simA_cons (sim_var rfl) simA_nil)))) simA_nil)) simA_nil)))))))) (fun xa n C o fs hn hz0 => (letI : XC := xcS xa o fs n; (simS_retHx (tsE := [.ex, .sh]) (i := 3) (m := 1) rfl rfl rnonS (simS_seq (simS_set (i := 1) (sim_NS (sim_lst (simA_cons (sim_NS (sim_isX (i := 0) (n := n) (m := .Wrong) rfl hn rfl (ex_kit T) (ex_exc T) (opt_or o))) (simA_cons (sim_NS (sim_isX (i := 0) (n := n) (m := .NoHour) rfl hn rfl (ex_kit T) (ex_exc T) (opt_or o))) (simA_cons (sim_NS (sim_isX (i := 0) (n := n) (m := .Overtaken) rfl hn rfl (ex_kit T) (ex_exc T) (opt_or o))) simA_nil))))))
      (simS_seq (simS_if (simT_test (sim_NS (sim_op okN ops_ne (sim_NW (sim_count rfl (sim_SW (sim_var rfl)) (simAW_cons (sim_NW sim_bl) simAW_nil))) (sim_NW sim_int)))) (simS_ret okS (sim_NS (sim_lst (simA_cons (sim_NS sim_str) (simA_cons (sim_NS sim_non) simA_nil))))) simS_nil)
      (simS_seq (simS_if (simT_B (sim_op okS ops_ix (sim_SW (sim_var rfl)) (sim_NW sim_int))) (simS_ret okS (sim_NS (sim_lst (simA_cons (sim_NS sim_str) (simA_cons (sim_exF (i := 0) rfl hn (ex_fld T) (opt_or o) hz0) simA_nil))))) simS_nil)
      (simS_ret okS (sim_NS (sim_lst (simA_cons (sim_NS (sim_if okN (simT_B (sim_op okS ops_ix (sim_SW (sim_var rfl)) (sim_NW sim_int))) sim_str sim_str)) (simA_cons (sim_exF (i := 0) rfl hn (ex_fld T) (opt_or o) hz0) simA_nil))))))))))) (ex_all T) rfl rfl rfl rfl rfl rfl rfl)⟩
def t__law_first_over : WS := (wSeq (wSet 1 (wCB wLen (wCons (wVar 0) wNil)))
      (wSeq (wSet 2 (wLc (wRng1 (wCons (wVar 1) wNil)) (wgName 3) (wTest (wOp (wIB fun i j => decide (j < i)) (wOp wIx (wVar 0) (wVar 3)) (wOp wAdd (wC (.int 1)) (wOp wIx (wVar 0) (wOp (wII (fun _ j => 0 < j) fun i j => i % j) (wCB wInt1 (wCons (wOp wAdd (wVar 3) (wC (.int 1))) wNil)) (wVar 1)))))) (wVar 3)))
      (wRet (wNL (wIf (wTest (wOp (wEqE true) (wVar 2) (wLst wNil))) (wOp wIx (wVar 2) (wC (.int 0))) (wC .non))))))
def w__law_first_over : WF := wDef 1 3 t__law_first_over
theorem scw__law_first_over : FnScope ["_law_stays_here", "_law_many", "_law_found", "_law_hour"] ["_law_stays_here"] (defScope s__law_first_over) := ⟨rfl, rfl, rfl, by decide +kernel, rfl, by decide +kernel, by decide +kernel⟩
set_option maxHeartbeats 4000000 in
theorem ow__law_first_over (T : Tx P K mg d) : Okf P w K mg base 1 d.f__law_first_over ["_law_stays_here"] (spW K (cnA d) (rN K (cnA d)) w__law_first_over) :=
  okw_of (ts' := [.sh, .sh, .sh, .no]) T.d__law_first_over scw__law_first_over rfl rfl rnonN fun cdv A outer s H E hr =>
    ⟨_, (pss_cons (ps_set (i := 1) scw__law_first_over.nd rfl (by first | exact Or.inl rfl | exact Or.inr rfl) (pe_callB (u_len (K := K) rfl) (by rfl) T.z_len (by decide +kernel) (pa_cons (pv 0) pa_nil)))
      (pss_cons (ps_setLc (i := 2) (own := [("_law_hour", 3)]) rfl scw__law_first_over.nd rfl rfl (sw_true rfl rfl rfl (by decide +kernel)) (pi_range1 (by rfl) T.z_range (pa_cons (pv 1) pa_nil)) (blkOk_by (by kernel_rfl)) (fun _ _ _ _ _ => (pg_name (i := 3) scw__law_first_over.nd rfl (by first | exact Or.inl rfl | exact Or.inr rfl))) (fun _ _ _ _ _ => (pts_one (pt_cmpR op_gt (pe_ix (k_ixS (K := K) rfl) (pv 0) (pv 3) (fun _ _ => rfl)) (pe_op (u_add (K := K) rfl) pe_int (pe_ix (k_ixS (K := K) rfl) (pv 0) (pe_op op_mod (pe_callTy u_int (by rfl) T.z_int (by decide +kernel) (pa_cons (pe_op (u_add (K := K) rfl) (pv 3) pe_int) pa_nil)) (pv 1)) (fun _ _ => rfl))) (nomark _)))) (fun _ _ _ _ _ => (pv 3)))
      (pss_one (ps_ret (pe_ifExp (pt_cmpR (u_neE (K := K) rfl hr.units) (pv 2) (pe_lst pa_nil) (nomark _)) (pe_ix (k_ixS (K := K) rfl) (pv 2) pe_int (fun _ _ => rfl)) pe_non))))),
    (simS_seq (simS_set (i := 1) (sim_NS (sim_cb okN cas_len (simAW_cons (sim_SW (sim_var rfl)) simAW_nil))))
      (simS_seq (simS_set (i := 2) (sim_NS (sim_lc (vs := [3]) (simI_rng1 (simAW_cons (sim_SW (sim_var rfl)) simAW_nil)) (simG_name (i := 3)) (simT_test (sim_NS (sim_op okN (ops_IB (g := fun i j => decide (j < i))) (sim_SW (sim_op okS ops_ix (sim_SW (sim_var rfl)) (sim_SW (sim_var rfl)))) (sim_NW (sim_op okN ops_add (sim_NW sim_int) (sim_SW (sim_op okS ops_ix (sim_SW (sim_var rfl)) (sim_NW (sim_op okN (ops_II (C := fun _ j => 0 < j) (g := fun i j => i % j)) (sim_NW (sim_cb okN cas_int (simAW_cons (sim_NW (sim_op okN ops_add (sim_SW (sim_var rfl)) (sim_NW sim_int))) simAW_nil))) (sim_SW (sim_var rfl))))))))))) (sim_var rfl))))
      (simS_ret okN (sim_SN (sim_if okS (simT_test (sim_NS (sim_op okN ops_neE (sim_SW (sim_var rfl)) (sim_NW (sim_lst simA_nil))))) (sim_op okS ops_ix (sim_SW (sim_var rfl)) (sim_NW sim_int)) (sim_NS sim_non))))))⟩
def t__law_due : WS := (wSeq (wIfS (wTor (wTnot (wTest (wIsiTG [(.Clock, "int"), (.Clock, "list"), (.Clock, "tuple")] (wVar 0) "list" "tuple"))) (wTnot (wTest (wChain (wIB fun i j => decide (i ≤ j)) (wIB fun i j => decide (i ≤ j)) (wC (.int 1)) (wCB wLen (wCons (wVar 0) wNil)) (wC (.int 48)))))) (wRet (wLst (wCons (wC (.str "wrong")) (wCons (wC (.int 0)) wNil)))) (fun D ρ => D.nx ρ))
      (wSeq (wIfS (wTest (wOp (wEqE true) (wLc (wSeqI (wVar 0)) (wgName 1) (wTor (wTnot (wTest (wCall w__law_is_whole (wCons (wVar 1) wNil)))) (wTnot (wTest (wChain (wIB fun i j => decide (i ≤ j)) (wIB fun i j => decide (i ≤ j)) (wC (.int 1)) (wVar 1) (wCB wLen (wCons (wVar 0) wNil)))))) (wVar 1)) (wLst wNil))) (wRet (wLst (wCons (wC (.str "wrong")) (wCons (wC (.int 0)) wNil)))) (fun D ρ => D.nx ρ))
      (wSeq (wSet 2 (wCall w__law_first_over (wCons (wVar 0) wNil)))
      (wRet (wIf (wTest (wOp (wIsN false) (wVar 2) (wC .non))) (wLst (wCons (wC (.str "told")) (wCons (wCB wListOf (wCons (wVar 0) wNil)) wNil))) (wLst (wCons (wC (.str "over")) (wCons (wVar 2) wNil))))))))
def w__law_due : WF := wDef 1 2 t__law_due
theorem scw__law_due : FnScope ["_law_thing", "_law_one_here", "_law_over"] ["_law_thing"] (defScope s__law_due) := ⟨rfl, rfl, rfl, by decide +kernel, rfl, by decide +kernel, by decide +kernel⟩
set_option maxHeartbeats 4000000 in
theorem ow__law_due (T : Tx P K mg d) : Okf P w K mg base 2 d.f__law_due ["_law_thing"] (spW K (cnA d) (rN K (cnA d)) w__law_due) :=
  okw_of (ts' := [.sh, .no, .sh]) T.d__law_due scw__law_due rfl rfl rnonN fun cdv A outer s H E hr =>
    ⟨_, (pss_cons (ps_if (PW.pt (pw_or (pt_not (pt_val (pe_callB (k_isiT (K := K) rfl) (by rfl) T.z_isinstance (by decide +kernel) (pa_cons (pv 0) (pa_cons (pe_tup (pa_cons (pe_bty (n := "list") (by rfl) T.z_list (by decide +kernel)) (pa_cons (pe_bty (n := "tuple") (by rfl) T.z_tuple (by decide +kernel)) pa_nil))) pa_nil))))) (pw_or1 (pt_not (pt_chain op_le op_le pe_int (pe_callB (u_len (K := K) rfl) (by rfl) T.z_len (by decide +kernel) (pa_cons (pv 0) pa_nil)) pe_int))))) (pss_one (ps_ret (pe_lst (pa_cons pe_str (pa_cons pe_int pa_nil))))) pss_nil)
      (pss_cons (ps_if (pt_cmpR (u_neE (K := K) rfl hr.units) (pe_lc (own := [("_law_one_here", 1)]) rfl scw__law_due.nd (k_piS (K := K) rfl (pv 0)) (blkOk_by (by kernel_rfl)) (fun _ _ _ _ _ => (pg_name (i := 1) scw__law_due.nd rfl (by first | exact Or.inl rfl | exact Or.inr rfl))) (fun _ _ _ _ _ => (pts_one (PW.pt (pw_or (pt_not (pt_val (pf_call (ow__law_is_whole T) (hr.mono (by decide)) (by rfl) T.g__law_is_whole T.d__law_is_whole.kp (pa_cons (pv 1) pa_nil)))) (pw_or1 (pt_not (pt_chain op_le op_le pe_int (pv 1) (pe_callB (u_len (K := K) rfl) (by rfl) T.z_len (by decide +kernel) (pa_cons (pv 0) pa_nil))))))))) (fun _ _ _ _ _ => (pv 1))) (pe_lst pa_nil) (nomark _)) (pss_one (ps_ret (pe_lst (pa_cons pe_str (pa_cons pe_int pa_nil))))) pss_nil)
      (pss_cons (ps_set (i := 2) scw__law_due.nd rfl (by first | exact Or.inl rfl | exact Or.inr rfl) (pf_call (ow__law_first_over T) (hr.mono (by decide)) (by rfl) T.g__law_first_over T.d__law_first_over.kp (pa_cons (pv 0) pa_nil)))
      (pss_one (ps_ret (pe_ifExp (pt_cmpR k_isN (pv 2) pe_non (nomark _)) (pe_lst (pa_cons pe_str (pa_cons (pe_callTy (k_listOf (K := K) rfl) (by rfl) T.z_list (by decide +kernel) (pa_cons (pv 0) pa_nil)) pa_nil))) (pe_lst (pa_cons pe_str (pa_cons (pv 2) pa_nil))))))))),
    (simS_seq (simS_if (simT_or (simT_not (simT_B (sim_NS (sim_isiTG (ps := [(.Clock, "int"), (.Clock, "list"), (.Clock, "tuple")]) (ki_cons (c := .Clock) T.ic_Clock T.kx_Clock_int (ki_cons (c := .Clock) T.ic_Clock T.kx_Clock_list (ki_cons (c := .Clock) T.ic_Clock T.kx_Clock_tuple ki_nil))) (sim_SW (sim_var rfl)))))) (simT_not (simT_test (sim_NS (sim_chain (ops_IB (g := fun i j => decide (i ≤ j))) (ops_IB (g := fun i j => decide (i ≤ j))) (sim_NW sim_int) (sim_NW (sim_cb okN cas_len (simAW_cons (sim_SW (sim_var rfl)) simAW_nil))) (sim_NW sim_int)))))) (simS_ret okN (sim_lst (simA_cons (sim_NS sim_str) (simA_cons (sim_NS sim_int) simA_nil)))) simS_nil)
      (simS_seq (simS_if (simT_test (sim_NS (sim_op okN ops_neE (sim_NW (sim_lc (vs := [1]) (simI_seq (lp := false) (sim_SW (sim_var rfl))) (simG_name (i := 1)) (simT_or (simT_not (simT_B (sim_NS (sim_call okN (simA_cons (sim_var rfl) simA_nil))))) (simT_not (simT_test (sim_NS (sim_chain (ops_IB (g := fun i j => decide (i ≤ j))) (ops_IB (g := fun i j => decide (i ≤ j))) (sim_NW sim_int) (sim_SW (sim_var rfl)) (sim_NW (sim_cb okN cas_len (simAW_cons (sim_SW (sim_var rfl)) simAW_nil)))))))) (sim_var rfl))) (sim_NW (sim_lst simA_nil))))) (simS_ret okN (sim_lst (simA_cons (sim_NS sim_str) (simA_cons (sim_NS sim_int) simA_nil)))) simS_nil)
      (simS_seq (simS_set (i := 2) (sim_NS (sim_call okN (simA_cons (sim_var rfl) simA_nil))))
      (simS_ret okN (sim_if okN (simT_test (sim_NS (sim_op okN ops_isN (sim_SW (sim_var rfl)) (sim_NW sim_non)))) (sim_lst (simA_cons (sim_NS sim_str) (simA_cons (sim_NS (sim_cb okN cas_listOf (simAW_cons (sim_SW (sim_var rfl)) simAW_nil))) simA_nil))) (sim_lst (simA_cons (sim_NS sim_str) (simA_cons (sim_var rfl) simA_nil))))))))⟩
def t__law_is_hour : WS := (wRet (wAndV (wCall w__law_is_whole (wCons (wVar 1) wNil)) (wChain (wIB fun i j => decide (i ≤ j)) (wIB fun i j => decide (i < j)) (wC (.int 0)) (wVar 1) (wVar 0))))
def w__law_is_hour : WF := wDef 2 0 t__law_is_hour
theorem scw__law_is_hour : FnScope ["_law_many", "_law_thing"] ["_law_many", "_law_thing"] (defScope s__law_is_hour) := ⟨rfl, rfl, rfl, by decide +kernel, rfl, by decide +kernel, by decide +kernel⟩
set_option maxHeartbeats 4000000 in
theorem ow__law_is_hour (T : Tx P K mg d) : Okf P w K mg base 2 d.f__law_is_hour ["_law_many", "_law_thing"] (spW K (cnA d) (rN K (cnA d)) w__law_is_hour) :=
  okw_of (ts' := [.sh, .sh]) T.d__law_is_hour scw__law_is_hour rfl rfl rnonN fun cdv A outer s H E hr =>
    ⟨_, (pss_one (ps_ret (pe_and (pf_call (ow__law_is_whole T) (hr.mono (by decide)) (by rfl) T.g__law_is_whole T.d__law_is_whole.kp (pa_cons (pv 1) pa_nil)) (pe_one (pe_chain op_le op_lt pe_int (pv 1) (pv 0)))))),
    (simS_ret okN (sim_andV (sim_NS (sim_call okN (simA_cons (sim_var rfl) simA_nil))) (sim_chain (ops_IB (g := fun i j => decide (i ≤ j))) (ops_IB (g := fun i j => decide (i < j))) (sim_NW sim_int) (sim_SW (sim_var rfl)) (sim_SW (sim_var rfl)))))⟩
def t_is_hour : WS := (wRet (wAndV (wCall w_is_integer (wCons (wVar 1) wNil)) (wChain (wIB fun i j => decide (i ≤ j)) (wIB fun i j => decide (i < j)) (wC (.int 0)) (wVar 1) (wVar 0))))
def w_is_hour : WF := wDef 2 0 t_is_hour
theorem scw_is_hour : FnScope ["hours", "thing"] ["hours", "thing"] (defScope s_is_hour) := ⟨rfl, rfl, rfl, by decide +kernel, rfl, by decide +kernel, by decide +kernel⟩
set_option maxHeartbeats 4000000 in
theorem ow_is_hour (T : Tx P K mg d) : Okf P w K mg base 2 d.f_is_hour ["hours", "thing"] (spW K (cnA d) (rN K (cnA d)) w_is_hour) :=
  okw_of (ts' := [.sh, .sh]) T.d_is_hour scw_is_hour rfl rfl rnonN fun cdv A outer s H E hr =>
    ⟨_, (pss_one (ps_ret (pe_and (pf_call (ow_is_integer T) (hr.mono (by decide)) (by rfl) T.g_is_integer T.d_is_integer.kp (pa_cons (pv 1) pa_nil)) (pe_one (pe_chain op_le op_lt pe_int (pv 1) (pv 0)))))),
    (simS_ret okN (sim_andV (sim_NS (sim_call okN (simA_cons (sim_var rfl) simA_nil))) (sim_chain (ops_IB (g := fun i j => decide (i ≤ j))) (ops_IB (g := fun i j => decide (i < j))) (sim_NW sim_int) (sim_SW (sim_var rfl)) (sim_SW (sim_var rfl)))))⟩
theorem sc_Clock_hours : FnScope ["self"] ["self"] (defScope s_Clock_hours) := ⟨rfl, rfl, rfl, by decide +kernel, rfl, by decide +kernel, by decide +kernel⟩
def sp_Clock_hours (K : PySem.W.Frag) (d : Ads) : Sp := fun vs H Q _ => ∃ (v : V) (s : List Int), vs = [v] ∧ Clk K d.c_Clock H v s ∧ Q (.int (s.length : Int)) H
set_option maxHeartbeats 4000000 in
theorem ok_Clock_hours (T : Tx P K mg d) : Okf P w K mg base 1 d.f_Clock_hours ["self"] (sp_Clock_hours K d) := by
  refine okf_of T.d_Clock_hours sc_Clock_hours (fun vs H Q E h => ?_) (fun cdv A outer s H vs Q E hr h => ?_)
  · obtain ⟨v, s, rfl, ⟨p, dx, a, b, rfl, hp, ha, hb, g⟩, k⟩ := h
    rfl
  · obtain ⟨v, s, rfl, ⟨p, dx, a, b, rfl, hp, ha, hb, g⟩, k⟩ := h
    refine ⟨_, (pss_one (ps_ret (pe_callB (k_len (K := K) rfl) (by rfl) T.z_len (by decide +kernel) (pa_cons (k_fld (K := K) rfl (pv 0)) pa_nil)))), ?_⟩
    walk_at "rd"
    refine ⟨p, _, dx, _, _, rfl, hp, T.cl_Clock, T.n_Clock_kept_stays, clkF_stays _ _, ?_⟩
    walk_at "rd"
    refine r_len (.inr ha) ?_
    rw [List.length_map]
    exact k
def w_Clock_hours : WF := fun xs P => ∃ (s : List Int), xs = [clkP s] ∧ Good s ∧ P (.int (s.length : Int))
theorem ow_Clock_hours (T : Tx P K mg d) : Okf P w K mg base 1 d.f_Clock_hours ["self"] (spW K (cnA d) (rN K (cnA d)) w_Clock_hours) := okw_imp (ok_Clock_hours T) (fun vs H Q E ⟨F, xs, P, dm, r, ⟨s, ex, c1, p⟩, k⟩ => by
  subst ex
  obtain ⟨v1, rfl, r1⟩ := r.one
  exact ⟨v1, s, rfl, clk_of r1 c1, ret_int dm k p (Ex.refl _)⟩)
def t_Clock_with_stay (EX : List PV → En → Fs → Prop) : WS := (wSeq (wIfS (wTnot (wTest (wCall w_is_hour (wCons (wProp .Clock w_Clock_hours (wVar 0)) (wCons (wVar 1) wNil))))) (wRaise EX .NoHour "hour" (wVar 1)) (fun D ρ => D.nx ρ))
      (wSeq (wIfS (wTor (wTnot (wTest (wCall w_is_integer (wCons (wVar 2) wNil)))) (wTnot (wTest (wChain (wIB fun i j => decide (i ≤ j)) (wIB fun i j => decide (i ≤ j)) (wC (.int 1)) (wVar 2) (wProp .Clock w_Clock_hours (wVar 0)))))) (wRaise EX .Wrong "place" (wC (.int 1))) (fun D ρ => D.nx ρ))
      (wRet (wCallX EX w_Clock___init__ (wCons (wLc (wEnum (wCons (wFldC .Clock (wVar 0) "kept_stays") wNil)) (wgTup 2 (wgCons (wgName 3) (wgCons (wgName 4) wgNil))) wTyes (wIf (wTest (wOp wEq (wVar 3) (wVar 1))) (wVar 2) (wVar 4))) wNil)))))
def w_Clock_with_stay : WFX := wDefX 3 2 t_Clock_with_stay
theorem scw_Clock_with_stay : FnScope ["self", "hour", "stay", "at", "own"] ["self", "hour", "stay"] (defScope s_Clock_with_stay) := ⟨rfl, rfl, rfl, by decide +kernel, rfl, by decide +kernel, by decide +kernel⟩
set_option maxHeartbeats 4000000 in
theorem ow_Clock_with_stay (T : Tx P K mg d) : Okf P w K mg base 5 d.f_Clock_with_stay ["self", "hour", "stay"] (spWX K (cnA d) (eaA d) (rN K (cnA d)) w_Clock_with_stay) :=
  okwX_of (tx := [.no, .no, .no, .no, .no]) (ts' := [.sh, .sh, .sh, .no, .no]) T.d_Clock_with_stay scw_Clock_with_stay rfl rfl rnonN fun cdv A outer s H E hr =>
    ⟨_, (pss_cons (ps_if (pt_not (pt_val (pf_call (ow_is_hour T) (hr.mono (by decide)) (by rfl) T.g_is_hour T.d_is_hour.kp (pa_cons (pf_prop (ow_Clock_hours T) (hr.mono (by decide)) T.cl_Clock T.p_Clock_hours (pv 0)) (pa_cons (pv 1) pa_nil))))) (pss_one (ps_raiseE (W := (fun c o _ H' => E c o H')) (k := 1) rfl T.er_NoHour (hr.mono (by decide)) (takes_of rfl rfl rfl rfl) (pa_cons (pv 1) pa_nil) (by rfl))) pss_nil)
      (pss_cons (ps_if (PW.pt (pw_or (pt_not (pt_val (pf_call (ow_is_integer T) (hr.mono (by decide)) (by rfl) T.g_is_integer T.d_is_integer.kp (pa_cons (pv 2) pa_nil)))) (pw_or1 (pt_not (pt_chain op_le op_le pe_int (pv 2) (pf_prop (ow_Clock_hours T) (hr.mono (by decide)) T.cl_Clock T.p_Clock_hours (pv 0))))))) (pss_one (ps_raiseE (W := (fun c o _ H' => E c o H')) (k := 1) rfl T.er_Wrong (hr.mono (by decide)) (takes_of rfl rfl rfl rfl) (pa_cons pe_int pa_nil) (by rfl))) pss_nil)
      (pss_one (ps_ret (pf_makeS (E := fun σ c o H => (fun c o _ H' => E c o H') c o σ H) (ow_Clock___init__ T) (hr.mono (by decide)) T.mk_Clock (by rfl) T.g_Clock (fun σ pins H s e s' I h => passes_call (takes_of rfl rfl rfl rfl) (fun _ _ _ _ h => h) pins σ H s e s' I h) (pa_cons (pe_lc (own := [("at", 3), ("own", 4)]) rfl scw_Clock_with_stay.nd (k_piE (K := K) rfl (by rfl) T.z_enumerate (pa_cons (k_fld (K := K) rfl (pv 0)) pa_nil)) (blkOk_by (by kernel_rfl)) (fun _ _ _ _ _ => (k_gtup (K := K) (n := 2) rfl rfl (pgs_cons (pg_name (i := 3) scw_Clock_with_stay.nd rfl (by first | exact Or.inl rfl | exact Or.inr rfl)) (pgs_cons (pg_name (i := 4) scw_Clock_with_stay.nd rfl (by first | exact Or.inl rfl | exact Or.inr rfl)) pgs_nil)))) (fun _ _ _ _ _ => pts_nil) (fun _ _ _ _ _ => (pe_ifExp (pt_cmpR (u_eq (K := K) rfl hr.units) (pv 3) (pv 1) (nomark _)) (pv 2) (pv 4)))) pa_nil)))))),
    fun EX => (letI : XC := (xcOf K (cnA d) (eaA d) (fun c o _ H' => E c o H') EX [.no, .no, .no, .no, .no]); (simS_seq (simS_if (simT_not (simT_B (sim_NS (sim_call okN (simA_cons (sim_NS (sim_prop .Clock okN (sim_var rfl))) (simA_cons (sim_var rfl) simA_nil)))))) (simS_raise (n := .NoHour) rfl rfl rfl rfl (sim_var rfl)) simS_nil)
      (simS_seq (simS_if (simT_or (simT_not (simT_B (sim_NS (sim_call okN (simA_cons (sim_var rfl) simA_nil))))) (simT_not (simT_test (sim_NS (sim_chain (ops_IB (g := fun i j => decide (i ≤ j))) (ops_IB (g := fun i j => decide (i ≤ j))) (sim_NW sim_int) (sim_SW (sim_var rfl)) (sim_NW (sim_prop .Clock okN (sim_var rfl)))))))) (simS_raise (n := .Wrong) rfl rfl rfl rfl (sim_NS sim_int)) simS_nil)
      (simS_ret okN (sim_makeX (cn := .Clock) mkI rfl rfl (simA_cons (sim_NS (sim_lc (vs := [3, 4]) (simI_enum (simA_cons (sim_fld (c := .Clock) rfl T.cl_Clock T.n_Clock_kept_stays (sim_var rfl)) simA_nil)) (simG_tup (simGs_cons (simG_name (i := 3)) (simGs_cons (simG_name (i := 4)) simGs_nil))) simT_yes (sim_if okS (simT_test (sim_NS (sim_op okN ops_eq (sim_SW (sim_var rfl)) (sim_SW (sim_var rfl))))) (sim_var rfl) (sim_var rfl)))) simA_nil))))))⟩
def t__law_changed : WS := (wTry (fun EX => (wRet (wLst (wCons (wC (.str "told")) (wCons (wMeth .Clock "stays" w_Clock_stays (wMethX EX .Clock "with_stay" w_Clock_with_stay (wVar 0) (wCons (wVar 1) (wCons (wVar 2) wNil))) wNil) wNil))))) (fun n fs => (wRetHx 1 (t__law_caught n fs))))
def w__law_changed : WF := wDef 3 1 t__law_changed
theorem scw__law_changed : FnScope ["_law_clock", "_law_hour", "_law_stay", "e"] ["_law_clock", "_law_hour", "_law_stay"] (defScope s__law_changed) := ⟨rfl, rfl, rfl, by decide +kernel, rfl, by decide +kernel, by decide +kernel⟩
set_option maxHeartbeats 4000000 in
theorem ow__law_changed (T : Tx P K mg d) : Okf P w K mg base 6 d.f__law_changed ["_law_clock", "_law_hour", "_law_stay"] (spW K (cnA d) (rS K (cnA d)) w__law_changed) :=
  okw_of (ts' := [.sh, .sh, .sh, .no]) T.d__law_changed scw__law_changed rfl rfl rnonS fun cdv A outer s H E hr =>
    ⟨_, (pss_one (ps_try_as (i := 3) rfl rfl scw__law_changed.nd rfl rfl ⟨rfl, by decide, .inl T.g_NeedError⟩ takes0 (fun W pn xe tk _ => (pss_one (ps_ret (pe_lst (pa_cons pe_str (pa_cons (pf_meth0 (ow_Clock_stays T) (hr.mono (by decide) : Room 1 _) T.cl_Clock T.m_Clock_stays (pf_methS (E := fun σ c o H => W c o σ H) (ow_Clock_with_stay T) (hr.mono (by decide) : Room 5 _) T.cl_Clock T.m_Clock_with_stay (fun σ => passAt tk σ) (pv 0) (pa_cons (pv 1) (pa_cons (pv 2) pa_nil)))) pa_nil)))))) (fun xa oe ecls ed pn hz hf => (pss_one (ps_ret (pe_callHx hf T.d__law_caught scw__law_caught (hr.mono (by decide) : Room 1 _) (by rfl) T.g__law_caught T.d__law_caught.kp (fun cdv outer s H hr => (pss_cons (ps_set (i := 1) scw__law_caught.nd rfl (by first | exact Or.inl rfl | exact Or.inr rfl) (pe_lst (pa_cons (pe_callB (call_isXK (K := K) rfl hz hf) (by rfl) T.z_isinstance (by decide +kernel) (pa_cons (pv 0) (pa_cons (pe_glob (v := .ref d.c_Wrong) (by rfl) T.g_Wrong rfl) pa_nil))) (pa_cons (pe_callB (call_isXK (K := K) rfl hz hf) (by rfl) T.z_isinstance (by decide +kernel) (pa_cons (pv 0) (pa_cons (pe_glob (v := .ref d.c_NoHour) (by rfl) T.g_NoHour rfl) pa_nil))) (pa_cons (pe_callB (call_isXK (K := K) rfl hz hf) (by rfl) T.z_isinstance (by decide +kernel) (pa_cons (pv 0) (pa_cons (pe_glob (v := .ref d.c_Overtaken) (by rfl) T.g_Overtaken rfl) pa_nil))) pa_nil)))))
      (pss_cons (ps_if (pt_cmpR (u_ne (K := K) rfl hr.units) (pe_bm PySem.F.plainAttrs_list PySem.F.slot_list_count PySem.F.type_list_count (k_count (K := K) rfl) (pv 1) (pa_cons pe_bl pa_nil)) pe_int (nomark _)) (pss_one (ps_ret (pe_lst (pa_cons pe_str (pa_cons pe_non pa_nil))))) pss_nil)
      (pss_cons (ps_if (pt_val (pe_ix (k_ixS (K := K) rfl) (pv 1) pe_int (fun _ _ => rfl))) (pss_one (ps_ret (pe_lst (pa_cons pe_str (pa_cons (pe_exFK (K := K) rfl hz hf (pv 0)) pa_nil))))) pss_nil)
      (pss_one (ps_ret (pe_lst (pa_cons (pe_ifExp (pt_val (pe_ix (k_ixS (K := K) rfl) (pv 1) pe_int (fun _ _ => rfl))) pe_str pe_str) (pa_cons (pe_exFK (K := K) rfl hz hf (pv 0)) pa_nil))))))))) (pa_cons (pv 3) pa_nil))))))),
    (simS_try (i := 3) (tx := [.sh, .sh, .sh, .no]) (ts1 := [.sh, .sh, .sh, .no]) (ts2 := [.sh, .sh, .sh, .no]) (ts' := [.sh, .sh, .sh, .no]) okS (fun W EX => (letI : XC := (xcOf K (cnA d) (eaA d) W EX [.sh, .sh, .sh, .no]); (simS_ret okS (sim_NS (sim_lst (simA_cons (sim_NS sim_str) (simA_cons (sim_NS (sim_meth .Clock okN (sim_NS (sim_methX .Clock okN rfl rfl (sim_var rfl) (simA_cons (sim_var rfl) (simA_cons (sim_var rfl) simA_nil)))) simA_nil)) simA_nil))))))) (fun xa n C o fs hn hz0 => (letI : XC := xcS xa o fs n; (simS_retHx (tsE := [.ex, .sh]) (i := 3) (m := 1) rfl rfl rnonS (simS_seq (simS_set (i := 1) (sim_NS (sim_lst (simA_cons (sim_NS (sim_isX (i := 0) (n := n) (m := .Wrong) rfl hn rfl (ex_kit T) (ex_exc T) (opt_or o))) (simA_cons (sim_NS (sim_isX (i := 0) (n := n) (m := .NoHour) rfl hn rfl (ex_kit T) (ex_exc T) (opt_or o))) (simA_cons (sim_NS (sim_isX (i := 0) (n := n) (m := .Overtaken) rfl hn rfl (ex_kit T) (ex_exc T) (opt_or o))) simA_nil))))))
      (simS_seq (simS_if (simT_test (sim_NS (sim_op okN ops_ne (sim_NW (sim_count rfl (sim_SW (sim_var rfl)) (simAW_cons (sim_NW sim_bl) simAW_nil))) (sim_NW sim_int)))) (simS_ret okS (sim_NS (sim_lst (simA_cons (sim_NS sim_str) (simA_cons (sim_NS sim_non) simA_nil))))) simS_nil)
      (simS_seq (simS_if (simT_B (sim_op okS ops_ix (sim_SW (sim_var rfl)) (sim_NW sim_int))) (simS_ret okS (sim_NS (sim_lst (simA_cons (sim_NS sim_str) (simA_cons (sim_exF (i := 0) rfl hn (ex_fld T) (opt_or o) hz0) simA_nil))))) simS_nil)
      (simS_ret okS (sim_NS (sim_lst (simA_cons (sim_NS (sim_if okN (simT_B (sim_op okS ops_ix (sim_SW (sim_var rfl)) (sim_NW sim_int))) sim_str sim_str)) (simA_cons (sim_exF (i := 0) rfl hn (ex_fld T) (opt_or o) hz0) simA_nil))))))))))) (ex_all T) rfl rfl rfl rfl rfl rfl rfl)⟩
def t__law_stay_right : WS := (wSeq (wSet 5 (wLst (wCons (wC (.str "none")) (wCons (wVar 3) wNil))))
      (wCut (wIfS (wTest (wCall w__law_is_hour (wCons (wCB wLen (wCons (wVar 2) wNil)) (wCons (wVar 3) wNil)))) (wSeq (wSet 5 (wLst (wCons (wC (.str "wrong")) (wCons (wC (.int 1)) wNil))))
      (wIfS (wTand (wTest (wCall w__law_is_whole (wCons (wVar 4) wNil))) (wTest (wChain (wIB fun i j => decide (i ≤ j)) (wIB fun i j => decide (i ≤ j)) (wC (.int 1)) (wVar 4) (wCB wLen (wCons (wVar 2) wNil))))) (wSet 5 (wCall w__law_due (wCons (wOp wAdd (wOp wAdd (wSl (wVar 2) wNoPart (wPart (wVar 3))) (wLst (wCons (wVar 4) wNil))) (wSl (wVar 2) (wPart (wOp wAdd (wVar 3) (wC (.int 1)))) wNoPart)) wNil))) (fun D ρ => D.nx ρ))) (fun D ρ => D.nx ρ))
      (wSeq (wSet 6 (wLc (wRng1 (wCons (wC (.int 2)) wNil)) (wgName 7) wTyes (wCall w__law_changed (wCons (wVar 1) (wCons (wVar 3) (wCons (wVar 4) wNil))))))
      (wRet (wAndV (wCall w__law_alike (wCons (wVar 6) (wCons (wLst (wCons (wVar 5) (wCons (wVar 5) wNil))) wNil))) (wOp wEqG (wMeth .Clock "stays" w_Clock_stays (wVar 1) wNil) (wVar 2)))))))
def w__law_stay_right : WF := wDef 5 3 t__law_stay_right
theorem scw__law_stay_right : FnScope ["_law_bag_here", "_law_clock", "_law_stays_here", "_law_hour", "_law_stay", "_law_due_here", "_law_found", "_law_again"] ["_law_bag_here", "_law_clock", "_law_stays_here", "_law_hour", "_law_stay"] (defScope s__law_stay_right) := ⟨rfl, rfl, rfl, by decide +kernel, rfl, by decide +kernel, by decide +kernel⟩
set_option maxHeartbeats 4000000 in
theorem ow__law_stay_right (T : Tx P K mg d) : OkP NoG P w K mg base 7 d.f__law_stay_right ["_law_bag_here", "_law_clock", "_law_stays_here", "_law_hour", "_law_stay"] (spW K (cnA d) (rN K (cnA d)) w__law_stay_right) :=
  okwG_of (ts' := [.sh, .sh, .sh, .sh, .sh, .sh, .sh, .no]) T.d__law_stay_right scw__law_stay_right rfl rfl rnonN fun cdv A outer s H E hg hr =>
    ⟨_, (pss_cons (ps_set (i := 5) scw__law_stay_right.nd rfl (by first | exact Or.inl rfl | exact Or.inr rfl) (pe_lst (pa_cons pe_str (pa_cons (pv 3) pa_nil))))
      (Evl.pss_cut (ps_if (pt_val (pf_call (ow__law_is_hour T) (hr.mono (by decide)) (by rfl) T.g__law_is_hour T.d__law_is_hour.kp (pa_cons (pe_callB (u_len (K := K) rfl) (by rfl) T.z_len (by decide +kernel) (pa_cons (pv 2) pa_nil)) (pa_cons (pv 3) pa_nil)))) (pss_cons (ps_set (i := 5) scw__law_stay_right.nd rfl (by first | exact Or.inl rfl | exact Or.inr rfl) (pe_lst (pa_cons pe_str (pa_cons pe_int pa_nil))))
      (pss_one (ps_if (PW.pt (pw_and (pt_val (pf_call (ow__law_is_whole T) (hr.mono (by decide)) (by rfl) T.g__law_is_whole T.d__law_is_whole.kp (pa_cons (pv 4) pa_nil))) (pw_and1 (pt_chain op_le op_le pe_int (pv 4) (pe_callB (u_len (K := K) rfl) (by rfl) T.z_len (by decide +kernel) (pa_cons (pv 2) pa_nil)))))) (pss_one (ps_set (i := 5) scw__law_stay_right.nd rfl (by first | exact Or.inl rfl | exact Or.inr rfl) (pf_call (ow__law_due T) (hr.mono (by decide)) (by rfl) T.g__law_due T.d__law_due.kp (pa_cons (pe_op (u_add (K := K) rfl) (pe_op (u_add (K := K) rfl) (pe_slice (u_sl (K := K) rfl) (pv 2) po_none (po_some (pv 3))) (pe_lst (pa_cons (pv 4) pa_nil))) (pe_slice (u_sl (K := K) rfl) (pv 2) (po_some (pe_op (u_add (K := K) rfl) (pv 3) pe_int)) po_none)) pa_nil)))) pss_nil))) pss_nil)
      (pss_cons (ps_setLc (i := 6) (own := [("_law_again", 7)]) rfl scw__law_stay_right.nd rfl rfl (sw_true rfl rfl rfl (by decide +kernel)) (pi_range1 (by rfl) T.z_range (pa_cons pe_int pa_nil)) (blkOk_by (by kernel_rfl)) (fun _ _ _ _ _ => (pg_name (i := 7) scw__law_stay_right.nd rfl (by first | exact Or.inl rfl | exact Or.inr rfl))) (fun _ _ _ _ _ => pts_nil) (fun _ _ _ _ _ => (pf_call (ow__law_changed T) (hr.mono (by decide)) (by rfl) T.g__law_changed T.d__law_changed.kp (pa_cons (pv 1) (pa_cons (pv 3) (pa_cons (pv 4) pa_nil))))))
      (pss_one (ps_ret (pe_and (pg_call (ow__law_alike T) (fun _ => hg) (hr.mono (by decide)) (by rfl) T.g__law_alike T.d__law_alike.kp (pa_cons (pv 6) (pa_cons (pe_lst (pa_cons (pv 5) (pa_cons (pv 5) pa_nil))) pa_nil))) (pe_one (pe_cmpR (u_eqG (K := K) rfl hr.units) (pf_meth0 (ow_Clock_stays T) (hr.mono (by decide)) T.cl_Clock T.m_Clock_stays (pv 1)) (pv 2) (nomark _))))))))),
    (simS_seq (simS_set (i := 5) (sim_NS (sim_lst (simA_cons (sim_NS sim_str) (simA_cons (sim_var rfl) simA_nil)))))
      (simS_cut (simS_if (simT_B (sim_NS (sim_call okN (simA_cons (sim_NS (sim_cb okN cas_len (simAW_cons (sim_SW (sim_var rfl)) simAW_nil))) (simA_cons (sim_var rfl) simA_nil))))) (simS_after (ts2 := [.sh, .sh, .sh, .sh, .sh, .sh, .no, .no]) (simS_seq (simS_set (i := 5) (sim_NS (sim_lst (simA_cons (sim_NS sim_str) (simA_cons (sim_NS sim_int) simA_nil)))))
      (simS_if (simT_and (simT_B (sim_NS (sim_call okN (simA_cons (sim_var rfl) simA_nil)))) (simT_test (sim_NS (sim_chain (ops_IB (g := fun i j => decide (i ≤ j))) (ops_IB (g := fun i j => decide (i ≤ j))) (sim_NW sim_int) (sim_SW (sim_var rfl)) (sim_NW (sim_cb okN cas_len (simAW_cons (sim_SW (sim_var rfl)) simAW_nil))))))) (simS_after (ts2 := [.sh, .sh, .sh, .sh, .sh, .sh, .no, .no]) (simS_set (i := 5) (sim_NS (sim_call okN (simA_cons (sim_NS (sim_op okN ops_add (sim_NW (sim_op okN ops_add (sim_NW (sim_sl (sim_SW (sim_var rfl)) simO_none (simO_some (sim_SW (sim_var rfl))))) (sim_NW (sim_lst (simA_cons (sim_var rfl) simA_nil))))) (sim_NW (sim_sl (sim_SW (sim_var rfl)) (simO_some (sim_NW (sim_op okN ops_add (sim_SW (sim_var rfl)) (sim_NW sim_int)))) simO_none)))) simA_nil)))) rfl) (simS_after (ts2 := [.sh, .sh, .sh, .sh, .sh, .sh, .no, .no]) simS_nil rfl))) rfl) (simS_after (ts2 := [.sh, .sh, .sh, .sh, .sh, .sh, .no, .no]) simS_nil rfl))
      (simS_seq (simS_set (i := 6) (sim_NS (sim_lc (vs := [7]) (simI_rng1 (simAW_cons (sim_NW sim_int) simAW_nil)) (simG_name (i := 7)) simT_yes (sim_call okS (simA_cons (sim_var rfl) (simA_cons (sim_var rfl) (simA_cons (sim_var rfl) simA_nil)))))))
      (simS_ret okN (sim_andV (sim_NS (sim_call okN (simA_cons (sim_var rfl) (simA_cons (sim_NS (sim_lst (simA_cons (sim_var rfl) (simA_cons (sim_var rfl) simA_nil)))) simA_nil)))) (sim_op okN ops_eqG (sim_NW (sim_meth .Clock okN (sim_var rfl) simA_nil)) (sim_SW (sim_var rfl))))))))⟩
def t__law_even_due : WS := (wSeq (wIfS (wTor (wTnot (wTest (wCall w__law_is_whole (wCons (wVar 0) wNil)))) (wTnot (wTest (wChain (wIB fun i j => decide (i ≤ j)) (wIB fun i j => decide (i ≤ j)) (wC (.int 1)) (wVar 0) (wC (.int 48)))))) (wRet (wLst (wCons (wC (.str "wrong")) (wCons (wC (.int 0)) wNil)))) (fun D ρ => D.nx ρ))
      (wRet (wIf (wTand (wTest (wCall w__law_is_whole (wCons (wVar 1) wNil))) (wTest (wChain (wIB fun i j => decide (i ≤ j)) (wIB fun i j => decide (i ≤ j)) (wC (.int 1)) (wVar 1) (wVar 0)))) (wLst (wCons (wC (.str "told")) (wCons (wOp wMul (wLst (wCons (wVar 1) wNil)) (wVar 0)) wNil))) (wLst (wCons (wC (.str "wrong")) (wCons (wC (.int 1)) wNil))))))
def w__law_even_due : WF := wDef 2 0 t__law_even_due
theorem scw__law_even_due : FnScope ["_law_one_here", "_law_other"] ["_law_one_here", "_law_other"] (defScope s__law_even_due) := ⟨rfl, rfl, rfl, by decide +kernel, rfl, by decide +kernel, by decide +kernel⟩
set_option maxHeartbeats 4000000 in
theorem ow__law_even_due (T : Tx P K mg d) : Okf P w K mg base 2 d.f__law_even_due ["_law_one_here", "_law_other"] (spW K (cnA d) (rN K (cnA d)) w__law_even_due) :=
  okw_of (ts' := [.sh, .sh]) T.d__law_even_due scw__law_even_due rfl rfl rnonN fun cdv A outer s H E hr =>
    ⟨_, (pss_cons (ps_if (PW.pt (pw_or (pt_not (pt_val (pf_call (ow__law_is_whole T) (hr.mono (by decide)) (by rfl) T.g__law_is_whole T.d__law_is_whole.kp (pa_cons (pv 0) pa_nil)))) (pw_or1 (pt_not (pt_chain op_le op_le pe_int (pv 0) pe_int))))) (pss_one (ps_ret (pe_lst (pa_cons pe_str (pa_cons pe_int pa_nil))))) pss_nil)
      (pss_one (ps_ret (pe_ifExp (PW.pt (pw_and (pt_val (pf_call (ow__law_is_whole T) (hr.mono (by decide)) (by rfl) T.g__law_is_whole T.d__law_is_whole.kp (pa_cons (pv 1) pa_nil))) (pw_and1 (pt_chain op_le op_le pe_int (pv 1) (pv 0))))) (pe_lst (pa_cons pe_str (pa_cons (pe_op u_mul (pe_lst (pa_cons (pv 1) pa_nil)) (pv 0)) pa_nil))) (pe_lst (pa_cons pe_str (pa_cons pe_int pa_nil))))))),
    (simS_seq (simS_if (simT_or (simT_not (simT_B (sim_NS (sim_call okN (simA_cons (sim_var rfl) simA_nil))))) (simT_not (simT_test (sim_NS (sim_chain (ops_IB (g := fun i j => decide (i ≤ j))) (ops_IB (g := fun i j => decide (i ≤ j))) (sim_NW sim_int) (sim_SW (sim_var rfl)) (sim_NW sim_int)))))) (simS_ret okN (sim_lst (simA_cons (sim_NS sim_str) (simA_cons (sim_NS sim_int) simA_nil)))) simS_nil)
      (simS_ret okN (sim_if okN (simT_and (simT_B (sim_NS (sim_call okN (simA_cons (sim_var rfl) simA_nil)))) (simT_test (sim_NS (sim_chain (ops_IB (g := fun i j => decide (i ≤ j))) (ops_IB (g := fun i j => decide (i ≤ j))) (sim_NW sim_int) (sim_SW (sim_var rfl)) (sim_SW (sim_var rfl)))))) (sim_lst (simA_cons (sim_NS sim_str) (simA_cons (sim_NS (sim_op okN ops_mul (sim_NW (sim_lst (simA_cons (sim_var rfl) simA_nil))) (sim_SW (sim_var rfl)))) simA_nil))) (sim_lst (simA_cons (sim_NS sim_str) (simA_cons (sim_NS sim_int) simA_nil))))))⟩
def t_law_b0 : WS := (wSet 5 (wCall w__law_spoilt (wCons (wVar 1) (wCons (wVar 5) wNil))))
def t_law_b1 : WS := (wSeq (wSet 8 (wCB wReprG (wCons (wVar 7) wNil)))
      (wIfS (wTor (wTnot (wTest (wCall w__law_alike (wCons (wCall w__law_tried (wCons (wC (.int 0)) (wCons (wVar 7) (wCons (wC .non) wNil)))) (wCons (wCall w__law_due (wCons (wVar 7) wNil)) wNil))))) (wTest (wOp wNe (wCB wReprG (wCons (wVar 7) wNil)) (wVar 8)))) (wRet (wC (.bl false))) (fun D ρ => D.nx ρ)))
def t_law_b2 : WS := (wIfS (wTnot (wTest (wCall w__law_stay_right (wCons (wVar 1) (wCons (wVar 9) (wCons (wVar 4) (wCons (wVar 11) (wCons (wVar 12) wNil)))))))) (wRet (wC (.bl false))) (fun D ρ => D.nx ρ))
def t_law_b3 : WS := (wFor (wSeqI (wTup (wCons (wOp wAdd (wC (.int 1)) (wCall w_take (wCons (wVar 1) (wCons (wVar 3) wNil)))) (wCons (wCall w__law_one (wCons (wVar 1) (wCons (wLst (wCons (wC (.int 0)) (wCons (wVar 3) (wCons (wOp wAdd (wVar 3) (wC (.int 1))) (wCons (wC (.bl true)) (wCons (wC .non) (wCons (wCall w__law_odd (wCons (wVar 1) wNil)) wNil))))))) wNil))) wNil)))) (wgName 12) t_law_b2)
def t_law_b4 : WS := (wSeq (wSet 3 (wOp wAdd (wC (.int 1)) (wCall w_take (wCons (wVar 1) (wCons (wOp wIx (wLst (wCons (wC (.int 48)) (wCons (wC (.int 4)) (wCons (wC (.int 9)) wNil)))) (wOp (wII CDivW fun i j => i / j) (wVar 2) (wC (.int 4)))) wNil)))))
      (wSeq (wSet 4 (wCall w__law_stays (wCons (wVar 1) (wCons (wVar 3) wNil))))
      (wSeq (wSet 5 (wCB wListOf (wCons (wVar 4) wNil)))
      (wSeq (wFor (wRng1 (wCons (wOp wAdd (wC (.int 1)) (wCall w_take (wCons (wVar 1) (wCons (wC (.int 3)) wNil)))) wNil)) (wgName 6) t_law_b0)
      (wSeq (wFor (wSeqI (wTup (wCons (wVar 5) (wCons (wCB wTupOf (wCons (wVar 5) wNil)) (wCons (wCall w__law_odd (wCons (wVar 1) wNil)) wNil))))) (wgName 7) t_law_b1)
      (wSeq (wPar 9 10 false false (wCall (wNoE w_Clock___init__) (wCons (wVar 4) wNil)) (wCall w_take (wCons (wVar 1) (wCons (wVar 3) wNil))))
      (wSeq (wFor (wSeqI (wTup (wCons (wVar 10) (wCons (wOp (wI0 fun i j => i - j) (wVar 3) (wC (.int 1))) (wCons (wCall w__law_one (wCons (wVar 1) (wCons (wLst (wCons (wVar 3) (wCons (wUn wNeg (wC (.int 1))) (wCons (wC (.bl true)) (wCons (wC .non) (wCons (wCall w__law_odd (wCons (wVar 1) wNil)) wNil)))))) wNil))) wNil))))) (wgName 11) t_law_b3)
      (wSeq (wGh 9 (wSeq (wSet 13 (wLst (wCons (wCall w__law_changed (wCons (wVarU 9) (wCons (wVar 9) (wCons (wC (.int 1)) wNil)))) (wCons (wCall w__law_changed (wCons (wVarU 9) (wCons (wC (.int 0)) (wCons (wVar 9) wNil)))) wNil))))
      (wSeq (wSet 13 (wOp wAdd (wVar 13) (wLst (wCons (wCall w__law_tried (wCons (wC (.int 1)) (wCons (wVar 9) (wCons (wC (.int 1)) wNil)))) (wCons (wCall w__law_tried (wCons (wC (.int 1)) (wCons (wC (.int 1)) (wCons (wVar 9) wNil)))) wNil)))))
      (wIfS (wTest (wOp wNeG (wVar 13) (wLst (wCons (wLst (wCons (wC (.str "none")) (wCons (wVar 9) wNil))) (wCons (wLst (wCons (wC (.str "wrong")) (wCons (wC (.int 1)) wNil))) (wCons (wLst (wCons (wC (.str "wrong")) (wCons (wC (.int 0)) wNil))) (wCons (wLst (wCons (wC (.str "wrong")) (wCons (wC (.int 1)) wNil))) wNil))))))) (wRet (wC (.bl false))) (fun D ρ => D.nx ρ)))))
      (wSeq (wSet 14 (wCall w__law_one (wCons (wVar 1) (wCons (wLst (wCons (wVar 3) (wCons (wVar 3) (wCons (wC (.int 0)) (wCons (wC (.int 49)) (wCons (wC (.int 48)) (wCons (wC (.bl true)) (wCons (wCall w__law_odd (wCons (wVar 1) wNil)) wNil)))))))) wNil))))
      (wSeq (wSet 15 (wCall w__law_one (wCons (wVar 1) (wCons (wLst (wCons (wOp wAdd (wC (.int 1)) (wCall w_take (wCons (wVar 1) (wCons (wVar 3) wNil)))) (wCons (wVar 3) (wCons (wOp wAdd (wVar 3) (wC (.int 1))) (wCons (wC (.int 0)) (wCons (wC (.bl true)) (wCons (wCall w__law_odd (wCons (wVar 1) wNil)) wNil))))))) wNil))))
      (wIfS (wTnot (wTest (wCall w__law_alike (wCons (wCall w__law_tried (wCons (wC (.int 1)) (wCons (wVar 14) (wCons (wVar 15) wNil)))) (wCons (wCall w__law_even_due (wCons (wVar 14) (wCons (wVar 15) wNil))) wNil))))) (wRet (wC (.bl false))) (fun D ρ => D.nx ρ))))))))))))
def t_law : WS := (wSeq (wSet 1 (wCall w_bag (wCons (wVar 0) wNil)))
      (wSeq (wFor (wRng1 (wCons (wC (.int 10)) wNil)) (wgName 2) t_law_b4)
      (wSeq (wSet 7 (wTup (wCons (wCall (wNoE w_Clock___init__) (wCons (wLst (wCons (wC (.int 1)) wNil)) wNil)) (wCons (wOp wMul (wLst (wCons (wC (.int 1)) wNil)) (wC (.int 49))) (wCons (wOp wMul (wLst (wCons (wC (.int 48)) wNil)) (wC (.int 48))) (wCons (wLst (wCons (wC (.int 2)) (wCons (wC (.int 2)) (wCons (wC (.int 4)) (wCons (wC (.int 3)) wNil))))) (wCons (wLst (wCons (wC (.int 3)) (wCons (wC (.int 1)) (wCons (wC (.int 1)) wNil)))) (wCons (wLst (wCons (wC (.int 3)) (wCons (wC (.int 2)) (wCons (wC (.int 1)) wNil)))) (wCons (wLst wNil) wNil)))))))))
      (wRet (wCall w__law_alike (wCons (wLc (wSeqI (wVar 7)) (wgName 5) wTyes (wCall w__law_tried (wCons (wC (.int 0)) (wCons (wVar 5) (wCons (wC .non) wNil))))) (wCons (wLc (wSeqI (wVar 7)) (wgName 5) wTyes (wCall w__law_due (wCons (wVar 5) wNil))) wNil)))))))
def w_law : WF := wDef 1 15 t_law
theorem scw_law : FnScope ["_law_script", "_law_bag_here", "_law_turn", "_law_many", "_law_stays_here", "_law_thing", "_law_again", "_law_some", "_law_text", "_law_clock", "_law_hour", "_law_spot", "_law_stay", "_law_both", "_law_one_here", "_law_other"] ["_law_script"] (defScope s_law) := ⟨rfl, rfl, rfl, by decide +kernel, rfl, by decide +kernel, by decide +kernel⟩
set_option maxHeartbeats 4000000 in
theorem ow_law (T : Tx P K mg d) : OkP NoG P w K mg base 8 d.f_law ["_law_script"] (spW K (cnA d) (rN K (cnA d)) w_law) :=
  okwG_of (ts' := [.sh, .sh, .no, .no, .no, .no, .no, .sh, .no, .no, .no, .no, .no, .no, .no, .no]) T.d_law scw_law rfl rfl rnonN fun cdv A outer s H E hg hr =>
    ⟨_, (pss_cons (ps_set (i := 1) scw_law.nd rfl (by first | exact Or.inl rfl | exact Or.inr rfl) (pf_call (ow__law_bag T) (hr.mono (by decide)) (by rfl) T.g__law_bag T.d__law_bag.kp (pa_cons (pv 0) pa_nil)))
      (pss_cons (ps_for PassesOwn.never rfl (pi_range1 (by rfl) T.z_range (pa_cons pe_int pa_nil)) (pg_name (i := 2) scw_law.nd rfl (by first | exact Or.inl rfl | exact Or.inr rfl)) (pss_cons (ps_set (i := 3) scw_law.nd rfl (by first | exact Or.inl rfl | exact Or.inr rfl) (pe_op (u_add (K := K) rfl) pe_int (pf_call (ow__law_take T) (hr.mono (by decide)) (by rfl) T.g__law_take T.d__law_take.kp (pa_cons (pv 1) (pa_cons (pe_ix (k_ixS (K := K) rfl) (pe_lst (pa_cons pe_int (pa_cons pe_int (pa_cons pe_int pa_nil)))) (pe_op op_fdivW (pv 2) pe_int) (fun _ _ => rfl)) pa_nil)))))
      (pss_cons (ps_set (i := 4) scw_law.nd rfl (by first | exact Or.inl rfl | exact Or.inr rfl) (pf_call (ow__law_stays T) (hr.mono (by decide)) (by rfl) T.g__law_stays T.d__law_stays.kp (pa_cons (pv 1) (pa_cons (pv 3) pa_nil))))
      (pss_cons (ps_set (i := 5) scw_law.nd rfl (by first | exact Or.inl rfl | exact Or.inr rfl) (pe_callTy (k_listOf (K := K) rfl) (by rfl) T.z_list (by decide +kernel) (pa_cons (pv 4) pa_nil)))
      (pss_cons (ps_for PassesOwn.never rfl (pi_range1 (by rfl) T.z_range (pa_cons (pe_op (u_add (K := K) rfl) pe_int (pf_call (ow__law_take T) (hr.mono (by decide)) (by rfl) T.g__law_take T.d__law_take.kp (pa_cons (pv 1) (pa_cons pe_int pa_nil)))) pa_nil)) (pg_name (i := 6) scw_law.nd rfl (by first | exact Or.inl rfl | exact Or.inr rfl)) (pss_one (ps_set (i := 5) scw_law.nd rfl (by first | exact Or.inl rfl | exact Or.inr rfl) (pf_call (ow__law_spoilt T) (hr.mono (by decide)) (by rfl) T.g__law_spoilt T.d__law_spoilt.kp (pa_cons (pv 1) (pa_cons (pv 5) pa_nil))))))
      (pss_cons (ps_for PassesOwn.never rfl (k_piS (K := K) rfl (pe_tup (pa_cons (pv 5) (pa_cons (pe_callTy (k_tupOf (K := K) rfl) (by rfl) T.z_tuple (by decide +kernel) (pa_cons (pv 5) pa_nil)) (pa_cons (pf_call (ow__law_odd T) (hr.mono (by decide)) (by rfl) T.g__law_odd T.d__law_odd.kp (pa_cons (pv 1) pa_nil)) pa_nil))))) (pg_name (i := 7) scw_law.nd rfl (by first | exact Or.inl rfl | exact Or.inr rfl)) (pss_cons (ps_set (i := 8) scw_law.nd rfl (by first | exact Or.inl rfl | exact Or.inr rfl) (pe_callB (k_reprG (K := K) (k := 0) rfl hg (hr.mono (by decide))) (by rfl) T.z_repr (by decide +kernel) (pa_cons (pv 7) pa_nil)))
      (pss_one (ps_if (PW.pt (pw_or (pt_not (pt_val (pg_call (ow__law_alike T) (fun _ => hg) (hr.mono (by decide)) (by rfl) T.g__law_alike T.d__law_alike.kp (pa_cons (pf_call (ow__law_tried T) (hr.mono (by decide)) (by rfl) T.g__law_tried T.d__law_tried.kp (pa_cons pe_int (pa_cons (pv 7) (pa_cons pe_non pa_nil)))) (pa_cons (pf_call (ow__law_due T) (hr.mono (by decide)) (by rfl) T.g__law_due T.d__law_due.kp (pa_cons (pv 7) pa_nil)) pa_nil))))) (pw_or1 (pt_cmpR (u_ne (K := K) rfl hr.units) (pe_callB (k_reprG (K := K) (k := 0) rfl hg (hr.mono (by decide))) (by rfl) T.z_repr (by decide +kernel) (pa_cons (pv 7) pa_nil)) (pv 8) (nomark _))))) (pss_one (ps_ret pe_bl)) pss_nil))))
      (pss_cons (ps_par (i := 9) (j := 10) (by rfl) scw_law.nd rfl rfl (by decide) rfl rfl (pa_cons (pf_make (ow_Clock___init__ T) (hr.mono (by decide)) T.mk_Clock (by rfl) T.g_Clock (pa_cons (pv 4) pa_nil)) (pa_cons (pf_call (ow__law_take T) (hr.mono (by decide)) (by rfl) T.g__law_take T.d__law_take.kp (pa_cons (pv 1) (pa_cons (pv 3) pa_nil))) pa_nil)) (by rfl))
      (pss_cons (ps_for PassesOwn.never rfl (k_piS (K := K) rfl (pe_tup (pa_cons (pv 10) (pa_cons (pe_op op_sub (pv 3) pe_int) (pa_cons (pf_call (ow__law_one T) (hr.mono (by decide)) (by rfl) T.g__law_one T.d__law_one.kp (pa_cons (pv 1) (pa_cons (pe_lst (pa_cons (pv 3) (pa_cons (pe_un un_neg pe_int) (pa_cons pe_bl (pa_cons pe_non (pa_cons (pf_call (ow__law_odd T) (hr.mono (by decide)) (by rfl) T.g__law_odd T.d__law_odd.kp (pa_cons (pv 1) pa_nil)) pa_nil)))))) pa_nil))) pa_nil))))) (pg_name (i := 11) scw_law.nd rfl (by first | exact Or.inl rfl | exact Or.inr rfl)) (pss_one (ps_for PassesOwn.never rfl (k_piS (K := K) rfl (pe_tup (pa_cons (pe_op (u_add (K := K) rfl) pe_int (pf_call (ow__law_take T) (hr.mono (by decide)) (by rfl) T.g__law_take T.d__law_take.kp (pa_cons (pv 1) (pa_cons (pv 3) pa_nil)))) (pa_cons (pf_call (ow__law_one T) (hr.mono (by decide)) (by rfl) T.g__law_one T.d__law_one.kp (pa_cons (pv 1) (pa_cons (pe_lst (pa_cons pe_int (pa_cons (pv 3) (pa_cons (pe_op (u_add (K := K) rfl) (pv 3) pe_int) (pa_cons pe_bl (pa_cons pe_non (pa_cons (pf_call (ow__law_odd T) (hr.mono (by decide)) (by rfl) T.g__law_odd T.d__law_odd.kp (pa_cons (pv 1) pa_nil)) pa_nil))))))) pa_nil))) pa_nil)))) (pg_name (i := 12) scw_law.nd rfl (by first | exact Or.inl rfl | exact Or.inr rfl)) (pss_one (ps_if (pt_not (pt_val (pg_call (ow__law_stay_right T) (fun _ => hg) (hr.mono (by decide)) (by rfl) T.g__law_stay_right T.d__law_stay_right.kp (pa_cons (pv 1) (pa_cons (pv 9) (pa_cons (pv 4) (pa_cons (pv 11) (pa_cons (pv 12) pa_nil)))))))) (pss_one (ps_ret pe_bl)) pss_nil)))))
      (pss_cons (ps_set (i := 13) scw_law.nd rfl (by first | exact Or.inl rfl | exact Or.inr rfl) (pe_lst (pa_cons (pf_call (ow__law_changed T) (hr.mono (by decide)) (by rfl) T.g__law_changed T.d__law_changed.kp (pa_cons (pv 9) (pa_cons (pv 9) (pa_cons pe_int pa_nil)))) (pa_cons (pf_call (ow__law_changed T) (hr.mono (by decide)) (by rfl) T.g__law_changed T.d__law_changed.kp (pa_cons (pv 9) (pa_cons pe_int (pa_cons (pv 9) pa_nil)))) pa_nil))))
      (pss_cons (ps_set (i := 13) scw_law.nd rfl (by first | exact Or.inl rfl | exact Or.inr rfl) (pe_op (u_add (K := K) rfl) (pv 13) (pe_lst (pa_cons (pf_call (ow__law_tried T) (hr.mono (by decide)) (by rfl) T.g__law_tried T.d__law_tried.kp (pa_cons pe_int (pa_cons (pv 9) (pa_cons pe_int pa_nil)))) (pa_cons (pf_call (ow__law_tried T) (hr.mono (by decide)) (by rfl) T.g__law_tried T.d__law_tried.kp (pa_cons pe_int (pa_cons pe_int (pa_cons (pv 9) pa_nil)))) pa_nil)))))
      (pss_cons (ps_if (pt_cmpR (u_neG (K := K) rfl hr.units) (pv 13) (pe_lst (pa_cons (pe_lst (pa_cons pe_str (pa_cons (pv 9) pa_nil))) (pa_cons (pe_lst (pa_cons pe_str (pa_cons pe_int pa_nil))) (pa_cons (pe_lst (pa_cons pe_str (pa_cons pe_int pa_nil))) (pa_cons (pe_lst (pa_cons pe_str (pa_cons pe_int pa_nil))) pa_nil))))) (nomark _)) (pss_one (ps_ret pe_bl)) pss_nil)
      (pss_cons (ps_set (i := 14) scw_law.nd rfl (by first | exact Or.inl rfl | exact Or.inr rfl) (pf_call (ow__law_one T) (hr.mono (by decide)) (by rfl) T.g__law_one T.d__law_one.kp (pa_cons (pv 1) (pa_cons (pe_lst (pa_cons (pv 3) (pa_cons (pv 3) (pa_cons pe_int (pa_cons pe_int (pa_cons pe_int (pa_cons pe_bl (pa_cons (pf_call (ow__law_odd T) (hr.mono (by decide)) (by rfl) T.g__law_odd T.d__law_odd.kp (pa_cons (pv 1) pa_nil)) pa_nil)))))))) pa_nil))))
      (pss_cons (ps_set (i := 15) scw_law.nd rfl (by first | exact Or.inl rfl | exact Or.inr rfl) (pf_call (ow__law_one T) (hr.mono (by decide)) (by rfl) T.g__law_one T.d__law_one.kp (pa_cons (pv 1) (pa_cons (pe_lst (pa_cons (pe_op (u_add (K := K) rfl) pe_int (pf_call (ow__law_take T) (hr.mono (by decide)) (by rfl) T.g__law_take T.d__law_take.kp (pa_cons (pv 1) (pa_cons (pv 3) pa_nil)))) (pa_cons (pv 3) (pa_cons (pe_op (u_add (K := K) rfl) (pv 3) pe_int) (pa_cons pe_int (pa_cons pe_bl (pa_cons (pf_call (ow__law_odd T) (hr.mono (by decide)) (by rfl) T.g__law_odd T.d__law_odd.kp (pa_cons (pv 1) pa_nil)) pa_nil))))))) pa_nil))))
      (pss_one (ps_if (pt_not (pt_val (pg_call (ow__law_alike T) (fun _ => hg) (hr.mono (by decide)) (by rfl) T.g__law_alike T.d__law_alike.kp (pa_cons (pf_call (ow__law_tried T) (hr.mono (by decide)) (by rfl) T.g__law_tried T.d__law_tried.kp (pa_cons pe_int (pa_cons (pv 14) (pa_cons (pv 15) pa_nil)))) (pa_cons (pf_call (ow__law_even_due T) (hr.mono (by decide)) (by rfl) T.g__law_even_due T.d__law_even_due.kp (pa_cons (pv 14) (pa_cons (pv 15) pa_nil))) pa_nil))))) (pss_one (ps_ret pe_bl)) pss_nil)))))))))))))))
      (pss_cons (ps_set (i := 7) scw_law.nd rfl (by first | exact Or.inl rfl | exact Or.inr rfl) (pe_tup (pa_cons (pf_make (ow_Clock___init__ T) (hr.mono (by decide)) T.mk_Clock (by rfl) T.g_Clock (pa_cons (pe_lst (pa_cons pe_int pa_nil)) pa_nil)) (pa_cons (pe_op u_mul (pe_lst (pa_cons pe_int pa_nil)) pe_int) (pa_cons (pe_op u_mul (pe_lst (pa_cons pe_int pa_nil)) pe_int) (pa_cons (pe_lst (pa_cons pe_int (pa_cons pe_int (pa_cons pe_int (pa_cons pe_int pa_nil))))) (pa_cons (pe_lst (pa_cons pe_int (pa_cons pe_int (pa_cons pe_int pa_nil)))) (pa_cons (pe_lst (pa_cons pe_int (pa_cons pe_int (pa_cons pe_int pa_nil)))) (pa_cons (pe_lst pa_nil) pa_nil)))))))))
      (pss_one (ps_ret (pg_call (ow__law_alike T) (fun _ => hg) (hr.mono (by decide)) (by rfl) T.g__law_alike T.d__law_alike.kp (pa_cons (pe_lc (own := [("_law_thing", 5)]) rfl scw_law.nd (k_piS (K := K) rfl (pv 7)) (blkOk_by (by kernel_rfl)) (fun _ _ _ _ _ => (pg_name (i := 5) scw_law.nd rfl (by first | exact Or.inl rfl | exact Or.inr rfl))) (fun _ _ _ _ _ => pts_nil) (fun _ _ _ _ _ => (pf_call (ow__law_tried T) (hr.mono (by decide)) (by rfl) T.g__law_tried T.d__law_tried.kp (pa_cons pe_int (pa_cons (pv 5) (pa_cons pe_non pa_nil)))))) (pa_cons (pe_lc (own := [("_law_thing", 5)]) rfl scw_law.nd (k_piS (K := K) rfl (pv 7)) (blkOk_by (by kernel_rfl)) (fun _ _ _ _ _ => (pg_name (i := 5) scw_law.nd rfl (by first | exact Or.inl rfl | exact Or.inr rfl))) (fun _ _ _ _ _ => pts_nil) (fun _ _ _ _ _ => (pf_call (ow__law_due T) (hr.mono (by decide)) (by rfl) T.g__law_due T.d__law_due.kp (pa_cons (pv 5) pa_nil)))) pa_nil)))))))),
    (simS_seq (simS_set (i := 1) (sim_NS (sim_call okN (simA_cons (sim_var rfl) simA_nil))))
      (simS_seq (simS_for (ts := [.sh, .sh, .no, .no, .no, .no, .no, .no, .no, .no, .no, .no, .no, .no, .no, .no]) (simI_rng1 (simAW_cons (sim_NW sim_int) simAW_nil)) (simG_name (i := 2)) (simS_seq (simS_set (i := 3) (sim_NS (sim_op okN ops_add (sim_NW sim_int) (sim_NW (sim_call okN (simA_cons (sim_var rfl) (simA_cons (sim_op okS ops_ix (sim_NW (sim_lst (simA_cons (sim_NS sim_int) (simA_cons (sim_NS sim_int) (simA_cons (sim_NS sim_int) simA_nil))))) (sim_NW (sim_op okN (ops_II (C := CDivW) (g := fun i j => i / j)) (sim_SW (sim_var rfl)) (sim_NW sim_int)))) simA_nil)))))))
      (simS_seq (simS_set (i := 4) (sim_NS (sim_call okN (simA_cons (sim_var rfl) (simA_cons (sim_var rfl) simA_nil)))))
      (simS_seq (simS_set (i := 5) (sim_NS (sim_cb okN cas_listOf (simAW_cons (sim_SW (sim_var rfl)) simAW_nil))))
      (simS_seq (simS_for (ts := [.sh, .sh, .sh, .sh, .sh, .sh, .no, .no, .no, .no, .no, .no, .no, .no, .no, .no]) (simI_rng1 (simAW_cons (sim_NW (sim_op okN ops_add (sim_NW sim_int) (sim_NW (sim_call okN (simA_cons (sim_var rfl) (simA_cons (sim_NS sim_int) simA_nil)))))) simAW_nil)) (simG_name (i := 6)) (simS_set (i := 5) (sim_NS (sim_call okN (simA_cons (sim_var rfl) (simA_cons (sim_var rfl) simA_nil))))) rfl)
      (simS_seq (simS_for (ts := [.sh, .sh, .sh, .sh, .sh, .sh, .no, .no, .no, .no, .no, .no, .no, .no, .no, .no]) (simI_seq (lp := true) (sim_NS (sim_tup (simA_cons (sim_var rfl) (simA_cons (sim_NS (sim_cb okN cas_tupOf (simAW_cons (sim_SW (sim_var rfl)) simAW_nil))) (simA_cons (sim_call okS (simA_cons (sim_var rfl) simA_nil)) simA_nil)))))) (simG_name (i := 7)) (simS_seq (simS_set (i := 8) (sim_NS (sim_cb okN (cas_reprG T.sm) (simAW_cons (sim_SW (sim_var rfl)) simAW_nil))))
      (simS_if (simT_or (simT_not (simT_B (sim_NS (sim_call okN (simA_cons (sim_call okS (simA_cons (sim_NS sim_int) (simA_cons (sim_var rfl) (simA_cons (sim_NS sim_non) simA_nil)))) (simA_cons (sim_NS (sim_call okN (simA_cons (sim_var rfl) simA_nil))) simA_nil)))))) (simT_test (sim_NS (sim_op okN ops_ne (sim_NW (sim_cb okN (cas_reprG T.sm) (simAW_cons (sim_SW (sim_var rfl)) simAW_nil))) (sim_SW (sim_var rfl)))))) (simS_ret okN sim_bl) simS_nil)) rfl)
      (simS_seq (simS_par (i := 9) (j := 10) (k := false) (l := false) (sim_NS (sim_make (c := .Clock) mkIE (simA_cons (sim_var rfl) simA_nil))) (sim_NS (sim_call okN (simA_cons (sim_var rfl) (simA_cons (sim_var rfl) simA_nil)))))
      (simS_seq (simS_for (ts := [.sh, .sh, .sh, .sh, .sh, .sh, .no, .no, .no, .sh, .sh, .no, .no, .no, .no, .no]) (simI_seq (lp := true) (sim_NS (sim_tup (simA_cons (sim_var rfl) (simA_cons (sim_NS (sim_op okN (ops_I0 (g := fun i j => i - j)) (sim_SW (sim_var rfl)) (sim_NW sim_int))) (simA_cons (sim_call okS (simA_cons (sim_var rfl) (simA_cons (sim_NS (sim_lst (simA_cons (sim_var rfl) (simA_cons (sim_NS (sim_un uns_neg (sim_NW sim_int))) (simA_cons (sim_NS sim_bl) (simA_cons (sim_NS sim_non) (simA_cons (sim_call okS (simA_cons (sim_var rfl) simA_nil)) simA_nil))))))) simA_nil))) simA_nil)))))) (simG_name (i := 11)) (simS_for (ts := [.sh, .sh, .sh, .sh, .sh, .sh, .no, .no, .no, .sh, .sh, .sh, .no, .no, .no, .no]) (simI_seq (lp := true) (sim_NS (sim_tup (simA_cons (sim_NS (sim_op okN ops_add (sim_NW sim_int) (sim_NW (sim_call okN (simA_cons (sim_var rfl) (simA_cons (sim_var rfl) simA_nil)))))) (simA_cons (sim_call okS (simA_cons (sim_var rfl) (simA_cons (sim_NS (sim_lst (simA_cons (sim_NS sim_int) (simA_cons (sim_var rfl) (simA_cons (sim_NS (sim_op okN ops_add (sim_SW (sim_var rfl)) (sim_NW sim_int))) (simA_cons (sim_NS sim_bl) (simA_cons (sim_NS sim_non) (simA_cons (sim_call okS (simA_cons (sim_var rfl) simA_nil)) simA_nil)))))))) simA_nil))) simA_nil))))) (simG_name (i := 12)) (simS_if (simT_not (simT_B (sim_NS (sim_call okN (simA_cons (sim_var rfl) (simA_cons (sim_var rfl) (simA_cons (sim_var rfl) (simA_cons (sim_var rfl) (simA_cons (sim_var rfl) simA_nil))))))))) (simS_ret okN sim_bl) simS_nil) rfl) rfl)
      (simS_grp3 (ts1 := [.sh, .sh, .sh, .sh, .sh, .sh, .no, .no, .no, .sh, .sh, .no, .no, .sh, .no, .no]) (simS_gh (i := 9) rfl rfl (simS_seq (simS_set (i := 13) (sim_NS (sim_lst (simA_cons (sim_call okS (simA_cons (sim_varU (i := 9) rfl) (simA_cons (sim_var rfl) (simA_cons (sim_NS sim_int) simA_nil)))) (simA_cons (sim_call okS (simA_cons (sim_varU (i := 9) rfl) (simA_cons (sim_NS sim_int) (simA_cons (sim_var rfl) simA_nil)))) simA_nil)))))
      (simS_seq (simS_set (i := 13) (sim_NS (sim_op okN ops_add (sim_SW (sim_var rfl)) (sim_NW (sim_lst (simA_cons (sim_call okS (simA_cons (sim_NS sim_int) (simA_cons (sim_var rfl) (simA_cons (sim_NS sim_int) simA_nil)))) (simA_cons (sim_call okS (simA_cons (sim_NS sim_int) (simA_cons (sim_NS sim_int) (simA_cons (sim_var rfl) simA_nil)))) simA_nil)))))))
      (simS_if (simT_test (sim_NS (sim_op okN ops_neG (sim_SW (sim_var rfl)) (sim_NW (sim_lst (simA_cons (sim_NS (sim_lst (simA_cons (sim_NS sim_str) (simA_cons (sim_var rfl) simA_nil)))) (simA_cons (sim_NS (sim_lst (simA_cons (sim_NS sim_str) (simA_cons (sim_NS sim_int) simA_nil)))) (simA_cons (sim_NS (sim_lst (simA_cons (sim_NS sim_str) (simA_cons (sim_NS sim_int) simA_nil)))) (simA_cons (sim_NS (sim_lst (simA_cons (sim_NS sim_str) (simA_cons (sim_NS sim_int) simA_nil)))) simA_nil))))))))) (simS_ret okN sim_bl) simS_nil))))
      (simS_seq (simS_set (i := 14) (sim_call okS (simA_cons (sim_var rfl) (simA_cons (sim_NS (sim_lst (simA_cons (sim_var rfl) (simA_cons (sim_var rfl) (simA_cons (sim_NS sim_int) (simA_cons (sim_NS sim_int) (simA_cons (sim_NS sim_int) (simA_cons (sim_NS sim_bl) (simA_cons (sim_call okS (simA_cons (sim_var rfl) simA_nil)) simA_nil))))))))) simA_nil))))
      (simS_seq (simS_set (i := 15) (sim_call okS (simA_cons (sim_var rfl) (simA_cons (sim_NS (sim_lst (simA_cons (sim_NS (sim_op okN ops_add (sim_NW sim_int) (sim_NW (sim_call okN (simA_cons (sim_var rfl) (simA_cons (sim_var rfl) simA_nil)))))) (simA_cons (sim_var rfl) (simA_cons (sim_NS (sim_op okN ops_add (sim_SW (sim_var rfl)) (sim_NW sim_int))) (simA_cons (sim_NS sim_int) (simA_cons (sim_NS sim_bl) (simA_cons (sim_call okS (simA_cons (sim_var rfl) simA_nil)) simA_nil)))))))) simA_nil))))
      (simS_if (simT_not (simT_B (sim_NS (sim_call okN (simA_cons (sim_call okS (simA_cons (sim_NS sim_int) (simA_cons (sim_var rfl) (simA_cons (sim_var rfl) simA_nil)))) (simA_cons (sim_NS (sim_call okN (simA_cons (sim_var rfl) (simA_cons (sim_var rfl) simA_nil)))) simA_nil)))))) (simS_ret okN sim_bl) simS_nil))))))))))) rfl)
      (simS_seq (simS_set (i := 7) (sim_NS (sim_tup (simA_cons (sim_NS (sim_make (c := .Clock) mkIE (simA_cons (sim_NS (sim_lst (simA_cons (sim_NS sim_int) simA_nil))) simA_nil))) (simA_cons (sim_NS (sim_op okN ops_mul (sim_NW (sim_lst (simA_cons (sim_NS sim_int) simA_nil))) (sim_NW sim_int))) (simA_cons (sim_NS (sim_op okN ops_mul (sim_NW (sim_lst (simA_cons (sim_NS sim_int) simA_nil))) (sim_NW sim_int))) (simA_cons (sim_NS (sim_lst (simA_cons (sim_NS sim_int) (simA_cons (sim_NS sim_int) (simA_cons (sim_NS sim_int) (simA_cons (sim_NS sim_int) simA_nil)))))) (simA_cons (sim_NS (sim_lst (simA_cons (sim_NS sim_int) (simA_cons (sim_NS sim_int) (simA_cons (sim_NS sim_int) simA_nil))))) (simA_cons (sim_NS (sim_lst (simA_cons (sim_NS sim_int) (simA_cons (sim_NS sim_int) (simA_cons (sim_NS sim_int) simA_nil))))) (simA_cons (sim_NS (sim_lst simA_nil)) simA_nil))))))))))
      (simS_ret okN (sim_call okN (simA_cons (sim_NS (sim_lc (vs := [5]) (simI_seq (lp := false) (sim_SW (sim_var rfl))) (simG_name (i := 5)) simT_yes (sim_call okS (simA_cons (sim_NS sim_int) (simA_cons (sim_var rfl) (simA_cons (sim_NS sim_non) simA_nil)))))) (simA_cons (sim_NS (sim_lc (vs := [5]) (simI_seq (lp := false) (sim_SW (sim_var rfl))) (simG_name (i := 5)) simT_yes (sim_NS (sim_call okN (simA_cons (sim_var rfl) simA_nil))))) simA_nil)))))))⟩
end
section
variable [TabC]
local macro_rules | `(tactic| walk_at "wz") => `(tactic| ((try dsimp only); try simp only [wTry, wCount, wCountP, wRaise0, wDct, wMulX, wRepT, wInit, wFldS, wNoE, wStatX, wLstD, wRetEx, wSetE, wMutD, wPE, wVarD, wEqE, wTryC, noEX, wCallX, wMethX, wRaise, wIsX, wExF, wDefX, wDef, wSeq, wCut, wSet, wSetO, wPar, wPar3, wTupO, wAsg, wAug, wAugS, wSub, wSubN, wMut, wDrop, wRet, wIfS, wFor, wVar, wC, wOp, wUn, wNeg, wII, wI0, wIB, wAdd, wMul, wIsN, wIx, wTest, wTand, wTor, wTnot, wTyes, wAndV, wOrV, wNotV, wIf, wChain, wChain3, wNil, wCons, wLst, wTup, wNL, wScal, wSl, wNoPart, wPart, wSl1, wRev, wRevT, wFld, wFldC, wCB, wLen, wListOf, wTupOf, wAbs, wInt1, wMin2, wMax2, wStrI, wCall, wCallL, wMeth, wProp, wStat, wOwn, wOwnNe, wOwnI, wOwnR, wIxO, wLenO, wEq, wNe, wInT, wIsB, wIsnB, wLstRg, wMakeK, wMakeKg, wDict3, wSeqI, wEnum, wZip, wRng1, wRng2, wgName, wgSub, wgNil, wgCons, wgTup, wgLst, wListZip, wAppend, wExtend, wInsert, wClear, wLc, wLc2, wIsi, wIsiT, isL, tyP, notL, scalP, and_true, true_and, if_true, Bool.true_eq_false, Bool.false_eq_true, if_false, reduceIte, reduceCtorEq, false_implies, implies_true, List.set, List.replicate, List.cons_append, List.nil_append, List.append_nil, List.getD_cons_zero, List.getD_cons_succ, List.length_cons, List.length_nil, List.length_map, Nat.reduceAdd, Nat.reduceLeDiff, Bool.and_self, Bool.not_true, Bool.not_false, Bool.not_not, decide_true, decide_false, SimP.isLs, putR, rep1, List.set_cons_zero, List.set_cons_succ, at0, at1, at2, at3, at4, Option.some.injEq, exists_eq_left', stP]))
local macro_rules | `(tactic| walk_at "s1") => `(tactic| first | omega | exact fun _ => ⟨_, rfl⟩ | exact ⟨_, rfl⟩ | exact trivial | (intro q; exact nomatch q) | decide | (refine ⟨?_, ?_⟩ <;> first | omega | exact fun _ => ⟨_, rfl⟩ | exact ⟨_, rfl⟩ | (intro q; exact nomatch q)) | (refine ⟨?_, ?_, ?_⟩ <;> first | omega | exact fun _ => ⟨_, rfl⟩ | exact ⟨_, rfl⟩ | (intro q; exact nomatch q)) | (simp only [List.length_map, List.length_range, List.length_append, List.length_singleton, List.length_take, List.length_drop, List.nil_append]; omega))
local macro_rules | `(tactic| walk_at "sd") => `(tactic| repeat ((with_reducible refine And.intro ?_ ?_); · walk_at "s1"))
theorem p__law_is_whole {P : PV → Prop} {i : Int} (p : P (.bl true)) : w__law_is_whole [.int i] P := by
  unfold w__law_is_whole t__law_is_whole
  walk_at "wz"
  refine ⟨"int", true, rfl, by decide +kernel, ?_⟩
  walk_at "wz"
  exact ⟨"int", false, rfl, by decide +kernel, p⟩
theorem p__law_one {P : PV → Prop} {xs : List PV} (h0 : 0 < xs.length) (h1 : xs.length < 1073741824) (p : ∀ x ∈ xs, P x) : w__law_one [.bag, .lst xs] P := by
  unfold w__law_one t__law_one
  walk_at "wz"
  refine tk (by omega) (by omega) fun u u0 u1 => ⟨_, at_any u0 (by omega), p _ ?_⟩
  rw [List.getD_eq_getElem?_getD, List.getElem?_eq_getElem (by omega)]
  exact List.getElem_mem _
theorem ten_odd : ∀ k : Fin 41, ((match PySem.intText? (Str.ofString "1" ++ Txt.mul (Str.ofString "0") (k.1 : Int)) with
  | some n => decide (n.natAbs < 10 ^ 61)
  | none => false) && decide ((Str.ofString "1" ++ Txt.mul (Str.ofString "0") (k.1 : Int)).length ≤ 640)) = true := by decide +kernel
theorem ten_get {u : Int} (u0 : 0 ≤ u) (u1 : u < 41) : ∃ n : Int, PySem.intText? (Str.ofString "1" ++ Txt.mul (Str.ofString "0") u) = some n ∧ (Str.ofString "1" ++ Txt.mul (Str.ofString "0") u).length ≤ 640 ∧ n.natAbs < 10 ^ 61 := by
  obtain ⟨k, rfl⟩ : ∃ k : Nat, u = (k : Int) := ⟨u.toNat, by omega⟩
  have h := ten_odd ⟨k, by omega⟩
  obtain ⟨h1, h2⟩ := Bool.and_eq_true_iff.mp h
  split at h1
  · next n e => exact ⟨n, e, of_decide_eq_true h2, of_decide_eq_true h1⟩
  · cases h1
def Odd (x : PV) : Prop := PvG x 40000 58 ∧ ∀ i, x = .int i → i.natAbs < 10 ^ 61
theorem odd_o {x : PV} {w k : Nat} (h : PvG x w k) (n : ∀ i, x ≠ .int i) (hw : w ≤ 40000 := by decide) (hk : k ≤ 58 := by decide) : Odd x := ⟨h.mono hw hk, fun i e => absurd e (n i)⟩
theorem odd_n {i : Int} (h : i.natAbs < 10 ^ 61) : Odd (.int i) := ⟨(pg_int (Nat.lt_trans h (by decide))).mono (by decide) (by decide), fun j e => by cases e; exact h⟩
theorem sml_lit (s : String) {n : Nat} (h : (Str.ofString s).length ≤ n := by decide) : Sml (Str.ofString s) n := ⟨h, sml_of s⟩
theorem odd_str (s : String) (h : (Str.ofString s).length ≤ 1000 := by decide) : PvG (.str (Str.ofString s)) 1000 0 := pg_str (sml_lit s h)
theorem pg_lst1 {x : PV} {w k : Nat} (h : PvG x w k) : PvG (.lst [x]) (w + 1) (k + 1) := (pg_lst (n := 1) (fun y hy => by rw [List.mem_singleton.mp hy]; exact h) (Nat.le_refl _)).mono (by omega) (Nat.le_refl _)
theorem all_nil {p : PV → Prop} : ∀ x ∈ ([] : List PV), p x := fun _ h => nomatch h
theorem all_cons {p : PV → Prop} {x : PV} {xs : List PV} (h : p x) (t : ∀ y ∈ xs, p y) : ∀ y ∈ x :: xs, p y := fun y hy => by
  rcases List.mem_cons.mp hy with rfl | hy
  · exact h
  · exact t y hy
theorem all_app {p : PV → Prop} {xs ys : List PV} (h : ∀ y ∈ xs, p y) (t : ∀ y ∈ ys, p y) : ∀ y ∈ xs ++ ys, p y := fun y hy => (List.mem_append.mp hy).elim (h y) (t y)
def OddE (we : WE) (ρ : List PV) : Prop := ∀ K : PV → Prop, (∀ x, Odd x → K x) → we ρ K
def OddA (n : Nat) (wa : WA) (ρ : List PV) : Prop := ∀ K : List PV → Prop, (∀ xs, xs.length = n → (∀ x ∈ xs, Odd x) → K xs) → wa ρ K
theorem oa_nil {ρ : List PV} : OddA 0 wNil ρ := fun K h => h [] rfl all_nil
theorem oa_cons {ρ : List PV} {n : Nat} {we : WE} {wa : WA} (h : OddE we ρ) (t : OddA n wa ρ) : OddA (n + 1) (wCons we wa) ρ := fun K k => h _ fun x hx => t _ fun xs hl ha => k (x :: xs) (by rw [List.length_cons, hl]) (all_cons hx ha)
theorem oe_c {ρ : List PV} {x : PV} (h : Odd x) : OddE (wC x) ρ := fun K k => k x h
theorem oe_int {ρ : List PV} {i : Int} (h : i.natAbs < 1000 := by decide) : OddE (wC (.int i)) ρ := oe_c (odd_n (Nat.lt_trans h (by decide)))
theorem oe_str {ρ : List PV} (s : String) (h : (Str.ofString s).length ≤ 1000 := by decide) : OddE (wC (.str (Str.ofString s))) ρ := oe_c (odd_o (odd_str s h) (fun _ e => nomatch e))
theorem oe_bl {ρ : List PV} {b : Bool} : OddE (wC (.bl b)) ρ := oe_c (odd_o pg_bl (fun _ e => nomatch e))
theorem oe_non {ρ : List PV} : OddE (wC .non) ρ := oe_c (odd_o pg_non (fun _ e => nomatch e))
theorem oe_dct {ρ : List PV} {kvs : List (Key × Int)} (h : ∀ a, Odd (.dct a kvs)) : OddE (wDct kvs) ρ := fun K k a => k _ (h a)
def Tiny (x : PV) : Prop := PvG x 1100 2
def TinE (we : WE) (ρ : List PV) : Prop := ∀ K : PV → Prop, (∀ x, Tiny x → K x) → we ρ K
def TinA (n : Nat) (wa : WA) (ρ : List PV) : Prop := ∀ K : List PV → Prop, (∀ xs, xs.length = n → (∀ x ∈ xs, Tiny x) → K xs) → wa ρ K
theorem ta_nil {ρ : List PV} : TinA 0 wNil ρ := fun K h => h [] rfl all_nil
theorem ta_cons {ρ : List PV} {n : Nat} {we : WE} {wa : WA} (h : TinE we ρ) (t : TinA n wa ρ) : TinA (n + 1) (wCons we wa) ρ := fun K k => h _ fun x hx => t _ fun xs hl ha => k (x :: xs) (by rw [List.length_cons, hl]) (all_cons hx ha)
theorem te_c {ρ : List PV} {x : PV} (h : Tiny x) : TinE (wC x) ρ := fun K k => k x h
theorem te_int {ρ : List PV} {i : Int} (h : i.natAbs < 1000 := by decide) : TinE (wC (.int i)) ρ := te_c ((pg_small h).mono (by decide) (by decide))
theorem te_str {ρ : List PV} (s : String) (h : (Str.ofString s).length ≤ 1000 := by decide) : TinE (wC (.str (Str.ofString s))) ρ := te_c ((odd_str s h).mono (by decide) (by decide))
theorem te_bl {ρ : List PV} {b : Bool} : TinE (wC (.bl b)) ρ := te_c (pg_bl.mono (by decide) (by decide))
theorem te_non {ρ : List PV} : TinE (wC .non) ρ := te_c (pg_non.mono (by decide) (by decide))
theorem te_neg {ρ : List PV} {i : Int} (h : i.natAbs < 1000 := by decide) : TinE (wUn wNeg (wC (.int i))) ρ := fun K k => k (.int (-i)) ((pg_small (by omega)).mono (by decide) (by decide))
theorem oe_neg {ρ : List PV} {i : Int} (h : i.natAbs < 1000 := by decide) : OddE (wUn wNeg (wC (.int i))) ρ := fun K k => k (.int (-i)) (odd_n (Nat.lt_trans (show (-i).natAbs < 1000 by omega) (by decide)))
theorem tiny_in {xs : List PV} (h : ∀ x ∈ xs, Tiny x) {n : Nat} (hl : xs.length = n) (hn : n ≤ 4) : Odd (.lst xs) ∧ Odd (.tup xs) := by
  have hw : xs.length ≤ 4 := by omega
  exact ⟨odd_o (pg_lst h hw) (fun _ e => nomatch e), odd_o (pg_tup h hw) (fun _ e => nomatch e)⟩
theorem oe_lst {ρ : List PV} {n : Nat} {wa : WA} (h : TinA n wa ρ) (hn : n ≤ 4 := by decide) : OddE (wLst wa) ρ := fun K k => h _ fun xs hl ha => ⟨by omega, k _ (tiny_in ha hl hn).1⟩
theorem oe_tup {ρ : List PV} {n : Nat} {wa : WA} (h : TinA n wa ρ) (hn : n ≤ 4 := by decide) : OddE (wTup wa) ρ := fun K k => h _ fun xs hl ha => ⟨by omega, k _ (tiny_in ha hl hn).2⟩
theorem te_lst1 {ρ : List PV} {we : WE} (x : PV) (h : PvG x 1000 0) (e : ∀ K : PV → Prop, K x → we ρ K) : TinE (wLst (wCons we wNil)) ρ := fun K k => e _ ⟨by simp, k _ ((pg_lst1 h).mono (by decide) (by decide))⟩
theorem te_tup2 {ρ : List PV} {s : String} {i : Int} (hs : (Str.ofString s).length ≤ 500 := by decide) (h : i.natAbs < 1000 := by decide) : TinE (wTup (wCons (wC (.str (Str.ofString s))) (wCons (wC (.int i)) wNil))) ρ := fun K k => ⟨by simp, k _ ((pg_tup (w := 500) (k := 0) (n := 2) (all_cons (pg_str (sml_lit s hs)) (all_cons ((pg_small h).mono (by decide) (by decide)) all_nil)) (by simp)).mono (by decide) (by decide))⟩
theorem oe_rep {ρ : List PV} {i m : Int} (h : i.natAbs < 2) (m0 : 0 ≤ m) (hm : m ≤ 3000) : OddE (wOp wMul (wLst (wCons (wC (.int i)) wNil)) (wC (.int m))) ρ := fun K k => ⟨by simp, by
  show _ ≤ _ ∧ _ < _ ∧ _ ∧ _
  refine ⟨by omega, by omega, by simp only [List.length_singleton]; omega, k _ ?_⟩
  refine odd_o (pg_lst (w := 11) (k := 0) (n := 3000) (fun x hx => ?_) ?_) (fun _ e => nomatch e)
  · simp only [List.mem_flatten, List.mem_replicate] at hx
    obtain ⟨l, ⟨_, rfl⟩, hx⟩ := hx
    rw [List.mem_singleton.mp hx]
    exact pg_small (by omega)
  · rw [List.length_flatten, List.map_replicate, List.sum_replicate_nat]
    simp only [List.length_singleton]
    omega⟩
local macro_rules | `(tactic| walk_at "te") => `(tactic| first | exact te_int | exact te_bl | exact te_non | exact te_str _ | exact te_neg | exact te_tup2 | exact te_lst1 _ (pg_small (by decide) |>.mono (by decide) (by decide)) (fun _ k => k) | exact te_lst1 _ (odd_str _ |>.mono (by decide) (by decide)) (fun _ k => k))
local macro_rules | `(tactic| walk_at "oe") => `(tactic| first | exact oe_int | exact oe_bl | exact oe_non | exact oe_str _ | exact oe_neg | exact oe_dct (fun _ => ⟨pg_dct, fun _ e => nomatch e⟩) | exact oe_lst (n := 0) ta_nil | exact oe_tup (n := 0) ta_nil | (refine oe_lst (n := 1) (ta_cons ?_ ta_nil); all_goals (walk_at "te")) | (refine oe_tup (n := 1) (ta_cons ?_ ta_nil); all_goals (walk_at "te")) | (refine oe_lst (n := 2) (ta_cons ?_ (ta_cons ?_ ta_nil)); all_goals (walk_at "te")) | (refine oe_tup (n := 2) (ta_cons ?_ (ta_cons ?_ ta_nil)); all_goals (walk_at "te")) | (refine oe_lst (n := 3) (ta_cons ?_ (ta_cons ?_ (ta_cons ?_ ta_nil))); all_goals (walk_at "te")) | (refine oe_tup (n := 3) (ta_cons ?_ (ta_cons ?_ (ta_cons ?_ ta_nil))); all_goals (walk_at "te")) | exact oe_rep (by decide) (by decide) (by decide))
theorem seq_odd {i n : Nat} {wa : WA} {w : WS} {D : WEnds} {ρ : List PV} (h : OddA n wa ρ) (hn : n ≤ 100) (k : ∀ xs, xs.length = n → (∀ x ∈ xs, Odd x) → w D (ρ.set i (.lst xs))) : wSeq (wSet i (wLst wa)) w D ρ := h _ fun xs hl ha => ⟨by omega, k xs hl ha⟩
theorem seq_oddA {i n m : Nat} {wa : WA} {w : WS} {D : WEnds} {ρ : List PV} {ys : List PV} (e : ρ.getD i .non = .lst ys) (hy : ys.length ≤ m) (ho : ∀ y ∈ ys, Odd y) (h : OddA n wa ρ) (hn : n ≤ 100) (hm : m ≤ 300) (k : ∀ xs, xs.length ≤ m + n → (∀ x ∈ xs, Odd x) → w D (ρ.set i (.lst xs))) : wSeq (wSet i (wOp wAdd (wVar i) (wLst wa))) w D ρ := by
  show (fun y => _) (ρ.getD i .non)
  refine h _ fun xs hl ha => ⟨by omega, ?_⟩
  rw [e]
  exact ⟨by omega, k (ys ++ xs) (by rw [List.length_append]; omega) (all_app ho ha)⟩
theorem ret_odd {n m : Nat} {wa : WA} {D : WEnds} {ρ : List PV} {ys : List PV} (e0 : ρ.getD 0 .non = .bag) (e : ρ.getD 4 .non = .lst ys) (hy : ys.length ≤ m) (ho : ∀ y ∈ ys, Odd y) (h : OddA n wa ρ) (hn : 0 < n ∧ n ≤ 100) (hm : m ≤ 300) (k : ∀ xs, 0 < xs.length → xs.length ≤ m + n → (∀ x ∈ xs, Odd x) → w__law_one [.bag, .lst xs] D.rt) :
    wRet (wCall w__law_one (wCons (wVar 0) (wCons (wOp wAdd (wVar 4) (wLst wa)) wNil))) D ρ := by
  simp only [wRet, wCall, wCons, wOp, wVar, wNil, wLst, e0, e]
  exact h _ fun xs hl ha => ⟨by omega, by omega, k (ys ++ xs) (by rw [List.length_append]; omega) (by rw [List.length_append]; omega) (all_app ho ha)⟩
theorem p__law_odd {P : PV → Prop} (p : ∀ x, Odd x → P x) : w__law_odd [.bag] P := by
  unfold w__law_odd t__law_odd
  walk_at "wz"
  refine tk (by omega) (by omega) fun u u0 u1 => ?_
  obtain ⟨n, h1, h2, h3⟩ := ten_get u0 u1
  refine ⟨_, _, rfl, rfl, u0, by omega, by decide, ?_, n, h1, h2, ?_⟩
  · have e : (Str.ofString "1" ++ Txt.mul (Str.ofString "0") u).length = (Str.ofString "1").length + (Txt.mul (Str.ofString "0") u).length := strLen_append _ _
    omega
  refine tk (by omega) (by omega) fun v v0 v1 => ?_
  walk_at "wz"
  refine ⟨by omega, by omega, ?_⟩
  have ev : v = ((v.toNat : Nat) : Int) := by omega
  rw [ev]
  refine forr (fun i ρ => ∃ x u3, ρ = [.bag, .int n, x, u3, .non] ∧ (∀ j, x ≠ .int j) ∧ PvG x (20 + i) (1 + i)) ⟨_, _, rfl, (fun _ e => nomatch e), (pg_lst1 (pg_small (i := 0) (by decide))).mono (by decide) (by decide)⟩ (fun i ρ N hi hI hN => ?_) (fun ρ hI => ?_)
  · obtain ⟨x, u3, rfl, _, hx⟩ := hI
    walk_at "wz"
    exact hN _ ⟨_, _, rfl, (fun _ e => nomatch e), (pg_lst1 hx).mono (by omega) (by omega)⟩
  obtain ⟨dp, u3, rfl, ndp, hdp⟩ := hI
  have hdp : Odd dp := ⟨hdp.mono (by omega) (by omega), fun i e => absurd e (ndp i)⟩
  have hN : Odd (.int n) := odd_n h3
  have hM : Odd (.int (0 - n)) := odd_n (by omega)
  dsimp only
  refine seq_odd (n := 18) ?_ (by decide) fun xs xl xo => ?_
  · repeat (first | exact oa_nil | (refine oa_cons ?_ ?_; · walk_at "oe") | (refine oa_cons (fun K k => k _ hN) ?_) | (refine oa_cons (fun K k => k _ hM) ?_))
  refine seq_oddA (n := 14) (m := 18) rfl (by omega) xo ?_ (by decide) (by decide) fun xs xl xo => ?_
  · repeat (first | exact oa_nil | (refine oa_cons ?_ ?_; · walk_at "oe"))
  refine seq_oddA (n := 9) (m := 32) rfl (by omega) xo ?_ (by decide) (by decide) fun xs xl xo => ?_
  · repeat (first | exact oa_nil | (refine oa_cons ?_ ?_; · walk_at "oe"))
  refine seq_oddA (n := 6) (m := 41) rfl (by omega) xo ?_ (by decide) (by decide) fun xs xl xo => ?_
  · repeat (first | exact oa_nil | (refine oa_cons ?_ ?_; · walk_at "oe"))
  refine seq_oddA (n := 2) (m := 47) rfl (by omega) xo ?_ (by decide) (by decide) fun xs xl xo => ?_
  · repeat (first | exact oa_nil | (refine oa_cons ?_ ?_; · walk_at "oe"))
  refine ret_odd (n := 8) (m := 49) rfl rfl (by omega) xo ?_ (by decide) (by decide) fun zs z0 z1 zo => p__law_one z0 (by omega) fun x hx => p x (zo x hx)
  repeat (first | exact oa_nil | (refine oa_cons ?_ ?_; · walk_at "oe") | (refine oa_cons (fun K k => k _ hdp) ?_))
theorem p__law_alike_g {P : PV → Prop} {x : PV} {xs : List PV} {w k : Nat} (hx : x = .lst xs ∨ x = .tup xs) (h : ∀ y ∈ xs, PvG y w k) (hw : xs.length * (w + 1) ≤ 190000) (hk : k ≤ 59) (p : P (.bl true)) : w__law_alike [x, x] P := by
  unfold w__law_alike t__law_alike
  walk_at "wz"
  have hg : PvG x (xs.length * (w + 1)) (k + 1) := by
    rcases hx with rfl | rfl
    · exact pg_lst h (Nat.le_refl _)
    · exact pg_tup h (Nat.le_refl _)
  refine .inr (eqT_self hx h hk ?_)
  walk_at "wz"
  refine repr_G hg hw (by omega) ?_
  refine repr_G hg hw (by omega) ?_
  simpa using p
theorem p__law_is_whole_g {P : PV → Prop} {x : PV} (h : ∃ e, toG x = some e) (p : P (.bl (isW x))) : w__law_is_whole [x] P := by
  obtain ⟨e, h⟩ := h
  cases x with
  | int i => exact p__law_is_whole p
  | bl b =>
    unfold w__law_is_whole t__law_is_whole
    walk_at "wz"
    refine ⟨"bool", true, rfl, by decide +kernel, ?_⟩
    walk_at "wz"
    exact ⟨"bool", true, rfl, by decide +kernel, p⟩
  | non =>
    unfold w__law_is_whole t__law_is_whole
    walk_at "wz"
    refine ⟨"NoneType", false, rfl, by decide +kernel, ?_⟩
    walk_at "wz"
    exact p
  | str s =>
    unfold w__law_is_whole t__law_is_whole
    walk_at "wz"
    refine ⟨"str", false, rfl, by decide +kernel, ?_⟩
    walk_at "wz"
    exact p
  | lst s =>
    unfold w__law_is_whole t__law_is_whole
    walk_at "wz"
    refine ⟨"list", false, rfl, by decide +kernel, ?_⟩
    walk_at "wz"
    exact p
  | tup s =>
    unfold w__law_is_whole t__law_is_whole
    walk_at "wz"
    refine ⟨"tuple", false, rfl, by decide +kernel, ?_⟩
    walk_at "wz"
    exact p
  | dct a s =>
    unfold w__law_is_whole t__law_is_whole
    walk_at "wz"
    refine ⟨"dict", false, rfl, by decide +kernel, ?_⟩
    walk_at "wz"
    exact p
  | _ => simp only [toG, reduceCtorEq] at h
theorem p__law_is_hour_g {P : PV → Prop} {x : PV} {n : Int} (h : ∃ e, toG x = some e) (p : P (.bl (isH n x))) : w__law_is_hour [.int n, x] P := by
  unfold w__law_is_hour t__law_is_hour
  walk_at "wz"
  refine p__law_is_whole_g h ?_
  cases x with
  | int i =>
    walk_at "wz"
    have p : P (.bl (decide (0 ≤ i) && decide (i < n))) := p
    refine r_ite (fun h => ?_) (fun h => ?_)
    · rw [decide_eq_true h] at p
      exact p
    · rw [decide_eq_false h] at p
      exact p
  | _ => walk_at "wz"; exact p
def LG (xs : List PV) (W k : Nat) : Prop := ∃ es, toGs xs = some es ∧ PyData.showableAll es = true ∧ PyData.leavesShortAll 64 es = true ∧ PyData.weightAll es ≤ W ∧ PyData.depthAll es ≤ k
theorem LG.nil {k : Nat} : LG [] 0 k := ⟨[], by simp only [toGs], rfl, rfl, Nat.zero_le _, Nat.zero_le _⟩
theorem LG.mono {xs : List PV} {W k W' k' : Nat} (h : LG xs W k) (hw : W ≤ W') (hk : k ≤ k') : LG xs W' k' := let ⟨es, a, b, c, d, e⟩ := h; ⟨es, a, b, c, Nat.le_trans d hw, Nat.le_trans e hk⟩
theorem LG.cons {x : PV} {xs : List PV} {W w k : Nat} (hx : PvG x w k) (h : LG xs W k) : LG (x :: xs) (W + (w + 1)) k := by
  obtain ⟨e, h1, h2, h3⟩ := hx
  obtain ⟨es, g1, g3, g4, g5, g6⟩ := h
  refine ⟨e :: es, by simp only [toGs, h1, g1], ?_, ?_, ?_, ?_⟩
  · simp only [PyData.showableAll, h2.sh, g3, Bool.and_self]
  · simp only [PyData.leavesShortAll, h2.ls, g4, Bool.and_self]
  · simp only [PyData.weightAll]
    have := h2.wt
    omega
  · simp only [PyData.depthAll]
    omega
theorem LG.lst {xs : List PV} {W k : Nat} (h : LG xs W k) : PvG (.lst xs) W (k + 1) := by
  obtain ⟨es, g1, g3, g4, g5, g6⟩ := h
  exact ⟨.list es, by simp only [toG, g1, Option.map_some], ⟨by simp only [PyData.showable]; exact g3, by simp only [PyData.leavesShort]; exact g4, by simp only [PyData.weight]; exact g5⟩, by simp only [PyData.depth]; omega⟩
theorem LG.take {k : Nat} : ∀ {xs : List PV} {W : Nat} (n : Nat), LG xs W k → LG (xs.take n) W k
  | [], _, n, h => by rw [List.take_nil]; exact h
  | x :: xs, W, 0, h => by rw [List.take_zero]; exact LG.nil.mono (Nat.zero_le _) (Nat.le_refl _)
  | x :: xs, W, n + 1, h => by
    obtain ⟨es, g1, g3, g4, g5, g6⟩ := h
    obtain ⟨a, b, h1, h2, rfl⟩ := toGs_cons g1
    simp only [PyData.showableAll, Bool.and_eq_true] at g3
    simp only [PyData.leavesShortAll, Bool.and_eq_true] at g4
    simp only [PyData.weightAll] at g5
    simp only [PyData.depthAll] at g6
    rw [List.take_succ_cons]
    have ih := LG.take (k := k) (W := PyData.weightAll b) n ⟨b, h2, g3.2, g4.2, Nat.le_refl _, by omega⟩
    exact (LG.cons (w := a.weight) ⟨a, h1, ⟨g3.1, g4.1, Nat.le_refl _⟩, by omega⟩ ih).mono (by omega) (Nat.le_refl _)
theorem try_gen {wb : (List PV → En → Fs → Prop) → WS} {wu : En → Fs → WS} {D : WEnds} {ρ : List PV} (h : ∀ EX : List PV → En → Fs → Prop, (∀ ρ' n fs, wu n fs { nx := D.nx, rt := D.rt } ρ' → EX ρ' n fs) → wb EX { nx := D.nx, rt := D.rt } ρ) : wTry wb wu D ρ := h _ fun _ _ _ h => h
theorem if_yes {k : Nat} {j : Int} {a b : WS} {D : WEnds} {ρ : List PV} (e : ρ.getD k .non = .int j) (h : a D ρ) : wIfS (wTest (wOp wEq (wVar k) (wC (.int j)))) a b D ρ := by
  simp only [wIfS, wTest, wOp, wVar, wC, e]
  show if decide (j = j) = true then a D ρ else b D ρ
  rw [if_pos (decide_eq_true rfl)]
  exact h
theorem if_no {k : Nat} {i j : Int} {a b : WS} {D : WEnds} {ρ : List PV} (e : ρ.getD k .non = .int i) (n : i ≠ j) (h : b D ρ) : wIfS (wTest (wOp wEq (wVar k) (wC (.int j)))) a b D ρ := by
  simp only [wIfS, wTest, wOp, wVar, wC, e]
  show if decide (i = j) = true then a D ρ else b D ρ
  rw [if_neg (by rw [decide_eq_false n]; exact Bool.false_ne_true)]
  exact h
theorem seq_ret {a r : WS} {D : WEnds} {ρ : List PV} (h : a { D with nx := fun ρ' => r D ρ' } ρ) : wSeq a r D ρ := h
theorem enum_set {xs : List PV} {h : Nat} {y : PV} : ((List.range xs.length).map fun (i : Nat) => if (i : Int) = (h : Int) then y else xs.getD i .non) = xs.set h y := by
  refine List.ext_getElem (by simp) fun i h1 h2 => ?_
  rw [List.length_map, List.length_range] at h1
  rw [List.getElem_map, List.getElem_range, List.getElem_set, List.getD_eq_getElem?_getD, List.getElem?_eq_getElem h1]
  by_cases e : h = i
  · rw [if_pos (by omega), if_pos e]
  · rw [if_neg (by omega), if_neg e]
    rfl
def Kn13 (x : PV) : Prop := (∃ e, toG x = some e) ∨ (∃ a fs, x = .idv a (.ins .Clock fs)) ∨ ∃ fs, x = .ins .Clock fs
def itemsP : PV → Option (List PV)
  | .lst xs => some xs
  | .tup xs => some xs
  | _ => none
theorem toGs_mem : ∀ {xs : List PV} {es : List PyData}, toGs xs = some es → ∀ x ∈ xs, ∃ e, toG x = some e
  | [], _, _, x, hx => nomatch hx
  | y :: ys, es, h, x, hx => by
    obtain ⟨a, b, h1, h2, rfl⟩ := toGs_cons h
    rcases List.mem_cons.mp hx with rfl | hx
    · exact ⟨a, h1⟩
    · exact toGs_mem h2 x hx
theorem items_g {x : PV} {xs : List PV} (h : ∃ e, toG x = some e) (hx : itemsP x = some xs) : ∀ y ∈ xs, ∃ e, toG y = some e := by
  obtain ⟨e, h⟩ := h
  cases x with
  | lst ys =>
    cases hx
    simp only [toG, Option.map_eq_some_iff] at h
    obtain ⟨es, h, _⟩ := h
    exact toGs_mem h
  | tup ys =>
    cases hx
    simp only [toG, Option.map_eq_some_iff] at h
    obtain ⟨es, h, _⟩ := h
    exact toGs_mem h
  | _ => cases hx
theorem p_is_integer_g {P : PV → Prop} {x : PV} (h : Kn13 x) (p : P (.bl (isW x))) : w_is_integer [x] P := by
  unfold w_is_integer t_is_integer
  rcases h with ⟨e, h⟩ | ⟨a, fs, rfl⟩ | ⟨fs, rfl⟩
  · cases x with
    | int i =>
      walk_at "wz"
      refine ⟨_, _, rfl, .inr ⟨"int", true, rfl, by decide +kernel, ?_⟩⟩
      walk_at "wz"
      exact ⟨_, _, rfl, .inr ⟨"int", false, rfl, by decide +kernel, p⟩⟩
    | bl b =>
      walk_at "wz"
      refine ⟨_, _, rfl, .inr ⟨"bool", true, rfl, by decide +kernel, ?_⟩⟩
      walk_at "wz"
      exact ⟨_, _, rfl, .inr ⟨"bool", true, rfl, by decide +kernel, p⟩⟩
    | non =>
      walk_at "wz"
      refine ⟨_, _, rfl, .inr ⟨"NoneType", false, rfl, by decide +kernel, ?_⟩⟩
      walk_at "wz"
      exact p
    | str s =>
      walk_at "wz"
      refine ⟨_, _, rfl, .inr ⟨"str", false, rfl, by decide +kernel, ?_⟩⟩
      walk_at "wz"
      exact p
    | lst s =>
      walk_at "wz"
      refine ⟨_, _, rfl, .inr ⟨"list", false, rfl, by decide +kernel, ?_⟩⟩
      walk_at "wz"
      exact p
    | tup s =>
      walk_at "wz"
      refine ⟨_, _, rfl, .inr ⟨"tuple", false, rfl, by decide +kernel, ?_⟩⟩
      walk_at "wz"
      exact p
    | dct a s =>
      walk_at "wz"
      refine ⟨_, _, rfl, .inr ⟨"dict", false, rfl, by decide +kernel, ?_⟩⟩
      walk_at "wz"
      exact p
    | _ => simp only [toG, reduceCtorEq] at h
  · walk_at "wz"
    refine ⟨_, _, rfl, .inl ⟨.Clock, rfl, by simp, ?_⟩⟩
    walk_at "wz"
    exact p
  · walk_at "wz"
    refine ⟨_, _, rfl, .inl ⟨.Clock, rfl, by simp, ?_⟩⟩
    walk_at "wz"
    exact p
theorem p_is_hour_g {P : PV → Prop} {x : PV} {n : Int} (h : Kn13 x) (p : P (.bl (isH n x))) : w_is_hour [.int n, x] P := by
  unfold w_is_hour t_is_hour
  walk_at "wz"
  refine p_is_integer_g h ?_
  cases x with
  | int i =>
    walk_at "wz"
    have p : P (.bl (decide (0 ≤ i) && decide (i < n))) := p
    refine r_ite (fun h => ?_) (fun h => ?_)
    · rw [decide_eq_true h] at p
      exact p
    · rw [decide_eq_false h] at p
      exact p
  | _ => walk_at "wz"; exact p
def isS (n : Nat) : PV → Bool
  | .int i => decide (1 ≤ i) && decide (i ≤ (n : Int))
  | _ => false
theorem isS_int {n : Nat} {x : PV} (h : isS n x = true) : ∃ i : Int, x = .int i ∧ 1 ≤ i ∧ i ≤ (n : Int) := by
  cases x with
  | int i =>
    unfold isS at h
    obtain ⟨a, b⟩ := Bool.and_eq_true_iff.mp h
    exact ⟨i, rfl, of_decide_eq_true a, of_decide_eq_true b⟩
  | _ => cases h
theorem all_iL {n : Nat} : ∀ {xs : List PV}, xs.all (isS n) = true → ∃ s : List Int, xs = iL s ∧ ∀ z ∈ s, 1 ≤ z ∧ z ≤ (n : Int)
  | [], _ => ⟨[], rfl, fun _ h => nomatch h⟩
  | x :: xs, h => by
    rw [List.all_cons, Bool.and_eq_true] at h
    obtain ⟨i, rfl, i1, i2⟩ := isS_int h.1
    obtain ⟨s, rfl, hs⟩ := all_iL h.2
    refine ⟨i :: s, rfl, fun z hz => ?_⟩
    rcases List.mem_cons.mp hz with rfl | hz
    · exact ⟨i1, i2⟩
    · exact hs z hz
theorem iL_all {n : Nat} {s : List Int} (h : ∀ z ∈ s, 1 ≤ z ∧ z ≤ (n : Int)) : (iL s).all (isS n) = true := by
  rw [List.all_eq_true]
  intro x hx
  obtain ⟨i, hi, rfl⟩ := List.mem_map.mp hx
  obtain ⟨a, b⟩ := h i hi
  show (decide (1 ≤ i) && decide (i ≤ (n : Int))) = true
  rw [decide_eq_true a, decide_eq_true b]
  rfl
def rsB (x : PV) : Bool := match itemsP x with
  | some xs => decide (1 ≤ xs.length) && decide (xs.length ≤ 48) && xs.all (isS xs.length)
  | none => false
theorem rsB_of {x : PV} {xs : List PV} (hx : itemsP x = some xs) : rsB x = (decide (1 ≤ xs.length) && decide (xs.length ≤ 48) && xs.all (isS xs.length)) := by
  unfold rsB
  rw [hx]
theorem iL_len {s : List Int} : (iL s).length = s.length := by unfold iL; rw [List.length_map]
theorem rsB_row {x : PV} (h : rsB x = true) : ∃ s, itemsP x = some (iL s) ∧ okStays s = true := by
  unfold rsB at h
  split at h
  · next xs hx =>
    obtain ⟨h1, h2⟩ := Bool.and_eq_true_iff.mp h
    obtain ⟨h3, h4⟩ := Bool.and_eq_true_iff.mp h1
    obtain ⟨s, rfl, hs⟩ := all_iL h2
    rw [iL_len] at h3 h4 hs
    exact ⟨s, hx, okStays_iff.mpr ⟨of_decide_eq_true h3, of_decide_eq_true h4, hs⟩⟩
  · cases h
theorem rsB_ok {x : PV} {s : List Int} (hx : itemsP x = some (iL s)) (h : okStays s = true) : rsB x = true := by
  obtain ⟨h1, h2, h3⟩ := okStays_iff.mp h
  rw [rsB_of hx, iL_len, decide_eq_true h1, decide_eq_true h2, iL_all h3]
  rfl
theorem row_if {n : Int} {A B : Prop} (a : ¬ (1 ≤ n ∧ n ≤ 48) → A) (b : (1 ≤ n ∧ n ≤ 48) → B) : (if decide (1 ≤ n) = true then (if (!decide (n ≤ 48)) = true then A else B) else A) := by
  split
  · next h1 =>
    have h1 := of_decide_eq_true h1
    split
    · next h2 =>
      refine a fun z => ?_
      rw [decide_eq_true z.2] at h2
      cases h2
    · next h2 =>
      refine b ⟨h1, ?_⟩
      by_cases h : n ≤ 48
      · exact h
      · rw [decide_eq_false h] at h2
        exact absurd rfl h2
  · next h1 => exact a fun z => h1 (decide_eq_true z.1)
theorem if_row {A B : WS} {D : WEnds} {ρ : List PV} {x : PV} (e : ρ.getD 0 .non = x) (h : Kn13 x) (hs : ∀ xs, itemsP x = some xs → xs.length ≤ 100000) (a : rsB x = false → A D ρ)
    (b : ∀ xs, itemsP x = some xs → 1 ≤ xs.length → xs.length ≤ 48 → B D ρ) :
    wIfS (wTor (wTnot (wTest (wIsiTG [(.Clock, "int"), (.Clock, "list"), (.Clock, "tuple")] (wVar 0) "list" "tuple"))) (wTnot (wTest (wChain (wIB fun i j => decide (i ≤ j)) (wIB fun i j => decide (i ≤ j)) (wC (.int 1)) (wCB wLen (wCons (wVar 0) wNil)) (wC (.int 48)))))) A B D ρ := by
  have go : ∀ xs, itemsP x = some xs → (if decide (1 ≤ (xs.length : Int)) = true then (if (!decide ((xs.length : Int) ≤ 48)) = true then A D ρ else B D ρ) else A D ρ) := fun xs hx => by
    refine row_if (fun z => a ?_) (fun z => b xs hx (by omega) (by omega))
    rw [rsB_of hx]
    have e : (decide (1 ≤ xs.length) && decide (xs.length ≤ 48)) = false := by
      rw [Bool.and_eq_false_iff, decide_eq_false_iff_not, decide_eq_false_iff_not]
      omega
    rw [e]
    rfl
  simp only [wIfS, wTor, wTnot, wTest, wIsiTG, wChain, wCB, wCons, wNil, wVar, wC, e]
  rcases h with ⟨e, h⟩ | ⟨c, fs, rfl⟩ | ⟨fs, rfl⟩
  · cases x with
    | lst ys =>
      have hl := hs ys rfl
      refine .inr ⟨"list", true, false, rfl, by decide +kernel, by decide +kernel, ?_⟩
      simp only [Bool.or_false, Bool.or_true, Bool.true_or, Bool.not_true, Bool.false_eq_true, if_false]
      exact go ys rfl
    | tup ys =>
      have hl := hs ys rfl
      refine .inr ⟨"tuple", false, true, rfl, by decide +kernel, by decide +kernel, ?_⟩
      simp only [Bool.or_false, Bool.or_true, Bool.true_or, Bool.not_true, Bool.false_eq_true, if_false]
      exact go ys rfl
    | non =>
      refine .inr ⟨"NoneType", false, false, rfl, by decide +kernel, by decide +kernel, ?_⟩
      simp only [Bool.or_false, Bool.not_false, if_true]
      exact a rfl
    | bl b =>
      refine .inr ⟨"bool", false, false, rfl, by decide +kernel, by decide +kernel, ?_⟩
      simp only [Bool.or_false, Bool.not_false, if_true]
      exact a rfl
    | int b =>
      refine .inr ⟨"int", false, false, rfl, by decide +kernel, by decide +kernel, ?_⟩
      simp only [Bool.or_false, Bool.not_false, if_true]
      exact a rfl
    | str b =>
      refine .inr ⟨"str", false, false, rfl, by decide +kernel, by decide +kernel, ?_⟩
      simp only [Bool.or_false, Bool.not_false, if_true]
      exact a rfl
    | dct b c =>
      refine .inr ⟨"dict", false, false, rfl, by decide +kernel, by decide +kernel, ?_⟩
      simp only [Bool.or_false, Bool.not_false, if_true]
      exact a rfl
    | _ => simp only [toG, reduceCtorEq] at h
  · refine .inl ⟨.Clock, rfl, by simp, by simp, ?_⟩
    simp only [Bool.not_false, if_true]
    exact a rfl
  · refine .inl ⟨.Clock, rfl, by simp, by simp, ?_⟩
    simp only [Bool.not_false, if_true]
    exact a rfl
def fov (s : List Int) : Option Nat := (List.range s.length).find? fun j => decide (1 + cyc s ((j : Int) + 1) < s.getD j 0)
theorem fov_none {s : List Int} (h : okStays s = true) (n : fov s = none) : Good s := good_of h fun j hj o => by
  have := List.find?_eq_none.mp n j (List.mem_range.mpr hj)
  unfold over at o
  exact this (decide_eq_true (by omega))
theorem good_fov {s : List Int} (g : Good s) : fov s = none := List.find?_eq_none.mpr fun j hj o => by
  have := good_not g j (List.mem_range.mp hj)
  unfold over at this
  have := of_decide_eq_true o
  omega
theorem fov_is {s : List Int} {i : Nat} (h : ∀ j < i, ¬ over s j) (o : over s i) (hi : i < s.length) : fov s = some i := by
  unfold fov
  rw [List.find?_range_eq_some]
  unfold over at h o
  refine ⟨decide_eq_true (by omega), List.mem_range.mpr hi, fun j hj => ?_⟩
  have := h j hj
  rw [decide_eq_false (by omega)]
  rfl
def unI : PV → Int
  | .int i => i
  | _ => 0
theorem unI_iL {s : List Int} : (iL s).map unI = s := by
  unfold iL
  rw [List.map_map]
  exact List.map_id'' (fun _ => rfl) s
def told13 (v : PV) : PV := .lst [.str "told", v]
def wrong13 (i : Int) : PV := .lst [.str "wrong", .int i]
def over13 (h : Nat) : PV := .lst [.str "over", .int (h : Int)]
def none13 (v : PV) : PV := .lst [.str "none", v]
def dueV (x : PV) : PV := if rsB x = true then (match itemsP x with
  | some xs => (match fov (xs.map unI) with
    | none => told13 (.lst xs)
    | some h => over13 h)
  | none => .non) else wrong13 0
theorem due_no {x : PV} (h : rsB x = false) : dueV x = wrong13 0 := by
  unfold dueV
  rw [h]
  rfl
theorem due_ok {x : PV} {s : List Int} (hx : itemsP x = some (iL s)) (h : okStays s = true) (f : fov s = none) : dueV x = told13 (.lst (iL s)) := by
  unfold dueV
  rw [if_pos (rsB_ok hx h), hx]
  dsimp only
  rw [unI_iL, f]
theorem due_over {x : PV} {s : List Int} {i : Nat} (hx : itemsP x = some (iL s)) (h : okStays s = true) (f : fov s = some i) : dueV x = over13 i := by
  unfold dueV
  rw [if_pos (rsB_ok hx h), hx]
  dsimp only
  rw [unI_iL, f]
theorem items_two {x : PV} {xs : List PV} (hx : itemsP x = some xs) : x = .lst xs ∨ x = .tup xs := by
  cases x <;> first | (cases hx; exact .inl rfl) | (cases hx; exact .inr rfl) | cases hx
theorem getD_iL {s : List Int} {i : Nat} (h : i < s.length) : (iL s).getD i .non = .int (s.getD i 0) := by
  unfold iL
  rw [List.getD_eq_getElem?_getD, List.getElem?_map, List.getElem?_eq_getElem h, List.getD_eq_getElem?_getD, List.getElem?_eq_getElem h]
  rfl
theorem next_at {s : List Int} {i : Nat} (h : i < s.length) : L2.atI (iL s) (((i : Int) + 1) % (s.length : Int)) = some (.int (cyc s ((i : Int) + 1))) := by
  obtain ⟨a, b⟩ := mod_bd (n := s.length) (by omega) ((i : Int) + 1)
  rw [at_iL a b]
  rfl
theorem need_for {EX : List PV → En → Fs → Prop} {D : WEnds} {x y z : PV} {s : List Int} (hx : itemsP x = some (iL s)) (hok : okStays s = true) (p : ∀ y z, fov s = none → D.nx [x, y, z]) (q : ∀ ρ h, fov s = some h → EX ρ .Overtaken [("hour", .int (h : Int))]) : t_need_order EX D [x, y, z] := by
  obtain ⟨h1, h2, h3⟩ := okStays_iff.mp hok
  unfold t_need_order
  have go : wForL (wgTup 2 (wgCons (wgName 1) (wgCons (wgName 2) wgNil))) (wIfS (wTest (wOp (wIB fun i j => decide (j < i)) (wVar 2) (wOp wAdd (wC (.int 1)) (wOp wIx (wVar 0) (wOp (wII (fun _ j => 0 < j) fun i j => i % j) (wOp wAdd (wVar 1) (wC (.int 1))) (wCB wLen (wCons (wVar 0) wNil))))))) (wRaise EX .Overtaken "hour" (wVar 1)) (fun D ρ => D.nx ρ)) D (enumP (iL s)) [x, y, z] := by
    unfold enumP
    rw [iL_len]
    refine forl (fun i ρ => (∀ j < i, ¬ over s j) ∧ ∃ y z, ρ = [x, y, z]) ⟨fun j hj => absurd hj (by omega), _, _, rfl⟩ (fun i k ρ N hy hI hN => ?_) (fun ρ hI => ?_)
    · obtain ⟨no, y, z, rfl⟩ := hI
      obtain ⟨hi, e⟩ := List.getElem?_eq_some_iff.mp hy
      rw [List.length_range] at hi
      rw [List.getElem_range] at e
      subst e
      rw [getD_iL hi]
      have ad := next_at hi
      have lo : 0 < (s.length : Int) := by omega
      rcases items_two hx with rfl | rfl
      · walk_at "wz"
        refine ⟨lo, _, ad, ?_⟩
        refine r_ite (fun c => q _ _ (fov_is no ?_ hi)) (fun c => hN _ ⟨fun j hj => ?_, _, _, rfl⟩)
        · unfold over
          omega
        · by_cases e : j = i
          · subst e
            unfold over
            omega
          · exact no j (by omega)
      · walk_at "wz"
        refine ⟨lo, _, ad, ?_⟩
        refine r_ite (fun c => q _ _ (fov_is no ?_ hi)) (fun c => hN _ ⟨fun j hj => ?_, _, _, rfl⟩)
        · unfold over
          omega
        · by_cases e : j = i
          · subst e
            unfold over
            omega
          · exact no j (by omega)
    · obtain ⟨no, y, z, rfl⟩ := hI
      rw [List.length_range] at no
      refine p _ _ (List.find?_eq_none.mpr fun j hj o => ?_)
      have := no j (List.mem_range.mp hj)
      unfold over at this
      have := of_decide_eq_true o
      omega
  rcases items_two hx with rfl | rfl <;> exact go
theorem p_need_order {P : PV → Prop} {EX : En → Fs → Prop} {x : PV} {s : List Int} (hx : itemsP x = some (iL s)) (hok : okStays s = true) (p : fov s = none → P .non) (q : ∀ h, fov s = some h → EX .Overtaken [("hour", .int (h : Int))]) : w_need_order [x] P EX := by
  unfold w_need_order
  exact ⟨rfl, need_for hx hok (fun _ _ f => p f) fun _ h f => q h f⟩
theorem lcv {wg : WG} {we : WE} {ρ xs : List PV} {P : List PV → Prop} (F : PV → PV) (h : ∀ y ∈ xs, ∀ (Kt : PV → Prop), Kt (F y) → wg y ρ fun ρ2 => we ρ2 Kt) (q : P (xs.map F)) : wLcL wg wTyes we ρ xs [] P := by
  have := lcm (P := P) (ys := xs) (g := id) (acc := []) F h (by rw [List.nil_append]; exact q)
  rw [List.map_id] at this
  exact this
theorem lcf {wg : WG} {wt : WT} {we : WE} {ρ xs : List PV} {P : List PV → Prop} (p : PV → Bool) (F : PV → PV)
    (h : ∀ y ∈ xs, ∀ (Kt : PV → Prop) (Kf : Prop), (p y = true → Kt (F y)) → (p y = false → Kf) → wg y ρ fun ρ2 => wt ρ2 fun b => if b = true then we ρ2 Kt else Kf) (q : P ((xs.filter p).map F)) : wLcL wg wt we ρ xs [] P := by
  have := lcl (P := P) (ys := xs) (g := id) (acc := []) p F h (by rw [List.nil_append]; exact q)
  rw [List.map_id] at this
  exact this
theorem isS_ev {n : Nat} {i : Int} {P : PV → Prop} (p : P (.bl (isS n (.int i)))) : if isW (PV.int i) = true then if decide (1 ≤ i) = true then P (.bl (decide (i ≤ (n : Int)))) else P (.bl false) else P (.bl false) := by
  have p : P (.bl (decide (1 ≤ i) && decide (i ≤ (n : Int)))) := p
  rw [if_pos (show isW (PV.int i) = true from rfl)]
  refine r_ite (fun h => ?_) (fun h => ?_)
  · rw [decide_eq_true h] at p
    exact p
  · rw [decide_eq_false h] at p
    exact p
theorem p_are_stays {P : PV → Prop} {x : PV} (h : Kn13 x) (hs : ∀ xs, itemsP x = some xs → xs.length ≤ 100000) (p : P (.bl (rsB x))) : w_are_stays [x] P := by
  unfold w_are_stays t_are_stays
  refine ⟨rfl, ?_⟩
  refine seq_two (fun ρ => (∃ xs, itemsP x = some xs ∧ 1 ≤ xs.length ∧ xs.length ≤ 48) ∧ ρ = [x, .non]) (fun N hN => ?_) (fun ρ hρ => ?_)
  · refine if_row (x := x) rfl h hs (fun e => ?_) (fun xs hx l1 l2 => hN _ ⟨⟨xs, hx, l1, l2⟩, rfl⟩)
    rw [e] at p
    exact p
  obtain ⟨⟨xs, hx, l1, l2⟩, rfl⟩ := hρ
  have hg : ∀ y ∈ xs, ∃ e, toG y = some e := by
    rcases h with h | ⟨a, fs, rfl⟩ | ⟨fs, rfl⟩
    · exact items_g h hx
    · cases hx
    · cases hx
  rw [rsB_of hx, decide_eq_true l1, decide_eq_true l2, Bool.and_self, Bool.true_and] at p
  rcases items_two hx with rfl | rfl
  · walk_at "wz"
    refine ⟨by omega, lcv (P := fun ys => wAll [.lst ys] P) (fun y => .bl (isS xs.length y)) (fun y hy Kt hk => ?_) (all_of p)⟩
    walk_at "wz"
    refine p_is_integer_g (.inl (hg y hy)) ?_
    cases y with
    | int i =>
      walk_at "wz"
      exact isS_ev hk
    | _ => walk_at "wz"; exact hk
  · walk_at "wz"
    refine ⟨by omega, lcv (P := fun ys => wAll [.lst ys] P) (fun y => .bl (isS xs.length y)) (fun y hy Kt hk => ?_) (all_of p)⟩
    walk_at "wz"
    refine p_is_integer_g (.inl (hg y hy)) ?_
    cases y with
    | int i =>
      walk_at "wz"
      exact isS_ev hk
    | _ => walk_at "wz"; exact hk
theorem fov_head {s : List Int} {P : PV → Prop} (p : P (match fov s with | none => .non | some h => .int (h : Int))) : ∀ {hs : List Nat}, hs = (List.range s.length).filter (fun (j : Nat) => decide (1 + cyc s ((j : Int) + 1) < s.getD j 0)) →
    (if (!(hs.map fun (j : Nat) => PV.int (j : Int)).isEmpty) = true then ∃ z, L2.atI (hs.map fun (j : Nat) => PV.int (j : Int)) 0 = some z ∧ (match z with | .lst xs => False | _ => True) ∧ P z else P .non) := fun {hs} e => by
  have f : fov s = hs.head? := by rw [e, List.head?_filter]; rfl
  rw [f] at p
  cases hs with
  | nil => exact p
  | cons h t => exact ⟨.int (h : Int), atI_nat (j := 0) rfl, trivial, p⟩
theorem p_first_over {P : PV → Prop} {x : PV} {s : List Int} (hx : itemsP x = some (iL s)) (hok : okStays s = true) (p : P (match fov s with | none => .non | some h => .int (h : Int))) : w__law_first_over [x] P := by
  obtain ⟨h1, h2, h3⟩ := okStays_iff.mp hok
  have ad : ∀ i : Nat, i < s.length → L2.atI (iL s) (i : Int) = some (.int (s.getD i 0)) := fun i hi => by
    rw [at_iL (by omega) (by omega), Int.toNat_natCast]
  unfold w__law_first_over t__law_first_over
  have lo : 0 < (s.length : Int) := by omega
  rcases items_two hx with rfl | rfl
  · walk_at "wz"
    rw [Int.toNat_natCast, rangeP0]
    refine ⟨by omega, by omega, by rw [List.length_map, List.length_range]; omega, lcl (P := fun ys => ∃ xs, PV.lst ys = PV.lst xs ∧ _) (fun j => decide (1 + cyc s ((j : Int) + 1) < s.getD j 0)) (fun j => PV.int (j : Int)) (fun j hj Kt Kf h1 h2 => ?_) ⟨_, rfl, ?_⟩⟩
    · have hj := List.mem_range.mp hj
      walk_at "wz"
      refine ⟨_, ad j hj, ?_⟩
      refine ⟨lo, _, next_at hj, ?_⟩
      refine r_itb (fun c => h1 c) (fun c => h2 c)
    · rw [List.nil_append]
      exact fov_head p rfl
  · walk_at "wz"
    rw [Int.toNat_natCast, rangeP0]
    refine ⟨by omega, by omega, by rw [List.length_map, List.length_range]; omega, lcl (P := fun ys => ∃ xs, PV.lst ys = PV.lst xs ∧ _) (fun j => decide (1 + cyc s ((j : Int) + 1) < s.getD j 0)) (fun j => PV.int (j : Int)) (fun j hj Kt Kf h1 h2 => ?_) ⟨_, rfl, ?_⟩⟩
    · have hj := List.mem_range.mp hj
      walk_at "wz"
      refine ⟨_, ad j hj, ?_⟩
      refine ⟨lo, _, next_at hj, ?_⟩
      refine r_itb (fun c => h1 c) (fun c => h2 c)
    · rw [List.nil_append]
      exact fov_head p rfl
theorem caught_wrong {v : PV} {D : WEnds} {ρ : List PV} (h : D.rt (.lst [.str "wrong", v])) : wRetHx 1 (t__law_caught .Wrong [("place", v)]) D ρ := by
  unfold wRetHx t__law_caught
  walk_at "wz"
  refine ⟨_, rfl, _, _, _, rfl, rfl, rfl, r_itn (fun z => absurd rfl z) fun _ => ?_⟩
  exact ⟨rfl, _, rfl, h⟩
theorem caught_over {v : PV} {D : WEnds} {ρ : List PV} (h : D.rt (.lst [.str "over", v])) : wRetHx 1 (t__law_caught .Overtaken [("hour", v)]) D ρ := by
  unfold wRetHx t__law_caught
  walk_at "wz"
  refine ⟨_, rfl, _, _, _, rfl, rfl, rfl, r_itn (fun z => absurd rfl z) fun _ => ?_⟩
  exact ⟨rfl, _, rfl, h⟩
theorem caught_none {v : PV} {D : WEnds} {ρ : List PV} (h : D.rt (.lst [.str "none", v])) : wRetHx 1 (t__law_caught .NoHour [("hour", v)]) D ρ := by
  unfold wRetHx t__law_caught
  walk_at "wz"
  refine ⟨_, rfl, _, _, _, rfl, rfl, rfl, r_itn (fun z => absurd rfl z) fun _ => ?_⟩
  exact ⟨rfl, _, rfl, h⟩
theorem notS_ev {n : Nat} {i : Int} {A B : Prop} (a : (!isS n (.int i)) = true → A) (b : (!isS n (.int i)) = false → B) : if (!isW (PV.int i)) = true then A else if decide (1 ≤ i) = true then (if (!decide (i ≤ (n : Int))) = true then A else B) else A := by
  have e : isS n (.int i) = (decide (1 ≤ i) && decide (i ≤ (n : Int))) := rfl
  rw [e] at a b
  rw [if_neg (show ¬ ((!isW (PV.int i)) = true) from fun z => nomatch z)]
  refine r_ite (fun h => ?_) (fun h => ?_)
  · rw [decide_eq_true h] at a b
    refine r_itn (fun h => ?_) (fun h => ?_)
    · rw [decide_eq_false h] at a
      exact a rfl
    · rw [decide_eq_true h] at b
      exact b rfl
  · rw [decide_eq_false h] at a
    exact a rfl
theorem no_items {n : Nat} {xs : List PV} {A B : Prop} (a : xs.all (isS n) = false → A) (b : xs.all (isS n) = true → B) : if (!(xs.filter fun y => !isS n y).isEmpty) = true then A else B := by
  cases e : xs.all (isS n) with
  | true =>
    have : xs.filter (fun y => !isS n y) = [] := List.filter_eq_nil_iff.mpr fun y hy => by
      rw [List.all_eq_true] at e
      rw [e y hy]
      exact fun z => nomatch z
    rw [this]
    exact b e
  | false =>
    rw [if_pos]
    · exact a e
    · cases q : xs.filter (fun y => !isS n y) with
      | cons y ys => rfl
      | nil =>
        have := List.filter_eq_nil_iff.mp q
        rw [List.all_eq_false] at e
        obtain ⟨y, hy, h⟩ := e
        have := this y hy
        cases z : isS n y with
        | true => exact absurd z h
        | false => rw [z] at this; exact absurd rfl this
theorem p__law_due {P : PV → Prop} {x : PV} (h : Kn13 x) (hs : ∀ xs, itemsP x = some xs → xs.length ≤ 100000) (p : P (dueV x)) : w__law_due [x] P := by
  unfold w__law_due t__law_due
  refine ⟨rfl, ?_⟩
  refine seq_two (fun ρ => (∃ xs, itemsP x = some xs ∧ 1 ≤ xs.length ∧ xs.length ≤ 48) ∧ ρ = [x, .non, .non]) (fun N hN => ?_) (fun ρ hρ => ?_)
  · refine if_row (x := x) rfl h hs (fun e => ?_) (fun xs hx l1 l2 => hN _ ⟨⟨xs, hx, l1, l2⟩, rfl⟩)
    rw [due_no e] at p
    walk_at "wz"
    exact p
  obtain ⟨⟨xs, hx, l1, l2⟩, rfl⟩ := hρ
  have hg : ∀ y ∈ xs, ∃ e, toG y = some e := by
    rcases h with h | ⟨a, fs, rfl⟩ | ⟨fs, rfl⟩
    · exact items_g h hx
    · cases hx
    · cases hx
  refine seq_two (fun ρ => (∃ s, itemsP x = some (iL s) ∧ okStays s = true) ∧ ρ = [x, .non, .non]) (fun N hN => ?_) (fun ρ hρ => ?_)
  · rcases items_two hx with rfl | rfl
    · walk_at "wz"
      refine ⟨by omega, lcf (P := fun ys => ∃ xs, PV.lst ys = PV.lst xs ∧ _) (fun y => !isS xs.length y) (fun y => y) (fun y hy Kt Kf k1 k2 => ?_) ⟨_, rfl, ?_⟩⟩
      · walk_at "wz"
        refine p__law_is_whole_g (hg y hy) ?_
        cases y with
        | int i => exact notS_ev k1 k2
        | _ => walk_at "wz"; exact k1 rfl
      · rw [List.map_id'' (fun _ => rfl)]
        exact no_items (fun e => by rw [due_no (by rw [rsB_of hx, e, Bool.and_false])] at p; exact p) (fun e => hN _ ⟨rsB_row (by rw [rsB_of hx, e, decide_eq_true l1, decide_eq_true l2]; rfl), rfl⟩)
    · walk_at "wz"
      refine ⟨by omega, lcf (P := fun ys => ∃ xs, PV.lst ys = PV.lst xs ∧ _) (fun y => !isS xs.length y) (fun y => y) (fun y hy Kt Kf k1 k2 => ?_) ⟨_, rfl, ?_⟩⟩
      · walk_at "wz"
        refine p__law_is_whole_g (hg y hy) ?_
        cases y with
        | int i => exact notS_ev k1 k2
        | _ => walk_at "wz"; exact k1 rfl
      · rw [List.map_id'' (fun _ => rfl)]
        exact no_items (fun e => by rw [due_no (by rw [rsB_of hx, e, Bool.and_false])] at p; exact p) (fun e => hN _ ⟨rsB_row (by rw [rsB_of hx, e, decide_eq_true l1, decide_eq_true l2]; rfl), rfl⟩)
  obtain ⟨⟨s, hx, hok⟩, rfl⟩ := hρ
  refine seq_two (fun ρ => ρ = [x, .non, match fov s with | none => .non | some h => .int (h : Int)]) (fun N hN => ?_) (fun ρ hρ => ?_)
  · walk_at "wz"
    exact p_first_over hx hok (hN _ rfl)
  subst hρ
  cases e : fov s with
  | none =>
    rw [due_ok hx hok e] at p
    rcases items_two hx with rfl | rfl
    · walk_at "wz"
      exact p
    · walk_at "wz"
      exact p
  | some k =>
    rw [due_over hx hok e] at p
    walk_at "wz"
    exact p
theorem p_width_of {P : PV → Prop} {x : PV} {s : List Int} {h : Nat} (hx : itemsP x = some (iL s)) (h1 : 1 ≤ s.length) (h2 : s.length ≤ 48) (p : P (.int (wd s (h : Int)))) : w_width_of [x, .int (h : Int)] P := by
  unfold w_width_of t_width_of
  have lo : 0 < (s.length : Int) := by omega
  have ad : ∀ b : Nat, L2.atI (iL s) (((h : Int) - (b : Int)) % (s.length : Int)) = some (.int (cyc s ((h : Int) - (b : Int)))) := fun b => by
    obtain ⟨a, c⟩ := mod_bd (n := s.length) (by omega) ((h : Int) - (b : Int))
    rw [at_iL a c]
    rfl
  rcases items_two hx with rfl | rfl
  · walk_at "wz"
    rw [Int.toNat_natCast, rangeP0]
    refine ⟨by omega, by omega, by rw [List.length_map, List.length_range]; omega, lcl (P := fun ys => P (.int (ys.length : Int))) (fun b => decide ((b : Int) < cyc s ((h : Int) - (b : Int)))) (fun b => PV.int (b : Int)) (fun b hb Kt Kf k1 k2 => ?_) ?_⟩
    · walk_at "wz"
      exact ⟨lo, _, ad b, r_itb k1 k2⟩
    · rw [List.nil_append, List.length_map]
      exact p
  · walk_at "wz"
    rw [Int.toNat_natCast, rangeP0]
    refine ⟨by omega, by omega, by rw [List.length_map, List.length_range]; omega, lcl (P := fun ys => P (.int (ys.length : Int))) (fun b => decide ((b : Int) < cyc s ((h : Int) - (b : Int)))) (fun b => PV.int (b : Int)) (fun b hb Kt Kf k1 k2 => ?_) ?_⟩
    · walk_at "wz"
      exact ⟨lo, _, ad b, r_itb k1 k2⟩
    · rw [List.nil_append, List.length_map]
      exact p
theorem noKs_all {ks : List Str} : ∀ {xs : List PV}, (∀ x ∈ xs, noK ks x = true) → noKs ks xs = true
  | [], _ => by simp only [noKs]
  | x :: xs, h => by simp only [noKs, h x List.mem_cons_self, noKs_all fun y hy => h y (List.mem_cons_of_mem _ hy), Bool.and_self]
theorem p_mkClock {P : PV → Prop} {EX : En → Fs → Prop} {x : PV} (h : Kn13 x) (hs : ∀ xs, itemsP x = some xs → xs.length ≤ 100000) (p : ∀ s, itemsP x = some (iL s) → okStays s = true → fov s = none → Good s → P (clkP s))
    (q : rsB x = false → EX .Wrong [("place", .int 0)]) (r : ∀ s k, itemsP x = some (iL s) → okStays s = true → fov s = some k → EX .Overtaken [("hour", .int (k : Int))]) : w_Clock___init__ [x] P EX := by
  unfold w_Clock___init__ wInit
  refine ⟨rfl, fun a => ?_⟩
  unfold t_Clock___init__
  refine seq_two (fun ρ => rsB x = true ∧ ρ = [.idv a (.ins .Clock []), x, .non]) (fun N hN => ?_) (fun ρ hρ => ?_)
  · walk_at "wz"
    refine p_are_stays h hs ?_
    cases e : rsB x with
    | false =>
      walk_at "wz"
      exact q e
    | true =>
      walk_at "wz"
      exact hN _ ⟨e, rfl⟩
  obtain ⟨e, rfl⟩ := hρ
  obtain ⟨s, hx, hok⟩ := rsB_row e
  obtain ⟨h1, h2, h3⟩ := okStays_iff.mp hok
  refine seq_two (fun ρ => fov s = none ∧ ρ = [.idv a (.ins .Clock []), x, .non]) (fun N hN => ?_) (fun ρ hρ => ?_)
  · walk_at "wz"
    exact p_need_order hx hok (fun f => hN _ ⟨f, rfl⟩) (fun k f => r s k hx hok f)
  obtain ⟨f, rfl⟩ := hρ
  have g := fov_none hok f
  rcases items_two hx with rfl | rfl
  · walk_at "wz"
    rw [Int.toNat_natCast, rangeP0]
    have n1 : ∀ {ks : List Str}, noKs ks (iL s) = true := noKs_all fun x hx => by
      obtain ⟨i, _, rfl⟩ := List.mem_map.mp hx
      simp only [noK]
    refine ⟨[], rfl, by decide, ?_, rfl, ?_, by omega, by omega, by rw [List.length_map, List.length_range]; omega, ?_⟩
    · show noK [] (.tup (iL s)) = true
      simp only [noK]
      exact n1
    · show noKs [] [.lst (iL s), .non] = true
      simp only [noKs, noK, n1, Bool.and_self]
    refine lcm (P := fun ys => ∃ fs_1, [PV.idv a (PV.ins Cn.Clock (Wx.putP (Str.ofString "kept_stays") (PV.tup (iL s)) [])), PV.lst (iL s), PV.non][0]? = some (PV.idv a (PV.ins Cn.Clock fs_1)) ∧ _) (fun b => .int (wd s (b : Int))) (fun b hb Kt hk => ?_) ?_
    · walk_at "wz"
      exact p_width_of rfl h1 h2 hk
    · rw [List.nil_append]
      refine ⟨_, rfl, (show (1 : Nat) < 1000 by decide), ?_, ?_, ?_, _, rfl, ?_⟩
      · show noK ["kept_stays"] (.tup _) = true
        simp only [noK]
        exact noKs_all fun x hx => by
          obtain ⟨i, _, rfl⟩ := List.mem_map.mp hx
          simp only [noK]
      · show noKf ["kept_stays"] [("kept_stays", .tup (iL s))] = true
        simp only [noKf, noK, n1, Bool.and_self]
      · show noKs ["kept_stays"] [.lst (iL s), .non] = true
        simp only [noKs, noK, n1, Bool.and_self]
      · have := p s rfl hok f g
        unfold clkP wds at this
        unfold iL at this ⊢
        rw [List.map_map] at this
        exact this
  · walk_at "wz"
    rw [Int.toNat_natCast, rangeP0]
    have n1 : ∀ {ks : List Str}, noKs ks (iL s) = true := noKs_all fun x hx => by
      obtain ⟨i, _, rfl⟩ := List.mem_map.mp hx
      simp only [noK]
    refine ⟨[], rfl, by decide, ?_, rfl, ?_, by omega, by omega, by rw [List.length_map, List.length_range]; omega, ?_⟩
    · show noK [] (.tup (iL s)) = true
      simp only [noK]
      exact n1
    · show noKs [] [.tup (iL s), .non] = true
      simp only [noKs, noK, n1, Bool.and_self]
    refine lcm (P := fun ys => ∃ fs_1, [PV.idv a (PV.ins Cn.Clock (Wx.putP (Str.ofString "kept_stays") (PV.tup (iL s)) [])), PV.tup (iL s), PV.non][0]? = some (PV.idv a (PV.ins Cn.Clock fs_1)) ∧ _) (fun b => .int (wd s (b : Int))) (fun b hb Kt hk => ?_) ?_
    · walk_at "wz"
      exact p_width_of rfl h1 h2 hk
    · rw [List.nil_append]
      refine ⟨_, rfl, (show (1 : Nat) < 1000 by decide), ?_, ?_, ?_, _, rfl, ?_⟩
      · show noK ["kept_stays"] (.tup _) = true
        simp only [noK]
        exact noKs_all fun x hx => by
          obtain ⟨i, _, rfl⟩ := List.mem_map.mp hx
          simp only [noK]
      · show noKf ["kept_stays"] [("kept_stays", .tup (iL s))] = true
        simp only [noKf, noK, n1, Bool.and_self]
      · show noKs ["kept_stays"] [.tup (iL s), .non] = true
        simp only [noKs, noK, n1, Bool.and_self]
      · have := p s rfl hok f g
        unfold clkP wds at this
        unfold iL at this ⊢
        rw [List.map_map] at this
        exact this
theorem isH_int {n : Int} {x : PV} (h : isH n x = true) : ∃ i : Int, x = .int i ∧ 0 ≤ i ∧ i < n := by
  cases x with
  | int i =>
    unfold isH at h
    obtain ⟨a, b⟩ := Bool.and_eq_true_iff.mp h
    exact ⟨i, rfl, of_decide_eq_true a, of_decide_eq_true b⟩
  | _ => cases h
theorem iL_inj {s t : List Int} (h : iL s = iL t) : s = t := by
  have := congrArg (List.map unI) h
  rwa [unI_iL, unI_iL] at this
theorem g_iL (s : List Int) : ∃ e, toG (.lst (iL s)) = some e := by
  have : ∀ s : List Int, ∃ es, toGs (iL s) = some es := fun s => by
    induction s with
    | nil => exact ⟨[], by unfold iL; simp only [List.map_nil, toGs]⟩
    | cons i s ih =>
      obtain ⟨es, h⟩ := ih
      exact ⟨.int i :: es, by
        show toGs (.int i :: iL s) = _
        simp only [toGs, toG, h]⟩
  obtain ⟨es, h⟩ := this s
  exact ⟨.list es, by simp only [toG, h, Option.map_some]⟩
theorem tried_0 {P : PV → Prop} {x : PV} (h : Kn13 x) (hs : ∀ xs, itemsP x = some xs → xs.length ≤ 100000) (p : P (dueV x)) : w__law_tried [.int 0, x, .non] P := by
  unfold w__law_tried t__law_tried
  refine ⟨rfl, try_gen fun EX hEX => ?_⟩
  refine seq_ret ?_
  refine if_yes rfl ?_
  walk_at "wz"
  refine p_mkClock h hs (fun s hx hok f g => ?_) (fun e => ?_) (fun s k hx hok f => ?_)
  · rw [due_ok hx hok f] at p
    exact ⟨⟨_, rfl, rfl⟩, _, rfl, g, p⟩
  · rw [due_no e] at p
    exact hEX _ _ _ (caught_wrong p)
  · rw [due_over hx hok f] at p
    exact hEX _ _ _ (caught_over p)
def evenV (x y : PV) : PV := if isS 48 x = true then (match x with
  | .int i => if isS i.toNat y = true then told13 (.lst (List.replicate i.toNat y)) else wrong13 1
  | _ => .non) else wrong13 0
theorem ev_no {x y : PV} (h : isS 48 x = false) : evenV x y = wrong13 0 := by
  unfold evenV
  rw [if_neg (by rw [h]; exact Bool.false_ne_true)]
theorem ev_wr {y : PV} {n : Nat} (e : isS 48 (.int (n : Int)) = true) (h : isS n y = false) : evenV (.int (n : Int)) y = wrong13 1 := by
  unfold evenV
  rw [if_pos e]
  dsimp only
  rw [Int.toNat_natCast, if_neg (by rw [h]; exact Bool.false_ne_true)]
theorem ev_ok {y : PV} {n : Nat} (e : isS 48 (.int (n : Int)) = true) (h : isS n y = true) : evenV (.int (n : Int)) y = told13 (.lst (List.replicate n y)) := by
  unfold evenV
  rw [if_pos e]
  dsimp only
  rw [Int.toNat_natCast, if_pos h]
theorem look_i {i m : Int} {n : Nat} {A B : Prop} (hm : m = (n : Int)) (a : isS n (.int i) = false → A) (b : isS n (.int i) = true → B) : if decide (1 ≤ i) = true then (if (!decide (i ≤ m)) = true then A else B) else A := by
  subst hm
  have e : isS n (.int i) = (decide (1 ≤ i) && decide (i ≤ (n : Int))) := rfl
  rw [e] at a b
  refine r_ite (fun h => ?_) (fun h => ?_)
  · rw [decide_eq_true h] at a b
    refine r_itn (fun h => ?_) (fun h => ?_)
    · rw [decide_eq_false h] at a
      exact a rfl
    · rw [decide_eq_true h] at b
      exact b rfl
  · rw [decide_eq_false h] at a
    exact a rfl
theorem look_j {i m : Int} {n : Nat} {A B : Prop} (hm : m = (n : Int)) (a : isS n (.int i) = false → A) (b : isS n (.int i) = true → B) : if decide (1 ≤ i) = true then (if decide (i ≤ m) = true then B else A) else A := by
  subst hm
  have e : isS n (.int i) = (decide (1 ≤ i) && decide (i ≤ (n : Int))) := rfl
  rw [e] at a b
  refine r_ite (fun h => r_ite (fun h2 => ?_) (fun h2 => ?_)) (fun h => ?_)
  · rw [decide_eq_true h, decide_eq_true h2] at b
    exact b rfl
  · rw [decide_eq_false h2, Bool.and_false] at a
    exact a rfl
  · rw [decide_eq_false h] at a
    exact a rfl
theorem p_even_due {P : PV → Prop} {x y : PV} (hx : ∃ e, toG x = some e) (hy : ∃ e, toG y = some e) (p : P (evenV x y)) : w__law_even_due [x, y] P := by
  unfold w__law_even_due t__law_even_due
  refine ⟨rfl, ?_⟩
  refine seq_two (fun ρ => isS 48 x = true ∧ ρ = [x, y]) (fun N hN => ?_) (fun ρ hρ => ?_)
  · have no : isS 48 x = false → P (wrong13 0) := fun e => by
      rw [ev_no e] at p
      exact p
    walk_at "wz"
    refine p__law_is_whole_g hx ?_
    cases x with
    | int i => exact look_i (n := 48) rfl no (fun e => hN _ ⟨e, rfl⟩)
    | _ => exact no rfl
  obtain ⟨e, rfl⟩ := hρ
  obtain ⟨i, rfl, i1, i2⟩ := isS_int e
  obtain ⟨n, rfl⟩ : ∃ n : Nat, i = (n : Int) := ⟨i.toNat, by omega⟩
  have no : isS n y = false → P (wrong13 1) := fun q => by
    rw [ev_wr e q] at p
    exact p
  walk_at "wz"
  refine p__law_is_whole_g hy ?_
  cases y with
  | int j =>
    refine look_j (n := n) rfl no (fun q => ?_)
    rw [ev_ok e q] at p
    refine ⟨by omega, by omega, by omega, ?_⟩
    exact p
  | _ => exact no rfl
theorem tried_1 {P : PV → Prop} {x y : PV} (hx : Kn13 x) (hy : Kn13 y) (p : P (evenV x y)) : w__law_tried [.int 1, x, y] P := by
  unfold w__law_tried t__law_tried
  refine ⟨rfl, try_gen fun EX hEX => ?_⟩
  refine seq_ret ?_
  refine if_no rfl (by decide) ?_
  dsimp only
  refine ⟨rfl, ?_⟩
  show w_Clock_even [x, y] _ _
  unfold w_Clock_even t_Clock_even
  refine ⟨rfl, ?_⟩
  refine seq_two (fun ρ => isS 48 x = true ∧ ρ = [x, y, .non]) (fun N hN => ?_) (fun ρ hρ => ?_)
  · have no : isS 48 x = false → P (wrong13 0) := fun e => by
      rw [ev_no e] at p
      exact p
    walk_at "wz"
    refine p_is_integer_g hx ?_
    cases x with
    | int i => exact look_i (n := 48) rfl (fun e => hEX _ _ _ (caught_wrong (no e))) (fun e => hN _ ⟨e, rfl⟩)
    | _ => exact hEX _ _ _ (caught_wrong (no rfl))
  obtain ⟨e, rfl⟩ := hρ
  obtain ⟨i, rfl, i1, i2⟩ := isS_int e
  obtain ⟨n, rfl⟩ : ∃ n : Nat, i = (n : Int) := ⟨i.toNat, by omega⟩
  refine seq_two (fun ρ => isS n y = true ∧ ρ = [.int (n : Int), y, .non]) (fun N hN => ?_) (fun ρ hρ => ?_)
  · have no : isS n y = false → P (wrong13 1) := fun q => by
      rw [ev_wr e q] at p
      exact p
    walk_at "wz"
    refine p_is_integer_g hy ?_
    cases y with
    | int j => exact look_i (n := n) rfl (fun e => hEX _ _ _ (caught_wrong (no e))) (fun e => hN _ ⟨e, rfl⟩)
    | _ => exact hEX _ _ _ (caught_wrong (no rfl))
  obtain ⟨q, rfl⟩ := hρ
  rw [ev_ok e q] at p
  obtain ⟨j, rfl, j1, j2⟩ := isS_int q
  walk_at "wz"
  rw [Int.toNat_natCast, rangeP0]
  refine ⟨by omega, by omega, by rw [List.length_map, List.length_range]; omega, ?_⟩
  refine lcm (P := fun ys => w_Clock___init__ [.lst ys] _ _) (fun _ => .int j) (fun b hb Kt hk => ?_) ?_
  · walk_at "wz"
    exact hk
  · have er : (List.range n).map (fun (_ : Nat) => PV.int j) = iL (List.replicate n j) := by
      unfold iL
      rw [List.map_replicate, List.map_const', List.length_range]
    have gr : Good (List.replicate n j) := Good.const (by omega) (by omega) j1 j2
    rw [List.nil_append, er]
    refine p_mkClock (.inl (g_iL _)) (fun xs hx => by cases hx; rw [iL_len, List.length_replicate]; omega) (fun s hx hok f g => ?_) (fun e => ?_) (fun s k hx hok f => ?_)
    · cases iL_inj (Option.some.inj hx)
      refine ⟨⟨_, rfl, rfl⟩, _, rfl, g, ?_⟩
      have : told13 (.lst (iL (List.replicate n j))) = told13 (.lst (List.replicate n (.int j))) := by
        unfold iL
        rw [List.map_replicate]
      rw [← this] at p
      exact p
    · rw [rsB_ok rfl gr.ok] at e
      cases e
    · cases iL_inj (Option.some.inj hx)
      rw [good_fov gr] at f
      cases f
theorem p_Clock_with_stay {P : PV → Prop} {EX : En → Fs → Prop} {s : List Int} {x y : PV} (g : Good s) (hx : Kn13 x) (hy : Kn13 y) (a : isH (s.length : Int) x = false → EX .NoHour [("hour", x)])
   (b : isH (s.length : Int) x = true → isS s.length y = false → EX .Wrong [("place", .int 1)])
   (c : ∀ (i : Nat) (j : Int), x = .int (i : Int) → i < s.length → y = .int j → 1 ≤ j → j ≤ (s.length : Int) → w_Clock___init__ [.lst (iL (s.set i j))] P EX) : w_Clock_with_stay [clkP s, x, y] P EX := by
  unfold w_Clock_with_stay t_Clock_with_stay
  refine ⟨rfl, ?_⟩
  refine seq_two (fun ρ => isH (s.length : Int) x = true ∧ ρ = [clkP s, x, y, .non, .non]) (fun N hN => ?_) (fun ρ hρ => ?_)
  · walk_at "wz"
    refine ⟨⟨_, rfl⟩, s, rfl, g, p_is_hour_g hx ?_⟩
    cases e : isH (s.length : Int) x with
    | false => exact a e
    | true => exact hN _ ⟨e, rfl⟩
  obtain ⟨e, rfl⟩ := hρ
  refine seq_two (fun ρ => isS s.length y = true ∧ ρ = [clkP s, x, y, .non, .non]) (fun N hN => ?_) (fun ρ hρ => ?_)
  · walk_at "wz"
    refine p_is_integer_g hy ?_
    cases y with
    | int j =>
      have lk := look_i (i := j) (n := s.length) (A := EX .Wrong [("place", .int 1)]) (B := N [clkP s, x, .int j, .non, .non]) rfl (fun q => b e q) (fun q => hN _ ⟨q, rfl⟩)
      show if decide (1 ≤ j) = true then _ else _
      split
      · next h1 =>
        rw [if_pos h1] at lk
        exact ⟨⟨_, rfl⟩, s, rfl, g, lk⟩
      · next h1 =>
        rw [if_neg h1] at lk
        exact lk
    | _ => exact b e rfl
  obtain ⟨e2, rfl⟩ := hρ
  obtain ⟨i, rfl, i0, i1⟩ := isH_int e
  obtain ⟨j, rfl, j0, j1⟩ := isS_int e2
  walk_at "wz"
  refine ⟨⟨_, rfl⟩, .tup (iL s), rfl, ?_⟩
  obtain ⟨k, rfl⟩ : ∃ k : Nat, i = (k : Int) := ⟨i.toNat, by omega⟩
  have hh : k < s.length := by omega
  have gl := g.le
  show (enumP (iL s)).length ≤ 100000 ∧ _
  unfold enumP
  rw [iL_len]
  refine ⟨by rw [List.length_map, List.length_range]; omega, lcm (P := fun ys => w_Clock___init__ [.lst ys] P EX) (fun (i : Nat) => if (i : Int) = (k : Int) then .int j else (iL s).getD i .non) (fun i hi Kt hk => ?_) ?_⟩
  · walk_at "wz"
    by_cases e : (i : Int) = (k : Int)
    · rw [if_pos (decide_eq_true e)]
      rw [if_pos e] at hk
      exact hk
    · rw [if_neg (by rw [decide_eq_false e]; exact Bool.false_ne_true)]
      rw [if_neg e] at hk
      exact hk
  · have := c k j rfl hh rfl j0 j1
    rw [List.nil_append, ← iL_len (s := s), enum_set, set_i]
    exact this
theorem weq_of {xs ys : List PV} {P : PV → Prop} (h : wEqD false (.lst xs) (.lst ys) P) : wEq (.lst xs) (.lst ys) P := h
def chV (s : List Int) (x y : PV) : PV := if isH (s.length : Int) x = true then (if isS s.length y = true then dueV (.lst ((iL s).set (unI x).toNat y)) else wrong13 1) else none13 x
theorem ch_none {s : List Int} {x y : PV} (h : isH (s.length : Int) x = false) : chV s x y = none13 x := by
  unfold chV
  rw [if_neg (by rw [h]; exact Bool.false_ne_true)]
theorem ch_wrong {s : List Int} {x y : PV} (h : isH (s.length : Int) x = true) (q : isS s.length y = false) : chV s x y = wrong13 1 := by
  unfold chV
  rw [if_pos h, if_neg (by rw [q]; exact Bool.false_ne_true)]
theorem ch_due {s : List Int} {i : Nat} {j : Int} (h : i < s.length) (q : isS s.length (.int j) = true) : chV s (.int (i : Int)) (.int j) = dueV (.lst (iL (s.set i j))) := by
  unfold chV
  rw [if_pos, if_pos q]
  · show dueV (.lst ((iL s).set ((i : Int)).toNat (.int j))) = _
    rw [Int.toNat_natCast, set_i]
  · show (decide ((0 : Int) ≤ (i : Int)) && decide ((i : Int) < (s.length : Int))) = true
    rw [decide_eq_true (by omega), decide_eq_true (by omega)]
    rfl
theorem p__law_changed {P : PV → Prop} {s : List Int} {x y : PV} (g : Good s) (hx : Kn13 x) (hy : Kn13 y) (p : P (chV s x y)) : w__law_changed [clkP s, x, y] P := by
  unfold w__law_changed t__law_changed
  refine ⟨rfl, try_gen fun EX hEX => ?_⟩
  walk_at "wz"
  refine ⟨⟨_, rfl, rfl⟩, p_Clock_with_stay g hx hy (fun e => ?_) (fun e q => ?_) (fun i j ex hi ey j0 j1 => ?_)⟩
  · rw [ch_none e] at p
    exact hEX _ _ _ (caught_none p)
  · rw [ch_wrong e q] at p
    exact hEX _ _ _ (caught_wrong p)
  · subst ex ey
    have q : isS s.length (.int j) = true := by
      show (decide (1 ≤ j) && decide (j ≤ (s.length : Int))) = true
      rw [decide_eq_true j0, decide_eq_true j1]
      rfl
    rw [ch_due hi q] at p
    have gl := g.le
    refine p_mkClock (.inl (g_iL _)) (fun xs hx => by cases hx; rw [iL_len, List.length_set]; omega) (fun t hx hok f g' => ?_) (fun e => ?_) (fun t k hx hok f => ?_)
    · rw [due_ok hx hok f] at p
      exact ⟨⟨_, rfl, rfl⟩, _, rfl, g', p⟩
    · rw [due_no e] at p
      exact hEX _ _ _ (caught_wrong p)
    · rw [due_over hx hok f] at p
      exact hEX _ _ _ (caught_over p)
theorem small_iL {n : Nat} {s : List Int} (hn : n ≤ 48) (h : ∀ z ∈ s, 1 ≤ z ∧ z ≤ (n : Int)) : ∀ y ∈ iL s, PvG y 11 0 := fun y hy => by
  obtain ⟨i, hi, rfl⟩ := List.mem_map.mp hy
  have := h i hi
  exact pg_small (by omega)
theorem two_g {s : String} {v : PV} (h : PvG v 600 1) (hs : (Str.ofString s).length ≤ 1000 := by decide) : ∀ y ∈ [PV.str (Str.ofString s), v], PvG y 1000 1 :=
  all_cons ((odd_str s hs).mono (by decide) (by decide)) (all_cons (h.mono (by decide) (by decide)) all_nil)
theorem due_two (x : PV) : ∃ a b, dueV x = .lst [a, b] ∧ ∀ y ∈ [a, b], PvG y 1000 1 := by
  cases e : rsB x with
  | false => exact ⟨_, _, due_no e, two_g ((pg_small (i := 0) (by decide)).mono (by decide) (by decide))⟩
  | true =>
    obtain ⟨s, hx, hok⟩ := rsB_row e
    obtain ⟨h1, h2, h3⟩ := okStays_iff.mp hok
    cases f : fov s with
    | none => exact ⟨_, _, due_ok hx hok f, two_g ((pg_lst (n := 48) (small_iL h2 h3) (by rw [iL_len]; exact h2)).mono (by decide) (by decide))⟩
    | some k =>
      have hk : k < s.length := List.mem_range.mp (List.mem_of_find?_eq_some f)
      exact ⟨_, _, due_over hx hok f, two_g ((pg_small (by omega)).mono (by decide) (by decide))⟩
theorem due_g (x : PV) : PvG (dueV x) 2002 2 := by
  obtain ⟨a, b, e, h⟩ := due_two x
  rw [e]
  exact (pg_lst (n := 2) h (by simp)).mono (by decide) (by decide)
theorem ch_g {s : List Int} {x y : PV} (hx : Odd x) : PvG (chV s x y) 41002 59 := by
  unfold chV
  split
  · split
    · exact (due_g _).mono (by decide) (by decide)
    · exact (pg_lst (n := 2) (two_g ((pg_small (i := 1) (by decide)).mono (by decide) (by decide))) (by simp)).mono (by decide) (by decide)
  · exact (LG.cons (w := 1000) ((odd_str "none").mono (by decide) (by decide)) (LG.cons (k := 58) hx.1 LG.nil)).lst.mono (by decide) (by decide)
theorem due_alike {x : PV} {P : PV → Prop} (p : P (.bl true)) : w__law_alike [dueV x, dueV x] P := by
  obtain ⟨a, b, e, h⟩ := due_two x
  rw [e]
  exact p__law_alike_g (.inl rfl) h (by simp) (by decide) p
theorem cut_set {s : List Int} {i : Nat} {j : Int} (h : i < s.length) : cutP (iL s) none (some (i : Int)) ++ [.int j] ++ cutP (iL s) (some ((i : Int) + 1)) none = iL (s.set i j) := by
  rw [show ((i : Int) + 1) = ((i + 1 : Nat) : Int) by omega, cutP_take, cutP_drop, List.set_eq_take_append_cons_drop, if_pos h]
  unfold iL
  rw [List.map_append, List.map_cons, List.map_take, List.map_drop, List.append_assoc]
  rfl
theorem p__law_stay_right {P : PV → Prop} {s : List Int} {x y : PV} (g : Good s) (hx : Odd x) (hy : Odd y) (p : P (.bl true)) : w__law_stay_right [.bag, clkP s, .lst (iL s), x, y] P := by
  have tx : ∃ e, toG x = some e := let ⟨e, h1, _⟩ := hx.1; ⟨e, h1⟩
  have ty : ∃ e, toG y = some e := let ⟨e, h1, _⟩ := hy.1; ⟨e, h1⟩
  unfold w__law_stay_right t__law_stay_right
  refine ⟨rfl, ?_⟩
  refine seq_two (fun ρ => ρ = [.bag, clkP s, .lst (iL s), x, y, none13 x, .non, .non]) (fun N hN => ?_) (fun ρ hρ => ?_)
  · walk_at "wz"
    exact hN _ rfl
  subst hρ
  refine ⟨fun ρ => ρ = [.bag, clkP s, .lst (iL s), x, y, chV s x y, .non, .non], ?_, fun ρ hρ => ?_⟩
  · walk_at "wz"
    refine p__law_is_hour_g tx ?_
    cases e : isH (s.length : Int) x with
    | false =>
      rw [ch_none e]
      rfl
    | true =>
      have wr : isS s.length y = false → [PV.bag, clkP s, .lst (iL s), x, y, wrong13 1, .non, .non] = [PV.bag, clkP s, .lst (iL s), x, y, chV s x y, .non, .non] := fun q => by rw [ch_wrong e q]
      obtain ⟨i, rfl, i0, i1⟩ := isH_int e
      obtain ⟨k, rfl⟩ : ∃ k : Nat, i = (k : Int) := ⟨i.toNat, by omega⟩
      have hk : k < s.length := by omega
      have gl := g.le
      walk_at "wz"
      refine p__law_is_whole_g ty ?_
      cases y with
      | int j =>
        refine look_j (n := s.length) rfl wr (fun q => ?_)
        have l1 : (cutP (iL s) none (some (k : Int))).length ≤ s.length := by rw [cutP_take, List.length_take, iL_len]; omega
        have l2 : (cutP (iL s) (some ((k : Int) + 1)) none).length ≤ s.length := by rw [show ((k : Int) + 1) = ((k + 1 : Nat) : Int) by omega, cutP_drop, List.length_drop, iL_len]; omega
        refine ⟨by omega, by rw [List.length_append, List.length_singleton]; omega, ?_⟩
        rw [cut_set hk]
        refine p__law_due (.inl (g_iL _)) (fun xs hx => by cases hx; rw [iL_len, List.length_set]; omega) ?_
        rw [ch_due hk q]
      | _ => exact wr rfl
  subst hρ
  refine seq_two (fun ρ => ρ = [.bag, clkP s, .lst (iL s), x, y, chV s x y, .lst [chV s x y, chV s x y], .non]) (fun N hN => ?_) (fun ρ hρ => ?_)
  · walk_at "wz"
    refine ⟨by decide, by decide, by decide, ?_⟩
    rw [show rangeP 0 (Int.toNat 2) = (List.range 2).map fun (i : Nat) => PV.int (i : Int) from rangeP0 2]
    refine lcm (P := fun ys => N [.bag, clkP s, .lst (iL s), x, y, chV s x y, .lst ys, .non]) (fun _ => chV s x y) (fun v hv Kt hk => ?_) (hN _ rfl)
    walk_at "wz"
    exact p__law_changed g (.inl tx) (.inl ty) hk
  subst hρ
  walk_at "wz"
  refine p__law_alike_g (w := 41002) (k := 59) (.inl rfl) (all_cons (ch_g hx) (all_cons (ch_g hx) all_nil)) (by simp) (by decide) ?_
  walk_at "wz"
  refine ⟨⟨_, rfl, rfl⟩, _, rfl, g, .inl (weq_of (eq_self dt_iL ?_))⟩
  exact p
def wB : Nat → Nat
  | 0 => 600
  | 1 => 40700
  | 2 => 81400
  | _ => 162800
def lB : Nat → Nat
  | 0 => 48
  | 1 => 96
  | 2 => 192
  | _ => 384
def QR (b : Nat) (r : List PV) : Prop := ∃ ps : List (PV × Nat), r = ps.map (fun (p : PV × Nat) => p.1) ∧ (∀ p ∈ ps, PvG p.1 p.2 58 ∧ ∀ i : Int, p.1 = .int i → i.natAbs < 10 ^ 61 + 4 * b) ∧ (ps.map fun (p : PV × Nat) => p.2 + 1).sum ≤ wB b ∧ ps.length ≤ lB b
theorem lg_ps : ∀ {ps : List (PV × Nat)}, (∀ p ∈ ps, PvG p.1 p.2 58) → LG (ps.map (fun (p : PV × Nat) => p.1)) ((ps.map fun (p : PV × Nat) => p.2 + 1).sum) 58
  | [], _ => LG.nil
  | p :: ps, h => by
    have := LG.cons (h p List.mem_cons_self) (lg_ps fun q hq => h q (List.mem_cons_of_mem _ hq))
    rw [List.map_cons, List.map_cons, List.sum_cons]
    exact this.mono (by omega) (Nat.le_refl _)
theorem QR.lg {b : Nat} {r : List PV} (h : QR b r) (hb : b ≤ 3) : LG r 162800 58 ∧ r.length ≤ 384 := by
  obtain ⟨ps, rfl, h1, h2, h3⟩ := h
  have w : wB b ≤ 162800 ∧ lB b ≤ 384 := by
    rcases (show b = 0 ∨ b = 1 ∨ b = 2 ∨ b = 3 by omega) with rfl | rfl | rfl | rfl <;> exact ⟨by decide, by decide⟩
  exact ⟨(lg_ps fun p hp => (h1 p hp).1).mono (Nat.le_trans h2 w.1) (Nat.le_refl _), by rw [List.length_map]; omega⟩
theorem sum_take (l : List Nat) (n : Nat) : (l.take n).sum + (l.drop n).sum = l.sum := by rw [← List.sum_append, List.take_append_drop]
theorem bds {b : Nat} (hb : b < 3) : 2 * wB b ≤ wB (b + 1) ∧ wB b + 40001 ≤ wB (b + 1) ∧ 2 * lB b ≤ lB (b + 1) ∧ lB b + 1 ≤ lB (b + 1) := by
  rcases (show b = 0 ∨ b = 1 ∨ b = 2 by omega) with rfl | rfl | rfl <;> exact ⟨by decide, by decide, by decide, by decide⟩
theorem qr_new {b c : Nat} {ps : List (PV × Nat)} (h1 : ∀ p ∈ ps, PvG p.1 p.2 58 ∧ ∀ i : Int, p.1 = .int i → i.natAbs < 10 ^ 61 + 4 * b) (hc : b ≤ c) (h2 : (ps.map fun (p : PV × Nat) => p.2 + 1).sum ≤ wB c) (h3 : ps.length ≤ lB c) : QR c (ps.map fun (p : PV × Nat) => p.1) :=
  ⟨ps, rfl, fun p hp => ⟨(h1 p hp).1, fun i e => Nat.lt_of_lt_of_le ((h1 p hp).2 i e) (by omega)⟩, h2, h3⟩
theorem QR.up {b : Nat} {r : List PV} (hb : b < 3) (h : QR b r) : QR (b + 1) r := by
  obtain ⟨ps, rfl, h1, h2, h3⟩ := h
  obtain ⟨w1, w2, w3, w4⟩ := bds hb
  exact qr_new h1 (by omega) (by omega) (by omega)
theorem QR.ins {b a : Nat} {r : List PV} {o : PV} (hb : b < 3) (h : QR b r) (ho : Odd o) : QR (b + 1) (r.take a ++ [o] ++ r.drop a) := by
  obtain ⟨ps, rfl, h1, h2, h3⟩ := h
  obtain ⟨w1, w2, w3, w4⟩ := bds hb
  have e : (ps.map (fun (p : PV × Nat) => p.1)).take a ++ [o] ++ (ps.map (fun (p : PV × Nat) => p.1)).drop a = (ps.take a ++ [(o, 40000)] ++ ps.drop a).map (fun (p : PV × Nat) => p.1) := by
    rw [List.map_append, List.map_append, List.map_take, List.map_drop]
    rfl
  have sm := sum_take (ps.map fun (p : PV × Nat) => p.2 + 1) a
  rw [e]
  refine qr_new (b := b) (fun p hp => ?_) (by omega) ?_ ?_
  · rcases List.mem_append.mp hp with hp | hp
    · rcases List.mem_append.mp hp with hp | hp
      · exact h1 p (List.mem_of_mem_take hp)
      · rw [List.mem_singleton.mp hp]
        exact ⟨ho.1, fun i e => Nat.lt_of_lt_of_le (ho.2 i e) (by omega)⟩
    · exact h1 p (List.mem_of_mem_drop hp)
  · rw [List.map_append, List.map_append, List.sum_append, List.sum_append, List.map_take, List.map_drop]
    simp only [List.map_cons, List.map_nil, List.sum_cons, List.sum_nil]
    omega
  · rw [List.length_append, List.length_append, List.length_take, List.length_drop, List.length_singleton]
    omega
theorem sum_set : ∀ {l : List Nat} {k x : Nat}, (l.set k x).sum ≤ l.sum + x
  | [], _, _ => by simp
  | y :: l, 0, x => by rw [List.set_cons_zero, List.sum_cons, List.sum_cons]; omega
  | y :: l, k + 1, x => by
    have := sum_set (l := l) (k := k) (x := x)
    rw [List.set_cons_succ, List.sum_cons, List.sum_cons]
    omega
theorem QR.set {b k w : Nat} {r : List PV} {o : PV} (hb : b < 3) (h : QR b r) (hw : w ≤ 40000) (ho : PvG o w 58) (hi : ∀ i : Int, o = .int i → i.natAbs < 10 ^ 61 + 4 * (b + 1)) : QR (b + 1) (r.set k o) := by
  obtain ⟨ps, rfl, h1, h2, h3⟩ := h
  obtain ⟨w1, w2, w3, w4⟩ := bds hb
  have e : (ps.map (fun (p : PV × Nat) => p.1)).set k o = (ps.set k (o, w)).map (fun (p : PV × Nat) => p.1) := by rw [List.map_set]
  rw [e]
  refine qr_new (b := b + 1) (fun p hp => ?_) (by omega) ?_ ?_
  · rcases List.mem_or_eq_of_mem_set hp with hp | rfl
    · exact ⟨(h1 p hp).1, fun i e => Nat.lt_of_lt_of_le ((h1 p hp).2 i e) (by omega)⟩
    · exact ⟨ho, hi⟩
  · have := sum_set (l := ps.map fun (p : PV × Nat) => p.2 + 1) (k := k) (x := w + 1)
    rw [List.map_set]
    show ((ps.map fun (p : PV × Nat) => p.2 + 1).set k (w + 1)).sum ≤ _
    omega
  · rw [List.length_set]
    omega
theorem QR.cut {b a : Nat} {r : List PV} (hb : b < 3) (h : QR b r) : QR (b + 1) (r.take a ++ r.drop (a + 1)) := by
  obtain ⟨ps, rfl, h1, h2, h3⟩ := h
  obtain ⟨w1, w2, w3, w4⟩ := bds hb
  have e : (ps.map (fun (p : PV × Nat) => p.1)).take a ++ (ps.map (fun (p : PV × Nat) => p.1)).drop (a + 1) = (ps.take a ++ ps.drop (a + 1)).map (fun (p : PV × Nat) => p.1) := by
    rw [List.map_append, List.map_take, List.map_drop]
  have s1 := sum_take (ps.map fun (p : PV × Nat) => p.2 + 1) a
  have s2 := sum_take (ps.map fun (p : PV × Nat) => p.2 + 1) (a + 1)
  rw [e]
  refine qr_new (b := b) (fun p hp => ?_) (by omega) ?_ ?_
  · rcases List.mem_append.mp hp with hp | hp
    · exact h1 p (List.mem_of_mem_take hp)
    · exact h1 p (List.mem_of_mem_drop hp)
  · rw [List.map_append, List.sum_append, List.map_take, List.map_drop]
    omega
  · rw [List.length_append, List.length_take, List.length_drop]
    omega
theorem QR.dbl {b : Nat} {r : List PV} (hb : b < 3) (h : QR b r) : QR (b + 1) (r ++ r) := by
  obtain ⟨ps, rfl, h1, h2, h3⟩ := h
  obtain ⟨w1, w2, w3, w4⟩ := bds hb
  rw [← List.map_append]
  refine qr_new (b := b) (fun p hp => ?_) (by omega) ?_ ?_
  · rcases List.mem_append.mp hp with hp | hp <;> exact h1 p hp
  · rw [List.map_append, List.sum_append]
    omega
  · rw [List.length_append]
    omega
theorem QR.rev {b : Nat} {r : List PV} (hb : b < 3) (h : QR b r) : QR (b + 1) r.reverse := by
  obtain ⟨ps, rfl, h1, h2, h3⟩ := h
  obtain ⟨w1, w2, w3, w4⟩ := bds hb
  rw [← List.map_reverse]
  refine qr_new (b := b) (fun p hp => h1 p (List.mem_reverse.mp hp)) (by omega) ?_ ?_
  · rw [List.map_reverse, List.sum_reverse]
    omega
  · rw [List.length_reverse]
    omega
theorem QR.at {b : Nat} {r : List PV} (h : QR b r) : ∀ x ∈ r, (∃ w, PvG x w 58) ∧ ∀ i : Int, x = .int i → i.natAbs < 10 ^ 61 + 4 * b := fun x hx => by
  obtain ⟨ps, rfl, h1, h2, h3⟩ := h
  obtain ⟨p, hp, rfl⟩ := List.mem_map.mp hx
  exact ⟨⟨_, (h1 p hp).1⟩, (h1 p hp).2⟩
theorem all_one {n : Nat} {o : PV} (ho : o ∈ [PV.int 0, .int (n : Int), .int ((n : Int) + 1), .bl true, .non, .str "1", .int 1, .lst [.int 1]]) (hn : n ≤ 384 := by omega) : PvG o 1000 58 := by
  simp only [List.mem_cons, List.not_mem_nil, or_false] at ho
  rcases ho with rfl | rfl | rfl | rfl | rfl | rfl | rfl | rfl
  · exact (pg_small (by decide)).mono (by decide) (by decide)
  · exact (pg_small (by omega)).mono (by decide) (by decide)
  · exact (pg_small (by omega)).mono (by decide) (by decide)
  · exact pg_bl.mono (by decide) (by decide)
  · exact pg_non.mono (by decide) (by decide)
  · exact (odd_str "1").mono (by decide) (by decide)
  · exact (pg_small (by decide)).mono (by decide) (by decide)
  · exact (pg_lst1 (pg_small (by decide))).mono (by decide) (by decide)
def Sk (b k w : Nat) (r0 : List PV) (a : Nat) (z : Int) (ρ : List PV) : Prop := ∃ r, ρ = [.bag, .lst r0, .lst r, .int (w : Int), .int (a : Int), .int z] ∧ QR (b + 1) r ∧ (k ≤ w → r = r0)
theorem sk_no {b k w a : Nat} {r0 r : List PV} {z : Int} (g : QR (b + 1) r) (h : k ≤ w → r = r0) (c : ¬ (w : Int) = (k : Int)) : Sk b (k + 1) w r0 a z [.bag, .lst r0, .lst r, .int (w : Int), .int (a : Int), .int z] := ⟨r, rfl, g, fun h' => h (by omega)⟩
theorem sk_yes {b k w a : Nat} {r0 r : List PV} {z : Int} (g : QR (b + 1) r) (c : (w : Int) = (k : Int)) : Sk b (k + 1) w r0 a z [.bag, .lst r0, .lst r, .int (w : Int), .int (a : Int), .int z] := ⟨r, rfl, g, fun h' => by omega⟩
theorem p__law_spoilt {P : PV → Prop} {b : Nat} {r0 : List PV} (hb : b < 3) (h : QR b r0) (p : ∀ r, QR (b + 1) r → P (.lst r)) : w__law_spoilt [.bag, .lst r0] P := by
  have hl := (h.lg (by omega)).2
  unfold w__law_spoilt t__law_spoilt
  refine ⟨rfl, ?_⟩
  refine seq_two (fun ρ => ∃ w : Nat, ρ = [.bag, .lst r0, .lst r0, .int (w : Int), .non, .non]) (fun N hN => ?_) (fun ρ hρ => ?_)
  · walk_at "wz"
    refine tk (by omega) (by omega) fun w w0 w1 => ?_
    refine ⟨fun _ => ⟨_, rfl⟩, hN _ ⟨w.toNat, by rw [show ((w.toNat : Nat) : Int) = w by omega]⟩⟩
  obtain ⟨w, rfl⟩ := hρ
  refine seq_two (fun ρ => ∃ a : Nat, a ≤ r0.length ∧ ρ = [.bag, .lst r0, .lst r0, .int (w : Int), .int (a : Int), .non]) (fun N hN => ?_) (fun ρ hρ => ?_)
  · walk_at "wz"
    refine tk (by omega) (by omega) fun u u0 u1 => ?_
    exact hN _ ⟨u.toNat, by omega, by rw [show ((u.toNat : Nat) : Int) = u by omega]⟩
  obtain ⟨a, ha, rfl⟩ := hρ
  refine seq_two (fun ρ => ∃ z : Int, (r0 ≠ [] → ∃ j : Nat, j < r0.length ∧ z = (j : Int)) ∧ ρ = [.bag, .lst r0, .lst r0, .int (w : Int), .int (a : Int), .int z]) (fun N hN => ?_) (fun ρ hρ => ?_)
  · walk_at "wz"
    refine hN _ ⟨_, fun ne => ?_, rfl⟩
    have : 0 < r0.length := List.length_pos_iff.mpr ne
    split
    · exact ⟨r0.length - 1, by omega, by omega⟩
    · exact ⟨a, by omega, rfl⟩
  obtain ⟨z, hz, rfl⟩ := hρ
  refine ⟨Sk b 1 w r0 a z, ?_, fun ρ hρ => ?_⟩
  · walk_at "wz"
    refine r_ite (fun c => ?_) (fun c => sk_no (h.up hb) (fun _ => rfl) c)
    refine p__law_odd fun o oo => ?_
    refine ⟨_, rfl, by omega, by omega, by omega, ?_⟩
    rw [Int.toNat_natCast]
    exact sk_yes (h.ins hb oo) c
  obtain ⟨r, rfl, g, h0⟩ := hρ
  refine ⟨Sk b 2 w r0 a z, ?_, fun ρ hρ => ?_⟩
  · walk_at "wz"
    refine r_ite (fun c => ?_) (fun c => sk_no g h0 c)
    cases h0 (by omega)
    refine ⟨_, rfl, r_itb (fun ne => ?_) (fun _ => sk_yes (h.up hb) c)⟩
    obtain ⟨j, hj, rfl⟩ := hz (fun e => by rw [e] at ne; cases ne)
    refine p__law_one (by simp) (by simp) fun o ho => ?_
    refine ⟨j, ixN_in hj, sk_yes (h.set hb (w := 1000) (by decide) ?_ ?_) c⟩
    · exact all_one ho
    · rintro i rfl
      simp only [List.mem_cons, List.not_mem_nil, or_false, false_or, reduceCtorEq, PV.int.injEq] at ho
      omega
  obtain ⟨r, rfl, g, h0⟩ := hρ
  refine ⟨Sk b 3 w r0 a z, ?_, fun ρ hρ => ?_⟩
  · walk_at "wz"
    refine r_ite (fun c => ?_) (fun c => sk_no g h0 c)
    cases h0 (by omega)
    have := sk_yes (k := 2) (a := a) (r0 := r0) (z := z) (h.cut hb (a := a)) c
    rw [show ((a : Int) + 1) = ((a + 1 : Nat) : Int) by omega, cutP_take, cutP_drop]
    exact ⟨by rw [List.length_take, List.length_drop]; omega, fun _ => ⟨_, rfl⟩, this⟩
  obtain ⟨r, rfl, g, h0⟩ := hρ
  refine ⟨Sk b 4 w r0 a z, ?_, fun ρ hρ => ?_⟩
  · walk_at "wz"
    refine r_ite (fun c => ?_) (fun c => sk_no g h0 c)
    cases h0 (by omega)
    exact ⟨by omega, fun _ => ⟨_, rfl⟩, sk_yes (h.dbl hb) c⟩
  obtain ⟨r, rfl, g, h0⟩ := hρ
  refine ⟨Sk b 5 w r0 a z, ?_, fun ρ hρ => ?_⟩
  · walk_at "wz"
    refine r_ite (fun c => ?_) (fun c => sk_no g h0 c)
    cases h0 (by omega)
    exact ⟨fun _ => ⟨_, rfl⟩, sk_yes (h.rev hb) c⟩
  obtain ⟨r, rfl, g, h0⟩ := hρ
  refine ⟨fun ρ => ∃ r, QR (b + 1) r ∧ ρ = [.bag, .lst r0, .lst r, .int (w : Int), .int (a : Int), .int z], ?_, fun ρ hρ => ?_⟩
  · walk_at "wz"
    refine r_ite (fun c => ?_) (fun c => ⟨r, g, rfl⟩)
    cases h0 (by omega)
    refine ⟨_, rfl, r_itb (fun ne => ?_) (fun _ => ⟨_, g, rfl⟩)⟩
    obtain ⟨j, hj, rfl⟩ := hz (fun e => by rw [e] at ne; cases ne)
    have ej : r0[j]? = some r0[j] := List.getElem?_eq_getElem hj
    have aj := atI_nat ej
    obtain ⟨⟨w', hw'⟩, hi⟩ := h.at _ (List.getElem_mem hj)
    refine ⟨_, aj, p__law_is_whole_g (let ⟨e, h1, _⟩ := hw'; ⟨e, h1⟩) ?_⟩
    cases ex : r0[j] with
    | int i =>
      rw [ex] at aj
      refine ⟨_, aj, tk (by omega) (by omega) fun u u0 u1 => ⟨j, ixN_in hj, _, h.set hb (w := 206) (o := .int (if i + u - 2 > 1 then i + u - 2 else 1)) (by decide) ?_ ?_, rfl⟩⟩
      · have := hi i ex
        refine (pg_int ?_).mono (Nat.le_refl _) (by decide)
        split <;> omega
      · intro i' e
        have := hi i ex
        cases e
        split <;> omega
    | _ => exact ⟨_, g, rfl⟩
  obtain ⟨r, g, rfl⟩ := hρ
  walk_at "wz"
  exact p r g
theorem for_tupQ {R : List PV → Prop} {we : WE} {wg : WG} {w : WS} {D : WEnds} {ρ : List PV} (h : ∀ P : PV → Prop, (∀ xs, R xs → P (.tup xs)) → we ρ P) (k : ∀ xs, R xs → wForL wg w D xs ρ) : wFor (wSeqI we) wg w D ρ := h _ k
theorem items_len {x : PV} {w k : Nat} (h : PvG x w k) : ∀ xs, itemsP x = some xs → xs.length ≤ w := fun xs hx => by
  obtain ⟨e, h1, h2, h3⟩ := h
  have go : ∀ es, toGs xs = some es → (PyData.weightAll es ≤ w) → xs.length ≤ w := fun es h hw => by
    have hl : ∀ {xs : List PV} {es : List PyData}, toGs xs = some es → es.length = xs.length := fun {xs} => by
      induction xs with
      | nil => intro es h; simp only [toGs] at h; cases h; rfl
      | cons x xs ih =>
        intro es h
        obtain ⟨a, b, _, h2, rfl⟩ := toGs_cons h
        rw [List.length_cons, List.length_cons, ih h2]
    have := PyData.length_le_weightAll es
    rw [hl h] at this
    omega
  rcases items_two hx with rfl | rfl
  · simp only [toG, Option.map_eq_some_iff] at h1
    obtain ⟨es, h1, rfl⟩ := h1
    exact go es h1 h2.wt
  · simp only [toG, Option.map_eq_some_iff] at h1
    obtain ⟨es, h1, rfl⟩ := h1
    exact go es h1 h2.wt
theorem LG.tup {xs : List PV} {W k : Nat} (h : LG xs W k) : PvG (.tup xs) W (k + 1) := by
  obtain ⟨es, g1, g3, g4, g5, g6⟩ := h
  exact ⟨.tuple es, by simp only [toG, g1, Option.map_some], ⟨by simp only [PyData.showable]; exact g3, by simp only [PyData.leavesShort]; exact g4, by simp only [PyData.weight]; exact g5⟩, by simp only [PyData.depth]; omega⟩
theorem ev_two {x y : PV} (hy : Odd y) : ∃ a b, evenV x y = .lst [a, b] ∧ ∀ z ∈ [a, b], PvG z 1000 1 := by
  unfold evenV
  split
  · next h =>
    obtain ⟨i, rfl, i1, i2⟩ := isS_int h
    dsimp only
    split
    · next q =>
      obtain ⟨j, rfl, j1, j2⟩ := isS_int q
      exact ⟨_, _, rfl, two_g ((pg_lst (n := 48) (w := 11) (k := 0) (fun y hy => by rw [(List.mem_replicate.mp hy).2]; exact pg_small (by omega)) (by rw [List.length_replicate]; omega)).mono (by decide) (by decide))⟩
    · exact ⟨_, _, rfl, two_g ((pg_small (by decide)).mono (by decide) (by decide))⟩
  · exact ⟨_, _, rfl, two_g ((pg_small (by decide)).mono (by decide) (by decide))⟩
theorem ev_alike {x y : PV} {P : PV → Prop} (hy : Odd y) (p : P (.bl true)) : w__law_alike [evenV x y, evenV x y] P := by
  obtain ⟨a, b, e, h⟩ := ev_two (x := x) hy
  rw [e]
  exact p__law_alike_g (.inl rfl) h (by simp) (by decide) p
theorem Odd.kn {x : PV} (h : Odd x) : Kn13 x := let ⟨e, h1, _⟩ := h.1; .inl ⟨e, h1⟩
theorem b1_13 {ns s : List Int} {i n : Nat} {r : List PV} {x x6 x8 x9 x10 x11 x12 x13 x14 x15 : PV} {N : List PV → Prop} {Q : PV → Prop} {C B : List PV → Prop} (ha : PvG x 162800 59) (hs : ∀ xs, itemsP x = some xs → xs.length ≤ 100000) (hN : N [.scr ns, .bag, .int (i : Int), .int (n : Int), .lst (iL s), .lst r, x6, x, .str (shG x), x9, x10, x11, x12, x13, x14, x15]) :
    t_law_b1 { nx := N, rt := Q, bk := B, ct := C } [.scr ns, .bag, .int (i : Int), .int (n : Int), .lst (iL s), .lst r, x6, x, x8, x9, x10, x11, x12, x13, x14, x15] := by
  have hk : Kn13 x := let ⟨e, h1, _⟩ := ha; .inl ⟨e, h1⟩
  unfold t_law_b1
  refine seq_two (fun ρ => ρ = [.scr ns, .bag, .int (i : Int), .int (n : Int), .lst (iL s), .lst r, x6, x, .str (shG x), x9, x10, x11, x12, x13, x14, x15]) (fun N hN => ?_) (fun ρ hρ => ?_)
  · walk_at "wz"
    exact repr_G ha (by decide) (by decide) (hN _ rfl)
  subst hρ
  walk_at "wz"
  refine tried_0 hk hs ?_
  refine p__law_due hk hs ?_
  refine due_alike ?_
  walk_at "wz"
  refine repr_G ha (by decide) (by decide) ?_
  exact r_itn (fun z => absurd rfl z) fun _ => hN
theorem si13 {z : Int} (hz : z.natAbs < 1000) : Odd (.int z) := odd_n (Nat.lt_trans hz (by decide))
theorem b3t_13 {ρ : List PV} {n : Nat} (n1 : 1 ≤ n) (n2 : n ≤ 48) (e1 : ρ.getD 1 .non = .bag) (e3 : ρ.getD 3 .non = .int (n : Int)) (P : PV → Prop) (hP : ∀ xs, (∀ y ∈ xs, Odd y) → P (.tup xs)) :
    (wTup (wCons (wOp wAdd (wC (.int 1)) (wCall w_take (wCons (wVar 1) (wCons (wVar 3) wNil)))) (wCons (wCall w__law_one (wCons (wVar 1) (wCons (wLst (wCons (wC (.int 0)) (wCons (wVar 3) (wCons (wOp wAdd (wVar 3) (wC (.int 1))) (wCons (wC (.bl true)) (wCons (wC .non) (wCons (wCall w__law_odd (wCons (wVar 1) wNil)) wNil))))))) wNil))) wNil))) ρ P := by
  simp only [wTup, wCons, wOp, wC, wCall, wVar, wNil, wLst, wAdd, e1, e3]
  refine tk (by omega) (by omega) fun u u0 u1 => ?_
  refine p__law_odd fun o oo => ⟨by simp, ?_⟩
  refine p__law_one (by simp) (by simp) fun q hq => ⟨by simp, ?_⟩
  refine hP _ (all_cons (si13 (by omega)) (all_cons ?_ all_nil))
  simp only [List.mem_cons, List.not_mem_nil, or_false] at hq
  rcases hq with rfl | rfl | rfl | rfl | rfl | rfl
  · exact si13 (by decide)
  · exact si13 (by omega)
  · exact si13 (by omega)
  · exact odd_o pg_bl (fun _ e => nomatch e)
  · exact odd_o pg_non (fun _ e => nomatch e)
  · exact oo
theorem b2_13 {ns s : List Int} {i n : Nat} {h : Int} {r : List PV} {x y x6 x7 x8 x13 x14 x15 : PV} {N : List PV → Prop} {Q : PV → Prop} {C B : List PV → Prop} (g : Good s) (ox : Odd x) (oy : Odd y)
    (hN : N [.scr ns, .bag, .int (i : Int), .int (n : Int), .lst (iL s), .lst r, x6, x7, x8, clkP s, .int h, x, y, x13, x14, x15]) :
    t_law_b2 { nx := N, rt := Q, bk := B, ct := C } [.scr ns, .bag, .int (i : Int), .int (n : Int), .lst (iL s), .lst r, x6, x7, x8, clkP s, .int h, x, y, x13, x14, x15] := by
  unfold t_law_b2
  walk_at "wz"
  refine p__law_stay_right g ox oy ?_
  walk_at "wz"
  exact hN
theorem b3_13 {ns s : List Int} {i n : Nat} {h : Int} {r : List PV} {x x6 x7 x8 x12 x13 x14 x15 : PV} {N : List PV → Prop} {Q : PV → Prop} {C B : List PV → Prop} (g : Good s) (n1 : 1 ≤ n) (n2 : n ≤ 48) (ox : Odd x)
    (hN : ∀ x12, N [.scr ns, .bag, .int (i : Int), .int (n : Int), .lst (iL s), .lst r, x6, x7, x8, clkP s, .int h, x, x12, x13, x14, x15]) :
    t_law_b3 { nx := N, rt := Q, bk := B, ct := C } [.scr ns, .bag, .int (i : Int), .int (n : Int), .lst (iL s), .lst r, x6, x7, x8, clkP s, .int h, x, x12, x13, x14, x15] := by
  unfold t_law_b3
  refine for_tupQ (R := fun xs => ∀ y ∈ xs, Odd y) (fun P hP => b3t_13 n1 n2 rfl rfl P hP) (fun xs hxs => ?_)
  refine forv (fun _ ρ => ∃ x12, ρ = [.scr ns, .bag, .int (i : Int), .int (n : Int), .lst (iL s), .lst r, x6, x7, x8, clkP s, .int h, x, x12, x13, x14, x15]) ⟨_, rfl⟩ (fun j y ρ N2 hy hI hN2 => ?_) (fun ρ hI => ?_)
  · obtain ⟨x12, rfl⟩ := hI
    exact b2_13 g ox (hxs y (List.mem_of_getElem? hy)) (hN2 _ ⟨_, rfl⟩)
  · obtain ⟨x12, rfl⟩ := hI
    exact hN _
theorem enW {a b : PV} (h : ∃ w, flatP a = some w ∧ flatP b = some w) {c d : PV} (q : EqNP 1 c d) : EqNP 2 (.lst [a, c]) (.lst [b, d]) := .inr (.inr (.inr ⟨_, _, .inl ⟨rfl, rfl⟩, .cons (.inl h) (.cons q .nil)⟩))
theorem gh_13 {ns s : List Int} {i n : Nat} {h : Int} {r : List PV} {x6 x7 x8 x11 x12 x13 x14 x15 : PV} {N : List PV → Prop} {Q : PV → Prop} {C B : List PV → Prop} (g : Good s) (hN : ∀ x13, N [.scr ns, .bag, .int (i : Int), .int (n : Int), .lst (iL s), .lst r, x6, x7, x8, clkP s, .int h, x11, x12, x13, x14, x15]) :
    (wGh 9 (wSeq (wSet 13 (wLst (wCons (wCall w__law_changed (wCons (wVarU 9) (wCons (wVar 9) (wCons (wC (.int 1)) wNil)))) (wCons (wCall w__law_changed (wCons (wVarU 9) (wCons (wC (.int 0)) (wCons (wVar 9) wNil)))) wNil))))
      (wSeq (wSet 13 (wOp wAdd (wVar 13) (wLst (wCons (wCall w__law_tried (wCons (wC (.int 1)) (wCons (wVar 9) (wCons (wC (.int 1)) wNil)))) (wCons (wCall w__law_tried (wCons (wC (.int 1)) (wCons (wC (.int 1)) (wCons (wVar 9) wNil)))) wNil)))))
      (wIfS (wTest (wOp wNeG (wVar 13) (wLst (wCons (wLst (wCons (wC (.str "none")) (wCons (wVar 9) wNil))) (wCons (wLst (wCons (wC (.str "wrong")) (wCons (wC (.int 1)) wNil))) (wCons (wLst (wCons (wC (.str "wrong")) (wCons (wC (.int 0)) wNil))) (wCons (wLst (wCons (wC (.str "wrong")) (wCons (wC (.int 1)) wNil))) wNil))))))) (wRet (wC (.bl false))) (fun D ρ => D.nx ρ))))) { nx := N, rt := Q, bk := B, ct := C } [.scr ns, .bag, .int (i : Int), .int (n : Int), .lst (iL s), .lst r, x6, x7, x8, clkP s, .int h, x11, x12, x13, x14, x15] := by
  refine ⟨clkP s, rfl, trivial, fun a => ?_⟩
  have ka : Kn13 (.idv a (clkP s)) := .inr (.inl ⟨a, _, rfl⟩)
  have k1 : ∀ i : Int, Kn13 (.int i) := fun i => .inl ⟨.int i, by simp only [toG]⟩
  have hl := g.ne
  refine seq_two (fun ρ => ρ = [.scr ns, .bag, .int (i : Int), .int (n : Int), .lst (iL s), .lst r, x6, x7, x8, .idv a (clkP s), .int h, x11, x12, .lst [none13 (.idv a (clkP s)), wrong13 1], x14, x15]) (fun N hN => ?_) (fun ρ hρ => ?_)
  · simp only [wVarU]
    walk_at "wz"
    refine ⟨_, _, rfl, p__law_changed g ka (k1 1) ?_⟩
    rw [ch_none rfl]
    refine ⟨_, _, rfl, p__law_changed g (k1 0) ka ?_⟩
    rw [ch_wrong ?_ rfl]
    · exact hN _ rfl
    · show (decide ((0 : Int) ≤ 0) && decide ((0 : Int) < (s.length : Int))) = true
      rw [decide_eq_true (by omega), decide_eq_true (by omega)]
      rfl
  subst hρ
  generalize e1 : none13 (.idv a (clkP s)) = v1
  generalize e2 : wrong13 1 = v2
  refine seq_two (fun ρ => ρ = [.scr ns, .bag, .int (i : Int), .int (n : Int), .lst (iL s), .lst r, x6, x7, x8, .idv a (clkP s), .int h, x11, x12, .lst [v1, v2, wrong13 0, v2], x14, x15]) (fun N hN => ?_) (fun ρ hρ => ?_)
  · walk_at "wz"
    refine tried_1 ka (k1 1) ?_
    rw [ev_no rfl]
    refine tried_1 (k1 1) ka ?_
    rw [show evenV (.int 1) (.idv a (clkP s)) = wrong13 1 from ev_wr (n := 1) rfl rfl, e2]
    first | exact hN _ rfl | exact ⟨by decide, hN _ rfl⟩
  subst hρ
  have go : ∀ P : PV → Prop, P (.bl false) → wNeG (.lst [none13 (.idv a (clkP s)), wrong13 1, wrong13 0, wrong13 1]) (.lst [.lst [.str "none", .idv a (clkP s)], .lst [.str "wrong", .int 1], .lst [.str "wrong", .int 0], .lst [.str "wrong", .int 1]]) P := fun P p =>
    .inr ⟨2, by decide, ⟨_, _, .inl ⟨rfl, rfl⟩, .cons (enW ⟨_, rfl, rfl⟩ (.inr (.inr (.inl ⟨a, _, _, rfl, rfl⟩)))) (.cons (enW ⟨_, rfl, rfl⟩ (.inl ⟨_, rfl, rfl⟩)) (.cons (enW ⟨_, rfl, rfl⟩ (.inl ⟨_, rfl, rfl⟩)) (.cons (enW ⟨_, rfl, rfl⟩ (.inl ⟨_, rfl, rfl⟩)) .nil)))⟩, p⟩
  subst e1 e2
  walk_at "wz"
  exact go _ ⟨rfl, hN _⟩
theorem t5_13 {ρ : List PV} {r : List PV} (e1 : ρ.getD 1 .non = .bag) (e5 : ρ.getD 5 .non = .lst r) (P : PV → Prop) (hP : ∀ o, Odd o → P (.tup [.lst r, .tup r, o])) :
    (wTup (wCons (wVar 5) (wCons (wCB wTupOf (wCons (wVar 5) wNil)) (wCons (wCall w__law_odd (wCons (wVar 1) wNil)) wNil)))) ρ P := by
  simp only [wTup, wCons, wCB, wTupOf, wCall, wVar, wNil, e1, e5]
  exact p__law_odd fun o oo => ⟨by simp, hP o oo⟩
theorem t7_13 {ρ : List PV} {n : Nat} {h : Int} (n1 : 1 ≤ n) (n2 : n ≤ 48) (h0 : 0 ≤ h) (h1 : h < n) (e1 : ρ.getD 1 .non = .bag) (e3 : ρ.getD 3 .non = .int (n : Int)) (e10 : ρ.getD 10 .non = .int h) (P : PV → Prop) (hP : ∀ xs, (∀ y ∈ xs, Odd y) → P (.tup xs)) :
    (wTup (wCons (wVar 10) (wCons (wOp (wI0 fun i j => i - j) (wVar 3) (wC (.int 1))) (wCons (wCall w__law_one (wCons (wVar 1) (wCons (wLst (wCons (wVar 3) (wCons (wUn wNeg (wC (.int 1))) (wCons (wC (.bl true)) (wCons (wC .non) (wCons (wCall w__law_odd (wCons (wVar 1) wNil)) wNil)))))) wNil))) wNil)))) ρ P := by
  simp only [wTup, wCons, wOp, wC, wCall, wVar, wNil, wLst, wI0, wUn, wNeg, e1, e3, e10]
  refine p__law_odd fun o oo => ⟨by simp, ?_⟩
  refine p__law_one (by simp) (by simp) fun q hq => ⟨by simp, ?_⟩
  refine hP _ (all_cons (si13 (by omega)) (all_cons (si13 (by omega)) (all_cons ?_ all_nil)))
  simp only [List.mem_cons, List.not_mem_nil, or_false] at hq
  rcases hq with rfl | rfl | rfl | rfl | rfl
  · exact si13 (by omega)
  · exact si13 (by decide)
  · exact odd_o pg_bl (fun _ e => nomatch e)
  · exact odd_o pg_non (fun _ e => nomatch e)
  · exact oo
theorem t14_13 {ρ : List PV} {n : Nat} (n2 : n ≤ 48) (e1 : ρ.getD 1 .non = .bag) (e3 : ρ.getD 3 .non = .int (n : Int)) (P : PV → Prop) (hP : ∀ y, Odd y → P y) :
    (wCall w__law_one (wCons (wVar 1) (wCons (wLst (wCons (wVar 3) (wCons (wVar 3) (wCons (wC (.int 0)) (wCons (wC (.int 49)) (wCons (wC (.int 48)) (wCons (wC (.bl true)) (wCons (wCall w__law_odd (wCons (wVar 1) wNil)) wNil)))))))) wNil))) ρ P := by
  simp only [wCons, wC, wCall, wVar, wNil, wLst, e1, e3]
  refine p__law_odd fun o oo => ⟨by simp, ?_⟩
  refine p__law_one (by simp) (by simp) fun q hq => hP q ?_
  simp only [List.mem_cons, List.not_mem_nil, or_false] at hq
  rcases hq with rfl | rfl | rfl | rfl | rfl | rfl | rfl
  · exact si13 (by omega)
  · exact si13 (by omega)
  · exact si13 (by decide)
  · exact si13 (by decide)
  · exact si13 (by decide)
  · exact odd_o pg_bl (fun _ e => nomatch e)
  · exact oo
theorem t15_13 {ρ : List PV} {n : Nat} (n1 : 1 ≤ n) (n2 : n ≤ 48) (e1 : ρ.getD 1 .non = .bag) (e3 : ρ.getD 3 .non = .int (n : Int)) (P : PV → Prop) (hP : ∀ y, Odd y → P y) :
    (wCall w__law_one (wCons (wVar 1) (wCons (wLst (wCons (wOp wAdd (wC (.int 1)) (wCall w_take (wCons (wVar 1) (wCons (wVar 3) wNil)))) (wCons (wVar 3) (wCons (wOp wAdd (wVar 3) (wC (.int 1))) (wCons (wC (.int 0)) (wCons (wC (.bl true)) (wCons (wCall w__law_odd (wCons (wVar 1) wNil)) wNil))))))) wNil))) ρ P := by
  simp only [wCons, wC, wCall, wVar, wNil, wLst, wOp, wAdd, e1, e3]
  refine tk (by omega) (by omega) fun u u0 u1 => ?_
  refine p__law_odd fun o oo => ⟨by simp, ?_⟩
  refine p__law_one (by simp) (by simp) fun q hq => hP q ?_
  simp only [List.mem_cons, List.not_mem_nil, or_false] at hq
  rcases hq with rfl | rfl | rfl | rfl | rfl | rfl
  · exact si13 (by omega)
  · exact si13 (by omega)
  · exact si13 (by omega)
  · exact si13 (by decide)
  · exact odd_o pg_bl (fun _ e => nomatch e)
  · exact oo
theorem if_16 {s : List Int} {ρ : List PV} {x y : PV} {D : WEnds} (ox : Odd x) (oy : Odd y) (e14 : ρ.getD 14 .non = x) (e15 : ρ.getD 15 .non = y) (hN : D.nx ρ) :
    (wIfS (wTnot (wTest (wCall w__law_alike (wCons (wCall w__law_tried (wCons (wC (.int 1)) (wCons (wVar 14) (wCons (wVar 15) wNil)))) (wCons (wCall w__law_even_due (wCons (wVar 14) (wCons (wVar 15) wNil))) wNil))))) (wRet (wC (.bl false))) (fun D ρ => D.nx ρ)) D ρ := by
  have t14 : ∃ e, toG x = some e := let ⟨e, h1, _⟩ := ox.1; ⟨e, h1⟩
  have t15 : ∃ e, toG y = some e := let ⟨e, h1, _⟩ := oy.1; ⟨e, h1⟩
  simp only [wIfS, wTnot, wTest, wCall, wCons, wC, wVar, wNil, e14, e15]
  refine tried_1 ox.kn oy.kn ?_
  refine p_even_due t14 t15 ?_
  exact ev_alike oy hN
theorem law_true (ns : List Int) (hn : ns.length ≤ 63) : w_law [.scr ns] fun x => x = .bl true := by
  unfold w_law t_law
  refine ⟨rfl, ?_⟩
  refine seq_two (fun ρ => ∃ x2 x3 x4 x5 x6 x7 x8 x9 x10 x11 x12 x13 x14 x15, ρ = [.scr ns, .bag, x2, x3, x4, x5, x6, x7, x8, x9, x10, x11, x12, x13, x14, x15]) (fun N hN => ?_) (fun ρ hρ => ?_)
  · walk_at "wz"
    refine ⟨ns, rfl, ?_⟩
    exact hN _ ⟨_, _, _, _, _, _, _, _, _, _, _, _, _, _, rfl⟩
  refine seq_two (fun ρ => ∃ x2 x3 x4 x5 x6 x7 x8 x9 x10 x11 x12 x13 x14 x15, ρ = [.scr ns, .bag, x2, x3, x4, x5, x6, x7, x8, x9, x10, x11, x12, x13, x14, x15]) (fun N hN => ?_) (fun ρ hρ => ?_)
  · obtain ⟨x2, x3, x4, x5, x6, x7, x8, x9, x10, x11, x12, x13, x14, x15, rfl⟩ := hρ
    walk_at "wz"
    refine ⟨by decide, by decide, ?_⟩
    refine forr (fun _ ρ => ∃ x2 x3 x4 x5 x6 x7 x8 x9 x10 x11 x12 x13 x14 x15, ρ = [.scr ns, .bag, x2, x3, x4, x5, x6, x7, x8, x9, x10, x11, x12, x13, x14, x15]) ⟨_, _, _, _, _, _, _, _, _, _, _, _, _, _, rfl⟩ (fun i ρ N' hi hI hN' => ?_) (fun ρ hI => hN _ hI)
    obtain ⟨x2, x3, x4, x5, x6, x7, x8, x9, x10, x11, x12, x13, x14, x15, rfl⟩ := hI
    have hi : i < 10 := hi
    unfold t_law_b4
    refine seq_two (fun ρ => ∃ n : Nat, 1 ≤ n ∧ n ≤ 48 ∧ ρ = [.scr ns, .bag, .int (i : Int), .int (n : Int), x4, x5, x6, x7, x8, x9, x10, x11, x12, x13, x14, x15]) (fun N hN => ?_) (fun ρ hρ => ?_)
    · have go : ∀ u : Int, 0 < u → u ≤ 48 → L2.atI [PV.int 48, .int 4, .int 9] ((i : Int) / 4) = some (.int u) → wSet 3 (wOp wAdd (wC (.int 1)) (wCall w_take (wCons (wVar 1) (wCons (wOp wIx (wLst (wCons (wC (.int 48)) (wCons (wC (.int 4)) (wCons (wC (.int 9)) wNil)))) (wOp (wII CDivW fun i j => i / j) (wVar 2) (wC (.int 4)))) wNil)))) { nx := N, rt := fun x => x = .bl true } [.scr ns, .bag, .int (i : Int), x3, x4, x5, x6, x7, x8, x9, x10, x11, x12, x13, x14, x15] := fun u u0 u1 e => by
        walk_at "wz"
        refine ⟨⟨by decide, by decide⟩, _, e, ?_⟩
        refine tk u0 (by omega) fun v v0 v1 => ?_
        refine hN _ ⟨(1 + v).toNat, by omega, by omega, ?_⟩
        rw [show (((1 + v).toNat : Nat) : Int) = 1 + v by omega]
      rcases (show (i : Int) / 4 = 0 ∨ (i : Int) / 4 = 1 ∨ (i : Int) / 4 = 2 by omega) with e | e | e
      · exact go 48 (by omega) (by omega) (by rw [e]; rfl)
      · exact go 4 (by omega) (by omega) (by rw [e]; rfl)
      · exact go 9 (by omega) (by omega) (by rw [e]; rfl)
    obtain ⟨n, n1, n2, rfl⟩ := hρ
    refine seq_two (fun ρ => ∃ s : List Int, s.length = n ∧ Good s ∧ ρ = [.scr ns, .bag, .int (i : Int), .int (n : Int), .lst (iL s), x5, x6, x7, x8, x9, x10, x11, x12, x13, x14, x15]) (fun N hN => ?_) (fun ρ hρ => ?_)
    · walk_at "wz"
      exact ⟨n, rfl, n1, n2, fun s hs g => hN _ ⟨s, hs, g, rfl⟩⟩
    obtain ⟨s, hs, g, rfl⟩ := hρ
    obtain ⟨h1, h2, h3⟩ := okStays_iff.mp g.ok
    refine seq_two (fun ρ => ρ = [.scr ns, .bag, .int (i : Int), .int (n : Int), .lst (iL s), .lst (iL s), x6, x7, x8, x9, x10, x11, x12, x13, x14, x15]) (fun N hN => ?_) (fun ρ hρ => ?_)
    · walk_at "wz"
      exact hN _ rfl
    subst hρ
    refine seq_two (fun ρ => ∃ r x6, LG r 162800 58 ∧ r.length ≤ 384 ∧ ρ = [.scr ns, .bag, .int (i : Int), .int (n : Int), .lst (iL s), .lst r, x6, x7, x8, x9, x10, x11, x12, x13, x14, x15]) (fun N hN => ?_) (fun ρ hρ => ?_)
    · walk_at "wz"
      refine tk (by omega) (by omega) fun u u0 u1 => ?_
      walk_at "wz"
      refine ⟨by omega, by omega, ?_⟩
      obtain ⟨m, hm⟩ : ∃ m : Nat, 1 + u = (m : Int) := ⟨(1 + u).toNat, by omega⟩
      rw [hm, Int.toNat_natCast]
      refine forr (fun j ρ => ∃ r x6, QR j r ∧ ρ = [.scr ns, .bag, .int (i : Int), .int (n : Int), .lst (iL s), .lst r, x6, x7, x8, x9, x10, x11, x12, x13, x14, x15]) ⟨_, _, ?_, rfl⟩ (fun j ρ N' hj hI hN' => ?_) (fun ρ hI => ?_)
      · refine ⟨s.map fun z => (.int z, 11), by rw [List.map_map]; rfl, fun p hp => ?_, ?_, ?_⟩
        · obtain ⟨z, hz, rfl⟩ := List.mem_map.mp hp
          have := h3 z hz
          exact ⟨(pg_small (by omega)).mono (Nat.le_refl 11) (by decide), fun i e => by cases e; omega⟩
        · rw [List.map_map]
          show (s.map fun _ => 12).sum ≤ 600
          rw [List.map_const', List.sum_replicate_nat]
          omega
        · rw [List.length_map]
          exact h2
      · obtain ⟨r, x6, q, rfl⟩ := hI
        unfold t_law_b0
        walk_at "wz"
        exact p__law_spoilt (by omega) q fun r q => hN' _ ⟨_, _, q, rfl⟩
      · obtain ⟨r, x6, q, rfl⟩ := hI
        obtain ⟨a, b⟩ := q.lg (by omega)
        exact hN _ ⟨_, _, a, b, rfl⟩
    obtain ⟨r, x6, lg, rl, rfl⟩ := hρ
    refine seq_two (fun ρ => ∃ x7 x8, ρ = [.scr ns, .bag, .int (i : Int), .int (n : Int), .lst (iL s), .lst r, x6, x7, x8, x9, x10, x11, x12, x13, x14, x15]) (fun N hN => ?_) (fun ρ hρ => ?_)
    · refine for_tupQ (R := fun xs => ∃ o, Odd o ∧ xs = [.lst r, .tup r, o]) (fun P hP => t5_13 rfl rfl P fun o oo => hP _ ⟨o, oo, rfl⟩) (fun xs hxs => ?_)
      obtain ⟨o, oo, rfl⟩ := hxs
      refine forv (fun _ ρ => ∃ x7 x8, ρ = [.scr ns, .bag, .int (i : Int), .int (n : Int), .lst (iL s), .lst r, x6, x7, x8, x9, x10, x11, x12, x13, x14, x15]) ⟨_, _, rfl⟩ (fun j x ρ N' hx hI hN' => ?_) (fun ρ hI => hN _ hI)
      obtain ⟨x7, x8, rfl⟩ := hI
      have ha : PvG x 162800 59 ∧ ∀ xs, itemsP x = some xs → xs.length ≤ 100000 := by
        have := List.mem_of_getElem? hx
        simp only [List.mem_cons, List.not_mem_nil, or_false] at this
        rcases this with rfl | rfl | rfl
        · exact ⟨lg.lst, fun xs hx => by cases hx; omega⟩
        · exact ⟨lg.tup, fun xs hx => by cases hx; omega⟩
        · exact ⟨oo.1.mono (by decide) (by decide), fun xs hx => by have := items_len oo.1 xs hx; omega⟩
      exact b1_13 ha.1 ha.2 (hN' _ ⟨_, _, rfl⟩)
    obtain ⟨x7, x8, rfl⟩ := hρ
    have gl := g.le
    have mk : ∀ {P : PV → Prop} {EX : En → Fs → Prop}, P (clkP s) → w_Clock___init__ [.lst (iL s)] P EX := fun {P EX} p =>
      p_mkClock (.inl (g_iL _)) (fun xs hx => by cases hx; rw [iL_len]; omega) (fun t hx _ _ _ => by cases iL_inj (Option.some.inj hx); exact p) (fun e => by rw [rsB_ok rfl g.ok] at e; cases e) (fun t k hx _ f => by cases iL_inj (Option.some.inj hx); rw [good_fov g] at f; cases f)
    refine seq_two (fun ρ => ∃ h : Int, 0 ≤ h ∧ h < n ∧ ρ = [.scr ns, .bag, .int (i : Int), .int (n : Int), .lst (iL s), .lst r, x6, x7, x8, clkP s, .int h, x11, x12, x13, x14, x15]) (fun N hN => ?_) (fun ρ hρ => ?_)
    · walk_at "wz"
      refine mk ?_
      refine tk (by omega) (by omega) fun h h0 h1 => ?_
      first | exact hN _ ⟨h, h0, h1, rfl⟩ | exact ⟨fun _ => ⟨_, rfl⟩, hN _ ⟨h, h0, h1, rfl⟩⟩
    obtain ⟨h, h0, h1', rfl⟩ := hρ
    have si : ∀ z : Int, z.natAbs < 1000 → Odd (.int z) := fun z hz => odd_n (Nat.lt_trans hz (by decide))
    refine seq_two (fun ρ => ∃ x11 x12, ρ = [.scr ns, .bag, .int (i : Int), .int (n : Int), .lst (iL s), .lst r, x6, x7, x8, clkP s, .int h, x11, x12, x13, x14, x15]) (fun N hN => ?_) (fun ρ hρ => ?_)
    · refine for_tupQ (R := fun xs => ∀ y ∈ xs, Odd y) (fun P hP => t7_13 n1 n2 h0 h1' rfl rfl rfl P hP) (fun xs hxs => ?_)
      refine forv (fun _ ρ => ∃ x11 x12, ρ = [.scr ns, .bag, .int (i : Int), .int (n : Int), .lst (iL s), .lst r, x6, x7, x8, clkP s, .int h, x11, x12, x13, x14, x15]) ⟨_, _, rfl⟩ (fun j x ρ N' hx hI hN' => ?_) (fun ρ hI => hN _ hI)
      obtain ⟨x11, x12, rfl⟩ := hI
      have ox : Odd x := hxs x (List.mem_of_getElem? hx)
      exact b3_13 g n1 n2 ox fun x12 => hN' _ ⟨_, _, rfl⟩
    obtain ⟨x11, x12, rfl⟩ := hρ
    refine seq_two (fun ρ => ∃ x13, ρ = [.scr ns, .bag, .int (i : Int), .int (n : Int), .lst (iL s), .lst r, x6, x7, x8, clkP s, .int h, x11, x12, x13, x14, x15]) (fun N hN => ?_) (fun ρ hρ => ?_)
    · exact gh_13 g fun x13 => hN _ ⟨_, rfl⟩
    obtain ⟨x13, rfl⟩ := hρ
    refine seq_two (fun ρ => ∃ x14, Odd x14 ∧ ρ = [.scr ns, .bag, .int (i : Int), .int (n : Int), .lst (iL s), .lst r, x6, x7, x8, clkP s, .int h, x11, x12, x13, x14, x15]) (fun N hN => ?_) (fun ρ hρ => ?_)
    · exact t14_13 n2 rfl rfl _ fun q oq => hN _ ⟨q, oq, rfl⟩
    obtain ⟨x14, o14, rfl⟩ := hρ
    refine seq_two (fun ρ => ∃ x15, Odd x15 ∧ ρ = [.scr ns, .bag, .int (i : Int), .int (n : Int), .lst (iL s), .lst r, x6, x7, x8, clkP s, .int h, x11, x12, x13, x14, x15]) (fun N hN => ?_) (fun ρ hρ => ?_)
    · exact t15_13 n1 n2 rfl rfl _ fun q oq => hN _ ⟨q, oq, rfl⟩
    obtain ⟨x15, o15, rfl⟩ := hρ
    exact if_16 (s := s) o14 o15 rfl rfl (hN' _ ⟨_, _, _, _, _, _, _, _, _, _, _, _, _, _, rfl⟩)
  obtain ⟨x2, x3, x4, x5, x6, x7, x8, x9, x10, x11, x12, x13, x14, x15, rfl⟩ := hρ
  refine seq_two (fun ρ => ∃ xs : List PV, (∀ x ∈ xs, Kn13 x ∧ ∀ ys, itemsP x = some ys → ys.length ≤ 100000) ∧ xs.length = 7 ∧ ρ = [.scr ns, .bag, x2, x3, x4, x5, x6, .tup xs, x8, x9, x10, x11, x12, x13, x14, x15]) (fun N hN => ?_) (fun ρ hρ => ?_)
  · walk_at "wz"
    have g1 : Good [1] := Good.const (n := 1) (c := 1) (by decide) (by decide) (by decide) (by decide)
    have kL : ∀ s : List Int, Kn13 (.lst (iL s)) := fun s => .inl (g_iL s)
    have kR : ∀ (m : Nat) (c : Int), List.replicate m (PV.int c) = iL (List.replicate m c) := fun m c => by
      unfold iL
      rw [List.map_replicate]
    refine p_mkClock (kL [1]) (fun xs hx => by cases hx; decide) (fun t hx _ _ _ => ?_) (fun e => by rw [rsB_ok (s := [1]) rfl g1.ok] at e; cases e) (fun t k hx _ f => by cases iL_inj (s := [1]) (Option.some.inj hx); rw [good_fov g1] at f; cases f)
    cases iL_inj (s := [1]) (Option.some.inj hx)
    refine ⟨by decide, by decide, by decide, by decide, by decide, by decide, hN _ ⟨_, ?_, rfl, rfl⟩⟩
    rw [kR, kR]
    refine all_cons ⟨.inr (.inr ⟨_, rfl⟩), fun ys h => by cases h⟩ (all_cons ⟨kL _, fun ys h => by cases h; decide⟩ (all_cons ⟨kL _, fun ys h => by cases h; decide⟩ (all_cons ⟨kL [2, 2, 4, 3], fun ys h => by cases h; decide⟩ (all_cons ⟨kL [3, 1, 1], fun ys h => by cases h; decide⟩ (all_cons ⟨kL [3, 2, 1], fun ys h => by cases h; decide⟩ (all_cons ⟨kL [], fun ys h => by cases h; decide⟩ all_nil))))))
  obtain ⟨xs, hx, hl, rfl⟩ := hρ
  walk_at "wz"
  refine ⟨by omega, lcv (P := fun ys => xs.length ≤ 100000 ∧ _) dueV (fun y hy Kt hk => ?_) ⟨by omega, lcv (P := fun ys_1 => w__law_alike [.lst _, .lst ys_1] _) dueV (fun y hy Kt hk => ?_) ?_⟩⟩
  · walk_at "wz"
    exact tried_0 (hx y hy).1 (hx y hy).2 hk
  · walk_at "wz"
    exact p__law_due (hx y hy).1 (hx y hy).2 hk
  · refine p__law_alike_g (w := 2002) (k := 2) (.inl rfl) (fun y hy => ?_) (by rw [List.length_map, hl]; decide) (by decide) rfl
    obtain ⟨z, _, rfl⟩ := List.mem_map.mp hy
    exact due_g z
end
def adsK (K : PySem.W.Frag) : Ads := ⟨(He.ga K "Clock"), (He.ga K "_law_alike"), (He.ga K "_law_bag"), (He.ga K "_law_take"), (He.ga K "_law_stays"), (He.ga K "_law_one"), (He.ga K "_law_odd"), (He.ga K "_law_is_whole"), (He.ga K "_law_spoilt"), (He.ma K (He.ga K "Clock") "stays"), (He.ga K "is_integer"), (He.ga K "are_stays"), (He.ga K "need_order"), (He.ga K "width_of"), (He.ma K (He.ga K "Clock") "__init__"), (rcA K (stA K (He.ga K "Clock") "even") "staticmethod"), (stA K (He.ga K "Clock") "even"), (He.ga K "_law_caught"), (He.ga K "_law_tried"), (He.ga K "_law_first_over"), (He.ga K "_law_due"), (He.ga K "_law_is_hour"), (He.ga K "is_hour"), (rcA K (He.ma K (He.ga K "Clock") "hours") "property"), (He.ma K (He.ga K "Clock") "hours"), (He.ma K (He.ga K "Clock") "with_stay"), (He.ga K "_law_changed"), (He.ga K "_law_stay_right"), (He.ga K "_law_even_due"), (He.ga K "law"), (He.ga K "NeedError"), (He.ga K "NoHour"), (He.ma K (He.ga K "NoHour") "__init__"), (He.ga K "Overtaken"), (He.ma K (He.ga K "Overtaken") "__init__"), (He.ga K "Wrong"), (He.ma K (He.ga K "Wrong") "__init__")⟩
theorem mkf_g_Clock  {P : Program} {K : PySem.W.Frag} {h : Heap} {mg : Str → Option Value} (X : K.In h) (G : h.Ns mainGlobals mg) (c : SaysH fas fns K) (tp_s : (P.main.scope.names.lookup ("super" : Str)).isSome = false) (pF : P.main.file = flX) : mg "Clock" = some (.ref (adsK K).c_Clock) := by
  letI : TabC := ⟨[]⟩
  have a_Clock : PySem.W.nsIn K mainGlobals "Clock" = some (some (.ref (He.ga K "Clock"))) := dok (c.fact 0 rfl)
  exact PySem.W.mg_of X G a_Clock
theorem mkf_cl_Clock  {P : Program} {K : PySem.W.Frag} {h : Heap} {mg : Str → Option Value} (X : K.In h) (G : h.Ns mainGlobals mg) (c : SaysH fas fns K) (tp_s : (P.main.scope.names.lookup ("super" : Str)).isSome = false) (pF : P.main.file = flX) : Cls K (adsK K).c_Clock := by
  letI : TabC := ⟨[]⟩
  have pg_Clock : PySem.W.plainGet K (He.ga K "Clock") Str.empty = true := (c.fact 1 rfl)
  have hd_Clock : PySem.W.hasDictIn K (He.ga K "Clock") = true := (c.fact 2 rfl)
  have po_Clock : PySem.W.plainOver K (He.ga K "Clock") = true := (c.fact 3 rfl)
  have sa_Clock : PySem.W.findIn K (.ref (He.ga K "Clock")) "__setattr__" = some (some (.builtin "object.__setattr__")) := dok (c.fact 4 rfl)
  exact ⟨pg_Clock, hd_Clock, po_Clock, sa_Clock⟩
theorem mkf_sf_Clock  {P : Program} {K : PySem.W.Frag} {h : Heap} {mg : Str → Option Value} (X : K.In h) (G : h.Ns mainGlobals mg) (c : SaysH fas fns K) (tp_s : (P.main.scope.names.lookup ("super" : Str)).isSome = false) (pF : P.main.file = flX) : PySem.W.selfFirst K (adsK K).c_Clock = true := by
  letI : TabC := ⟨[]⟩
  have sf_Clock : PySem.W.selfFirst K (He.ga K "Clock") = true := (c.fact 5 rfl)
  exact sf_Clock
theorem mkf_n_Clock_kept_stays  {P : Program} {K : PySem.W.Frag} {h : Heap} {mg : Str → Option Value} (X : K.In h) (G : h.Ns mainGlobals mg) (c : SaysH fas fns K) (tp_s : (P.main.scope.names.lookup ("super" : Str)).isSome = false) (pF : P.main.file = flX) : NoAttr K (adsK K).c_Clock "kept_stays" := by
  letI : TabC := ⟨[]⟩
  have n_Clock_kept_stays : PySem.W.findIn K (.ref (He.ga K "Clock")) "kept_stays" = some none := dok (c.fact 6 rfl)
  exact n_Clock_kept_stays
theorem mkf_n_Clock_kept_widths  {P : Program} {K : PySem.W.Frag} {h : Heap} {mg : Str → Option Value} (X : K.In h) (G : h.Ns mainGlobals mg) (c : SaysH fas fns K) (tp_s : (P.main.scope.names.lookup ("super" : Str)).isSome = false) (pF : P.main.file = flX) : NoAttr K (adsK K).c_Clock "kept_widths" := by
  letI : TabC := ⟨[]⟩
  have n_Clock_kept_widths : PySem.W.findIn K (.ref (He.ga K "Clock")) "kept_widths" = some none := dok (c.fact 7 rfl)
  exact n_Clock_kept_widths
theorem mkf_g__law_alike  {P : Program} {K : PySem.W.Frag} {h : Heap} {mg : Str → Option Value} (X : K.In h) (G : h.Ns mainGlobals mg) (c : SaysH fas fns K) (tp_s : (P.main.scope.names.lookup ("super" : Str)).isSome = false) (pF : P.main.file = flX) : mg "_law_alike" = some (.ref (adsK K).f__law_alike) := by
  letI : TabC := ⟨[]⟩
  have a__law_alike : PySem.W.nsIn K mainGlobals "_law_alike" = some (some (.ref (He.ga K "_law_alike"))) := dok (c.fact 8 rfl)
  exact PySem.W.mg_of X G a__law_alike
theorem mkf_d__law_alike  {P : Program} {K : PySem.W.Frag} {h : Heap} {mg : Str → Option Value} (X : K.In h) (G : h.Ns mainGlobals mg) (c : SaysH fas fns K) (tp_s : (P.main.scope.names.lookup ("super" : Str)).isSome = false) (pF : P.main.file = flX) : Df K "_law_alike" "_law_alike" s__law_alike (adsK K).f__law_alike ["_law_found", "_law_due_here"] := by
  letI : TabC := ⟨[]⟩
  obtain ⟨_, _, _, _, _, _, _, _, _, l__law_alike, c__law_alike, k__law_alike⟩ := c.def_ 0 (d := ⟨fun K => (He.ga K "_law_alike"), "_law_alike", "_law_alike", s__law_alike, false⟩) rfl
  exact ⟨_, fun_mk l__law_alike c__law_alike k__law_alike, (fun_mk (st := s__law_alike) l__law_alike c__law_alike k__law_alike).binds (ps := ["_law_found", "_law_due_here"]) fun _ _ _ _ _ _ us hl => match us, hl with | [_, _], _ => rfl⟩
theorem mkf_g__law_bag  {P : Program} {K : PySem.W.Frag} {h : Heap} {mg : Str → Option Value} (X : K.In h) (G : h.Ns mainGlobals mg) (c : SaysH fas fns K) (tp_s : (P.main.scope.names.lookup ("super" : Str)).isSome = false) (pF : P.main.file = flX) : mg "_law_bag" = some (.ref (adsK K).f__law_bag) := by
  letI : TabC := ⟨[]⟩
  have a__law_bag : PySem.W.nsIn K mainGlobals "_law_bag" = some (some (.ref (He.ga K "_law_bag"))) := dok (c.fact 9 rfl)
  exact PySem.W.mg_of X G a__law_bag
theorem mkf_d__law_bag  {P : Program} {K : PySem.W.Frag} {h : Heap} {mg : Str → Option Value} (X : K.In h) (G : h.Ns mainGlobals mg) (c : SaysH fas fns K) (tp_s : (P.main.scope.names.lookup ("super" : Str)).isSome = false) (pF : P.main.file = flX) : Df K "_law_bag" "_law_bag" s__law_bag (adsK K).f__law_bag ["_law_script"] := by
  letI : TabC := ⟨[]⟩
  obtain ⟨_, _, _, _, _, _, _, _, _, l__law_bag, c__law_bag, k__law_bag⟩ := c.def_ 1 (d := ⟨fun K => (He.ga K "_law_bag"), "_law_bag", "_law_bag", s__law_bag, false⟩) rfl
  exact ⟨_, fun_mk l__law_bag c__law_bag k__law_bag, (fun_mk (st := s__law_bag) l__law_bag c__law_bag k__law_bag).binds (ps := ["_law_script"]) fun _ _ _ _ _ _ us hl => match us, hl with | [_], _ => rfl⟩
theorem mkf_g__law_take  {P : Program} {K : PySem.W.Frag} {h : Heap} {mg : Str → Option Value} (X : K.In h) (G : h.Ns mainGlobals mg) (c : SaysH fas fns K) (tp_s : (P.main.scope.names.lookup ("super" : Str)).isSome = false) (pF : P.main.file = flX) : mg "_law_take" = some (.ref (adsK K).f__law_take) := by
  letI : TabC := ⟨[]⟩
  have a__law_take : PySem.W.nsIn K mainGlobals "_law_take" = some (some (.ref (He.ga K "_law_take"))) := dok (c.fact 10 rfl)
  exact PySem.W.mg_of X G a__law_take
theorem mkf_d__law_take  {P : Program} {K : PySem.W.Frag} {h : Heap} {mg : Str → Option Value} (X : K.In h) (G : h.Ns mainGlobals mg) (c : SaysH fas fns K) (tp_s : (P.main.scope.names.lookup ("super" : Str)).isSome = false) (pF : P.main.file = flX) : Df K "_law_take" "_law_take" s__law_take (adsK K).f__law_take ["_law_bag_here", "_law_upto"] := by
  letI : TabC := ⟨[]⟩
  obtain ⟨_, _, _, _, _, _, _, _, _, l__law_take, c__law_take, k__law_take⟩ := c.def_ 2 (d := ⟨fun K => (He.ga K "_law_take"), "_law_take", "_law_take", s__law_take, false⟩) rfl
  exact ⟨_, fun_mk l__law_take c__law_take k__law_take, (fun_mk (st := s__law_take) l__law_take c__law_take k__law_take).binds (ps := ["_law_bag_here", "_law_upto"]) fun _ _ _ _ _ _ us hl => match us, hl with | [_, _], _ => rfl⟩
theorem mkf_g__law_stays  {P : Program} {K : PySem.W.Frag} {h : Heap} {mg : Str → Option Value} (X : K.In h) (G : h.Ns mainGlobals mg) (c : SaysH fas fns K) (tp_s : (P.main.scope.names.lookup ("super" : Str)).isSome = false) (pF : P.main.file = flX) : mg "_law_stays" = some (.ref (adsK K).f__law_stays) := by
  letI : TabC := ⟨[]⟩
  have a__law_stays : PySem.W.nsIn K mainGlobals "_law_stays" = some (some (.ref (He.ga K "_law_stays"))) := dok (c.fact 11 rfl)
  exact PySem.W.mg_of X G a__law_stays
theorem mkf_d__law_stays  {P : Program} {K : PySem.W.Frag} {h : Heap} {mg : Str → Option Value} (X : K.In h) (G : h.Ns mainGlobals mg) (c : SaysH fas fns K) (tp_s : (P.main.scope.names.lookup ("super" : Str)).isSome = false) (pF : P.main.file = flX) : Df K "_law_stays" "_law_stays" s__law_stays (adsK K).f__law_stays ["_law_bag_here", "_law_many"] := by
  letI : TabC := ⟨[]⟩
  obtain ⟨_, _, _, _, _, _, _, _, _, l__law_stays, c__law_stays, k__law_stays⟩ := c.def_ 3 (d := ⟨fun K => (He.ga K "_law_stays"), "_law_stays", "_law_stays", s__law_stays, false⟩) rfl
  exact ⟨_, fun_mk l__law_stays c__law_stays k__law_stays, (fun_mk (st := s__law_stays) l__law_stays c__law_stays k__law_stays).binds (ps := ["_law_bag_here", "_law_many"]) fun _ _ _ _ _ _ us hl => match us, hl with | [_, _], _ => rfl⟩
theorem mkf_g__law_one  {P : Program} {K : PySem.W.Frag} {h : Heap} {mg : Str → Option Value} (X : K.In h) (G : h.Ns mainGlobals mg) (c : SaysH fas fns K) (tp_s : (P.main.scope.names.lookup ("super" : Str)).isSome = false) (pF : P.main.file = flX) : mg "_law_one" = some (.ref (adsK K).f__law_one) := by
  letI : TabC := ⟨[]⟩
  have a__law_one : PySem.W.nsIn K mainGlobals "_law_one" = some (some (.ref (He.ga K "_law_one"))) := dok (c.fact 12 rfl)
  exact PySem.W.mg_of X G a__law_one
theorem mkf_d__law_one  {P : Program} {K : PySem.W.Frag} {h : Heap} {mg : Str → Option Value} (X : K.In h) (G : h.Ns mainGlobals mg) (c : SaysH fas fns K) (tp_s : (P.main.scope.names.lookup ("super" : Str)).isSome = false) (pF : P.main.file = flX) : Df K "_law_one" "_law_one" s__law_one (adsK K).f__law_one ["_law_bag_here", "_law_some"] := by
  letI : TabC := ⟨[]⟩
  obtain ⟨_, _, _, _, _, _, _, _, _, l__law_one, c__law_one, k__law_one⟩ := c.def_ 4 (d := ⟨fun K => (He.ga K "_law_one"), "_law_one", "_law_one", s__law_one, false⟩) rfl
  exact ⟨_, fun_mk l__law_one c__law_one k__law_one, (fun_mk (st := s__law_one) l__law_one c__law_one k__law_one).binds (ps := ["_law_bag_here", "_law_some"]) fun _ _ _ _ _ _ us hl => match us, hl with | [_, _], _ => rfl⟩
theorem mkf_g__law_odd  {P : Program} {K : PySem.W.Frag} {h : Heap} {mg : Str → Option Value} (X : K.In h) (G : h.Ns mainGlobals mg) (c : SaysH fas fns K) (tp_s : (P.main.scope.names.lookup ("super" : Str)).isSome = false) (pF : P.main.file = flX) : mg "_law_odd" = some (.ref (adsK K).f__law_odd) := by
  letI : TabC := ⟨[]⟩
  have a__law_odd : PySem.W.nsIn K mainGlobals "_law_odd" = some (some (.ref (He.ga K "_law_odd"))) := dok (c.fact 13 rfl)
  exact PySem.W.mg_of X G a__law_odd
theorem mkf_d__law_odd  {P : Program} {K : PySem.W.Frag} {h : Heap} {mg : Str → Option Value} (X : K.In h) (G : h.Ns mainGlobals mg) (c : SaysH fas fns K) (tp_s : (P.main.scope.names.lookup ("super" : Str)).isSome = false) (pF : P.main.file = flX) : Df K "_law_odd" "_law_odd" s__law_odd (adsK K).f__law_odd ["_law_bag_here"] := by
  letI : TabC := ⟨[]⟩
  obtain ⟨_, _, _, _, _, _, _, _, _, l__law_odd, c__law_odd, k__law_odd⟩ := c.def_ 5 (d := ⟨fun K => (He.ga K "_law_odd"), "_law_odd", "_law_odd", s__law_odd, false⟩) rfl
  exact ⟨_, fun_mk l__law_odd c__law_odd k__law_odd, (fun_mk (st := s__law_odd) l__law_odd c__law_odd k__law_odd).binds (ps := ["_law_bag_here"]) fun _ _ _ _ _ _ us hl => match us, hl with | [_], _ => rfl⟩
theorem mkf_g__law_is_whole  {P : Program} {K : PySem.W.Frag} {h : Heap} {mg : Str → Option Value} (X : K.In h) (G : h.Ns mainGlobals mg) (c : SaysH fas fns K) (tp_s : (P.main.scope.names.lookup ("super" : Str)).isSome = false) (pF : P.main.file = flX) : mg "_law_is_whole" = some (.ref (adsK K).f__law_is_whole) := by
  letI : TabC := ⟨[]⟩
  have a__law_is_whole : PySem.W.nsIn K mainGlobals "_law_is_whole" = some (some (.ref (He.ga K "_law_is_whole"))) := dok (c.fact 14 rfl)
  exact PySem.W.mg_of X G a__law_is_whole
theorem mkf_d__law_is_whole  {P : Program} {K : PySem.W.Frag} {h : Heap} {mg : Str → Option Value} (X : K.In h) (G : h.Ns mainGlobals mg) (c : SaysH fas fns K) (tp_s : (P.main.scope.names.lookup ("super" : Str)).isSome = false) (pF : P.main.file = flX) : Df K "_law_is_whole" "_law_is_whole" s__law_is_whole (adsK K).f__law_is_whole ["_law_thing"] := by
  letI : TabC := ⟨[]⟩
  obtain ⟨_, _, _, _, _, _, _, _, _, l__law_is_whole, c__law_is_whole, k__law_is_whole⟩ := c.def_ 6 (d := ⟨fun K => (He.ga K "_law_is_whole"), "_law_is_whole", "_law_is_whole", s__law_is_whole, false⟩) rfl
  exact ⟨_, fun_mk l__law_is_whole c__law_is_whole k__law_is_whole, (fun_mk (st := s__law_is_whole) l__law_is_whole c__law_is_whole k__law_is_whole).binds (ps := ["_law_thing"]) fun _ _ _ _ _ _ us hl => match us, hl with | [_], _ => rfl⟩
theorem mkf_g__law_spoilt  {P : Program} {K : PySem.W.Frag} {h : Heap} {mg : Str → Option Value} (X : K.In h) (G : h.Ns mainGlobals mg) (c : SaysH fas fns K) (tp_s : (P.main.scope.names.lookup ("super" : Str)).isSome = false) (pF : P.main.file = flX) : mg "_law_spoilt" = some (.ref (adsK K).f__law_spoilt) := by
  letI : TabC := ⟨[]⟩
  have a__law_spoilt : PySem.W.nsIn K mainGlobals "_law_spoilt" = some (some (.ref (He.ga K "_law_spoilt"))) := dok (c.fact 15 rfl)
  exact PySem.W.mg_of X G a__law_spoilt
theorem mkf_d__law_spoilt  {P : Program} {K : PySem.W.Frag} {h : Heap} {mg : Str → Option Value} (X : K.In h) (G : h.Ns mainGlobals mg) (c : SaysH fas fns K) (tp_s : (P.main.scope.names.lookup ("super" : Str)).isSome = false) (pF : P.main.file = flX) : Df K "_law_spoilt" "_law_spoilt" s__law_spoilt (adsK K).f__law_spoilt ["_law_bag_here", "_law_stays_here"] := by
  letI : TabC := ⟨[]⟩
  obtain ⟨_, _, _, _, _, _, _, _, _, l__law_spoilt, c__law_spoilt, k__law_spoilt⟩ := c.def_ 7 (d := ⟨fun K => (He.ga K "_law_spoilt"), "_law_spoilt", "_law_spoilt", s__law_spoilt, false⟩) rfl
  exact ⟨_, fun_mk l__law_spoilt c__law_spoilt k__law_spoilt, (fun_mk (st := s__law_spoilt) l__law_spoilt c__law_spoilt k__law_spoilt).binds (ps := ["_law_bag_here", "_law_stays_here"]) fun _ _ _ _ _ _ us hl => match us, hl with | [_, _], _ => rfl⟩
theorem mkf_m_Clock_stays  {P : Program} {K : PySem.W.Frag} {h : Heap} {mg : Str → Option Value} (X : K.In h) (G : h.Ns mainGlobals mg) (c : SaysH fas fns K) (tp_s : (P.main.scope.names.lookup ("super" : Str)).isSome = false) (pF : P.main.file = flX) : Meth K (adsK K).c_Clock "stays" (adsK K).f_Clock_stays := by
  letI : TabC := ⟨[]⟩
  have a_Clock_stays : PySem.W.findIn K (.ref (He.ga K "Clock")) "stays" = some (some (.ref (He.ma K (He.ga K "Clock") "stays"))) := dok (c.fact 16 rfl)
  have i_Clock_stays : PySem.W.isFn K (.ref (He.ma K (He.ga K "Clock") "stays")) = true := (c.fact 17 rfl)
  obtain ⟨_, _, _, _, _, _, _, _, _, l_Clock_stays, c_Clock_stays, k_Clock_stays⟩ := c.def_ 8 (d := ⟨fun K => (He.ma K (He.ga K "Clock") "stays"), "stays", "Clock.stays", s_Clock_stays, false⟩) rfl
  exact ⟨a_Clock_stays, i_Clock_stays, k_Clock_stays⟩
theorem mkf_d_Clock_stays  {P : Program} {K : PySem.W.Frag} {h : Heap} {mg : Str → Option Value} (X : K.In h) (G : h.Ns mainGlobals mg) (c : SaysH fas fns K) (tp_s : (P.main.scope.names.lookup ("super" : Str)).isSome = false) (pF : P.main.file = flX) : Df K "stays" "Clock.stays" s_Clock_stays (adsK K).f_Clock_stays ["self"] := by
  letI : TabC := ⟨[]⟩
  obtain ⟨_, _, _, _, _, _, _, _, _, l_Clock_stays, c_Clock_stays, k_Clock_stays⟩ := c.def_ 8 (d := ⟨fun K => (He.ma K (He.ga K "Clock") "stays"), "stays", "Clock.stays", s_Clock_stays, false⟩) rfl
  exact ⟨_, fun_mk l_Clock_stays c_Clock_stays k_Clock_stays, (fun_mk (st := s_Clock_stays) l_Clock_stays c_Clock_stays k_Clock_stays).binds (ps := ["self"]) fun _ _ _ _ _ _ us hl => match us, hl with | [_], _ => rfl⟩
theorem mkf_g_is_integer  {P : Program} {K : PySem.W.Frag} {h : Heap} {mg : Str → Option Value} (X : K.In h) (G : h.Ns mainGlobals mg) (c : SaysH fas fns K) (tp_s : (P.main.scope.names.lookup ("super" : Str)).isSome = false) (pF : P.main.file = flX) : mg "is_integer" = some (.ref (adsK K).f_is_integer) := by
  letI : TabC := ⟨[]⟩
  have a_is_integer : PySem.W.nsIn K mainGlobals "is_integer" = some (some (.ref (He.ga K "is_integer"))) := dok (c.fact 18 rfl)
  exact PySem.W.mg_of X G a_is_integer
theorem mkf_d_is_integer  {P : Program} {K : PySem.W.Frag} {h : Heap} {mg : Str → Option Value} (X : K.In h) (G : h.Ns mainGlobals mg) (c : SaysH fas fns K) (tp_s : (P.main.scope.names.lookup ("super" : Str)).isSome = false) (pF : P.main.file = flX) : Df K "is_integer" "is_integer" s_is_integer (adsK K).f_is_integer ["thing"] := by
  letI : TabC := ⟨[]⟩
  obtain ⟨_, _, _, _, _, _, _, _, _, l_is_integer, c_is_integer, k_is_integer⟩ := c.def_ 9 (d := ⟨fun K => (He.ga K "is_integer"), "is_integer", "is_integer", s_is_integer, false⟩) rfl
  exact ⟨_, fun_mk l_is_integer c_is_integer k_is_integer, (fun_mk (st := s_is_integer) l_is_integer c_is_integer k_is_integer).binds (ps := ["thing"]) fun _ _ _ _ _ _ us hl => match us, hl with | [_], _ => rfl⟩
theorem mkf_g_are_stays  {P : Program} {K : PySem.W.Frag} {h : Heap} {mg : Str → Option Value} (X : K.In h) (G : h.Ns mainGlobals mg) (c : SaysH fas fns K) (tp_s : (P.main.scope.names.lookup ("super" : Str)).isSome = false) (pF : P.main.file = flX) : mg "are_stays" = some (.ref (adsK K).f_are_stays) := by
  letI : TabC := ⟨[]⟩
  have a_are_stays : PySem.W.nsIn K mainGlobals "are_stays" = some (some (.ref (He.ga K "are_stays"))) := dok (c.fact 19 rfl)
  exact PySem.W.mg_of X G a_are_stays
theorem mkf_d_are_stays  {P : Program} {K : PySem.W.Frag} {h : Heap} {mg : Str → Option Value} (X : K.In h) (G : h.Ns mainGlobals mg) (c : SaysH fas fns K) (tp_s : (P.main.scope.names.lookup ("super" : Str)).isSome = false) (pF : P.main.file = flX) : Df K "are_stays" "are_stays" s_are_stays (adsK K).f_are_stays ["thing"] := by
  letI : TabC := ⟨[]⟩
  obtain ⟨_, _, _, _, _, _, _, _, _, l_are_stays, c_are_stays, k_are_stays⟩ := c.def_ 10 (d := ⟨fun K => (He.ga K "are_stays"), "are_stays", "are_stays", s_are_stays, false⟩) rfl
  exact ⟨_, fun_mk l_are_stays c_are_stays k_are_stays, (fun_mk (st := s_are_stays) l_are_stays c_are_stays k_are_stays).binds (ps := ["thing"]) fun _ _ _ _ _ _ us hl => match us, hl with | [_], _ => rfl⟩
theorem mkf_g_need_order  {P : Program} {K : PySem.W.Frag} {h : Heap} {mg : Str → Option Value} (X : K.In h) (G : h.Ns mainGlobals mg) (c : SaysH fas fns K) (tp_s : (P.main.scope.names.lookup ("super" : Str)).isSome = false) (pF : P.main.file = flX) : mg "need_order" = some (.ref (adsK K).f_need_order) := by
  letI : TabC := ⟨[]⟩
  have a_need_order : PySem.W.nsIn K mainGlobals "need_order" = some (some (.ref (He.ga K "need_order"))) := dok (c.fact 20 rfl)
  exact PySem.W.mg_of X G a_need_order
theorem mkf_d_need_order  {P : Program} {K : PySem.W.Frag} {h : Heap} {mg : Str → Option Value} (X : K.In h) (G : h.Ns mainGlobals mg) (c : SaysH fas fns K) (tp_s : (P.main.scope.names.lookup ("super" : Str)).isSome = false) (pF : P.main.file = flX) : Df K "need_order" "need_order" s_need_order (adsK K).f_need_order ["stays"] := by
  letI : TabC := ⟨[]⟩
  obtain ⟨_, _, _, _, _, _, _, _, _, l_need_order, c_need_order, k_need_order⟩ := c.def_ 11 (d := ⟨fun K => (He.ga K "need_order"), "need_order", "need_order", s_need_order, false⟩) rfl
  exact ⟨_, fun_mk l_need_order c_need_order k_need_order, (fun_mk (st := s_need_order) l_need_order c_need_order k_need_order).binds (ps := ["stays"]) fun _ _ _ _ _ _ us hl => match us, hl with | [_], _ => rfl⟩
theorem mkf_g_width_of  {P : Program} {K : PySem.W.Frag} {h : Heap} {mg : Str → Option Value} (X : K.In h) (G : h.Ns mainGlobals mg) (c : SaysH fas fns K) (tp_s : (P.main.scope.names.lookup ("super" : Str)).isSome = false) (pF : P.main.file = flX) : mg "width_of" = some (.ref (adsK K).f_width_of) := by
  letI : TabC := ⟨[]⟩
  have a_width_of : PySem.W.nsIn K mainGlobals "width_of" = some (some (.ref (He.ga K "width_of"))) := dok (c.fact 21 rfl)
  exact PySem.W.mg_of X G a_width_of
theorem mkf_d_width_of  {P : Program} {K : PySem.W.Frag} {h : Heap} {mg : Str → Option Value} (X : K.In h) (G : h.Ns mainGlobals mg) (c : SaysH fas fns K) (tp_s : (P.main.scope.names.lookup ("super" : Str)).isSome = false) (pF : P.main.file = flX) : Df K "width_of" "width_of" s_width_of (adsK K).f_width_of ["stays", "hour"] := by
  letI : TabC := ⟨[]⟩
  obtain ⟨_, _, _, _, _, _, _, _, _, l_width_of, c_width_of, k_width_of⟩ := c.def_ 12 (d := ⟨fun K => (He.ga K "width_of"), "width_of", "width_of", s_width_of, false⟩) rfl
  exact ⟨_, fun_mk l_width_of c_width_of k_width_of, (fun_mk (st := s_width_of) l_width_of c_width_of k_width_of).binds (ps := ["stays", "hour"]) fun _ _ _ _ _ _ us hl => match us, hl with | [_, _], _ => rfl⟩
theorem mkf_mk_Clock  {P : Program} {K : PySem.W.Frag} {h : Heap} {mg : Str → Option Value} (X : K.In h) (G : h.Ns mainGlobals mg) (c : SaysH fas fns K) (tp_s : (P.main.scope.names.lookup ("super" : Str)).isSome = false) (pF : P.main.file = flX) : Mk K (adsK K).c_Clock (adsK K).f_Clock___init__ := by
  letI : TabC := ⟨[]⟩
  have a_Clock___init__ : PySem.W.findIn K (.ref (He.ga K "Clock")) "__init__" = some (some (.ref (He.ma K (He.ga K "Clock") "__init__"))) := dok (c.fact 22 rfl)
  have i_Clock___init__ : PySem.W.isFn K (.ref (He.ma K (He.ga K "Clock") "__init__")) = true := (c.fact 23 rfl)
  have mm_Clock : PySem.W.makesIn K (He.ga K "Clock") = true := (c.fact 24 rfl)
  have mc_Clock : PySem.W.keepIn K (.ref (He.ga K "Clock")) = true := (c.fact 25 rfl)
  exact ⟨mm_Clock, a_Clock___init__, i_Clock___init__, mc_Clock⟩
theorem mkf_d_Clock___init__  {P : Program} {K : PySem.W.Frag} {h : Heap} {mg : Str → Option Value} (X : K.In h) (G : h.Ns mainGlobals mg) (c : SaysH fas fns K) (tp_s : (P.main.scope.names.lookup ("super" : Str)).isSome = false) (pF : P.main.file = flX) : Df K "__init__" "Clock.__init__" s_Clock___init__ (adsK K).f_Clock___init__ ["self", "stays"] := by
  letI : TabC := ⟨[]⟩
  obtain ⟨_, _, _, _, _, _, _, _, _, l_Clock___init__, c_Clock___init__, k_Clock___init__⟩ := c.def_ 13 (d := ⟨fun K => (He.ma K (He.ga K "Clock") "__init__"), "__init__", "Clock.__init__", s_Clock___init__, false⟩) rfl
  exact ⟨_, fun_mk l_Clock___init__ c_Clock___init__ k_Clock___init__, (fun_mk (st := s_Clock___init__) l_Clock___init__ c_Clock___init__ k_Clock___init__).binds (ps := ["self", "stays"]) fun _ _ _ _ _ _ us hl => match us, hl with | [_, _], _ => rfl⟩
theorem mkf_st_Clock_even  {P : Program} {K : PySem.W.Frag} {h : Heap} {mg : Str → Option Value} (X : K.In h) (G : h.Ns mainGlobals mg) (c : SaysH fas fns K) (tp_s : (P.main.scope.names.lookup ("super" : Str)).isSome = false) (pF : P.main.file = flX) : SMet K (adsK K).c_Clock (.type "type") "even" (adsK K).p_Clock_even (adsK K).f_Clock_even := by
  letI : TabC := ⟨[]⟩
  have sr_Clock_even : PySem.W.readsIn K (He.ga K "Clock") (.type "type") = true := (c.fact 26 rfl)
  have sg_Clock_even : PySem.W.specialIn K (.ref (He.ga K "Clock")) "__getattribute__" = some (some (.builtin "type.__getattribute__")) := dok (c.fact 27 rfl)
  have sa_Clock_even := stB_ok (c.fact 28 rfl)
  obtain ⟨_, sc_Clock_even⟩ := rcB_ok (c.fact 29 rfl)
  exact ⟨sr_Clock_even, sg_Clock_even, sa_Clock_even, ⟨_, sc_Clock_even⟩⟩
theorem mkf_d_Clock_even  {P : Program} {K : PySem.W.Frag} {h : Heap} {mg : Str → Option Value} (X : K.In h) (G : h.Ns mainGlobals mg) (c : SaysH fas fns K) (tp_s : (P.main.scope.names.lookup ("super" : Str)).isSome = false) (pF : P.main.file = flX) : Df K "even" "Clock.even" s_Clock_even (adsK K).f_Clock_even ["hours", "stay"] := by
  letI : TabC := ⟨[]⟩
  obtain ⟨_, _, _, _, _, _, _, _, _, l_Clock_even, c_Clock_even, k_Clock_even⟩ := c.def_ 14 (d := ⟨fun K => (rcA K (stA K (He.ga K "Clock") "even") "staticmethod"), "even", "Clock.even", s_Clock_even, false⟩) rfl
  exact ⟨_, fun_mk l_Clock_even c_Clock_even k_Clock_even, (fun_mk (st := s_Clock_even) l_Clock_even c_Clock_even k_Clock_even).binds (ps := ["hours", "stay"]) fun _ _ _ _ _ _ us hl => match us, hl with | [_, _], _ => rfl⟩
theorem mkf_g__law_caught  {P : Program} {K : PySem.W.Frag} {h : Heap} {mg : Str → Option Value} (X : K.In h) (G : h.Ns mainGlobals mg) (c : SaysH fas fns K) (tp_s : (P.main.scope.names.lookup ("super" : Str)).isSome = false) (pF : P.main.file = flX) : mg "_law_caught" = some (.ref (adsK K).f__law_caught) := by
  letI : TabC := ⟨[]⟩
  have a__law_caught : PySem.W.nsIn K mainGlobals "_law_caught" = some (some (.ref (He.ga K "_law_caught"))) := dok (c.fact 30 rfl)
  exact PySem.W.mg_of X G a__law_caught
theorem mkf_d__law_caught  {P : Program} {K : PySem.W.Frag} {h : Heap} {mg : Str → Option Value} (X : K.In h) (G : h.Ns mainGlobals mg) (c : SaysH fas fns K) (tp_s : (P.main.scope.names.lookup ("super" : Str)).isSome = false) (pF : P.main.file = flX) : Df K "_law_caught" "_law_caught" s__law_caught (adsK K).f__law_caught ["_law_error"] := by
  letI : TabC := ⟨[]⟩
  obtain ⟨_, _, _, _, _, _, _, _, _, l__law_caught, c__law_caught, k__law_caught⟩ := c.def_ 15 (d := ⟨fun K => (He.ga K "_law_caught"), "_law_caught", "_law_caught", s__law_caught, false⟩) rfl
  exact ⟨_, fun_mk l__law_caught c__law_caught k__law_caught, (fun_mk (st := s__law_caught) l__law_caught c__law_caught k__law_caught).binds (ps := ["_law_error"]) fun _ _ _ _ _ _ us hl => match us, hl with | [_], _ => rfl⟩
theorem mkf_g__law_tried  {P : Program} {K : PySem.W.Frag} {h : Heap} {mg : Str → Option Value} (X : K.In h) (G : h.Ns mainGlobals mg) (c : SaysH fas fns K) (tp_s : (P.main.scope.names.lookup ("super" : Str)).isSome = false) (pF : P.main.file = flX) : mg "_law_tried" = some (.ref (adsK K).f__law_tried) := by
  letI : TabC := ⟨[]⟩
  have a__law_tried : PySem.W.nsIn K mainGlobals "_law_tried" = some (some (.ref (He.ga K "_law_tried"))) := dok (c.fact 31 rfl)
  exact PySem.W.mg_of X G a__law_tried
theorem mkf_d__law_tried  {P : Program} {K : PySem.W.Frag} {h : Heap} {mg : Str → Option Value} (X : K.In h) (G : h.Ns mainGlobals mg) (c : SaysH fas fns K) (tp_s : (P.main.scope.names.lookup ("super" : Str)).isSome = false) (pF : P.main.file = flX) : Df K "_law_tried" "_law_tried" s__law_tried (adsK K).f__law_tried ["_law_way", "_law_one_here", "_law_other"] := by
  letI : TabC := ⟨[]⟩
  obtain ⟨_, _, _, _, _, _, _, _, _, l__law_tried, c__law_tried, k__law_tried⟩ := c.def_ 16 (d := ⟨fun K => (He.ga K "_law_tried"), "_law_tried", "_law_tried", s__law_tried, false⟩) rfl
  exact ⟨_, fun_mk l__law_tried c__law_tried k__law_tried, (fun_mk (st := s__law_tried) l__law_tried c__law_tried k__law_tried).binds (ps := ["_law_way", "_law_one_here", "_law_other"]) fun _ _ _ _ _ _ us hl => match us, hl with | [_, _, _], _ => rfl⟩
theorem mkf_g__law_first_over  {P : Program} {K : PySem.W.Frag} {h : Heap} {mg : Str → Option Value} (X : K.In h) (G : h.Ns mainGlobals mg) (c : SaysH fas fns K) (tp_s : (P.main.scope.names.lookup ("super" : Str)).isSome = false) (pF : P.main.file = flX) : mg "_law_first_over" = some (.ref (adsK K).f__law_first_over) := by
  letI : TabC := ⟨[]⟩
  have a__law_first_over : PySem.W.nsIn K mainGlobals "_law_first_over" = some (some (.ref (He.ga K "_law_first_over"))) := dok (c.fact 32 rfl)
  exact PySem.W.mg_of X G a__law_first_over
theorem mkf_d__law_first_over  {P : Program} {K : PySem.W.Frag} {h : Heap} {mg : Str → Option Value} (X : K.In h) (G : h.Ns mainGlobals mg) (c : SaysH fas fns K) (tp_s : (P.main.scope.names.lookup ("super" : Str)).isSome = false) (pF : P.main.file = flX) : Df K "_law_first_over" "_law_first_over" s__law_first_over (adsK K).f__law_first_over ["_law_stays_here"] := by
  letI : TabC := ⟨[]⟩
  obtain ⟨_, _, _, _, _, _, _, _, _, l__law_first_over, c__law_first_over, k__law_first_over⟩ := c.def_ 17 (d := ⟨fun K => (He.ga K "_law_first_over"), "_law_first_over", "_law_first_over", s__law_first_over, false⟩) rfl
  exact ⟨_, fun_mk l__law_first_over c__law_first_over k__law_first_over, (fun_mk (st := s__law_first_over) l__law_first_over c__law_first_over k__law_first_over).binds (ps := ["_law_stays_here"]) fun _ _ _ _ _ _ us hl => match us, hl with | [_], _ => rfl⟩
theorem mkf_g__law_due  {P : Program} {K : PySem.W.Frag} {h : Heap} {mg : Str → Option Value} (X : K.In h) (G : h.Ns mainGlobals mg) (c : SaysH fas fns K) (tp_s : (P.main.scope.names.lookup ("super" : Str)).isSome = false) (pF : P.main.file = flX) : mg "_law_due" = some (.ref (adsK K).f__law_due) := by
  letI : TabC := ⟨[]⟩
  have a__law_due : PySem.W.nsIn K mainGlobals "_law_due" = some (some (.ref (He.ga K "_law_due"))) := dok (c.fact 33 rfl)
  exact PySem.W.mg_of X G a__law_due
theorem mkf_d__law_due  {P : Program} {K : PySem.W.Frag} {h : Heap} {mg : Str → Option Value} (X : K.In h) (G : h.Ns mainGlobals mg) (c : SaysH fas fns K) (tp_s : (P.main.scope.names.lookup ("super" : Str)).isSome = false) (pF : P.main.file = flX) : Df K "_law_due" "_law_due" s__law_due (adsK K).f__law_due ["_law_thing"] := by
  letI : TabC := ⟨[]⟩
  obtain ⟨_, _, _, _, _, _, _, _, _, l__law_due, c__law_due, k__law_due⟩ := c.def_ 18 (d := ⟨fun K => (He.ga K "_law_due"), "_law_due", "_law_due", s__law_due, false⟩) rfl
  exact ⟨_, fun_mk l__law_due c__law_due k__law_due, (fun_mk (st := s__law_due) l__law_due c__law_due k__law_due).binds (ps := ["_law_thing"]) fun _ _ _ _ _ _ us hl => match us, hl with | [_], _ => rfl⟩
theorem mkf_g__law_is_hour  {P : Program} {K : PySem.W.Frag} {h : Heap} {mg : Str → Option Value} (X : K.In h) (G : h.Ns mainGlobals mg) (c : SaysH fas fns K) (tp_s : (P.main.scope.names.lookup ("super" : Str)).isSome = false) (pF : P.main.file = flX) : mg "_law_is_hour" = some (.ref (adsK K).f__law_is_hour) := by
  letI : TabC := ⟨[]⟩
  have a__law_is_hour : PySem.W.nsIn K mainGlobals "_law_is_hour" = some (some (.ref (He.ga K "_law_is_hour"))) := dok (c.fact 34 rfl)
  exact PySem.W.mg_of X G a__law_is_hour
theorem mkf_d__law_is_hour  {P : Program} {K : PySem.W.Frag} {h : Heap} {mg : Str → Option Value} (X : K.In h) (G : h.Ns mainGlobals mg) (c : SaysH fas fns K) (tp_s : (P.main.scope.names.lookup ("super" : Str)).isSome = false) (pF : P.main.file = flX) : Df K "_law_is_hour" "_law_is_hour" s__law_is_hour (adsK K).f__law_is_hour ["_law_many", "_law_thing"] := by
  letI : TabC := ⟨[]⟩
  obtain ⟨_, _, _, _, _, _, _, _, _, l__law_is_hour, c__law_is_hour, k__law_is_hour⟩ := c.def_ 19 (d := ⟨fun K => (He.ga K "_law_is_hour"), "_law_is_hour", "_law_is_hour", s__law_is_hour, false⟩) rfl
  exact ⟨_, fun_mk l__law_is_hour c__law_is_hour k__law_is_hour, (fun_mk (st := s__law_is_hour) l__law_is_hour c__law_is_hour k__law_is_hour).binds (ps := ["_law_many", "_law_thing"]) fun _ _ _ _ _ _ us hl => match us, hl with | [_, _], _ => rfl⟩
theorem mkf_g_is_hour  {P : Program} {K : PySem.W.Frag} {h : Heap} {mg : Str → Option Value} (X : K.In h) (G : h.Ns mainGlobals mg) (c : SaysH fas fns K) (tp_s : (P.main.scope.names.lookup ("super" : Str)).isSome = false) (pF : P.main.file = flX) : mg "is_hour" = some (.ref (adsK K).f_is_hour) := by
  letI : TabC := ⟨[]⟩
  have a_is_hour : PySem.W.nsIn K mainGlobals "is_hour" = some (some (.ref (He.ga K "is_hour"))) := dok (c.fact 35 rfl)
  exact PySem.W.mg_of X G a_is_hour
theorem mkf_d_is_hour  {P : Program} {K : PySem.W.Frag} {h : Heap} {mg : Str → Option Value} (X : K.In h) (G : h.Ns mainGlobals mg) (c : SaysH fas fns K) (tp_s : (P.main.scope.names.lookup ("super" : Str)).isSome = false) (pF : P.main.file = flX) : Df K "is_hour" "is_hour" s_is_hour (adsK K).f_is_hour ["hours", "thing"] := by
  letI : TabC := ⟨[]⟩
  obtain ⟨_, _, _, _, _, _, _, _, _, l_is_hour, c_is_hour, k_is_hour⟩ := c.def_ 20 (d := ⟨fun K => (He.ga K "is_hour"), "is_hour", "is_hour", s_is_hour, false⟩) rfl
  exact ⟨_, fun_mk l_is_hour c_is_hour k_is_hour, (fun_mk (st := s_is_hour) l_is_hour c_is_hour k_is_hour).binds (ps := ["hours", "thing"]) fun _ _ _ _ _ _ us hl => match us, hl with | [_, _], _ => rfl⟩
theorem mkf_p_Clock_hours  {P : Program} {K : PySem.W.Frag} {h : Heap} {mg : Str → Option Value} (X : K.In h) (G : h.Ns mainGlobals mg) (c : SaysH fas fns K) (tp_s : (P.main.scope.names.lookup ("super" : Str)).isSome = false) (pF : P.main.file = flX) : PropOf K (adsK K).c_Clock "hours" (adsK K).q_Clock_hours (adsK K).f_Clock_hours := by
  letI : TabC := ⟨[]⟩
  have pa_Clock_hours : PySem.W.findIn K (.ref (He.ga K "Clock")) "hours" = some (some (.ref (He.ma K (He.ga K "Clock") "hours"))) := dok (c.fact 36 rfl)
  have pb_Clock_hours : PySem.W.specialIn K (.ref (He.ma K (He.ga K "Clock") "hours")) "__get__" = some (some (.builtin "property.__get__")) := dok (c.fact 37 rfl)
  have pc_Clock_hours : PySem.W.takesIn K (.ref (He.ma K (He.ga K "Clock") "hours")) = some true := dok (c.fact 38 rfl)
  obtain ⟨_, pd_Clock_hours⟩ := rcB_ok (c.fact 39 rfl)
  exact ⟨pa_Clock_hours, pb_Clock_hours, pc_Clock_hours, ⟨_, pd_Clock_hours⟩⟩
theorem mkf_d_Clock_hours  {P : Program} {K : PySem.W.Frag} {h : Heap} {mg : Str → Option Value} (X : K.In h) (G : h.Ns mainGlobals mg) (c : SaysH fas fns K) (tp_s : (P.main.scope.names.lookup ("super" : Str)).isSome = false) (pF : P.main.file = flX) : Df K "hours" "Clock.hours" s_Clock_hours (adsK K).f_Clock_hours ["self"] := by
  letI : TabC := ⟨[]⟩
  obtain ⟨_, _, _, _, _, _, _, _, _, l_Clock_hours, c_Clock_hours, k_Clock_hours⟩ := c.def_ 21 (d := ⟨fun K => (rcA K (He.ma K (He.ga K "Clock") "hours") "property"), "hours", "Clock.hours", s_Clock_hours, false⟩) rfl
  exact ⟨_, fun_mk l_Clock_hours c_Clock_hours k_Clock_hours, (fun_mk (st := s_Clock_hours) l_Clock_hours c_Clock_hours k_Clock_hours).binds (ps := ["self"]) fun _ _ _ _ _ _ us hl => match us, hl with | [_], _ => rfl⟩
theorem mkf_m_Clock_with_stay  {P : Program} {K : PySem.W.Frag} {h : Heap} {mg : Str → Option Value} (X : K.In h) (G : h.Ns mainGlobals mg) (c : SaysH fas fns K) (tp_s : (P.main.scope.names.lookup ("super" : Str)).isSome = false) (pF : P.main.file = flX) : Meth K (adsK K).c_Clock "with_stay" (adsK K).f_Clock_with_stay := by
  letI : TabC := ⟨[]⟩
  have a_Clock_with_stay : PySem.W.findIn K (.ref (He.ga K "Clock")) "with_stay" = some (some (.ref (He.ma K (He.ga K "Clock") "with_stay"))) := dok (c.fact 40 rfl)
  have i_Clock_with_stay : PySem.W.isFn K (.ref (He.ma K (He.ga K "Clock") "with_stay")) = true := (c.fact 41 rfl)
  obtain ⟨_, _, _, _, _, _, _, _, _, l_Clock_with_stay, c_Clock_with_stay, k_Clock_with_stay⟩ := c.def_ 22 (d := ⟨fun K => (He.ma K (He.ga K "Clock") "with_stay"), "with_stay", "Clock.with_stay", s_Clock_with_stay, false⟩) rfl
  exact ⟨a_Clock_with_stay, i_Clock_with_stay, k_Clock_with_stay⟩
theorem mkf_d_Clock_with_stay  {P : Program} {K : PySem.W.Frag} {h : Heap} {mg : Str → Option Value} (X : K.In h) (G : h.Ns mainGlobals mg) (c : SaysH fas fns K) (tp_s : (P.main.scope.names.lookup ("super" : Str)).isSome = false) (pF : P.main.file = flX) : Df K "with_stay" "Clock.with_stay" s_Clock_with_stay (adsK K).f_Clock_with_stay ["self", "hour", "stay"] := by
  letI : TabC := ⟨[]⟩
  obtain ⟨_, _, _, _, _, _, _, _, _, l_Clock_with_stay, c_Clock_with_stay, k_Clock_with_stay⟩ := c.def_ 22 (d := ⟨fun K => (He.ma K (He.ga K "Clock") "with_stay"), "with_stay", "Clock.with_stay", s_Clock_with_stay, false⟩) rfl
  exact ⟨_, fun_mk l_Clock_with_stay c_Clock_with_stay k_Clock_with_stay, (fun_mk (st := s_Clock_with_stay) l_Clock_with_stay c_Clock_with_stay k_Clock_with_stay).binds (ps := ["self", "hour", "stay"]) fun _ _ _ _ _ _ us hl => match us, hl with | [_, _, _], _ => rfl⟩
theorem mkf_g__law_changed  {P : Program} {K : PySem.W.Frag} {h : Heap} {mg : Str → Option Value} (X : K.In h) (G : h.Ns mainGlobals mg) (c : SaysH fas fns K) (tp_s : (P.main.scope.names.lookup ("super" : Str)).isSome = false) (pF : P.main.file = flX) : mg "_law_changed" = some (.ref (adsK K).f__law_changed) := by
  letI : TabC := ⟨[]⟩
  have a__law_changed : PySem.W.nsIn K mainGlobals "_law_changed" = some (some (.ref (He.ga K "_law_changed"))) := dok (c.fact 42 rfl)
  exact PySem.W.mg_of X G a__law_changed
theorem mkf_d__law_changed  {P : Program} {K : PySem.W.Frag} {h : Heap} {mg : Str → Option Value} (X : K.In h) (G : h.Ns mainGlobals mg) (c : SaysH fas fns K) (tp_s : (P.main.scope.names.lookup ("super" : Str)).isSome = false) (pF : P.main.file = flX) : Df K "_law_changed" "_law_changed" s__law_changed (adsK K).f__law_changed ["_law_clock", "_law_hour", "_law_stay"] := by
  letI : TabC := ⟨[]⟩
  obtain ⟨_, _, _, _, _, _, _, _, _, l__law_changed, c__law_changed, k__law_changed⟩ := c.def_ 23 (d := ⟨fun K => (He.ga K "_law_changed"), "_law_changed", "_law_changed", s__law_changed, false⟩) rfl
  exact ⟨_, fun_mk l__law_changed c__law_changed k__law_changed, (fun_mk (st := s__law_changed) l__law_changed c__law_changed k__law_changed).binds (ps := ["_law_clock", "_law_hour", "_law_stay"]) fun _ _ _ _ _ _ us hl => match us, hl with | [_, _, _], _ => rfl⟩
theorem mkf_g__law_stay_right  {P : Program} {K : PySem.W.Frag} {h : Heap} {mg : Str → Option Value} (X : K.In h) (G : h.Ns mainGlobals mg) (c : SaysH fas fns K) (tp_s : (P.main.scope.names.lookup ("super" : Str)).isSome = false) (pF : P.main.file = flX) : mg "_law_stay_right" = some (.ref (adsK K).f__law_stay_right) := by
  letI : TabC := ⟨[]⟩
  have a__law_stay_right : PySem.W.nsIn K mainGlobals "_law_stay_right" = some (some (.ref (He.ga K "_law_stay_right"))) := dok (c.fact 43 rfl)
  exact PySem.W.mg_of X G a__law_stay_right
theorem mkf_d__law_stay_right  {P : Program} {K : PySem.W.Frag} {h : Heap} {mg : Str → Option Value} (X : K.In h) (G : h.Ns mainGlobals mg) (c : SaysH fas fns K) (tp_s : (P.main.scope.names.lookup ("super" : Str)).isSome = false) (pF : P.main.file = flX) : Df K "_law_stay_right" "_law_stay_right" s__law_stay_right (adsK K).f__law_stay_right ["_law_bag_here", "_law_clock", "_law_stays_here", "_law_hour", "_law_stay"] := by
  letI : TabC := ⟨[]⟩
  obtain ⟨_, _, _, _, _, _, _, _, _, l__law_stay_right, c__law_stay_right, k__law_stay_right⟩ := c.def_ 24 (d := ⟨fun K => (He.ga K "_law_stay_right"), "_law_stay_right", "_law_stay_right", s__law_stay_right, false⟩) rfl
  exact ⟨_, fun_mk l__law_stay_right c__law_stay_right k__law_stay_right, (fun_mk (st := s__law_stay_right) l__law_stay_right c__law_stay_right k__law_stay_right).binds (ps := ["_law_bag_here", "_law_clock", "_law_stays_here", "_law_hour", "_law_stay"]) fun _ _ _ _ _ _ us hl => match us, hl with | [_, _, _, _, _], _ => rfl⟩
theorem mkf_g__law_even_due  {P : Program} {K : PySem.W.Frag} {h : Heap} {mg : Str → Option Value} (X : K.In h) (G : h.Ns mainGlobals mg) (c : SaysH fas fns K) (tp_s : (P.main.scope.names.lookup ("super" : Str)).isSome = false) (pF : P.main.file = flX) : mg "_law_even_due" = some (.ref (adsK K).f__law_even_due) := by
  letI : TabC := ⟨[]⟩
  have a__law_even_due : PySem.W.nsIn K mainGlobals "_law_even_due" = some (some (.ref (He.ga K "_law_even_due"))) := dok (c.fact 44 rfl)
  exact PySem.W.mg_of X G a__law_even_due
theorem mkf_d__law_even_due  {P : Program} {K : PySem.W.Frag} {h : Heap} {mg : Str → Option Value} (X : K.In h) (G : h.Ns mainGlobals mg) (c : SaysH fas fns K) (tp_s : (P.main.scope.names.lookup ("super" : Str)).isSome = false) (pF : P.main.file = flX) : Df K "_law_even_due" "_law_even_due" s__law_even_due (adsK K).f__law_even_due ["_law_one_here", "_law_other"] := by
  letI : TabC := ⟨[]⟩
  obtain ⟨_, _, _, _, _, _, _, _, _, l__law_even_due, c__law_even_due, k__law_even_due⟩ := c.def_ 25 (d := ⟨fun K => (He.ga K "_law_even_due"), "_law_even_due", "_law_even_due", s__law_even_due, false⟩) rfl
  exact ⟨_, fun_mk l__law_even_due c__law_even_due k__law_even_due, (fun_mk (st := s__law_even_due) l__law_even_due c__law_even_due k__law_even_due).binds (ps := ["_law_one_here", "_law_other"]) fun _ _ _ _ _ _ us hl => match us, hl with | [_, _], _ => rfl⟩
theorem mkf_d_law  {P : Program} {K : PySem.W.Frag} {h : Heap} {mg : Str → Option Value} (X : K.In h) (G : h.Ns mainGlobals mg) (c : SaysH fas fns K) (tp_s : (P.main.scope.names.lookup ("super" : Str)).isSome = false) (pF : P.main.file = flX) : Df K "law" "law" s_law (adsK K).f_law ["_law_script"] := by
  letI : TabC := ⟨[]⟩
  obtain ⟨_, _, _, _, _, _, _, _, _, l_law, c_law, k_law⟩ := c.def_ 26 (d := ⟨fun K => (He.ga K "law"), "law", "law", s_law, false⟩) rfl
  exact ⟨_, fun_mk l_law c_law k_law, (fun_mk (st := s_law) l_law c_law k_law).binds (ps := ["_law_script"]) fun _ _ _ _ _ _ us hl => match us, hl with | [_], _ => rfl⟩
theorem mkf_z_abs  {P : Program} {K : PySem.W.Frag} {h : Heap} {mg : Str → Option Value} (X : K.In h) (G : h.Ns mainGlobals mg) (c : SaysH fas fns K) (tp_s : (P.main.scope.names.lookup ("super" : Str)).isSome = false) (pF : P.main.file = flX) : mg "abs" = none := by
  letI : TabC := ⟨[]⟩
  have z_abs : PySem.W.nsIn K mainGlobals "abs" = some none := dok (c.fact 46 rfl)
  exact PySem.W.mg_none_of X G z_abs
theorem mkf_z_all  {P : Program} {K : PySem.W.Frag} {h : Heap} {mg : Str → Option Value} (X : K.In h) (G : h.Ns mainGlobals mg) (c : SaysH fas fns K) (tp_s : (P.main.scope.names.lookup ("super" : Str)).isSome = false) (pF : P.main.file = flX) : mg "all" = none := by
  letI : TabC := ⟨[]⟩
  have z_all : PySem.W.nsIn K mainGlobals "all" = some none := dok (c.fact 47 rfl)
  exact PySem.W.mg_none_of X G z_all
theorem mkf_z_bool  {P : Program} {K : PySem.W.Frag} {h : Heap} {mg : Str → Option Value} (X : K.In h) (G : h.Ns mainGlobals mg) (c : SaysH fas fns K) (tp_s : (P.main.scope.names.lookup ("super" : Str)).isSome = false) (pF : P.main.file = flX) : mg "bool" = none := by
  letI : TabC := ⟨[]⟩
  have z_bool : PySem.W.nsIn K mainGlobals "bool" = some none := dok (c.fact 48 rfl)
  exact PySem.W.mg_none_of X G z_bool
theorem mkf_z_enumerate  {P : Program} {K : PySem.W.Frag} {h : Heap} {mg : Str → Option Value} (X : K.In h) (G : h.Ns mainGlobals mg) (c : SaysH fas fns K) (tp_s : (P.main.scope.names.lookup ("super" : Str)).isSome = false) (pF : P.main.file = flX) : mg "enumerate" = none := by
  letI : TabC := ⟨[]⟩
  have z_enumerate : PySem.W.nsIn K mainGlobals "enumerate" = some none := dok (c.fact 49 rfl)
  exact PySem.W.mg_none_of X G z_enumerate
theorem mkf_z_int  {P : Program} {K : PySem.W.Frag} {h : Heap} {mg : Str → Option Value} (X : K.In h) (G : h.Ns mainGlobals mg) (c : SaysH fas fns K) (tp_s : (P.main.scope.names.lookup ("super" : Str)).isSome = false) (pF : P.main.file = flX) : mg "int" = none := by
  letI : TabC := ⟨[]⟩
  have z_int : PySem.W.nsIn K mainGlobals "int" = some none := dok (c.fact 50 rfl)
  exact PySem.W.mg_none_of X G z_int
theorem mkf_z_isinstance  {P : Program} {K : PySem.W.Frag} {h : Heap} {mg : Str → Option Value} (X : K.In h) (G : h.Ns mainGlobals mg) (c : SaysH fas fns K) (tp_s : (P.main.scope.names.lookup ("super" : Str)).isSome = false) (pF : P.main.file = flX) : mg "isinstance" = none := by
  letI : TabC := ⟨[]⟩
  have z_isinstance : PySem.W.nsIn K mainGlobals "isinstance" = some none := dok (c.fact 51 rfl)
  exact PySem.W.mg_none_of X G z_isinstance
theorem mkf_z_len  {P : Program} {K : PySem.W.Frag} {h : Heap} {mg : Str → Option Value} (X : K.In h) (G : h.Ns mainGlobals mg) (c : SaysH fas fns K) (tp_s : (P.main.scope.names.lookup ("super" : Str)).isSome = false) (pF : P.main.file = flX) : mg "len" = none := by
  letI : TabC := ⟨[]⟩
  have z_len : PySem.W.nsIn K mainGlobals "len" = some none := dok (c.fact 52 rfl)
  exact PySem.W.mg_none_of X G z_len
theorem mkf_z_list  {P : Program} {K : PySem.W.Frag} {h : Heap} {mg : Str → Option Value} (X : K.In h) (G : h.Ns mainGlobals mg) (c : SaysH fas fns K) (tp_s : (P.main.scope.names.lookup ("super" : Str)).isSome = false) (pF : P.main.file = flX) : mg "list" = none := by
  letI : TabC := ⟨[]⟩
  have z_list : PySem.W.nsIn K mainGlobals "list" = some none := dok (c.fact 53 rfl)
  exact PySem.W.mg_none_of X G z_list
theorem mkf_z_max  {P : Program} {K : PySem.W.Frag} {h : Heap} {mg : Str → Option Value} (X : K.In h) (G : h.Ns mainGlobals mg) (c : SaysH fas fns K) (tp_s : (P.main.scope.names.lookup ("super" : Str)).isSome = false) (pF : P.main.file = flX) : mg "max" = none := by
  letI : TabC := ⟨[]⟩
  have z_max : PySem.W.nsIn K mainGlobals "max" = some none := dok (c.fact 54 rfl)
  exact PySem.W.mg_none_of X G z_max
theorem mkf_z_min  {P : Program} {K : PySem.W.Frag} {h : Heap} {mg : Str → Option Value} (X : K.In h) (G : h.Ns mainGlobals mg) (c : SaysH fas fns K) (tp_s : (P.main.scope.names.lookup ("super" : Str)).isSome = false) (pF : P.main.file = flX) : mg "min" = none := by
  letI : TabC := ⟨[]⟩
  have z_min : PySem.W.nsIn K mainGlobals "min" = some none := dok (c.fact 55 rfl)
  exact PySem.W.mg_none_of X G z_min
theorem mkf_z_range  {P : Program} {K : PySem.W.Frag} {h : Heap} {mg : Str → Option Value} (X : K.In h) (G : h.Ns mainGlobals mg) (c : SaysH fas fns K) (tp_s : (P.main.scope.names.lookup ("super" : Str)).isSome = false) (pF : P.main.file = flX) : mg "range" = none := by
  letI : TabC := ⟨[]⟩
  have z_range : PySem.W.nsIn K mainGlobals "range" = some none := dok (c.fact 56 rfl)
  exact PySem.W.mg_none_of X G z_range
theorem mkf_z_repr  {P : Program} {K : PySem.W.Frag} {h : Heap} {mg : Str → Option Value} (X : K.In h) (G : h.Ns mainGlobals mg) (c : SaysH fas fns K) (tp_s : (P.main.scope.names.lookup ("super" : Str)).isSome = false) (pF : P.main.file = flX) : mg "repr" = none := by
  letI : TabC := ⟨[]⟩
  have z_repr : PySem.W.nsIn K mainGlobals "repr" = some none := dok (c.fact 57 rfl)
  exact PySem.W.mg_none_of X G z_repr
theorem mkf_z_tuple  {P : Program} {K : PySem.W.Frag} {h : Heap} {mg : Str → Option Value} (X : K.In h) (G : h.Ns mainGlobals mg) (c : SaysH fas fns K) (tp_s : (P.main.scope.names.lookup ("super" : Str)).isSome = false) (pF : P.main.file = flX) : mg "tuple" = none := by
  letI : TabC := ⟨[]⟩
  have z_tuple : PySem.W.nsIn K mainGlobals "tuple" = some none := dok (c.fact 58 rfl)
  exact PySem.W.mg_none_of X G z_tuple
theorem mkf_k_MOST_HOURS  {P : Program} {K : PySem.W.Frag} {h : Heap} {mg : Str → Option Value} (X : K.In h) (G : h.Ns mainGlobals mg) (c : SaysH fas fns K) (tp_s : (P.main.scope.names.lookup ("super" : Str)).isSome = false) (pF : P.main.file = flX) : ∃ t : Tok, mg "MOST_HOURS" = some (.int 48 t) := by
  letI : TabC := ⟨[]⟩
  obtain ⟨_, k_MOST_HOURS⟩ := itB_ok (c.fact 59 rfl)
  exact ⟨_, PySem.W.mg_of X G k_MOST_HOURS⟩
theorem mkf_ic_Clock  {P : Program} {K : PySem.W.Frag} {h : Heap} {mg : Str → Option Value} (X : K.In h) (G : h.Ns mainGlobals mg) (c : SaysH fas fns K) (tp_s : (P.main.scope.names.lookup ("super" : Str)).isSome = false) (pF : P.main.file = flX) : IsC K (adsK K).c_Clock := by
  letI : TabC := ⟨[]⟩
  have pg_Clock : PySem.W.plainGet K (He.ga K "Clock") Str.empty = true := (c.fact 1 rfl)
  have hd_Clock : PySem.W.hasDictIn K (He.ga K "Clock") = true := (c.fact 2 rfl)
  have po_Clock : PySem.W.plainOver K (He.ga K "Clock") = true := (c.fact 3 rfl)
  have sa_Clock : PySem.W.findIn K (.ref (He.ga K "Clock")) "__setattr__" = some (some (.builtin "object.__setattr__")) := dok (c.fact 4 rfl)
  have ia_Clock : PySem.W.findIn K (.ref (He.ga K "Clock")) "__class__" = some (some (.builtin "object.__class__")) := dok (c.fact 60 rfl)
  have gn_obj : PySem.W.specialIn K (.builtin "object.__class__") "__get__" = some (some (.builtin "getset_descriptor.__get__")) := dok (c.fact 61 rfl)
  have tk_obj : PySem.W.takesIn K (.builtin "object.__class__") = some true := dok (c.fact 62 rfl)
  have im_Clock : PySem.W.mroIn K (He.ga K "Clock") (.type "object") = some true := dok (c.fact 63 rfl)
  exact ⟨⟨pg_Clock, hd_Clock, po_Clock, sa_Clock⟩, ia_Clock, gn_obj, tk_obj, im_Clock⟩
theorem mkf_kx_Clock_int  {P : Program} {K : PySem.W.Frag} {h : Heap} {mg : Str → Option Value} (X : K.In h) (G : h.Ns mainGlobals mg) (c : SaysH fas fns K) (tp_s : (P.main.scope.names.lookup ("super" : Str)).isSome = false) (pF : P.main.file = flX) : PySem.W.kitOne K (.ref (adsK K).c_Clock) (.type "int") = some false := by
  letI : TabC := ⟨[]⟩
  have kx_Clock_int : PySem.W.kitOne K (.ref (He.ga K "Clock")) (.type "int") = some false := dok (c.fact 64 rfl)
  exact kx_Clock_int
theorem mkf_kx_Clock_list  {P : Program} {K : PySem.W.Frag} {h : Heap} {mg : Str → Option Value} (X : K.In h) (G : h.Ns mainGlobals mg) (c : SaysH fas fns K) (tp_s : (P.main.scope.names.lookup ("super" : Str)).isSome = false) (pF : P.main.file = flX) : PySem.W.kitOne K (.ref (adsK K).c_Clock) (.type "list") = some false := by
  letI : TabC := ⟨[]⟩
  have kx_Clock_list : PySem.W.kitOne K (.ref (He.ga K "Clock")) (.type "list") = some false := dok (c.fact 65 rfl)
  exact kx_Clock_list
theorem mkf_kx_Clock_tuple  {P : Program} {K : PySem.W.Frag} {h : Heap} {mg : Str → Option Value} (X : K.In h) (G : h.Ns mainGlobals mg) (c : SaysH fas fns K) (tp_s : (P.main.scope.names.lookup ("super" : Str)).isSome = false) (pF : P.main.file = flX) : PySem.W.kitOne K (.ref (adsK K).c_Clock) (.type "tuple") = some false := by
  letI : TabC := ⟨[]⟩
  have kx_Clock_tuple : PySem.W.kitOne K (.ref (He.ga K "Clock")) (.type "tuple") = some false := dok (c.fact 66 rfl)
  exact kx_Clock_tuple
theorem mkf_sm  {P : Program} {K : PySem.W.Frag} {h : Heap} {mg : Str → Option Value} (X : K.In h) (G : h.Ns mainGlobals mg) (c : SaysH fas fns K) (tp_s : (P.main.scope.names.lookup ("super" : Str)).isSome = false) (pF : P.main.file = flX) : Wx.smB K = true := by
  letI : TabC := ⟨[]⟩
  have sm : Wx.smB K = true := (c.fact 67 rfl)
  exact sm
theorem mkf_g_NeedError  {P : Program} {K : PySem.W.Frag} {h : Heap} {mg : Str → Option Value} (X : K.In h) (G : h.Ns mainGlobals mg) (c : SaysH fas fns K) (tp_s : (P.main.scope.names.lookup ("super" : Str)).isSome = false) (pF : P.main.file = flX) : mg "NeedError" = some (.ref (adsK K).c_NeedError) := by
  letI : TabC := ⟨[]⟩
  have ba_n : PySem.W.nsIn K mainGlobals "NeedError" = some (some (.ref (He.ga K "NeedError"))) := dok (c.fact 68 rfl)
  exact PySem.W.mg_of X G ba_n
theorem mkf_g_NoHour  {P : Program} {K : PySem.W.Frag} {h : Heap} {mg : Str → Option Value} (X : K.In h) (G : h.Ns mainGlobals mg) (c : SaysH fas fns K) (tp_s : (P.main.scope.names.lookup ("super" : Str)).isSome = false) (pF : P.main.file = flX) : mg "NoHour" = some (.ref (adsK K).c_NoHour) := by
  letI : TabC := ⟨[]⟩
  have ea_NoHour : PySem.W.nsIn K mainGlobals "NoHour" = some (some (.ref (He.ga K "NoHour"))) := dok (c.fact 74 rfl)
  exact PySem.W.mg_of X G ea_NoHour
theorem mkf_er_NoHour  {P : Program} {K : PySem.W.Frag} {h : Heap} {mg : Str → Option Value} (X : K.In h) (G : h.Ns mainGlobals mg) (c : SaysH fas fns K) (tp_s : (P.main.scope.names.lookup ("super" : Str)).isSome = false) (pF : P.main.file = flX) : ErrC P K mg "NoHour" "hour" (adsK K).c_NoHour (adsK K).fi_NoHour := by
  letI : TabC := ⟨[]⟩
  have noT : PySem.W.nsIn K cStatics "thirdparty.any" = some none := dok (c.fact 72 rfl)
  have z_super : PySem.W.nsIn K mainGlobals "super" = some none := dok (c.fact 73 rfl)
  have ea_NoHour : PySem.W.nsIn K mainGlobals "NoHour" = some (some (.ref (He.ga K "NoHour"))) := dok (c.fact 74 rfl)
  obtain ⟨_, _, _, _, _, _, _, _, _, _, _, _, _, _, el_NoHour⟩ := exB_ok (c.fact 75 rfl)
  have es_NoHour : PySem.W.findIn K (.ref (He.ga K "NoHour")) "__setattr__" = some (some (.builtin "object.__setattr__")) := dok (c.fact 76 rfl)
  have eg_NoHour : PySem.W.findIn K (.ref (He.ga K "NoHour")) "__getattribute__" = some (some (.builtin "BaseException.__getattribute__")) := dok (c.fact 77 rfl)
  have eh_NoHour : PySem.W.findIn K (.ref (He.ga K "NoHour")) "__getattr__" = some none := dok (c.fact 78 rfl)
  have en_NoHour : PySem.W.findIn K (.ref (He.ga K "NoHour")) "hour" = some none := dok (c.fact 79 rfl)
  have ei_NoHour : PySem.W.findIn K (.ref (He.ga K "NoHour")) "__init__" = some (some (.ref (He.ma K (He.ga K "NoHour") "__init__"))) := dok (c.fact 80 rfl)
  have et_NoHour : PySem.W.typeIn K (.ref (He.ma K (He.ga K "NoHour") "__init__")) = some (.type "function") := dok (c.fact 82 rfl)
  have ek_NoHour : PySem.W.keepIn K (.ref (He.ga K "NoHour")) = true := (c.fact 83 rfl)
  have ee_NoHour : PySem.W.subIn K (.ref (He.ga K "NoHour")) (.type "BaseException") = some true := dok (c.fact 84 rfl)
  have ev_NoHour : PySem.W.subIn K (.ref (He.ga K "NoHour")) (.type "ValueError") = some true := dok (c.fact 85 rfl)
  have ey_NoHour : PySem.W.typeIn K (.ref (He.ga K "NoHour")) = some (.type "type") := dok (c.fact 87 rfl)
  have ed_NoHour : PySem.W.hasDictIn K (He.ga K "NoHour") = true := (c.fact 88 rfl)
  have em_NoHour : PySem.W.mroIn K (He.ga K "NoHour") (.ref (He.ga K "NoHour")) = some true := dok (c.fact 89 rfl)
  have eu_NoHour : PySem.W.ks_superIn K (He.ga K "NoHour") (He.ga K "NoHour") "__init__" = some (some (.builtin "ValueError.__init__")) := dok (c.fact 91 rfl)
  obtain ⟨_, _, _, _, _, _, _, _, _, _, _, _, _, _, _, _, _, ef_NoHour, ec_NoHour, eo_NoHour, ew_NoHour, eq_NoHour⟩ := c.sup_ 27 (d := ⟨fun K => (He.ma K (He.ga K "NoHour") "__init__"), "__init__", "NoHour.__init__", (inClass (top 5) 0), true⟩) (C := (He.ga K "NoHour")) (file := flX) (c.fact 92 rfl) rfl
  have eF_NoHour : ((P.main.file : Str) == flX) = true := by rw [pF]; decide +kernel
  exact { gC := PySem.W.mg_of X G ea_NoHour, cls := ⟨_, _, _, _, _, _, _, _, _, _, _, _, _, _, _, el_NoHour, rfl⟩, sa := es_NoHour, ga := eg_NoHour, gg := eh_NoHour, noN := en_NoHour, iC := ei_NoHour, tC := et_NoHour, kC := ek_NoHour, exC := ee_NoHour, vB := ev_NoHour, tyC := ey_NoHour, hdC := ed_NoHour, mr := em_NoHour, sup := eu_NoHour, noT := noT, noS := PySem.W.mg_none_of X G z_super, sf := by decide +kernel, db := by decide +kernel, fn := ⟨_, _, _, _, _, _, _, _, _, _, _, _, _, _, _, _, _, _, _, _, _, _, _, _, _, _, _, _, _, _, _, _, ef_NoHour, ec_NoHour, eo_NoHour, ew_NoHour, eF_NoHour, eq_NoHour, by decide +kernel, by decide +kernel, by decide +kernel, by decide +kernel, by decide +kernel, tp_s, fun _ => ⟨_, rfl⟩, fun _ _ _ => .of_eq rfl⟩ }
theorem mkf_xc_NoHour  {P : Program} {K : PySem.W.Frag} {h : Heap} {mg : Str → Option Value} (X : K.In h) (G : h.Ns mainGlobals mg) (c : SaysH fas fns K) (tp_s : (P.main.scope.names.lookup ("super" : Str)).isSome = false) (pF : P.main.file = flX) : ExcC K (adsK K).c_NoHour := by
  letI : TabC := ⟨[]⟩
  have gn_obj : PySem.W.specialIn K (.builtin "object.__class__") "__get__" = some (some (.builtin "getset_descriptor.__get__")) := dok (c.fact 61 rfl)
  have tk_obj : PySem.W.takesIn K (.builtin "object.__class__") = some true := dok (c.fact 62 rfl)
  have eg_NoHour : PySem.W.findIn K (.ref (He.ga K "NoHour")) "__getattribute__" = some (some (.builtin "BaseException.__getattribute__")) := dok (c.fact 77 rfl)
  have eh_NoHour : PySem.W.findIn K (.ref (He.ga K "NoHour")) "__getattr__" = some none := dok (c.fact 78 rfl)
  have eC_NoHour : PySem.W.findIn K (.ref (He.ga K "NoHour")) "__class__" = some (some (.builtin "object.__class__")) := dok (c.fact 81 rfl)
  have ee_NoHour : PySem.W.subIn K (.ref (He.ga K "NoHour")) (.type "BaseException") = some true := dok (c.fact 84 rfl)
  have ed_NoHour : PySem.W.hasDictIn K (He.ga K "NoHour") = true := (c.fact 88 rfl)
  have eO_NoHour : PySem.W.mroIn K (He.ga K "NoHour") (.type "object") = some true := dok (c.fact 90 rfl)
  exact ⟨eg_NoHour, eh_NoHour, ee_NoHour, ed_NoHour, eC_NoHour, gn_obj, tk_obj, eO_NoHour⟩
theorem mkf_xm_NoHour  {P : Program} {K : PySem.W.Frag} {h : Heap} {mg : Str → Option Value} (X : K.In h) (G : h.Ns mainGlobals mg) (c : SaysH fas fns K) (tp_s : (P.main.scope.names.lookup ("super" : Str)).isSome = false) (pF : P.main.file = flX) : PySem.W.exmOne K (.ref (adsK K).c_NoHour) (.ref (adsK K).c_NeedError) = some true := by
  letI : TabC := ⟨[]⟩
  have bs_n : PySem.W.subIn K (.ref (He.ga K "NeedError")) (.type "BaseException") = some true := dok (c.fact 69 rfl)
  have bd_n : PySem.W.hasDictIn K (He.ga K "NeedError") = true := (c.fact 70 rfl)
  have bt_n : PySem.W.typeIn K (.ref (He.ga K "NeedError")) = some (.type "type") := dok (c.fact 71 rfl)
  have eN_NoHour : PySem.W.subIn K (.ref (He.ga K "NoHour")) (.ref (He.ga K "NeedError")) = some true := dok (c.fact 86 rfl)
  exact PySem.W.exm_ref bs_n bd_n bt_n eN_NoHour
theorem mkf_ix_NoHour_NoHour  {P : Program} {K : PySem.W.Frag} {h : Heap} {mg : Str → Option Value} (X : K.In h) (G : h.Ns mainGlobals mg) (c : SaysH fas fns K) (tp_s : (P.main.scope.names.lookup ("super" : Str)).isSome = false) (pF : P.main.file = flX) : PySem.W.kitOne K (.ref (adsK K).c_NoHour) (.ref (adsK K).c_NoHour) = some true := by
  letI : TabC := ⟨[]⟩
  have kt_ix_NoHour_NoHour : PySem.W.kitOne K (.ref (He.ga K "NoHour")) (.ref (He.ga K "NoHour")) = some true := dok (c.fact 131 rfl)
  exact kt_ix_NoHour_NoHour
theorem mkf_ix_NoHour_Overtaken  {P : Program} {K : PySem.W.Frag} {h : Heap} {mg : Str → Option Value} (X : K.In h) (G : h.Ns mainGlobals mg) (c : SaysH fas fns K) (tp_s : (P.main.scope.names.lookup ("super" : Str)).isSome = false) (pF : P.main.file = flX) : PySem.W.kitOne K (.ref (adsK K).c_NoHour) (.ref (adsK K).c_Overtaken) = some false := by
  letI : TabC := ⟨[]⟩
  have kt_ix_NoHour_Overtaken : PySem.W.kitOne K (.ref (He.ga K "NoHour")) (.ref (He.ga K "Overtaken")) = some false := dok (c.fact 132 rfl)
  exact kt_ix_NoHour_Overtaken
theorem mkf_ix_NoHour_Wrong  {P : Program} {K : PySem.W.Frag} {h : Heap} {mg : Str → Option Value} (X : K.In h) (G : h.Ns mainGlobals mg) (c : SaysH fas fns K) (tp_s : (P.main.scope.names.lookup ("super" : Str)).isSome = false) (pF : P.main.file = flX) : PySem.W.kitOne K (.ref (adsK K).c_NoHour) (.ref (adsK K).c_Wrong) = some false := by
  letI : TabC := ⟨[]⟩
  have kt_ix_NoHour_Wrong : PySem.W.kitOne K (.ref (He.ga K "NoHour")) (.ref (He.ga K "Wrong")) = some false := dok (c.fact 133 rfl)
  exact kt_ix_NoHour_Wrong
theorem mkf_g_Overtaken  {P : Program} {K : PySem.W.Frag} {h : Heap} {mg : Str → Option Value} (X : K.In h) (G : h.Ns mainGlobals mg) (c : SaysH fas fns K) (tp_s : (P.main.scope.names.lookup ("super" : Str)).isSome = false) (pF : P.main.file = flX) : mg "Overtaken" = some (.ref (adsK K).c_Overtaken) := by
  letI : TabC := ⟨[]⟩
  have ea_Overtaken : PySem.W.nsIn K mainGlobals "Overtaken" = some (some (.ref (He.ga K "Overtaken"))) := dok (c.fact 93 rfl)
  exact PySem.W.mg_of X G ea_Overtaken
theorem mkf_er_Overtaken  {P : Program} {K : PySem.W.Frag} {h : Heap} {mg : Str → Option Value} (X : K.In h) (G : h.Ns mainGlobals mg) (c : SaysH fas fns K) (tp_s : (P.main.scope.names.lookup ("super" : Str)).isSome = false) (pF : P.main.file = flX) : ErrC P K mg "Overtaken" "hour" (adsK K).c_Overtaken (adsK K).fi_Overtaken := by
  letI : TabC := ⟨[]⟩
  have noT : PySem.W.nsIn K cStatics "thirdparty.any" = some none := dok (c.fact 72 rfl)
  have z_super : PySem.W.nsIn K mainGlobals "super" = some none := dok (c.fact 73 rfl)
  have ea_Overtaken : PySem.W.nsIn K mainGlobals "Overtaken" = some (some (.ref (He.ga K "Overtaken"))) := dok (c.fact 93 rfl)
  obtain ⟨_, _, _, _, _, _, _, _, _, _, _, _, _, _, el_Overtaken⟩ := exB_ok (c.fact 94 rfl)
  have es_Overtaken : PySem.W.findIn K (.ref (He.ga K "Overtaken")) "__setattr__" = some (some (.builtin "object.__setattr__")) := dok (c.fact 95 rfl)
  have eg_Overtaken : PySem.W.findIn K (.ref (He.ga K "Overtaken")) "__getattribute__" = some (some (.builtin "BaseException.__getattribute__")) := dok (c.fact 96 rfl)
  have eh_Overtaken : PySem.W.findIn K (.ref (He.ga K "Overtaken")) "__getattr__" = some none := dok (c.fact 97 rfl)
  have en_Overtaken : PySem.W.findIn K (.ref (He.ga K "Overtaken")) "hour" = some none := dok (c.fact 98 rfl)
  have ei_Overtaken : PySem.W.findIn K (.ref (He.ga K "Overtaken")) "__init__" = some (some (.ref (He.ma K (He.ga K "Overtaken") "__init__"))) := dok (c.fact 99 rfl)
  have et_Overtaken : PySem.W.typeIn K (.ref (He.ma K (He.ga K "Overtaken") "__init__")) = some (.type "function") := dok (c.fact 101 rfl)
  have ek_Overtaken : PySem.W.keepIn K (.ref (He.ga K "Overtaken")) = true := (c.fact 102 rfl)
  have ee_Overtaken : PySem.W.subIn K (.ref (He.ga K "Overtaken")) (.type "BaseException") = some true := dok (c.fact 103 rfl)
  have ev_Overtaken : PySem.W.subIn K (.ref (He.ga K "Overtaken")) (.type "ValueError") = some true := dok (c.fact 104 rfl)
  have ey_Overtaken : PySem.W.typeIn K (.ref (He.ga K "Overtaken")) = some (.type "type") := dok (c.fact 106 rfl)
  have ed_Overtaken : PySem.W.hasDictIn K (He.ga K "Overtaken") = true := (c.fact 107 rfl)
  have em_Overtaken : PySem.W.mroIn K (He.ga K "Overtaken") (.ref (He.ga K "Overtaken")) = some true := dok (c.fact 108 rfl)
  have eu_Overtaken : PySem.W.ks_superIn K (He.ga K "Overtaken") (He.ga K "Overtaken") "__init__" = some (some (.builtin "ValueError.__init__")) := dok (c.fact 110 rfl)
  obtain ⟨_, _, _, _, _, _, _, _, _, _, _, _, _, _, _, _, _, ef_Overtaken, ec_Overtaken, eo_Overtaken, ew_Overtaken, eq_Overtaken⟩ := c.sup_ 28 (d := ⟨fun K => (He.ma K (He.ga K "Overtaken") "__init__"), "__init__", "Overtaken.__init__", (inClass (top 4) 0), true⟩) (C := (He.ga K "Overtaken")) (file := flX) (c.fact 111 rfl) rfl
  have eF_Overtaken : ((P.main.file : Str) == flX) = true := by rw [pF]; decide +kernel
  exact { gC := PySem.W.mg_of X G ea_Overtaken, cls := ⟨_, _, _, _, _, _, _, _, _, _, _, _, _, _, _, el_Overtaken, rfl⟩, sa := es_Overtaken, ga := eg_Overtaken, gg := eh_Overtaken, noN := en_Overtaken, iC := ei_Overtaken, tC := et_Overtaken, kC := ek_Overtaken, exC := ee_Overtaken, vB := ev_Overtaken, tyC := ey_Overtaken, hdC := ed_Overtaken, mr := em_Overtaken, sup := eu_Overtaken, noT := noT, noS := PySem.W.mg_none_of X G z_super, sf := by decide +kernel, db := by decide +kernel, fn := ⟨_, _, _, _, _, _, _, _, _, _, _, _, _, _, _, _, _, _, _, _, _, _, _, _, _, _, _, _, _, _, _, _, ef_Overtaken, ec_Overtaken, eo_Overtaken, ew_Overtaken, eF_Overtaken, eq_Overtaken, by decide +kernel, by decide +kernel, by decide +kernel, by decide +kernel, by decide +kernel, tp_s, fun _ => ⟨_, rfl⟩, fun _ _ _ => .of_eq rfl⟩ }
theorem mkf_xc_Overtaken  {P : Program} {K : PySem.W.Frag} {h : Heap} {mg : Str → Option Value} (X : K.In h) (G : h.Ns mainGlobals mg) (c : SaysH fas fns K) (tp_s : (P.main.scope.names.lookup ("super" : Str)).isSome = false) (pF : P.main.file = flX) : ExcC K (adsK K).c_Overtaken := by
  letI : TabC := ⟨[]⟩
  have gn_obj : PySem.W.specialIn K (.builtin "object.__class__") "__get__" = some (some (.builtin "getset_descriptor.__get__")) := dok (c.fact 61 rfl)
  have tk_obj : PySem.W.takesIn K (.builtin "object.__class__") = some true := dok (c.fact 62 rfl)
  have eg_Overtaken : PySem.W.findIn K (.ref (He.ga K "Overtaken")) "__getattribute__" = some (some (.builtin "BaseException.__getattribute__")) := dok (c.fact 96 rfl)
  have eh_Overtaken : PySem.W.findIn K (.ref (He.ga K "Overtaken")) "__getattr__" = some none := dok (c.fact 97 rfl)
  have eC_Overtaken : PySem.W.findIn K (.ref (He.ga K "Overtaken")) "__class__" = some (some (.builtin "object.__class__")) := dok (c.fact 100 rfl)
  have ee_Overtaken : PySem.W.subIn K (.ref (He.ga K "Overtaken")) (.type "BaseException") = some true := dok (c.fact 103 rfl)
  have ed_Overtaken : PySem.W.hasDictIn K (He.ga K "Overtaken") = true := (c.fact 107 rfl)
  have eO_Overtaken : PySem.W.mroIn K (He.ga K "Overtaken") (.type "object") = some true := dok (c.fact 109 rfl)
  exact ⟨eg_Overtaken, eh_Overtaken, ee_Overtaken, ed_Overtaken, eC_Overtaken, gn_obj, tk_obj, eO_Overtaken⟩
theorem mkf_xm_Overtaken  {P : Program} {K : PySem.W.Frag} {h : Heap} {mg : Str → Option Value} (X : K.In h) (G : h.Ns mainGlobals mg) (c : SaysH fas fns K) (tp_s : (P.main.scope.names.lookup ("super" : Str)).isSome = false) (pF : P.main.file = flX) : PySem.W.exmOne K (.ref (adsK K).c_Overtaken) (.ref (adsK K).c_NeedError) = some true := by
  letI : TabC := ⟨[]⟩
  have bs_n : PySem.W.subIn K (.ref (He.ga K "NeedError")) (.type "BaseException") = some true := dok (c.fact 69 rfl)
  have bd_n : PySem.W.hasDictIn K (He.ga K "NeedError") = true := (c.fact 70 rfl)
  have bt_n : PySem.W.typeIn K (.ref (He.ga K "NeedError")) = some (.type "type") := dok (c.fact 71 rfl)
  have eN_Overtaken : PySem.W.subIn K (.ref (He.ga K "Overtaken")) (.ref (He.ga K "NeedError")) = some true := dok (c.fact 105 rfl)
  exact PySem.W.exm_ref bs_n bd_n bt_n eN_Overtaken
theorem mkf_ix_Overtaken_NoHour  {P : Program} {K : PySem.W.Frag} {h : Heap} {mg : Str → Option Value} (X : K.In h) (G : h.Ns mainGlobals mg) (c : SaysH fas fns K) (tp_s : (P.main.scope.names.lookup ("super" : Str)).isSome = false) (pF : P.main.file = flX) : PySem.W.kitOne K (.ref (adsK K).c_Overtaken) (.ref (adsK K).c_NoHour) = some false := by
  letI : TabC := ⟨[]⟩
  have kt_ix_Overtaken_NoHour : PySem.W.kitOne K (.ref (He.ga K "Overtaken")) (.ref (He.ga K "NoHour")) = some false := dok (c.fact 134 rfl)
  exact kt_ix_Overtaken_NoHour
theorem mkf_ix_Overtaken_Overtaken  {P : Program} {K : PySem.W.Frag} {h : Heap} {mg : Str → Option Value} (X : K.In h) (G : h.Ns mainGlobals mg) (c : SaysH fas fns K) (tp_s : (P.main.scope.names.lookup ("super" : Str)).isSome = false) (pF : P.main.file = flX) : PySem.W.kitOne K (.ref (adsK K).c_Overtaken) (.ref (adsK K).c_Overtaken) = some true := by
  letI : TabC := ⟨[]⟩
  have kt_ix_Overtaken_Overtaken : PySem.W.kitOne K (.ref (He.ga K "Overtaken")) (.ref (He.ga K "Overtaken")) = some true := dok (c.fact 135 rfl)
  exact kt_ix_Overtaken_Overtaken
theorem mkf_ix_Overtaken_Wrong  {P : Program} {K : PySem.W.Frag} {h : Heap} {mg : Str → Option Value} (X : K.In h) (G : h.Ns mainGlobals mg) (c : SaysH fas fns K) (tp_s : (P.main.scope.names.lookup ("super" : Str)).isSome = false) (pF : P.main.file = flX) : PySem.W.kitOne K (.ref (adsK K).c_Overtaken) (.ref (adsK K).c_Wrong) = some false := by
  letI : TabC := ⟨[]⟩
  have kt_ix_Overtaken_Wrong : PySem.W.kitOne K (.ref (He.ga K "Overtaken")) (.ref (He.ga K "Wrong")) = some false := dok (c.fact 136 rfl)
  exact kt_ix_Overtaken_Wrong
theorem mkf_g_Wrong  {P : Program} {K : PySem.W.Frag} {h : Heap} {mg : Str → Option Value} (X : K.In h) (G : h.Ns mainGlobals mg) (c : SaysH fas fns K) (tp_s : (P.main.scope.names.lookup ("super" : Str)).isSome = false) (pF : P.main.file = flX) : mg "Wrong" = some (.ref (adsK K).c_Wrong) := by
  letI : TabC := ⟨[]⟩
  have ea_Wrong : PySem.W.nsIn K mainGlobals "Wrong" = some (some (.ref (He.ga K "Wrong"))) := dok (c.fact 112 rfl)
  exact PySem.W.mg_of X G ea_Wrong
theorem mkf_er_Wrong  {P : Program} {K : PySem.W.Frag} {h : Heap} {mg : Str → Option Value} (X : K.In h) (G : h.Ns mainGlobals mg) (c : SaysH fas fns K) (tp_s : (P.main.scope.names.lookup ("super" : Str)).isSome = false) (pF : P.main.file = flX) : ErrC P K mg "Wrong" "place" (adsK K).c_Wrong (adsK K).fi_Wrong := by
  letI : TabC := ⟨[]⟩
  have noT : PySem.W.nsIn K cStatics "thirdparty.any" = some none := dok (c.fact 72 rfl)
  have z_super : PySem.W.nsIn K mainGlobals "super" = some none := dok (c.fact 73 rfl)
  have ea_Wrong : PySem.W.nsIn K mainGlobals "Wrong" = some (some (.ref (He.ga K "Wrong"))) := dok (c.fact 112 rfl)
  obtain ⟨_, _, _, _, _, _, _, _, _, _, _, _, _, _, el_Wrong⟩ := exB_ok (c.fact 113 rfl)
  have es_Wrong : PySem.W.findIn K (.ref (He.ga K "Wrong")) "__setattr__" = some (some (.builtin "object.__setattr__")) := dok (c.fact 114 rfl)
  have eg_Wrong : PySem.W.findIn K (.ref (He.ga K "Wrong")) "__getattribute__" = some (some (.builtin "BaseException.__getattribute__")) := dok (c.fact 115 rfl)
  have eh_Wrong : PySem.W.findIn K (.ref (He.ga K "Wrong")) "__getattr__" = some none := dok (c.fact 116 rfl)
  have en_Wrong : PySem.W.findIn K (.ref (He.ga K "Wrong")) "place" = some none := dok (c.fact 117 rfl)
  have ei_Wrong : PySem.W.findIn K (.ref (He.ga K "Wrong")) "__init__" = some (some (.ref (He.ma K (He.ga K "Wrong") "__init__"))) := dok (c.fact 118 rfl)
  have et_Wrong : PySem.W.typeIn K (.ref (He.ma K (He.ga K "Wrong") "__init__")) = some (.type "function") := dok (c.fact 120 rfl)
  have ek_Wrong : PySem.W.keepIn K (.ref (He.ga K "Wrong")) = true := (c.fact 121 rfl)
  have ee_Wrong : PySem.W.subIn K (.ref (He.ga K "Wrong")) (.type "BaseException") = some true := dok (c.fact 122 rfl)
  have ev_Wrong : PySem.W.subIn K (.ref (He.ga K "Wrong")) (.type "ValueError") = some true := dok (c.fact 123 rfl)
  have ey_Wrong : PySem.W.typeIn K (.ref (He.ga K "Wrong")) = some (.type "type") := dok (c.fact 125 rfl)
  have ed_Wrong : PySem.W.hasDictIn K (He.ga K "Wrong") = true := (c.fact 126 rfl)
  have em_Wrong : PySem.W.mroIn K (He.ga K "Wrong") (.ref (He.ga K "Wrong")) = some true := dok (c.fact 127 rfl)
  have eu_Wrong : PySem.W.ks_superIn K (He.ga K "Wrong") (He.ga K "Wrong") "__init__" = some (some (.builtin "ValueError.__init__")) := dok (c.fact 129 rfl)
  obtain ⟨_, _, _, _, _, _, _, _, _, _, _, _, _, _, _, _, _, ef_Wrong, ec_Wrong, eo_Wrong, ew_Wrong, eq_Wrong⟩ := c.sup_ 29 (d := ⟨fun K => (He.ma K (He.ga K "Wrong") "__init__"), "__init__", "Wrong.__init__", (inClass (top 3) 0), true⟩) (C := (He.ga K "Wrong")) (file := flX) (c.fact 130 rfl) rfl
  have eF_Wrong : ((P.main.file : Str) == flX) = true := by rw [pF]; decide +kernel
  exact { gC := PySem.W.mg_of X G ea_Wrong, cls := ⟨_, _, _, _, _, _, _, _, _, _, _, _, _, _, _, el_Wrong, rfl⟩, sa := es_Wrong, ga := eg_Wrong, gg := eh_Wrong, noN := en_Wrong, iC := ei_Wrong, tC := et_Wrong, kC := ek_Wrong, exC := ee_Wrong, vB := ev_Wrong, tyC := ey_Wrong, hdC := ed_Wrong, mr := em_Wrong, sup := eu_Wrong, noT := noT, noS := PySem.W.mg_none_of X G z_super, sf := by decide +kernel, db := by decide +kernel, fn := ⟨_, _, _, _, _, _, _, _, _, _, _, _, _, _, _, _, _, _, _, _, _, _, _, _, _, _, _, _, _, _, _, _, ef_Wrong, ec_Wrong, eo_Wrong, ew_Wrong, eF_Wrong, eq_Wrong, by decide +kernel, by decide +kernel, by decide +kernel, by decide +kernel, by decide +kernel, tp_s, fun _ => ⟨_, rfl⟩, fun _ _ _ => .of_eq rfl⟩ }
theorem mkf_xc_Wrong  {P : Program} {K : PySem.W.Frag} {h : Heap} {mg : Str → Option Value} (X : K.In h) (G : h.Ns mainGlobals mg) (c : SaysH fas fns K) (tp_s : (P.main.scope.names.lookup ("super" : Str)).isSome = false) (pF : P.main.file = flX) : ExcC K (adsK K).c_Wrong := by
  letI : TabC := ⟨[]⟩
  have gn_obj : PySem.W.specialIn K (.builtin "object.__class__") "__get__" = some (some (.builtin "getset_descriptor.__get__")) := dok (c.fact 61 rfl)
  have tk_obj : PySem.W.takesIn K (.builtin "object.__class__") = some true := dok (c.fact 62 rfl)
  have eg_Wrong : PySem.W.findIn K (.ref (He.ga K "Wrong")) "__getattribute__" = some (some (.builtin "BaseException.__getattribute__")) := dok (c.fact 115 rfl)
  have eh_Wrong : PySem.W.findIn K (.ref (He.ga K "Wrong")) "__getattr__" = some none := dok (c.fact 116 rfl)
  have eC_Wrong : PySem.W.findIn K (.ref (He.ga K "Wrong")) "__class__" = some (some (.builtin "object.__class__")) := dok (c.fact 119 rfl)
  have ee_Wrong : PySem.W.subIn K (.ref (He.ga K "Wrong")) (.type "BaseException") = some true := dok (c.fact 122 rfl)
  have ed_Wrong : PySem.W.hasDictIn K (He.ga K "Wrong") = true := (c.fact 126 rfl)
  have eO_Wrong : PySem.W.mroIn K (He.ga K "Wrong") (.type "object") = some true := dok (c.fact 128 rfl)
  exact ⟨eg_Wrong, eh_Wrong, ee_Wrong, ed_Wrong, eC_Wrong, gn_obj, tk_obj, eO_Wrong⟩
theorem mkf_xm_Wrong  {P : Program} {K : PySem.W.Frag} {h : Heap} {mg : Str → Option Value} (X : K.In h) (G : h.Ns mainGlobals mg) (c : SaysH fas fns K) (tp_s : (P.main.scope.names.lookup ("super" : Str)).isSome = false) (pF : P.main.file = flX) : PySem.W.exmOne K (.ref (adsK K).c_Wrong) (.ref (adsK K).c_NeedError) = some true := by
  letI : TabC := ⟨[]⟩
  have bs_n : PySem.W.subIn K (.ref (He.ga K "NeedError")) (.type "BaseException") = some true := dok (c.fact 69 rfl)
  have bd_n : PySem.W.hasDictIn K (He.ga K "NeedError") = true := (c.fact 70 rfl)
  have bt_n : PySem.W.typeIn K (.ref (He.ga K "NeedError")) = some (.type "type") := dok (c.fact 71 rfl)
  have eN_Wrong : PySem.W.subIn K (.ref (He.ga K "Wrong")) (.ref (He.ga K "NeedError")) = some true := dok (c.fact 124 rfl)
  exact PySem.W.exm_ref bs_n bd_n bt_n eN_Wrong
theorem mkf_ix_Wrong_NoHour  {P : Program} {K : PySem.W.Frag} {h : Heap} {mg : Str → Option Value} (X : K.In h) (G : h.Ns mainGlobals mg) (c : SaysH fas fns K) (tp_s : (P.main.scope.names.lookup ("super" : Str)).isSome = false) (pF : P.main.file = flX) : PySem.W.kitOne K (.ref (adsK K).c_Wrong) (.ref (adsK K).c_NoHour) = some false := by
  letI : TabC := ⟨[]⟩
  have kt_ix_Wrong_NoHour : PySem.W.kitOne K (.ref (He.ga K "Wrong")) (.ref (He.ga K "NoHour")) = some false := dok (c.fact 137 rfl)
  exact kt_ix_Wrong_NoHour
theorem mkf_ix_Wrong_Overtaken  {P : Program} {K : PySem.W.Frag} {h : Heap} {mg : Str → Option Value} (X : K.In h) (G : h.Ns mainGlobals mg) (c : SaysH fas fns K) (tp_s : (P.main.scope.names.lookup ("super" : Str)).isSome = false) (pF : P.main.file = flX) : PySem.W.kitOne K (.ref (adsK K).c_Wrong) (.ref (adsK K).c_Overtaken) = some false := by
  letI : TabC := ⟨[]⟩
  have kt_ix_Wrong_Overtaken : PySem.W.kitOne K (.ref (He.ga K "Wrong")) (.ref (He.ga K "Overtaken")) = some false := dok (c.fact 138 rfl)
  exact kt_ix_Wrong_Overtaken
theorem mkf_ix_Wrong_Wrong  {P : Program} {K : PySem.W.Frag} {h : Heap} {mg : Str → Option Value} (X : K.In h) (G : h.Ns mainGlobals mg) (c : SaysH fas fns K) (tp_s : (P.main.scope.names.lookup ("super" : Str)).isSome = false) (pF : P.main.file = flX) : PySem.W.kitOne K (.ref (adsK K).c_Wrong) (.ref (adsK K).c_Wrong) = some true := by
  letI : TabC := ⟨[]⟩
  have kt_ix_Wrong_Wrong : PySem.W.kitOne K (.ref (He.ga K "Wrong")) (.ref (He.ga K "Wrong")) = some true := dok (c.fact 139 rfl)
  exact kt_ix_Wrong_Wrong
theorem facts {P : Program} {w : World} {K : PySem.W.Frag} {h : Heap} {mg : Str → Option Value} {fa : Addr} (X : K.In h) (G : h.Ns mainGlobals mg) (hfa : mg "law" = some (.ref fa)) (c : SaysH fas fns K) (tp_s : (P.main.scope.names.lookup ("super" : Str)).isSome = false) (pF : P.main.file = flX) :
    ∀ base : Heap, K.In base → base.Ns mainGlobals mg → OkP NoG P w K mg base 8 fa ["_law_script"] (fun vs H Q E => spLaw K vs H Q E) := by
  letI : TabC := ⟨[]⟩
  have a_law : PySem.W.nsIn K mainGlobals "law" = some (some (.ref (He.ga K "law"))) := dok (c.fact 45 rfl)
  have e := hfa.symm.trans (PySem.W.mg_of X G a_law)
  cases e
  have T : Tx P K mg (adsK K) := {
    g_Clock := mkf_g_Clock X G c tp_s pF,
    cl_Clock := mkf_cl_Clock X G c tp_s pF,
    sf_Clock := mkf_sf_Clock X G c tp_s pF,
    n_Clock_kept_stays := mkf_n_Clock_kept_stays X G c tp_s pF,
    n_Clock_kept_widths := mkf_n_Clock_kept_widths X G c tp_s pF,
    g__law_alike := mkf_g__law_alike X G c tp_s pF,
    d__law_alike := mkf_d__law_alike X G c tp_s pF,
    g__law_bag := mkf_g__law_bag X G c tp_s pF,
    d__law_bag := mkf_d__law_bag X G c tp_s pF,
    g__law_take := mkf_g__law_take X G c tp_s pF,
    d__law_take := mkf_d__law_take X G c tp_s pF,
    g__law_stays := mkf_g__law_stays X G c tp_s pF,
    d__law_stays := mkf_d__law_stays X G c tp_s pF,
    g__law_one := mkf_g__law_one X G c tp_s pF,
    d__law_one := mkf_d__law_one X G c tp_s pF,
    g__law_odd := mkf_g__law_odd X G c tp_s pF,
    d__law_odd := mkf_d__law_odd X G c tp_s pF,
    g__law_is_whole := mkf_g__law_is_whole X G c tp_s pF,
    d__law_is_whole := mkf_d__law_is_whole X G c tp_s pF,
    g__law_spoilt := mkf_g__law_spoilt X G c tp_s pF,
    d__law_spoilt := mkf_d__law_spoilt X G c tp_s pF,
    m_Clock_stays := mkf_m_Clock_stays X G c tp_s pF,
    d_Clock_stays := mkf_d_Clock_stays X G c tp_s pF,
    g_is_integer := mkf_g_is_integer X G c tp_s pF,
    d_is_integer := mkf_d_is_integer X G c tp_s pF,
    g_are_stays := mkf_g_are_stays X G c tp_s pF,
    d_are_stays := mkf_d_are_stays X G c tp_s pF,
    g_need_order := mkf_g_need_order X G c tp_s pF,
    d_need_order := mkf_d_need_order X G c tp_s pF,
    g_width_of := mkf_g_width_of X G c tp_s pF,
    d_width_of := mkf_d_width_of X G c tp_s pF,
    mk_Clock := mkf_mk_Clock X G c tp_s pF,
    d_Clock___init__ := mkf_d_Clock___init__ X G c tp_s pF,
    st_Clock_even := mkf_st_Clock_even X G c tp_s pF,
    d_Clock_even := mkf_d_Clock_even X G c tp_s pF,
    g__law_caught := mkf_g__law_caught X G c tp_s pF,
    d__law_caught := mkf_d__law_caught X G c tp_s pF,
    g__law_tried := mkf_g__law_tried X G c tp_s pF,
    d__law_tried := mkf_d__law_tried X G c tp_s pF,
    g__law_first_over := mkf_g__law_first_over X G c tp_s pF,
    d__law_first_over := mkf_d__law_first_over X G c tp_s pF,
    g__law_due := mkf_g__law_due X G c tp_s pF,
    d__law_due := mkf_d__law_due X G c tp_s pF,
    g__law_is_hour := mkf_g__law_is_hour X G c tp_s pF,
    d__law_is_hour := mkf_d__law_is_hour X G c tp_s pF,
    g_is_hour := mkf_g_is_hour X G c tp_s pF,
    d_is_hour := mkf_d_is_hour X G c tp_s pF,
    p_Clock_hours := mkf_p_Clock_hours X G c tp_s pF,
    d_Clock_hours := mkf_d_Clock_hours X G c tp_s pF,
    m_Clock_with_stay := mkf_m_Clock_with_stay X G c tp_s pF,
    d_Clock_with_stay := mkf_d_Clock_with_stay X G c tp_s pF,
    g__law_changed := mkf_g__law_changed X G c tp_s pF,
    d__law_changed := mkf_d__law_changed X G c tp_s pF,
    g__law_stay_right := mkf_g__law_stay_right X G c tp_s pF,
    d__law_stay_right := mkf_d__law_stay_right X G c tp_s pF,
    g__law_even_due := mkf_g__law_even_due X G c tp_s pF,
    d__law_even_due := mkf_d__law_even_due X G c tp_s pF,
    d_law := mkf_d_law X G c tp_s pF,
    z_abs := mkf_z_abs X G c tp_s pF,
    z_all := mkf_z_all X G c tp_s pF,
    z_bool := mkf_z_bool X G c tp_s pF,
    z_enumerate := mkf_z_enumerate X G c tp_s pF,
    z_int := mkf_z_int X G c tp_s pF,
    z_isinstance := mkf_z_isinstance X G c tp_s pF,
    z_len := mkf_z_len X G c tp_s pF,
    z_list := mkf_z_list X G c tp_s pF,
    z_max := mkf_z_max X G c tp_s pF,
    z_min := mkf_z_min X G c tp_s pF,
    z_range := mkf_z_range X G c tp_s pF,
    z_repr := mkf_z_repr X G c tp_s pF,
    z_tuple := mkf_z_tuple X G c tp_s pF,
    k_MOST_HOURS := mkf_k_MOST_HOURS X G c tp_s pF,
    ic_Clock := mkf_ic_Clock X G c tp_s pF,
    kx_Clock_int := mkf_kx_Clock_int X G c tp_s pF,
    kx_Clock_list := mkf_kx_Clock_list X G c tp_s pF,
    kx_Clock_tuple := mkf_kx_Clock_tuple X G c tp_s pF,
    sm := mkf_sm X G c tp_s pF,
    g_NeedError := mkf_g_NeedError X G c tp_s pF,
    g_NoHour := mkf_g_NoHour X G c tp_s pF,
    er_NoHour := mkf_er_NoHour X G c tp_s pF,
    xc_NoHour := mkf_xc_NoHour X G c tp_s pF,
    xm_NoHour := mkf_xm_NoHour X G c tp_s pF,
    ix_NoHour_NoHour := mkf_ix_NoHour_NoHour X G c tp_s pF,
    ix_NoHour_Overtaken := mkf_ix_NoHour_Overtaken X G c tp_s pF,
    ix_NoHour_Wrong := mkf_ix_NoHour_Wrong X G c tp_s pF,
    g_Overtaken := mkf_g_Overtaken X G c tp_s pF,
    er_Overtaken := mkf_er_Overtaken X G c tp_s pF,
    xc_Overtaken := mkf_xc_Overtaken X G c tp_s pF,
    xm_Overtaken := mkf_xm_Overtaken X G c tp_s pF,
    ix_Overtaken_NoHour := mkf_ix_Overtaken_NoHour X G c tp_s pF,
    ix_Overtaken_Overtaken := mkf_ix_Overtaken_Overtaken X G c tp_s pF,
    ix_Overtaken_Wrong := mkf_ix_Overtaken_Wrong X G c tp_s pF,
    g_Wrong := mkf_g_Wrong X G c tp_s pF,
    er_Wrong := mkf_er_Wrong X G c tp_s pF,
    xc_Wrong := mkf_xc_Wrong X G c tp_s pF,
    xm_Wrong := mkf_xm_Wrong X G c tp_s pF,
    ix_Wrong_NoHour := mkf_ix_Wrong_NoHour X G c tp_s pF,
    ix_Wrong_Overtaken := mkf_ix_Wrong_Overtaken X G c tp_s pF,
    ix_Wrong_Wrong := mkf_ix_Wrong_Wrong X G c tp_s pF }
  intro base _ _
  exact okP_imp (ow_law (d := adsK K) T) (law_tells0 rfl law_true bl_N)
end Pf
open PySem PySem.W PySem.Calls PyProof.Rows in
set_option maxRecDepth 100000 in
set_option maxHeartbeats 0 in
theorem PySem.Challenge.cw_hourneeds_k13_clocks_refused_holds : PySem.Challenge.rw_hourneeds_k13_clocks_refused.Holds := by
  w_on; o_law
  refine HandSHeadRun.head_any (r := (PySem.W.OpenLaw.row PySem.Challenge.rw_hourneeds_k13_clocks_refused)) (q := view (PySem.W.OpenLaw.row PySem.Challenge.rw_hourneeds_k13_clocks_refused).prog [32]) (H := Pf.hk) (ob := Pf.ob) (M := 20000) (loose := Pf.loose) (d := HandSHeadRun.topDef (PySem.W.OpenLaw.row PySem.Challenge.rw_hourneeds_k13_clocks_refused).prog 32) (kwd := []) Pf.ob_eq
    (by kernel_rfl) (fun s => by kernel_rfl) Pf.run (by kernel_rfl) (by kernel_rfl) (by kernel_rfl) (by rfl) (by first | assumption | decide +kernel) (by decide +kernel) ⟨rfl, rfl, rfl, rfl, rfl, by decide +kernel⟩ ?hw ?hc
  case hw => w_witness2
  case hc =>
    refine Hn.walkGE (l := PySem.Challenge.rw_hourneeds_k13_clocks_refused) (n := 63) (k := 8) (x := "_law_script") rfl (by decide) (by kernel_rfl) ⟨rfl, by decide, by decide⟩ ?F
    intro w mg fa h Y G hmg0
    obtain ⟨K, KX, c⟩ := Y
    have hmg : mg ("law" : PySem.Str) = some (.ref fa) := by
      have e : (HandSHeadRun.topDef (PySem.W.OpenLaw.row PySem.Challenge.rw_hourneeds_k13_clocks_refused).prog 32).name = ("law" : PySem.Str) := by kernel_rfl
      rw [← e]
      exact hmg0
    exact ⟨K, _, KX, fun H a ns hl hS => ⟨a, ns, rfl, hS, hl, fun _ => rfl⟩, Pf.facts (P := (PySem.Challenge.rw_hourneeds_k13_clocks_refused).prog) (w := w) KX G hmg c (by decide +kernel) rfl⟩
#print axioms PySem.Challenge.cw_hourneeds_k13_clocks_refused_holds
