import PyProof.Rows.All
import Wide.All
import OpenK.AllK
import Wide.FinOn
import HandS.ForMost
import HandS.ForExc
import HandS.Evl
import HandS.Walk
import HandS.Property
import HandS.IsInst
import HandS.Style
import HandS.More
import HandS.SetFor
import HandS.Zip
import HandS.TupAny
import HandS.Wide
import HandS.Deep
import KE.KOpsOwn
import KE.KDictZip
import KE.RegKIsAll
import KE.GoesEnum
import KE.Datum
import KE.IntTextLaws
import PyProof.StrBlock2
import KE.GoesMore
import KE.KItemsList
import HandS.ListItems
import KE.KTupSum
import OpenK.KOps
import HandS.OwnIter
import HandS.IterVal
import PyProof.ReprRoads
import PyProof.ReprLen
import PyProof.CallFns
import HandS.Conv
import HandS.ClsMeth
import HandS.TryOnly
import HandS.Text
import HandS.MakeKwOnly
import HandS.TupMul
import HandS.Defaults
import HandS.Lambda
import HandS.Dict
import HandS.Strs
import KE.GoesZip
import PyProof.P3Eq
import HandS.Exc
import KE.KExcSuper
import KE.KExcMake
import KE.KExcIs
import HandS.ExcIs
import HandS.WordsExc
import HandS.ExcOwn
import KE.LtData
import HandS.SortInts
import HandS.SortRule
import HandS.Nested
import HandS.DeepEq
import PyProof.NeData
import PyProof.EqAt
import PyProof.NeKinds
import HandS.Words
import HandS.HeadHook2
import HandS.Head2
import HandS.HeadEnd
import PySem.Challenge.RW_hourneeds_k26_plans_refused
set_option Elab.async false
set_option linter.all false
set_option maxRecDepth 100000
set_option maxHeartbeats 2000000
namespace Hn
open PySem PySem.Spec PyProof.Rows L2 Evl
structure DefH where
  adr : PySem.W.Frag → Addr
  name : Str
  qual : Str
  st : Stmt
  sup : Bool
def fnA (K : PySem.W.Frag) (a : Addr) : He.FnW := match K.lookup a with
  | some ⟨_, _, .func fd, _⟩ => some (fd.name, fd.qualname, fd.params, fd.body, fd.scope, fd.globals, [], fd.builtins)
  | _ => none
def noC : List (Str × Addr) → Bool
  | [] => true
  | _ => false
def DefH.val (d : DefH) : He.FnW := some (d.name, d.qual, defArgs d.st, .stmts (defBody d.st), defScope d.st, mainGlobals, [], builtinsNs)
def nonV : Value → Bool
  | .none => true
  | _ => false
def DefH.ok (K : PySem.W.Frag) (d : DefH) : Bool := PySem.W.keepIn K (.ref (d.adr K)) && (match K.lookup (d.adr K) with
  | some ⟨_, _, .func fd, _⟩ => PySem.W.codeIn K fd.code d.qual && nonV fd.defaults && (d.sup || noC fd.closure)
  | _ => false)
theorem DefH.fun_ {K : PySem.W.Frag} {d : DefH} (e : fnA K (d.adr K) = d.val) (c : d.ok K = true) (hs : d.sup = false) : ∃ (oc : Value) (od : Option Addr) (kV doc pm : Value) (an : Option Addr) (cdv ct : Value) (osl : Array (Option Value)),
    K.lookup (d.adr K) = some ⟨oc, od, .func (PySem.W.fnOf d.name d.qual (defArgs d.st) (defBody d.st) (defScope d.st) .none kV doc pm an cdv ct), osl⟩ ∧ PySem.W.codeIn K cdv d.qual = true ∧ PySem.W.keepIn K (.ref (d.adr K)) = true := by
  obtain ⟨kp, c2⟩ := He.ba c
  unfold fnA at e
  cases q : K.lookup (d.adr K) with
  | none =>
    rw [q] at c2
    cases c2
  | some o =>
    obtain ⟨oc, od, dt, osl⟩ := o
    rw [q] at c2 e
    cases dt with
    | func fd =>
      obtain ⟨n1, n2, n3, n4, n5, n6, n7, n8, n9, n10, n11, n12, n13, n14, n15⟩ := fd
      have e2 : (some (n1, n2, n3, n4, n5, n6, [], n15) : He.FnW) = some (d.name, d.qual, defArgs d.st, .stmts (defBody d.st), defScope d.st, mainGlobals, [], builtinsNs) := e
      simp only [Option.some.injEq, Prod.mk.injEq] at e2
      obtain ⟨h1, h2, h3, h4, h5, h6, _, h8⟩ := e2
      subst h1 h2 h3 h4 h5 h6 h8
      have c3 : (PySem.W.codeIn K n13 d.qual && nonV n8 && (d.sup || noC n7)) = true := c2
      obtain ⟨c3, k3⟩ := He.ba c3
      obtain ⟨k1, k2⟩ := He.ba c3
      rw [hs] at k3
      cases n7 with
      | nil =>
        cases n8 with
        | none => exact ⟨oc, od, n9, n10, n11, n12, n13, n14, osl, rfl, k1, kp⟩
        | _ => cases k2
      | cons => cases k3
    | _ => cases c2
def flV (v : Option Value) (file : Str) : Bool := match v with
  | some (.str x _) => decide (x = file)
  | _ => false
def inB (K : PySem.W.Frag) (f c : Addr) (file : Str) : Bool := match K.lookup f with
  | some ⟨_, _, .func fd, _⟩ => nonV fd.kwdefaults && (match fd.closure with
    | [(x, a)] => decide (x = "__class__") && (match K.lookup a with
      | some ⟨_, _, .cell (some (.ref b)), _⟩ => decide (b = c)
      | _ => false)
    | _ => false) && (match fd.code with
    | .ref q => match K.lookup q with
      | some ⟨_, _, .fields vs, _⟩ => flV vs[2]? file
      | _ => false
    | _ => false)
  | _ => false
theorem DefH.sup_ {K : PySem.W.Frag} {d : DefH} {c : Addr} {file : Str} (e : fnA K (d.adr K) = d.val) (ok : d.ok K = true) (i : inB K (d.adr K) c file = true) :
    ∃ (oc : Value) (od : Option Addr) (doc pm : Value) (an : Option Addr) (q : Addr) (ct : Value) (osl : Array (Option Value)) (cc : Addr) (ccl cl : Value) (cdd cld : Option Addr) (vs : Array Value) (ccs csl : Array (Option Value)) (tf : Tok),
    K.lookup (d.adr K) = some ⟨oc, od, .func (PySem.W.ksFn d.name d.qual (defArgs d.st) (defBody d.st) (defScope d.st) .none .none doc pm an (.ref q) ct cc), osl⟩ ∧ PySem.W.codeIn K (.ref q) d.qual = true ∧
    K.lookup q = some ⟨ccl, cdd, .fields vs, ccs⟩ ∧ vs[2]? = some (.str file tf) ∧ K.lookup cc = some ⟨cl, cld, .cell (some (.ref c)), csl⟩ := by
  obtain ⟨kp, c2⟩ := He.ba ok
  unfold fnA at e
  unfold inB at i
  cases q : K.lookup (d.adr K) with
  | none =>
    rw [q] at c2
    cases c2
  | some o =>
    obtain ⟨oc, od, dt, osl⟩ := o
    rw [q] at c2 e i
    cases dt with
    | func fd =>
      obtain ⟨n1, n2, n3, n4, n5, n6, n7, n8, n9, n10, n11, n12, n13, n14, n15⟩ := fd
      have e2 : (some (n1, n2, n3, n4, n5, n6, [], n15) : He.FnW) = some (d.name, d.qual, defArgs d.st, .stmts (defBody d.st), defScope d.st, mainGlobals, [], builtinsNs) := e
      simp only [Option.some.injEq, Prod.mk.injEq] at e2
      obtain ⟨h1, h2, h3, h4, h5, h6, _, h8⟩ := e2
      subst h1 h2 h3 h4 h5 h6 h8
      have c3 : (PySem.W.codeIn K n13 d.qual && nonV n8 && (d.sup || noC n7)) = true := c2
      obtain ⟨c3, _⟩ := He.ba c3
      obtain ⟨k1, k2⟩ := He.ba c3
      simp only at i
      obtain ⟨i, i3⟩ := He.ba i
      obtain ⟨i1, i2⟩ := He.ba i
      cases n8 with
      | none =>
        cases n9 with
        | none =>
          match n7, i2 with
          | [(x, a)], i2 =>
            simp only at i2
            obtain ⟨j1, j2⟩ := He.ba i2
            obtain rfl : x = "__class__" := of_decide_eq_true j1
            split at j2
            · rename_i cl cld b csl qa
              obtain rfl : b = c := of_decide_eq_true j2
              cases n13 with
              | ref qq =>
                simp only at i3
                split at i3
                · rename_i ccl cdd vs ccs qc
                  unfold flV at i3
                  split at i3
                  · rename_i x tf qv
                    obtain rfl : x = file := of_decide_eq_true i3
                    exact ⟨oc, od, n10, n11, n12, qq, n14, osl, a, ccl, cl, cdd, cld, vs, ccs, csl, tf, rfl, k1, qc, qv, qa⟩
                  · cases i3
                · cases i3
              | _ => cases i3
            · cases j2
        | _ => cases i1
      | _ => cases k2
    | _ => cases c2
def exB (K : PySem.W.Frag) (c n : Addr) : Bool := match K.lookup c with
  | some ⟨t, _, .cls cd, sl⟩ => decide (t = .type "type") && decide (cd.mro = [.ref c, .ref n, .type "ValueError", .type "Exception", .type "BaseException", .type "object"]) && cd.hasDict && !cd.hasDel && (match sl.toList with
    | [_, _, _, _, some (.builtin b), _] => decide (b = "ValueError.__new__")
    | _ => false)
  | _ => false
theorem exB_ok {K : PySem.W.Frag} {c n : Addr} (h : exB K c n = true) : ∃ (nm qn : Str) (N : Addr) (bs : List Value) (sn : List Str) (sub : List Value) (ab : Bool) (col : Option Bool) (dd : Option Addr) (m0 m1 m2 m3 m5 : Option Value),
    K.lookup c = some (excClassObj nm qn c N bs [.ref n, .type "ValueError", .type "Exception", .type "BaseException", .type "object"] true sn sub ab col dd m0 m1 m2 m3 m5 "ValueError.__new__") := by
  unfold exB at h
  split at h
  · rename_i t dd cd sl q
    obtain ⟨h, h5⟩ := He.ba h
    obtain ⟨h, h4⟩ := He.ba h
    obtain ⟨h, h3⟩ := He.ba h
    obtain ⟨h1, h2⟩ := He.ba h
    obtain rfl : t = .type "type" := of_decide_eq_true h1
    obtain ⟨nm, bs, mro, N, qn, hd, sn, sub, ab, col, del⟩ := cd
    obtain rfl : mro = [.ref c, .ref n, .type "ValueError", .type "Exception", .type "BaseException", .type "object"] := of_decide_eq_true h2
    obtain rfl : hd = true := h3
    obtain rfl : del = false := by cases del <;> simp_all
    split at h5
    · rename_i m0 m1 m2 m3 b m5 e
      obtain rfl : b = "ValueError.__new__" := of_decide_eq_true h5
      have e2 : sl = #[m0, m1, m2, m3, some (.builtin "ValueError.__new__"), m5] := by
        cases sl with
        | mk l => exact congrArg Array.mk e
      subst e2
      exact ⟨nm, qn, N, bs, sn, sub, ab, col, dd, m0, m1, m2, m3, m5, q⟩
    · cases h5
  · cases h
def ceA (g : Addr → Option Obj) (a : Addr) : List Addr := match g a with
  | some ⟨_, _, .func fd, _⟩ => fd.closure.map (·.2)
  | _ => []
def obsH (fa : List (PySem.W.Frag → Bool)) (fn : List DefH) (K : PySem.W.Frag) : He.AlD := ((fa.all fun f => f K) && fn.all fun d => d.ok K, fn.map fun d => fnA K (d.adr K))
def valH (fn : List DefH) : He.AlD := (true, fn.map DefH.val)
def SaysH (fa : List (PySem.W.Frag → Bool)) (fn : List DefH) (K : PySem.W.Frag) : Prop := obsH fa fn K = valH fn
def rcA (K : PySem.W.Frag) (a : Addr) (t : String) : Addr := match PySem.W.recIn K a t with
  | some (.ref b :: _) => b
  | _ => 0
def rcB (K : PySem.W.Frag) (a : Addr) (t : String) : Bool := match PySem.W.recIn K a t with
  | some (.ref _ :: _) => true
  | _ => false
def stA (K : PySem.W.Frag) (C : Addr) (m : Str) : Addr := match PySem.W.findCls K (.ref C) (.type "type") m with
  | some (.get _ (.ref p) _ _) => p
  | _ => 0
def cdA (g : Addr → Option Obj) (a : Addr) : List Addr := match g a with
  | some ⟨_, _, .func fd, _⟩ => He.refV fd.code
  | _ => []
def clA (g : Addr → Option Obj) (a : Addr) : List Addr := match g a with
  | some ⟨_, _, .cls cd, _⟩ => cd.ns :: cd.mro.flatMap He.refV
  | _ => []
def asH (gs cs : List Str) (ms ps ss : List (Str × Str)) (g : Addr → Option Obj) : List Addr :=
  let K0 := He.frG g [mainGlobals]
  let a1 := gs.map (He.ga K0)
  let c1 := cs.map (He.ga K0)
  let a2 := c1.flatMap (clA g)
  let K2 := He.frG g (mainGlobals :: c1 ++ a2)
  let a3 := ms.map fun q => He.ma K2 (He.ga K2 q.1) q.2
  let p3 := ps.map fun q => He.ma K2 (He.ga K2 q.1) q.2
  let s3 := ss.map fun q => He.ma K2 (He.ga K2 q.1) q.2
  let K3 := He.frG g (p3 ++ s3)
  let a4 := p3.map fun a => rcA K3 a "property"
  let b4 := s3.map fun a => rcA K3 a "staticmethod"
  mainGlobals :: c1 ++ a2 ++ a3 ++ p3 ++ s3 ++ a4 ++ b4 ++ a1 ++ a3.flatMap (cdA g) ++ a4.flatMap (cdA g) ++ b4.flatMap (cdA g) ++ a1.flatMap (cdA g) ++ (match ss with | [] => [] | _ => [cStatics])
section
variable {fa : List (PySem.W.Frag → Bool)} {fn : List DefH} {K : PySem.W.Frag}
theorem SaysH.all (c : SaysH fa fn K) : (fa.all fun f => f K) = true := (He.ba (show ((fa.all fun f => f K) && fn.all fun d => d.ok K) = true from congrArg (fun z : He.AlD => z.1) c)).1
theorem SaysH.fact (c : SaysH fa fn K) (i : Nat) {f : PySem.W.Frag → Bool} (h : fa[i]? = some f := by rfl) : f K = true := List.all_eq_true.mp c.all f (List.mem_of_getElem? h)
theorem SaysH.sup_ (c : SaysH fa fn K) (i : Nat) {d : DefH} {C : Addr} {file : Str} (hi : inB K (d.adr K) C file = true) (h : fn[i]? = some d := by rfl) :
    ∃ (oc : Value) (od : Option Addr) (doc pm : Value) (an : Option Addr) (q : Addr) (ct : Value) (osl : Array (Option Value)) (cc : Addr) (ccl cl : Value) (cdd cld : Option Addr) (vs : Array Value) (ccs csl : Array (Option Value)) (tf : Tok),
    K.lookup (d.adr K) = some ⟨oc, od, .func (PySem.W.ksFn d.name d.qual (defArgs d.st) (defBody d.st) (defScope d.st) .none .none doc pm an (.ref q) ct cc), osl⟩ ∧ PySem.W.codeIn K (.ref q) d.qual = true ∧
    K.lookup q = some ⟨ccl, cdd, .fields vs, ccs⟩ ∧ vs[2]? = some (.str file tf) ∧ K.lookup cc = some ⟨cl, cld, .cell (some (.ref C)), csl⟩ := by
  have c2 := (He.ba (show ((fa.all fun f => f K) && fn.all fun d => d.ok K) = true from congrArg (fun z : He.AlD => z.1) c)).2
  have e : fn.map (fun d => fnA K (d.adr K)) = fn.map DefH.val := congrArg (fun z : He.AlD => z.2) c
  have e2 : (fn.map fun d => fnA K (d.adr K))[i]? = (fn.map DefH.val)[i]? := by rw [e]
  rw [List.getElem?_map, List.getElem?_map, h] at e2
  exact DefH.sup_ (Option.some.inj e2) (List.all_eq_true.mp c2 d (List.mem_of_getElem? h)) hi
theorem SaysH.def_ (c : SaysH fa fn K) (i : Nat) {d : DefH} (h : fn[i]? = some d := by rfl) (hs : d.sup = false := by rfl) : ∃ (oc : Value) (od : Option Addr) (kV doc pm : Value) (an : Option Addr) (cdv ct : Value) (osl : Array (Option Value)),
    K.lookup (d.adr K) = some ⟨oc, od, .func (PySem.W.fnOf d.name d.qual (defArgs d.st) (defBody d.st) (defScope d.st) .none kV doc pm an cdv ct), osl⟩ ∧ PySem.W.codeIn K cdv d.qual = true ∧ PySem.W.keepIn K (.ref (d.adr K)) = true := by
  have c2 := (He.ba (show ((fa.all fun f => f K) && fn.all fun d => d.ok K) = true from congrArg (fun z : He.AlD => z.1) c)).2
  have e : fn.map (fun d => fnA K (d.adr K)) = fn.map DefH.val := congrArg (fun z : He.AlD => z.2) c
  have e2 : (fn.map fun d => fnA K (d.adr K))[i]? = (fn.map DefH.val)[i]? := by rw [e]
  rw [List.getElem?_map, List.getElem?_map, h] at e2
  exact DefH.fun_ (Option.some.inj e2) (List.all_eq_true.mp c2 d (List.mem_of_getElem? h)) hs
end
theorem rcB_ok {K : PySem.W.Frag} {a : Addr} {t : String} (h : rcB K a t = true) : ∃ rest, PySem.W.recIn K a t = some (.ref (rcA K a t) :: rest) := by
  unfold rcB at h
  unfold rcA
  cases e : PySem.W.recIn K a t with
  | none => rw [e] at h; cases h
  | some l =>
    rw [e] at h
    cases l with
    | nil => cases h
    | cons v r =>
      cases v with
      | ref b => exact ⟨r, rfl⟩
      | _ => cases h
def stB (K : PySem.W.Frag) (C : Addr) (m : Str) : Bool := match PySem.W.findCls K (.ref C) (.type "type") m with
  | some (.get (.builtin b) (.ref _) .none (.ref c)) => decide (b = "staticmethod.__get__") && decide (c = C)
  | _ => false
theorem stB_ok {K : PySem.W.Frag} {C : Addr} {m : Str} (h : stB K C m = true) : PySem.W.findCls K (.ref C) (.type "type") m = some (.get (.builtin "staticmethod.__get__") (.ref (stA K C m)) .none (.ref C)) := by
  unfold stB at h
  unfold stA
  split at h
  · rename_i b p c e
    obtain ⟨h1, h2⟩ := He.ba h
    obtain rfl : b = "staticmethod.__get__" := of_decide_eq_true h1
    obtain rfl : c = C := of_decide_eq_true h2
    rw [e]
  · cases h
def itB (x : Option (Option Value)) (i : Int) : Bool := match x with
  | some (some (.int j _)) => decide (j = i)
  | _ => false
theorem itB_ok {x : Option (Option Value)} {i : Int} (h : itB x i = true) : ∃ t, x = some (some (.int i t)) := by
  unfold itB at h
  split at h
  · rename_i j t
    obtain rfl : j = i := of_decide_eq_true h
    exact ⟨t, rfl⟩
  · cases h
theorem dok {p : Prop} [Decidable p] (h : decide p = true) : p := of_decide_eq_true h
end Hn
namespace Wx
open PySem PySem.Spec PyProof.Rows L2 Evl
def smB (K : PySem.W.Frag) : Bool := match K.lookup sysModules with
  | some ⟨.type "dict", _, _, _⟩ => true
  | _ => false
end Wx
namespace Hn
open PySem PySem.Spec PyProof.Rows L2 Evl
def coA (K : PySem.W.Frag) (f : Addr) : Addr := match K.lookup f with
  | some ⟨_, _, .func fd, _⟩ => (match fd.code with
    | .ref c => c
    | _ => 0)
  | _ => 0
def tbA (K : PySem.W.Frag) (f : Addr) : Addr := match K.lookup (coA K f) with
  | some ⟨_, _, .fields vs, _⟩ => (match (vs[11]? : Option Value) with
    | some (.ref p) => p
    | _ => 0)
  | _ => 0
def coB (K : PySem.W.Frag) (f : Addr) : Bool := match K.lookup f with
  | some ⟨_, _, .func fd, _⟩ => (match fd.code with
    | .ref _ => true
    | _ => false)
  | _ => false
theorem coB_ok {K : PySem.W.Frag} {f : Addr} {oc : Value} {od : Option Addr} {fd : FuncData} {osl : Array (Option Value)} (h : coB K f = true) (l : K.lookup f = some ⟨oc, od, .func fd, osl⟩) : fd.code = .ref (coA K f) := by
  unfold coB at h
  unfold coA
  rw [l] at h ⊢
  simp only at h ⊢
  split at h
  · next c e => rw [e]
  · cases h
def tabE (o : Option Obj) : Bool := match o with
  | some ⟨.none, .none, .fields vs, sl⟩ => vs.isEmpty && sl.isEmpty
  | _ => false
theorem tabE_ok {o : Option Obj} (h : tabE o = true) : o = some { cls := .none, data := .fields #[] } := by
  unfold tabE at h
  split at h
  · next vs sl =>
    obtain ⟨h1, h2⟩ := He.ba h
    rw [Array.isEmpty_iff] at h1 h2
    subst h1 h2
    rfl
  · cases h
def obsT (as : (Addr → Option Obj) → List Addr) (tb : List (PySem.W.Frag → Addr)) (fa : List (PySem.W.Frag → Bool)) (fn : List DefH) (g : Addr → Option Obj) : He.AlD :=
  let K := He.frG g (as g)
  ((tb.all fun t => tabE (g (t K))) && ((fa.all fun f => f K) && fn.all fun d => d.ok K), fn.map fun d => fnA K (d.adr K))
def SaysT (tb : List (PySem.W.Frag → Addr)) (K : PySem.W.Frag) (h : Heap) : Prop := ∀ t ∈ tb, h.get? (t K) = some { cls := .none, data := .fields #[] }
def hookT (as : (Addr → Option Obj) → List Addr) (tb : List (PySem.W.Frag → Addr)) (fa : List (PySem.W.Frag → Bool)) (fn : List DefH) : PySem.W.Hook where
  α := He.AlD
  obs := fun s => obsT as tb fa fn s.heap.get?
  val := fun _ => valH fn
  says := fun _ h => ∃ K : PySem.W.Frag, K.In h ∧ SaysH fa fn K ∧ SaysT tb K h
  of := fun s _ e => by
    obtain ⟨e1, e2⟩ := Prod.mk.inj e
    obtain ⟨e3, e4⟩ := He.ba e1
    exact ⟨_, He.frG_in, Prod.ext e4 e2, fun t ht => tabE_ok (List.all_eq_true.mp e3 t ht)⟩
  keeps := fun _ _ _ ⟨K, hK, c, d⟩ k => ⟨K, PySem.W.Frag.In.keeps hK k, c, fun t ht => k _ _ (d t ht)⟩
theorem obsT_eq {as : (Addr → Option Obj) → List Addr} {tb : List (PySem.W.Frag → Addr)} {fa : List (PySem.W.Frag → Bool)} {fn : List DefH} {g : Addr → Option Obj} {s : Shared} (h : ∀ a, g a = s.heap.get? a) : obsT as tb fa fn g = (hookT as tb fa fn).obs s := by
  have e : g = s.heap.get? := funext h
  rw [e] <;> rfl
end Hn
namespace Pf
open PySem PySem.Spec PyProof.Rows L2 Evl Hn Wx
def top (i : Nat) : Stmt := PySem.Challenge.pw_hourneeds_k26_plans_refused.main.body.getD i (.Pass ⟨0, 0, 0, 0⟩)
abbrev s__law_bag : Stmt := top 24
abbrev s__law_take : Stmt := top 25
abbrev s__law_number : Stmt := top 27
abbrev s__law_drawn_row : Stmt := top 28
abbrev s__law_same : Stmt := top 30
abbrev s__law_heard : Stmt := top 29
abbrev s_is_integer : Stmt := top 8
abbrev s_is_hour : Stmt := top 10
abbrev s_Plan___getitem__ : Stmt := inClass (top 22) 15
abbrev s_Plan_hours : Stmt := inClass (top 22) 1
abbrev s_is_count : Stmt := top 9
abbrev s_are_counts : Stmt := top 11
abbrev s_is_row : Stmt := top 14
abbrev s_Plan___init__ : Stmt := inClass (top 22) 0
abbrev s_Plan_moved : Stmt := inClass (top 22) 8
abbrev s_Plan_later : Stmt := inClass (top 22) 9
abbrev s_Plan_earlier : Stmt := inClass (top 22) 10
abbrev s_row_of : Stmt := top 19
abbrev s_pairs_of : Stmt := top 15
abbrev s_sums_of : Stmt := top 18
abbrev s_both_sums : Stmt := top 21
abbrev s_Plan___and__ : Stmt := inClass (top 22) 16
abbrev s_Plan___or__ : Stmt := inClass (top 22) 17
abbrev s_Plan_within : Stmt := inClass (top 22) 11
abbrev s_Plan___len__ : Stmt := inClass (top 22) 13
abbrev s_Plan___add__ : Stmt := inClass (top 22) 18
abbrev s_Plan___iter__ : Stmt := inClass (top 22) 14
abbrev s__law_doors_right : Stmt := top 34
abbrev s__law_one : Stmt := top 26
abbrev s__law_bent : Stmt := top 33
abbrev s__law_are_counts : Stmt := top 31
abbrev s_are_sums : Stmt := top 20
abbrev s_Plan_of_sums : Stmt := inClass (top 22) 3
abbrev s__law_are_sums : Stmt := top 32
abbrev s_Needs___init__ : Stmt := inClass (top 16) 0
abbrev s_Plan___eq__ : Stmt := inClass (top 22) 19
abbrev s_law : Stmt := top 35
def flX : Str := PySem.Challenge.pw_hourneeds_k26_plans_refused.main.file
def fas0 : List (PySem.W.Frag → Bool) := [
  fun K => decide (PySem.W.nsIn K mainGlobals "Needs" = some (some (.ref (He.ga K "Needs")))),
  fun K => PySem.W.plainGet K (He.ga K "Needs") Str.empty,
  fun K => PySem.W.hasDictIn K (He.ga K "Needs"),
  fun K => PySem.W.plainOver K (He.ga K "Needs"),
  fun K => decide (PySem.W.findIn K (.ref (He.ga K "Needs")) "__setattr__" = some (some (.builtin "object.__setattr__"))),
  fun K => PySem.W.selfFirst K (He.ga K "Needs"),
  fun K => decide (PySem.W.nsIn K mainGlobals "Plan" = some (some (.ref (He.ga K "Plan")))),
  fun K => PySem.W.plainGet K (He.ga K "Plan") Str.empty,
  fun K => PySem.W.hasDictIn K (He.ga K "Plan"),
  fun K => PySem.W.plainOver K (He.ga K "Plan"),
  fun K => decide (PySem.W.findIn K (.ref (He.ga K "Plan")) "__setattr__" = some (some (.builtin "object.__setattr__"))),
  fun K => PySem.W.selfFirst K (He.ga K "Plan"),
  fun K => decide (PySem.W.findIn K (.ref (He.ga K "Needs")) "kept_row" = some none),
  fun K => decide (PySem.W.findIn K (.ref (He.ga K "Plan")) "kept_begins" = some none),
  fun K => decide (PySem.W.nsIn K mainGlobals "_law_bag" = some (some (.ref (He.ga K "_law_bag")))),
  fun K => decide (PySem.W.nsIn K mainGlobals "_law_take" = some (some (.ref (He.ga K "_law_take")))),
  fun K => decide (PySem.W.nsIn K mainGlobals "_law_number" = some (some (.ref (He.ga K "_law_number")))),
  fun K => decide (PySem.W.nsIn K mainGlobals "_law_drawn_row" = some (some (.ref (He.ga K "_law_drawn_row")))),
  fun K => decide (PySem.W.nsIn K mainGlobals "_law_same" = some (some (.ref (He.ga K "_law_same")))),
  fun K => decide (PySem.W.nsIn K mainGlobals "_law_heard" = some (some (.ref (He.ga K "_law_heard")))),
  fun K => decide (PySem.W.nsIn K mainGlobals "is_integer" = some (some (.ref (He.ga K "is_integer")))),
  fun K => decide (PySem.W.nsIn K mainGlobals "is_hour" = some (some (.ref (He.ga K "is_hour")))),
  fun K => decide (PySem.W.findIn K (.ref (He.ga K "Plan")) "__getitem__" = some (some (.ref (He.ma K (He.ga K "Plan") "__getitem__")))),
  fun K => PySem.W.isFn K (.ref (He.ma K (He.ga K "Plan") "__getitem__")),
  fun K => PySem.W.fnIn K (He.ma K (He.ga K "Plan") "__getitem__"),
  fun K => decide (PySem.W.findIn K (.ref (He.ga K "Plan")) "hours" = some (some (.ref (He.ma K (He.ga K "Plan") "hours")))),
  fun K => decide (PySem.W.specialIn K (.ref (He.ma K (He.ga K "Plan") "hours")) "__get__" = some (some (.builtin "property.__get__"))),
  fun K => decide (PySem.W.takesIn K (.ref (He.ma K (He.ga K "Plan") "hours")) = some true),
  fun K => rcB K (He.ma K (He.ga K "Plan") "hours") "property",
  fun K => decide (PySem.W.nsIn K mainGlobals "is_count" = some (some (.ref (He.ga K "is_count")))),
  fun K => decide (PySem.W.nsIn K mainGlobals "are_counts" = some (some (.ref (He.ga K "are_counts")))),
  fun K => decide (PySem.W.nsIn K mainGlobals "is_row" = some (some (.ref (He.ga K "is_row")))),
  fun K => decide (PySem.W.findIn K (.ref (He.ga K "Plan")) "__init__" = some (some (.ref (He.ma K (He.ga K "Plan") "__init__")))),
  fun K => PySem.W.isFn K (.ref (He.ma K (He.ga K "Plan") "__init__")),
  fun K => PySem.W.makesIn K (He.ga K "Plan"),
  fun K => PySem.W.keepIn K (.ref (He.ga K "Plan")),
  fun K => decide (PySem.W.findIn K (.ref (He.ga K "Plan")) "moved" = some (some (.ref (He.ma K (He.ga K "Plan") "moved")))),
  fun K => PySem.W.isFn K (.ref (He.ma K (He.ga K "Plan") "moved")),
  fun K => decide (PySem.W.findIn K (.ref (He.ga K "Plan")) "later" = some (some (.ref (He.ma K (He.ga K "Plan") "later")))),
  fun K => PySem.W.isFn K (.ref (He.ma K (He.ga K "Plan") "later"))]
def fas1 : List (PySem.W.Frag → Bool) := [
  fun K => decide (PySem.W.findIn K (.ref (He.ga K "Plan")) "earlier" = some (some (.ref (He.ma K (He.ga K "Plan") "earlier")))),
  fun K => PySem.W.isFn K (.ref (He.ma K (He.ga K "Plan") "earlier")),
  fun K => decide (PySem.W.nsIn K mainGlobals "row_of" = some (some (.ref (He.ga K "row_of")))),
  fun K => decide (PySem.W.nsIn K mainGlobals "pairs_of" = some (some (.ref (He.ga K "pairs_of")))),
  fun K => decide (PySem.W.nsIn K mainGlobals "sums_of" = some (some (.ref (He.ga K "sums_of")))),
  fun K => decide (PySem.W.nsIn K mainGlobals "both_sums" = some (some (.ref (He.ga K "both_sums")))),
  fun K => decide (PySem.W.findIn K (.ref (He.ga K "Plan")) "__and__" = some (some (.ref (He.ma K (He.ga K "Plan") "__and__")))),
  fun K => PySem.W.isFn K (.ref (He.ma K (He.ga K "Plan") "__and__")),
  fun K => decide (PySem.W.findIn K (.ref (He.ga K "Plan")) "__or__" = some (some (.ref (He.ma K (He.ga K "Plan") "__or__")))),
  fun K => PySem.W.isFn K (.ref (He.ma K (He.ga K "Plan") "__or__")),
  fun K => decide (PySem.W.findIn K (.ref (He.ga K "Plan")) "within" = some (some (.ref (He.ma K (He.ga K "Plan") "within")))),
  fun K => PySem.W.isFn K (.ref (He.ma K (He.ga K "Plan") "within")),
  fun K => decide (PySem.W.findIn K (.ref (He.ga K "Plan")) "__len__" = some (some (.ref (He.ma K (He.ga K "Plan") "__len__")))),
  fun K => PySem.W.isFn K (.ref (He.ma K (He.ga K "Plan") "__len__")),
  fun K => decide (PySem.W.findIn K (.ref (He.ga K "Plan")) "__add__" = some (some (.ref (He.ma K (He.ga K "Plan") "__add__")))),
  fun K => PySem.W.isFn K (.ref (He.ma K (He.ga K "Plan") "__add__")),
  fun K => decide (PySem.W.findIn K (.ref (He.ga K "Plan")) "__iter__" = some (some (.ref (He.ma K (He.ga K "Plan") "__iter__")))),
  fun K => PySem.W.isFn K (.ref (He.ma K (He.ga K "Plan") "__iter__")),
  fun K => decide (PySem.W.nsIn K mainGlobals "_law_doors_right" = some (some (.ref (He.ga K "_law_doors_right")))),
  fun K => coB K (He.ga K "_law_doors_right"),
  fun K => PySem.W.codeHdIn K (coA K (He.ga K "_law_doors_right")) (tbA K (He.ga K "_law_doors_right")),
  fun K => (K.lookup (tbA K (He.ga K "_law_doors_right"))).isNone,
  fun K => decide (PySem.W.nsIn K mainGlobals "_law_one" = some (some (.ref (He.ga K "_law_one")))),
  fun K => decide (PySem.W.nsIn K mainGlobals "_law_bent" = some (some (.ref (He.ga K "_law_bent")))),
  fun K => decide (PySem.W.nsIn K mainGlobals "_law_are_counts" = some (some (.ref (He.ga K "_law_are_counts")))),
  fun K => decide (PySem.W.nsIn K mainGlobals "are_sums" = some (some (.ref (He.ga K "are_sums")))),
  fun K => PySem.W.readsIn K (He.ga K "Plan") (.type "type"),
  fun K => decide (PySem.W.specialIn K (.ref (He.ga K "Plan")) "__getattribute__" = some (some (.builtin "type.__getattribute__"))),
  fun K => stB K (He.ga K "Plan") "of_sums",
  fun K => rcB K (stA K (He.ga K "Plan") "of_sums") "staticmethod",
  fun K => decide (PySem.W.nsIn K mainGlobals "_law_are_sums" = some (some (.ref (He.ga K "_law_are_sums")))),
  fun K => decide (PySem.W.findIn K (.ref (He.ga K "Needs")) "__init__" = some (some (.ref (He.ma K (He.ga K "Needs") "__init__")))),
  fun K => PySem.W.isFn K (.ref (He.ma K (He.ga K "Needs") "__init__")),
  fun K => PySem.W.makesIn K (He.ga K "Needs"),
  fun K => PySem.W.keepIn K (.ref (He.ga K "Needs")),
  fun K => decide (PySem.W.findIn K (.ref (He.ga K "Plan")) "__eq__" = some (some (.ref (He.ma K (He.ga K "Plan") "__eq__")))),
  fun K => PySem.W.isFn K (.ref (He.ma K (He.ga K "Plan") "__eq__")),
  fun K => decide (PySem.W.nsIn K mainGlobals "law" = some (some (.ref (He.ga K "law")))),
  fun K => coB K (He.ga K "law"),
  fun K => PySem.W.codeHdIn K (coA K (He.ga K "law")) (tbA K (He.ga K "law"))]
def fas2 : List (PySem.W.Frag → Bool) := [
  fun K => (K.lookup (tbA K (He.ga K "law"))).isNone,
  fun K => decide ([(tbA K (He.ga K "_law_doors_right")), (tbA K (He.ga K "law"))].Nodup),
  fun K => decide (PySem.W.nsIn K mainGlobals "abs" = some none),
  fun K => decide (PySem.W.nsIn K mainGlobals "all" = some none),
  fun K => decide (PySem.W.nsIn K mainGlobals "bool" = some none),
  fun K => decide (PySem.W.nsIn K mainGlobals "int" = some none),
  fun K => decide (PySem.W.nsIn K mainGlobals "isinstance" = some none),
  fun K => decide (PySem.W.nsIn K mainGlobals "iter" = some none),
  fun K => decide (PySem.W.nsIn K mainGlobals "len" = some none),
  fun K => decide (PySem.W.nsIn K mainGlobals "list" = some none),
  fun K => decide (PySem.W.nsIn K mainGlobals "max" = some none),
  fun K => decide (PySem.W.nsIn K mainGlobals "min" = some none),
  fun K => decide (PySem.W.nsIn K mainGlobals "range" = some none),
  fun K => decide (PySem.W.nsIn K mainGlobals "repr" = some none),
  fun K => decide (PySem.W.nsIn K mainGlobals "tuple" = some none),
  fun K => decide (PySem.W.nsIn K mainGlobals "zip" = some none),
  fun K => itB (PySem.W.nsIn K mainGlobals "MOST_HOURS") 48,
  fun K => decide (PySem.W.findIn K (.ref (He.ga K "Needs")) "__class__" = some (some (.builtin "object.__class__"))),
  fun K => decide (PySem.W.specialIn K (.builtin "object.__class__") "__get__" = some (some (.builtin "getset_descriptor.__get__"))),
  fun K => decide (PySem.W.takesIn K (.builtin "object.__class__") = some true),
  fun K => decide (PySem.W.mroIn K (He.ga K "Needs") (.type "object") = some true),
  fun K => decide (PySem.W.findIn K (.ref (He.ga K "Plan")) "__class__" = some (some (.builtin "object.__class__"))),
  fun K => decide (PySem.W.mroIn K (He.ga K "Plan") (.type "object") = some true),
  fun K => decide (PySem.W.kitOne K (.ref (He.ga K "Needs")) (.type "list") = some false),
  fun K => decide (PySem.W.kitOne K (.ref (He.ga K "Needs")) (.type "tuple") = some false),
  fun K => decide (PySem.W.kitOne K (.ref (He.ga K "Plan")) (.type "int") = some false),
  fun K => decide (PySem.W.kitOne K (.ref (He.ga K "Plan")) (.type "list") = some false),
  fun K => decide (PySem.W.kitOne K (.ref (He.ga K "Plan")) (.type "tuple") = some false),
  fun K => Wx.smB K,
  fun K => decide (PySem.W.nsIn K mainGlobals "NeedError" = some (some (.ref (He.ga K "NeedError")))),
  fun K => decide (PySem.W.subIn K (.ref (He.ga K "NeedError")) (.type "BaseException") = some true),
  fun K => PySem.W.hasDictIn K (He.ga K "NeedError"),
  fun K => decide (PySem.W.typeIn K (.ref (He.ga K "NeedError")) = some (.type "type")),
  fun K => decide (PySem.W.nsIn K cStatics "thirdparty.any" = some none),
  fun K => decide (PySem.W.nsIn K mainGlobals "super" = some none),
  fun K => decide (PySem.W.nsIn K mainGlobals "NoBegin" = some (some (.ref (He.ga K "NoBegin")))),
  fun K => exB K (He.ga K "NoBegin") (He.ga K "NeedError"),
  fun K => decide (PySem.W.findIn K (.ref (He.ga K "NoBegin")) "__setattr__" = some (some (.builtin "object.__setattr__"))),
  fun K => decide (PySem.W.findIn K (.ref (He.ga K "NoBegin")) "__getattribute__" = some (some (.builtin "BaseException.__getattribute__"))),
  fun K => decide (PySem.W.findIn K (.ref (He.ga K "NoBegin")) "__getattr__" = some none)]
def fas3 : List (PySem.W.Frag → Bool) := [
  fun K => decide (PySem.W.findIn K (.ref (He.ga K "NoBegin")) "hour" = some none),
  fun K => decide (PySem.W.findIn K (.ref (He.ga K "NoBegin")) "__init__" = some (some (.ref (He.ma K (He.ga K "NoBegin") "__init__")))),
  fun K => decide (PySem.W.findIn K (.ref (He.ga K "NoBegin")) "__class__" = some (some (.builtin "object.__class__"))),
  fun K => decide (PySem.W.typeIn K (.ref (He.ma K (He.ga K "NoBegin") "__init__")) = some (.type "function")),
  fun K => PySem.W.keepIn K (.ref (He.ga K "NoBegin")),
  fun K => decide (PySem.W.subIn K (.ref (He.ga K "NoBegin")) (.type "BaseException") = some true),
  fun K => decide (PySem.W.subIn K (.ref (He.ga K "NoBegin")) (.type "ValueError") = some true),
  fun K => decide (PySem.W.subIn K (.ref (He.ga K "NoBegin")) (.ref (He.ga K "NeedError")) = some true),
  fun K => decide (PySem.W.typeIn K (.ref (He.ga K "NoBegin")) = some (.type "type")),
  fun K => PySem.W.hasDictIn K (He.ga K "NoBegin"),
  fun K => decide (PySem.W.mroIn K (He.ga K "NoBegin") (.ref (He.ga K "NoBegin")) = some true),
  fun K => decide (PySem.W.mroIn K (He.ga K "NoBegin") (.type "object") = some true),
  fun K => decide (PySem.W.ks_superIn K (He.ga K "NoBegin") (He.ga K "NoBegin") "__init__" = some (some (.builtin "ValueError.__init__"))),
  fun K => inB K (He.ma K (He.ga K "NoBegin") "__init__") (He.ga K "NoBegin") flX,
  fun K => decide (PySem.W.nsIn K mainGlobals "NoHour" = some (some (.ref (He.ga K "NoHour")))),
  fun K => exB K (He.ga K "NoHour") (He.ga K "NeedError"),
  fun K => decide (PySem.W.findIn K (.ref (He.ga K "NoHour")) "__setattr__" = some (some (.builtin "object.__setattr__"))),
  fun K => decide (PySem.W.findIn K (.ref (He.ga K "NoHour")) "__getattribute__" = some (some (.builtin "BaseException.__getattribute__"))),
  fun K => decide (PySem.W.findIn K (.ref (He.ga K "NoHour")) "__getattr__" = some none),
  fun K => decide (PySem.W.findIn K (.ref (He.ga K "NoHour")) "hour" = some none),
  fun K => decide (PySem.W.findIn K (.ref (He.ga K "NoHour")) "__init__" = some (some (.ref (He.ma K (He.ga K "NoHour") "__init__")))),
  fun K => decide (PySem.W.findIn K (.ref (He.ga K "NoHour")) "__class__" = some (some (.builtin "object.__class__"))),
  fun K => decide (PySem.W.typeIn K (.ref (He.ma K (He.ga K "NoHour") "__init__")) = some (.type "function")),
  fun K => PySem.W.keepIn K (.ref (He.ga K "NoHour")),
  fun K => decide (PySem.W.subIn K (.ref (He.ga K "NoHour")) (.type "BaseException") = some true),
  fun K => decide (PySem.W.subIn K (.ref (He.ga K "NoHour")) (.type "ValueError") = some true),
  fun K => decide (PySem.W.subIn K (.ref (He.ga K "NoHour")) (.ref (He.ga K "NeedError")) = some true),
  fun K => decide (PySem.W.typeIn K (.ref (He.ga K "NoHour")) = some (.type "type")),
  fun K => PySem.W.hasDictIn K (He.ga K "NoHour"),
  fun K => decide (PySem.W.mroIn K (He.ga K "NoHour") (.ref (He.ga K "NoHour")) = some true),
  fun K => decide (PySem.W.mroIn K (He.ga K "NoHour") (.type "object") = some true),
  fun K => decide (PySem.W.ks_superIn K (He.ga K "NoHour") (He.ga K "NoHour") "__init__" = some (some (.builtin "ValueError.__init__"))),
  fun K => inB K (He.ma K (He.ga K "NoHour") "__init__") (He.ga K "NoHour") flX,
  fun K => decide (PySem.W.nsIn K mainGlobals "Unlike" = some (some (.ref (He.ga K "Unlike")))),
  fun K => exB K (He.ga K "Unlike") (He.ga K "NeedError"),
  fun K => decide (PySem.W.findIn K (.ref (He.ga K "Unlike")) "__setattr__" = some (some (.builtin "object.__setattr__"))),
  fun K => decide (PySem.W.findIn K (.ref (He.ga K "Unlike")) "__getattribute__" = some (some (.builtin "BaseException.__getattribute__"))),
  fun K => decide (PySem.W.findIn K (.ref (He.ga K "Unlike")) "__getattr__" = some none),
  fun K => decide (PySem.W.findIn K (.ref (He.ga K "Unlike")) "__init__" = some (some (.ref (He.ma K (He.ga K "Unlike") "__init__")))),
  fun K => decide (PySem.W.findIn K (.ref (He.ga K "Unlike")) "__class__" = some (some (.builtin "object.__class__")))]
def fas4 : List (PySem.W.Frag → Bool) := [
  fun K => decide (PySem.W.typeIn K (.ref (He.ma K (He.ga K "Unlike") "__init__")) = some (.type "function")),
  fun K => PySem.W.keepIn K (.ref (He.ga K "Unlike")),
  fun K => decide (PySem.W.subIn K (.ref (He.ga K "Unlike")) (.type "BaseException") = some true),
  fun K => decide (PySem.W.subIn K (.ref (He.ga K "Unlike")) (.type "ValueError") = some true),
  fun K => decide (PySem.W.subIn K (.ref (He.ga K "Unlike")) (.ref (He.ga K "NeedError")) = some true),
  fun K => decide (PySem.W.typeIn K (.ref (He.ga K "Unlike")) = some (.type "type")),
  fun K => PySem.W.hasDictIn K (He.ga K "Unlike"),
  fun K => decide (PySem.W.mroIn K (He.ga K "Unlike") (.ref (He.ga K "Unlike")) = some true),
  fun K => decide (PySem.W.mroIn K (He.ga K "Unlike") (.type "object") = some true),
  fun K => decide (PySem.W.ks_superIn K (He.ga K "Unlike") (He.ga K "Unlike") "__init__" = some (some (.builtin "ValueError.__init__"))),
  fun K => inB K (He.ma K (He.ga K "Unlike") "__init__") (He.ga K "Unlike") flX,
  fun K => decide (PySem.W.nsIn K mainGlobals "Wrong" = some (some (.ref (He.ga K "Wrong")))),
  fun K => exB K (He.ga K "Wrong") (He.ga K "NeedError"),
  fun K => decide (PySem.W.findIn K (.ref (He.ga K "Wrong")) "__setattr__" = some (some (.builtin "object.__setattr__"))),
  fun K => decide (PySem.W.findIn K (.ref (He.ga K "Wrong")) "__getattribute__" = some (some (.builtin "BaseException.__getattribute__"))),
  fun K => decide (PySem.W.findIn K (.ref (He.ga K "Wrong")) "__getattr__" = some none),
  fun K => decide (PySem.W.findIn K (.ref (He.ga K "Wrong")) "place" = some none),
  fun K => decide (PySem.W.findIn K (.ref (He.ga K "Wrong")) "__init__" = some (some (.ref (He.ma K (He.ga K "Wrong") "__init__")))),
  fun K => decide (PySem.W.findIn K (.ref (He.ga K "Wrong")) "__class__" = some (some (.builtin "object.__class__"))),
  fun K => decide (PySem.W.typeIn K (.ref (He.ma K (He.ga K "Wrong") "__init__")) = some (.type "function")),
  fun K => PySem.W.keepIn K (.ref (He.ga K "Wrong")),
  fun K => decide (PySem.W.subIn K (.ref (He.ga K "Wrong")) (.type "BaseException") = some true),
  fun K => decide (PySem.W.subIn K (.ref (He.ga K "Wrong")) (.type "ValueError") = some true),
  fun K => decide (PySem.W.subIn K (.ref (He.ga K "Wrong")) (.ref (He.ga K "NeedError")) = some true),
  fun K => decide (PySem.W.typeIn K (.ref (He.ga K "Wrong")) = some (.type "type")),
  fun K => PySem.W.hasDictIn K (He.ga K "Wrong"),
  fun K => decide (PySem.W.mroIn K (He.ga K "Wrong") (.ref (He.ga K "Wrong")) = some true),
  fun K => decide (PySem.W.mroIn K (He.ga K "Wrong") (.type "object") = some true),
  fun K => decide (PySem.W.ks_superIn K (He.ga K "Wrong") (He.ga K "Wrong") "__init__" = some (some (.builtin "ValueError.__init__"))),
  fun K => inB K (He.ma K (He.ga K "Wrong") "__init__") (He.ga K "Wrong") flX,
  fun K => decide (PySem.W.kitOne K (.ref (He.ga K "NoBegin")) (.ref (He.ga K "NoBegin")) = some true),
  fun K => decide (PySem.W.kitOne K (.ref (He.ga K "NoBegin")) (.ref (He.ga K "NoHour")) = some false),
  fun K => decide (PySem.W.kitOne K (.ref (He.ga K "NoBegin")) (.ref (He.ga K "Unlike")) = some false),
  fun K => decide (PySem.W.kitOne K (.ref (He.ga K "NoBegin")) (.ref (He.ga K "Wrong")) = some false),
  fun K => decide (PySem.W.kitOne K (.ref (He.ga K "NoHour")) (.ref (He.ga K "NoBegin")) = some false),
  fun K => decide (PySem.W.kitOne K (.ref (He.ga K "NoHour")) (.ref (He.ga K "NoHour")) = some true),
  fun K => decide (PySem.W.kitOne K (.ref (He.ga K "NoHour")) (.ref (He.ga K "Unlike")) = some false),
  fun K => decide (PySem.W.kitOne K (.ref (He.ga K "NoHour")) (.ref (He.ga K "Wrong")) = some false),
  fun K => decide (PySem.W.kitOne K (.ref (He.ga K "Unlike")) (.ref (He.ga K "NoBegin")) = some false),
  fun K => decide (PySem.W.kitOne K (.ref (He.ga K "Unlike")) (.ref (He.ga K "NoHour")) = some false)]
def fas5 : List (PySem.W.Frag → Bool) := [
  fun K => decide (PySem.W.kitOne K (.ref (He.ga K "Unlike")) (.ref (He.ga K "Unlike")) = some true),
  fun K => decide (PySem.W.kitOne K (.ref (He.ga K "Unlike")) (.ref (He.ga K "Wrong")) = some false),
  fun K => decide (PySem.W.kitOne K (.ref (He.ga K "Wrong")) (.ref (He.ga K "NoBegin")) = some false),
  fun K => decide (PySem.W.kitOne K (.ref (He.ga K "Wrong")) (.ref (He.ga K "NoHour")) = some false),
  fun K => decide (PySem.W.kitOne K (.ref (He.ga K "Wrong")) (.ref (He.ga K "Unlike")) = some false),
  fun K => decide (PySem.W.kitOne K (.ref (He.ga K "Wrong")) (.ref (He.ga K "Wrong")) = some true)]
def fas : List (PySem.W.Frag → Bool) := fas0 ++ fas1 ++ fas2 ++ fas3 ++ fas4 ++ fas5
def fns0 : List DefH := [
  ⟨fun K => (He.ga K "_law_bag"), "_law_bag", "_law_bag", s__law_bag, false⟩,
  ⟨fun K => (He.ga K "_law_take"), "_law_take", "_law_take", s__law_take, false⟩,
  ⟨fun K => (He.ga K "_law_number"), "_law_number", "_law_number", s__law_number, false⟩,
  ⟨fun K => (He.ga K "_law_drawn_row"), "_law_drawn_row", "_law_drawn_row", s__law_drawn_row, false⟩,
  ⟨fun K => (He.ga K "_law_same"), "_law_same", "_law_same", s__law_same, false⟩,
  ⟨fun K => (He.ga K "_law_heard"), "_law_heard", "_law_heard", s__law_heard, false⟩,
  ⟨fun K => (He.ga K "is_integer"), "is_integer", "is_integer", s_is_integer, false⟩,
  ⟨fun K => (He.ga K "is_hour"), "is_hour", "is_hour", s_is_hour, false⟩,
  ⟨fun K => (He.ma K (He.ga K "Plan") "__getitem__"), "__getitem__", "Plan.__getitem__", s_Plan___getitem__, false⟩,
  ⟨fun K => (rcA K (He.ma K (He.ga K "Plan") "hours") "property"), "hours", "Plan.hours", s_Plan_hours, false⟩,
  ⟨fun K => (He.ga K "is_count"), "is_count", "is_count", s_is_count, false⟩,
  ⟨fun K => (He.ga K "are_counts"), "are_counts", "are_counts", s_are_counts, false⟩,
  ⟨fun K => (He.ga K "is_row"), "is_row", "is_row", s_is_row, false⟩,
  ⟨fun K => (He.ma K (He.ga K "Plan") "__init__"), "__init__", "Plan.__init__", s_Plan___init__, false⟩,
  ⟨fun K => (He.ma K (He.ga K "Plan") "moved"), "moved", "Plan.moved", s_Plan_moved, false⟩,
  ⟨fun K => (He.ma K (He.ga K "Plan") "later"), "later", "Plan.later", s_Plan_later, false⟩,
  ⟨fun K => (He.ma K (He.ga K "Plan") "earlier"), "earlier", "Plan.earlier", s_Plan_earlier, false⟩,
  ⟨fun K => (He.ga K "row_of"), "row_of", "row_of", s_row_of, false⟩,
  ⟨fun K => (He.ga K "pairs_of"), "pairs_of", "pairs_of", s_pairs_of, false⟩,
  ⟨fun K => (He.ga K "sums_of"), "sums_of", "sums_of", s_sums_of, false⟩,
  ⟨fun K => (He.ga K "both_sums"), "both_sums", "both_sums", s_both_sums, false⟩,
  ⟨fun K => (He.ma K (He.ga K "Plan") "__and__"), "__and__", "Plan.__and__", s_Plan___and__, false⟩,
  ⟨fun K => (He.ma K (He.ga K "Plan") "__or__"), "__or__", "Plan.__or__", s_Plan___or__, false⟩,
  ⟨fun K => (He.ma K (He.ga K "Plan") "within"), "within", "Plan.within", s_Plan_within, false⟩,
  ⟨fun K => (He.ma K (He.ga K "Plan") "__len__"), "__len__", "Plan.__len__", s_Plan___len__, false⟩,
  ⟨fun K => (He.ma K (He.ga K "Plan") "__add__"), "__add__", "Plan.__add__", s_Plan___add__, false⟩,
  ⟨fun K => (He.ma K (He.ga K "Plan") "__iter__"), "__iter__", "Plan.__iter__", s_Plan___iter__, false⟩,
  ⟨fun K => (He.ga K "_law_doors_right"), "_law_doors_right", "_law_doors_right", s__law_doors_right, false⟩,
  ⟨fun K => (He.ga K "_law_one"), "_law_one", "_law_one", s__law_one, false⟩,
  ⟨fun K => (He.ga K "_law_bent"), "_law_bent", "_law_bent", s__law_bent, false⟩,
  ⟨fun K => (He.ga K "_law_are_counts"), "_law_are_counts", "_law_are_counts", s__law_are_counts, false⟩,
  ⟨fun K => (He.ga K "are_sums"), "are_sums", "are_sums", s_are_sums, false⟩,
  ⟨fun K => (rcA K (stA K (He.ga K "Plan") "of_sums") "staticmethod"), "of_sums", "Plan.of_sums", s_Plan_of_sums, false⟩,
  ⟨fun K => (He.ga K "_law_are_sums"), "_law_are_sums", "_law_are_sums", s__law_are_sums, false⟩,
  ⟨fun K => (He.ma K (He.ga K "Needs") "__init__"), "__init__", "Needs.__init__", s_Needs___init__, false⟩,
  ⟨fun K => (He.ma K (He.ga K "Plan") "__eq__"), "__eq__", "Plan.__eq__", s_Plan___eq__, false⟩,
  ⟨fun K => (He.ga K "law"), "law", "law", s_law, false⟩,
  ⟨fun K => (He.ma K (He.ga K "NoBegin") "__init__"), "__init__", "NoBegin.__init__", (inClass (top 6) 0), true⟩,
  ⟨fun K => (He.ma K (He.ga K "NoHour") "__init__"), "__init__", "NoHour.__init__", (inClass (top 4) 0), true⟩,
  ⟨fun K => (He.ma K (He.ga K "Unlike") "__init__"), "__init__", "Unlike.__init__", (inClass (top 5) 0), true⟩]
def fns1 : List DefH := [
  ⟨fun K => (He.ma K (He.ga K "Wrong") "__init__"), "__init__", "Wrong.__init__", (inClass (top 3) 0), true⟩]
def fns : List DefH := fns0 ++ fns1
def loose0 : List Str := [("_wall" : Str), ("NeedError" : Str), ("Wrong" : Str), ("NoHour" : Str), ("Unlike" : Str), ("NoBegin" : Str), ("is_integer" : Str), ("is_count" : Str), ("is_hour" : Str), ("are_counts" : Str), ("MOST_HOURS" : Str), ("is_row" : Str), ("pairs_of" : Str), ("Needs" : Str), ("sums_of" : Str), ("row_of" : Str)]
def loose1 : List Str := [("are_sums" : Str), ("both_sums" : Str), ("Plan" : Str), ("_law_bag" : Str), ("_law_take" : Str), ("_law_one" : Str), ("_law_number" : Str), ("_law_drawn_row" : Str), ("_law_heard" : Str), ("_law_same" : Str), ("_law_are_counts" : Str), ("_law_are_sums" : Str), ("_law_bent" : Str), ("_law_doors_right" : Str)]
def loose : List Str := loose0 ++ loose1
def csK (K : PySem.W.Frag) : List (Addr × Addr) := [((coA K (He.ga K "_law_doors_right")), (tbA K (He.ga K "_law_doors_right"))), ((coA K (He.ga K "law")), (tbA K (He.ga K "law")))]
def tbl : List (PySem.W.Frag → Addr) := [fun K => (tbA K (He.ga K "_law_doors_right")), fun K => (tbA K (He.ga K "law"))]
abbrev R : PySem.W.OpenRow := PySem.W.OpenLaw.row PySem.Challenge.rw_hourneeds_k26_plans_refused
def agl0 : List Str := [("_law_bag" : Str), ("_law_take" : Str), ("_law_number" : Str), ("_law_drawn_row" : Str), ("_law_same" : Str), ("_law_heard" : Str), ("is_integer" : Str), ("is_hour" : Str), ("is_count" : Str), ("are_counts" : Str), ("is_row" : Str), ("row_of" : Str), ("pairs_of" : Str), ("sums_of" : Str), ("both_sums" : Str), ("_law_doors_right" : Str)]
def agl1 : List Str := [("_law_one" : Str), ("_law_bent" : Str), ("_law_are_counts" : Str), ("are_sums" : Str), ("_law_are_sums" : Str), ("law" : Str)]
def agl : List Str := agl0 ++ agl1
def acl0 : List Str := [("NeedError" : Str), ("Needs" : Str), ("NoBegin" : Str), ("NoHour" : Str), ("Plan" : Str), ("Unlike" : Str), ("Wrong" : Str)]
def acl : List Str := acl0
def ame0 : List (Str × Str) := [(("Plan" : Str), ("__getitem__" : Str)), (("Plan" : Str), ("__init__" : Str)), (("Plan" : Str), ("moved" : Str)), (("Plan" : Str), ("later" : Str)), (("Plan" : Str), ("earlier" : Str)), (("Plan" : Str), ("__and__" : Str)), (("Plan" : Str), ("__or__" : Str)), (("Plan" : Str), ("within" : Str)), (("Plan" : Str), ("__len__" : Str)), (("Plan" : Str), ("__add__" : Str)), (("Plan" : Str), ("__iter__" : Str)), (("Needs" : Str), ("__init__" : Str)), (("Plan" : Str), ("__eq__" : Str)), (("NoBegin" : Str), ("__init__" : Str)), (("NoHour" : Str), ("__init__" : Str)), (("Unlike" : Str), ("__init__" : Str))]
def ame1 : List (Str × Str) := [(("Wrong" : Str), ("__init__" : Str))]
def ame : List (Str × Str) := ame0 ++ ame1
def apr0 : List (Str × Str) := [(("Plan" : Str), ("hours" : Str))]
def apr : List (Str × Str) := apr0
def ast0 : List (Str × Str) := [(("Plan" : Str), ("of_sums" : Str))]
def ast : List (Str × Str) := ast0
def adrs (g : Addr → Option Obj) : List Addr := let l := asH agl acl ame apr ast g ++ [sysModules]; l ++ l.flatMap (ceA g) ++ [cStatics]
abbrev hk : PySem.W.Hook := hookT adrs tbl fas fns
def ob (s : PySem.W.SharedT) : He.AlD := obsT adrs tbl fas fns (HandSHeadRun.getT s)
theorem ob_eq (s : PySem.W.SharedT) : ob s = hk.obs s.abs := obsT_eq (HandSHeadRun.getT_eq s)
set_option maxRecDepth 100000 in
set_option maxHeartbeats 0 in
theorem run (w : World) : HandSHeadRun.RunEq R (PySem.W.view R.prog [35]) hk ob 20000 loose w := by
  intro os
  kernel_rfl
end Pf
namespace Hn
open PySem PySem.Spec PyProof.Rows L2
theorem get_list {X : Cx} : PGet X (rIxL X.K) := by
  intro pins s σ H x y v u Q I rx ry h
  obtain ⟨p, xs, i, z, rfl, rfl, hq, he, q⟩ := h
  cases rx
  obtain ⟨t, rfl⟩ := ry
  obtain ⟨its, r, pl, hz⟩ := I.list hq
  obtain ⟨j, h1, h2, h3, h4, h5⟩ := atI_get he
  obtain ⟨w, ew, rw'⟩ := r.get h2
  have hl := r.length
  have hn := line63
  have fin : EP X pins σ Q w s := ⟨z, H, I, rw', q⟩
  by_cases h0 : 0 ≤ i
  · have hj : i.toNat = j := by
      rw [seqIndex_of h0 h5] at h1
      exact Option.some.inj h1
    exact wpAny_getItem_list pl.isList h0 (by omega) (by rw [hj]; simpa using ew) fin
  · have hj : (i + (its.toArray.size : Int)).toNat = j := by
      rw [seqIndex_neg (by omega) h4] at h1
      rw [List.size_toArray, ← hl]
      exact Option.some.inj h1
    exact wpAny_getItem_list_neg pl.isList (by omega) (by rw [List.size_toArray] <;> omega) (by omega) (by rw [hj]; simpa using ew) fin
section
variable {X : Cx} {CX : CXT} {k : Nat} {f C : Addr} {fd : FuncData} {ps : List Str} {sp : Sp} {E : XK}
theorem back_ne {pins : List (Addr × Obj)} {σ : L2.St} {Q : VK} {v : Value} {s' : Shared} (h : EP X pins σ Q v s') : PySem.W.CmpBack (EP X pins σ Q) v s' := by
  obtain ⟨z, H', I', r, q⟩ := id h
  cases z with
  | non => cases r; exact h
  | bl b => cases r; exact h
  | int i => obtain ⟨t, rfl⟩ := r; exact h
  | str i => obtain ⟨t, rfl⟩ := r; exact h
  | byt i => obtain ⟨t, rfl⟩ := r; exact h
  | flt i => obtain ⟨t, rfl⟩ := r; exact h
  | ref a => cases r; exact h
  | ty n => cases r; exact h
def rOwn (C : Addr) (sp : Sp) (E : XK) : R2 := fun x y H Q => ∃ a b dx dy fs gs, x = .ref a ∧ y = .ref b ∧ H a = some (.ins C dx fs) ∧ H b = some (.ins C dy gs) ∧ sp [x, y] H Q E
theorem op_own {op : Operator} (F : FnOk X.prog X.w X.K X.mg X.base CX k f fd ps sp) (hr : Room k X.A) (hb : Binds X.K fd ps []) (hx : Passes CX X E)
    (hc : PySem.W.selfFirst X.K C = true) (hs : PySem.W.findIn X.K (.ref C) (PySem.dunder op.info.2) = some (some (.ref f))) (hf : PySem.W.isFn X.K (.ref f) = true) :
    OpR X (binaryOp op) (rOwn C sp E) := by
  intro pins s σ H x y v u Q I rx ry h
  obtain ⟨a, b, dx, dy, fs, gs, rfl, rfl, ha, hbb, q⟩ := h
  cases rx
  cases ry
  obtain ⟨mA, J, _⟩ := ins_get I.hok ha
  obtain ⟨mB, J', _⟩ := ins_get I.hok hbb
  obtain ⟨od, J, _⟩ := J.look
  obtain ⟨od', J', _⟩ := J'.look
  obtain ⟨m, hF⟩ := I.fr
  refine PySem.W.binop_K hF I.ok.mod.kin J J'.type hc hs hf ?_
  exact wpAny_mono (run_fn (us := [.ref a, .ref b]) (vs := [.ref a, .ref b]) F hr hb .nil hx I (.cons rfl (.cons rfl .nil)) q) (fun v s' hv => back_ne hv) fun _ _ e => e
theorem op_eqOwn (F : FnOk X.prog X.w X.K X.mg X.base CX k f fd ps sp) (hr : Room k X.A) (hb : Binds X.K fd ps []) (hx : Passes CX X E)
    (hs : PySem.W.findIn X.K (.ref C) "__eq__" = some (some (.ref f))) (hf : PySem.W.isFn X.K (.ref f) = true) :
    OpR X (compareOp .Eq) (rOwn C sp E) := by
  intro pins s σ H x y v u Q I rx ry h
  obtain ⟨a, b, dx, dy, fs, gs, rfl, rfl, ha, hbb, q⟩ := h
  cases rx
  cases ry
  obtain ⟨mA, J, _⟩ := ins_get I.hok ha
  obtain ⟨mB, J', _⟩ := ins_get I.hok hbb
  obtain ⟨od, J, _⟩ := J.look
  obtain ⟨od', J', _⟩ := J'.look
  obtain ⟨m, hF⟩ := I.fr
  refine PySem.W.cmp_K (op := .Eq) (tb := .ref C) hr.units0 hF I.ok.mod.kin J J'.type (by simp [PySem.W.notFirst]) hs hf ?_
  exact wpAny_mono (run_fn (us := [.ref a, .ref b]) (vs := [.ref a, .ref b]) F hr hb .nil hx I (.cons rfl (.cons rfl .nil)) q) (fun v s' hv => back_ne hv) fun _ _ e => e
theorem run_fn1 {pins : List (Addr × Obj)} {σ : L2.St} {H : Hp} {s : Shared} {Q : VK} {us : List Value} {vs : List V} (F : FnOk X.prog X.w X.K X.mg X.base CX k f fd ps sp) (hr : Room (k + 1) X.A) (hb : Binds X.K fd ps []) (hx : Passes CX X E)
    (I : Inv X pins σ H s) (r : Vals vs us) (h : sp vs H Q E) : wpAny (model X.prog X.w) X.A.in1 (call (.ref f) us) (EP X pins σ Q) X.xe s := by
  have hl : (us ++ []).length = ps.length := by
    rw [List.append_nil, ← r.length]
    exact F.len _ _ _ _ h
  have hb' := hb s us I.kIn hl
  rw [List.append_nil] at hb'
  refine wpAny_call (codeAny_mono (F.run X.A.in1 X.stack s H ⟨us, []⟩ us vs Q E hr.in1 I.env0.in1 hb' r h) fun r s' hq => ?_)
  cases r with
  | error e => exact hx pins σ H s e s' I hq
  | ok fl =>
    cases fl with
    | ret u => exact I.after hq
    | next => exact False.elim hq
    | brk => exact False.elim hq
    | cont => exact False.elim hq
section
open PySem.W
variable {prog : Program} {w : World} {A : Around} {E' : Value → Shared → Prop} {s : Shared} {K : Frag} {x L : Addr} {h0 : Heap} {m : Str → Option Value} {ox : Obj} {od : Option Obj} {b : Value}
end
end
end Hn
namespace Hn
open PySem PySem.Spec PyProof.Rows L2 Evl
def Okf (P : Program) (w : World) (K : PySem.W.Frag) (mg : Str → Option Value) (base : Heap) (k : Nat) (f : Addr) (ps : List Str) (sp : Sp) : Prop :=
  ∃ fd, FnOk P w K mg base (L2.CX P w) k f fd ps sp ∧ Binds K fd ps []
section
variable {P : Program} {w : World} {K : PySem.W.Frag} {mg : Str → Option Value} {base : Heap}
theorem Okf.mono {j k : Nat} {f : Addr} {ps : List Str} {sp : Sp} (F : Okf P w K mg base j f ps sp) (h : j ≤ k) : Okf P w K mg base k f ps sp :=
  let ⟨fd, a, b⟩ := F
  ⟨fd, a.mono h, b⟩
theorem Okf.imp {k : Nat} {f : Addr} {ps : List Str} {sp sp' : Sp} (F : Okf P w K mg base k f ps sp) (h : ∀ vs H Q E, sp' vs H Q E → sp vs H Q E) : Okf P w K mg base k f ps sp' :=
  let ⟨fd, a, b⟩ := F
  ⟨fd, a.imp h, b⟩
def Df (K : PySem.W.Frag) (x qual : Str) (st : Stmt) (f : Addr) (ps : List Str) : Prop := ∃ fd, Fun K x qual st f fd ∧ Binds K fd ps []
theorem Df.kp {x qual : Str} {st : Stmt} {f : Addr} {ps : List Str} (F : Df K x qual st f ps) : PySem.W.keepIn K (.ref f) = true := let ⟨_, a, _⟩ := F; a.kp
theorem fn_lift {CX : CXT} {k : Nat} {f : Addr} {fd : FuncData} {ps : List Str} {sp : Sp} (F : FnOk P w K mg base CX0 k f fd ps sp) : FnOk P w K mg base CX k f fd ps sp :=
  ⟨F.len, fun A outer s H args us vs Q E hr e0 hb r q => codeAny_mono (F.run A outer s H args us vs Q E hr e0 hb r q) fun rr s' hc => by
    cases rr with
    | error e => exact False.elim hc
    | ok fl => cases fl <;> exact hc⟩
theorem okf_of {x qual : Str} {st : Stmt} {f : Addr} {N ps : List Str} {k : Nat} {sp : Sp} (F : Df K x qual st f ps) (S : FnScope N ps (defScope st)) (len : ∀ vs H Q E, sp vs H Q E → vs.length = ps.length)
    (hbody : ∀ (cdv : Value) (A : Around) (outer : List Env) (s : Shared) (H : Hp) (vs : List V) (Q : VK) (E : XK), Room k (A.deeper (envOfC qual (defScope st) s.heap.objs.size f cdv)) → sp vs H Q E →
      ∃ t, PSs (cxOf CX0 P w K mg base N qual (defScope st) f cdv A outer s H E).nox (defBody st) t ∧ t { nx := fun _ H' => Q .non H', rt := Q } (start N vs) H) : Okf P w K mg base (k + 1) f ps sp :=
  let ⟨fd, a, b⟩ := F
  ⟨fd, fn_lift (a.ok S len hbody), b⟩
end
section
variable {X : Cx} {k : Nat} {f C : Addr} {ps : List Str} {sp : Sp} {x m : Str} {p pos apos : Pos} {e o : Expr} {es : List Expr} {ta : TE} {t : TA}
theorem pf_call (G : Okf X.prog X.w X.K X.mg X.base k f ps sp) (hr : Room k X.A) (hg : Gl X x) (hm : X.mg x = some (.ref f)) (hk : PySem.W.keepIn X.K (.ref f) = true)
    (ha : PA X (e :: es) t) (hdb : (x == ("__debug__" : Str)) = false := by decide) (he : starEach (e :: es) X.env = (false, eval e X.env) :: starEach es X.env := by rfl) (hpl : (backTo pos (starEach es X.env)).any (·.1) = false := by rfl) :
    PE X (.Call (.Name x p) (e :: es) [] pos) (tCall sp [] E0 t) :=
  let ⟨_, a, b⟩ := G
  pe_call a hr hg hm hk b .nil passL ha hdb he hpl
theorem pf_make (G : Okf X.prog X.w X.K X.mg X.base k f ps sp) (hr : Room (k + 1) X.A) (M : Mk X.K C f) (hg : Gl X x) (hm : X.mg x = some (.ref C))
    (ha : PA X (e :: es) t) (hdb : (x == ("__debug__" : Str)) = false := by decide) (he : starEach (e :: es) X.env = (false, eval e X.env) :: starEach es X.env := by rfl) (hpl : (backTo pos (starEach es X.env)).any (·.1) = false := by rfl) :
    PE X (.Call (.Name x p) (e :: es) [] pos) (tMake C sp [] E0 t) :=
  let ⟨_, a, b⟩ := G
  pe_make M a hr hg hm b .nil passL ha hdb he hpl
theorem passN {X : Cx} : Passes (L2.CX X.prog X.w) X.nox E0 := fun _ _ _ _ _ _ _ h => by
  obtain ⟨_, _, _, _, _, _, _, _, _, _, _, _, z⟩ := h
  exact z.elim
theorem pf_prop {q : Addr} (G : Okf X.prog X.w X.K X.mg X.base k f ps sp) (hr : Room (k + 1) X.A) (c : Cls X.K C) (hp : PropOf X.K C m q f) (he : PE X e ta)
    (hab : attributeBase e m X.env (eval e X.env) = eval e X.env := by rfl) : PE X (.Attribute e m pos) (tProp C sp [] E0 ta) :=
  let ⟨_, a, b⟩ := G
  pe_prop he c hp a hr b .nil passN hab
end
def Sq (K : PySem.W.Frag) (H : Hp) (a : Addr) (xs : List V) : Prop := SqL K H a xs ∨ SqT K H a xs
theorem Sq.mono {K : PySem.W.Frag} {H H' : Hp} {a : Addr} {xs : List V} (e : Ex H H') (h : Sq K H a xs) : Sq K H' a xs := h.elim (fun h => .inl (ex_l e h)) (fun h => .inr (ex_t e h))
theorem at_int {ns : List Int} {i : Int} (h0 : 0 ≤ i) (h1 : i < (ns.length : Int)) : atI (ns.map V.int) i = some (.int (ns.getD i.toNat 0)) := by
  obtain ⟨j, rfl⟩ : ∃ j : Nat, i = (j : Int) := ⟨i.toNat, by omega⟩
  have hj : j < ns.length := by omega
  refine atI_nat ?_
  rw [List.getElem?_map, List.getElem?_eq_getElem hj, Int.toNat_natCast, List.getD_eq_getElem?_getD, List.getElem?_eq_getElem hj]
  rfl
theorem int_at {ns : List Int} {i : Nat} {x : V} (h : (ns.map V.int)[i]? = some x) : x = .int (ns.getD i 0) := by
  rw [List.getElem?_map] at h
  rw [List.getD_eq_getElem?_getD]
  cases e : ns[i]? with
  | none => rw [e] at h; cases h
  | some u => rw [e] at h; exact (Option.some.inj h).symm
theorem gD_mem {ns : List Int} {j : Nat} (h : j < ns.length) : ns.getD j 0 ∈ ns := by
  rw [List.getD_eq_getElem?_getD, List.getElem?_eq_getElem h]
  exact List.getElem_mem h
def isLst : HO → Bool
  | .lst _ => true
  | _ => false
def Xl (H H' : Hp) : Prop := ∀ a o, H a = some o → isLst o = false → H' a = some o
theorem Xl.refl (H : Hp) : Xl H H := fun _ _ h _ => h
theorem Xl.trans {H H1 H2 : Hp} (a : Xl H H1) (b : Xl H1 H2) : Xl H H2 := fun x o h n => b x o (a x o h n) n
theorem Xl.of {H H' : Hp} (e : Ex H H') : Xl H H' := fun a o h _ => e a o h
theorem Xl.set {H : Hp} {l : Addr} {xs ys : List V} (h : H l = some (.lst xs)) : Xl H (upd H l (.lst ys)) := fun a o e n => by
  rw [upd_ne (ne_of e h (by intro z; rw [z] at n; cases n))]
  exact e
section
variable {J : It} {n : Nat} {G : Hp → Prop} {Y : Nat → Hp → V → Hp → Prop}
def LcTail (J : It) (H1 : Hp) (g : TG) (tt : TT) (te : TE) (vs : List Nat) (σ : L2.St) (Q : VK) : Prop :=
  ∀ D, H1 D = none → ∃ W : Nat → Nat → Hp → Prop, (∃ m, W 0 m (upd H1 D (.lst []))) ∧ ∀ i m H, W i m H →
      (J.stop i H ∧ Q (.ref D) H) ∨ (J.go i H ∧ ∃ Nx : Hp → Prop, (∀ H', Nx H' → ∃ m', m' < m ∧ W (i + 1) m' H') ∧ ∀ x H', J.yld i H x H' → g x (wipe σ vs) H' fun σ2 H2 => wipe σ2 vs = wipe σ vs ∧ tt σ2 H2 fun b H3 =>
        if b = true then te σ2 H3 fun y H4 => ∃ acc, H4 D = some (.lst acc) ∧ acc.length < sizeLine ∧ Nx (upd H4 D (.lst (acc ++ [y]))) else Nx H3)
theorem lc_fil (w : Walk J n G Y) {g : TG} {tt : TT} {te : TE} {vs : List Nat} {σ : L2.St} {H1 : Hp} {Q : VK} (p : Nat → Bool) (R : Addr → Nat → V → Hp → Prop) (hG : ∀ D H H', Ex H1 H' → Ex H H' → H1 D = none → (∃ xs, H D = some (.lst xs)) → G H')
    (hR1 : ∀ D i v H H', Ex H H' → R D i v H → R D i v H') (hR2 : ∀ D i v H xs ys, H D = some (.lst xs) → R D i v H → R D i v (upd H D (.lst ys))) (hn : n ≤ 100000)
    (turn : ∀ D i x H H', i < n → Ex H1 H → H1 D = none → (∃ xs, H D = some (.lst xs)) → Y i H x H' → ∀ k : Bool → Hp → Prop, ∀ kk : VK, (∀ y H4, p i = true → Ex H H4 → R D i y H4 → kk y H4) → (∀ H3, p i = false → Ex H H3 → k false H3) →
      g x (wipe σ vs) H' fun σ2 H2 => wipe σ2 vs = wipe σ vs ∧ tt σ2 H2 fun b H3 => if b = true then te σ2 H3 kk else k false H3)
    (fin : ∀ D H ys, H1 D = none → Ex H1 H → H D = some (.lst ys) → ys.length = ((List.range n).filter p).length → (∀ (j : Nat) (y : V) (i : Nat), ys[j]? = some y → ((List.range n).filter p)[j]? = some i → R D i y H) → Q (.ref D) H) :
    LcTail J H1 g tt te vs σ Q := by
  intro D hD
  refine lc_it w (fun i H => Ex H1 H ∧ ∃ ys, H D = some (.lst ys) ∧ ys.length = ((List.range i).filter p).length ∧ ∀ (j : Nat) (y : V) (i' : Nat), ys[j]? = some y → ((List.range i).filter p)[j]? = some i' → R D i' y H) ⟨Ex.new hD, [], upd_same, rfl, fun j y i h => by simp at h⟩ (fun i H _ q => hG D H H q.1 (Ex.refl H) hD (let ⟨ys, h, _⟩ := q.2; ⟨ys, h⟩)) (fun i x H H' hi q y => ?_) fun H q => ?_
  · obtain ⟨e, ys, hy, hl, hr⟩ := q
    have hlen : ys.length ≤ i := by
      rw [hl]
      have := List.length_filter_le p (List.range i)
      rw [List.length_range] at this
      exact this
    have T := turn D i x H H' hi e hD ⟨ys, hy⟩ y (fun _ H3 => Ex H1 H3 ∧ ∃ ys, H3 D = some (.lst ys) ∧ ys.length = ((List.range (i + 1)).filter p).length ∧ ∀ (j : Nat) (y : V) (i' : Nat), ys[j]? = some y → ((List.range (i + 1)).filter p)[j]? = some i' → R D i' y H3)
      (fun y H4 => ∃ acc, H4 D = some (.lst acc) ∧ acc.length < sizeLine ∧ Ex H1 (upd H4 D (.lst (acc ++ [y]))) ∧ ∃ ys, (upd H4 D (.lst (acc ++ [y]))) D = some (.lst ys) ∧ ys.length = ((List.range (i + 1)).filter p).length ∧ ∀ (j : Nat) (y' : V) (i' : Nat), ys[j]? = some y' → ((List.range (i + 1)).filter p)[j]? = some i' → R D i' y' (upd H4 D (.lst (acc ++ [y]))))
      ?_ ?_
    · exact T
    · intro z H4 pi e4 rz
      have hfil : (List.range (i + 1)).filter p = (List.range i).filter p ++ [i] := by
        rw [List.range_succ, List.filter_append, List.filter_cons, if_pos pi] <;> rfl
      have hD4 := e4 D _ hy
      refine ⟨ys, hD4, sz_lt (by omega), Ex.mut (e.trans e4) hD, ys ++ [z], upd_same, ?_, fun j u i' hj hi' => ?_⟩
      · rw [hfil, List.length_append, List.length_append, hl]
        rfl
      · rw [hfil] at hi'
        refine hR2 D i' u H4 ys _ hD4 ?_
        rcases Nat.lt_or_ge j ys.length with h | h
        · rw [List.getElem?_append_left h] at hj
          rw [List.getElem?_append_left (by omega)] at hi'
          exact hR1 D i' u H H4 e4 (hr j u i' hj hi')
        · have h0 : j = ys.length := by
            have := (List.getElem?_eq_some_iff.mp hj).1
            rw [List.length_append, List.length_singleton] at this
            omega
          subst h0
          rw [List.getElem?_append_right (Nat.le_refl _), Nat.sub_self] at hj
          rw [hl, List.getElem?_append_right (Nat.le_refl _), Nat.sub_self] at hi'
          have ej : z = u := by simpa using hj
          have ei : i = i' := by simpa using hi'
          rw [← ej, ← ei]
          exact rz
    · intro H3 pi e3
      have hfil : (List.range (i + 1)).filter p = (List.range i).filter p := by
        rw [List.range_succ, List.filter_append, List.filter_cons, if_neg (by rw [pi]; decide)]
        exact List.append_nil _
      rw [hfil]
      exact ⟨e.trans e3, ys, e3 D _ hy, hl, fun j u i' hj hi' => hR1 D i' u H H3 e3 (hr j u i' hj hi')⟩
  · obtain ⟨e, ys, hy, hl, hr⟩ := q
    exact fin D H ys hD e hy hl fun j y i h1 h2 => hr j y i h1 h2
theorem filter_all (n : Nat) : (List.range n).filter (fun _ => true) = List.range n := List.filter_eq_self.mpr fun _ _ => rfl
theorem lc_map (w : Walk J n G Y) {g : TG} {te : TE} {vs : List Nat} {σ : L2.St} {H1 : Hp} {Q : VK} (R : Addr → Nat → V → Hp → Prop) (hG : ∀ D H H', Ex H1 H' → Ex H H' → H1 D = none → (∃ xs, H D = some (.lst xs)) → G H')
    (hR1 : ∀ D i v H H', Ex H H' → R D i v H → R D i v H') (hR2 : ∀ D i v H xs ys, H D = some (.lst xs) → R D i v H → R D i v (upd H D (.lst ys))) (hn : n ≤ 100000)
    (turn : ∀ D i x H H', i < n → Ex H1 H → H1 D = none → (∃ xs, H D = some (.lst xs)) → Y i H x H' → ∀ k : VK, (∀ y H4, Ex H H4 → R D i y H4 → k y H4) → g x (wipe σ vs) H' fun σ2 H2 => wipe σ2 vs = wipe σ vs ∧ te σ2 H2 k)
    (fin : ∀ D H ys, H1 D = none → Ex H1 H → H D = some (.lst ys) → ys.length = n → (∀ (i : Nat) (y : V), ys[i]? = some y → R D i y H) → Q (.ref D) H) :
    LcTail J H1 g tYes te vs σ Q := by
  refine lc_fil w (fun _ => true) R hG hR1 hR2 hn (fun D i x H H' hi e hD hx y k kk h1 _ => turn D i x H H' hi e hD hx y kk fun z H4 e4 r => h1 z H4 rfl e4 r) fun D H ys hD e hy hl hr => ?_
  rw [filter_all, List.length_range] at hl
  refine fin D H ys hD e hy hl fun i y h => hr i y i h ?_
  have hi := (List.getElem?_eq_some_iff.mp h).1
  rw [filter_all, List.getElem?_range (by omega)]
theorem lc_val (w : Walk J n G Y) {g : TG} {te : TE} {vs : List Nat} {σ : L2.St} {H1 : Hp} {Q : VK} (R : Nat → V → Prop) (hG : ∀ H, Ex H1 H → G H) (hn : n ≤ 100000)
    (turn : ∀ i x H H', i < n → Ex H1 H → Y i H x H' → ∀ k : VK, (∀ y H4, Ex H H4 → R i y → k y H4) → g x (wipe σ vs) H' fun σ2 H2 => wipe σ2 vs = wipe σ vs ∧ te σ2 H2 k)
    (fin : ∀ D H ys, H1 D = none → Ex H1 H → H D = some (.lst ys) → ys.length = n → (∀ (i : Nat) (y : V), ys[i]? = some y → R i y) → Q (.ref D) H) : LcTail J H1 g tYes te vs σ Q :=
  lc_map w (fun _ i v _ => R i v) (fun _ _ H' e _ _ _ => hG H' e) (fun _ _ _ _ _ _ r => r) (fun _ _ _ _ _ _ _ r => r) hn (fun _ i x H H' hi e _ _ y k h => turn i x H H' hi e y k h) fun D H ys hD e hy hl hr => fin D H ys hD e hy hl hr
theorem lc_fun (w : Walk J n G Y) {g : TG} {te : TE} {vs : List Nat} {σ : L2.St} {H1 : Hp} {Q : VK} (f : Nat → V) (hG : ∀ H, Ex H1 H → G H) (hn : n ≤ 100000)
    (turn : ∀ i x H H', i < n → Ex H1 H → Y i H x H' → ∀ k : VK, (∀ H4, Ex H H4 → k (f i) H4) → g x (wipe σ vs) H' fun σ2 H2 => wipe σ2 vs = wipe σ vs ∧ te σ2 H2 k)
    (fin : ∀ D H, H1 D = none → Ex H1 H → H D = some (.lst ((List.range n).map f)) → Q (.ref D) H) : LcTail J H1 g tYes te vs σ Q :=
  lc_val w (fun i y => y = f i) hG hn (fun i x H H' hi e y k h => turn i x H H' hi e y k fun H4 e4 => h _ H4 e4 rfl) fun D H ys hD e hy hl hr => by
    refine fin D H hD e ?_
    rw [hy]
    congr 2
    refine List.ext_getElem? fun i => ?_
    rcases Nat.lt_or_ge i n with h | h
    · have h2 : i < ys.length := by omega
      rw [List.getElem?_eq_getElem h2, List.getElem?_map, List.getElem?_range h, hr i ys[i] (List.getElem?_eq_getElem h2)]
      rfl
    · rw [List.getElem?_eq_none (by omega), List.getElem?_eq_none (by rw [List.length_map, List.length_range]; omega)]
end
end Hn
namespace Hn
open PySem PySem.Spec PyProof.Rows L2 Evl
def BagV (l : Addr) (xs : List V) : Prop := ∃ c0 c1 c2 : Int, xs = [.int c0, .int c1, .int c2, .ref l] ∧ 0 ≤ c0 ∧ 0 ≤ c1 ∧ c1 < 2147483647 ∧ 0 ≤ c2
def BagO (b l : Addr) (h : Heap) : Prop := ∃ xs, BagV l xs ∧ ∃ (its : List Value) (n : Nat), Vals xs its ∧ h.get? b = some { cls := .type "list", data := .seq its.toArray n }
def Bag (H : Hp) (b : Addr) : Prop := ∃ (l : Addr) (o : Obj) (cs : List Int), H b = some (.ext (BagO b l)) ∧ H l = some (.frz o (.lst (cs.map V.int))) ∧ (∀ c ∈ cs, 0 ≤ c) ∧ cs.length ≤ 63
theorem Bag.mono {H H' : Hp} {b : Addr} (e : Xl H H') (h : Bag H b) : Bag H' b :=
  let ⟨l, o, cs, h1, h2, h3, h4⟩ := h
  ⟨l, o, cs, e _ _ h1 rfl, e _ _ h2 rfl, h3, h4⟩
section
variable {P : Program} {w : World} {K : PySem.W.Frag} {mg : Str → Option Value} {base : Heap} {CX : CXT}
theorem fn_alt {k : Nat} {f : Addr} {fd : FuncData} {ps : List Str} {sp sp' : Sp} (F : FnOk P w K mg base CX k f fd ps sp)
    (h : ∀ vs H Q E, sp' vs H Q E → sp vs H (fun v H1 => ∀ h' : Heap, HOk P w H1 h' → ∃ H2 : Hp, HOk P w H2 h' ∧ (∀ a, H1 a = none → H2 a = none) ∧ (∀ b xs, H b = some (.tup xs) → H2 b = some (.tup xs)) ∧
      (∀ b o u, H b = some (.frz o u) → H2 b = some (.frz o u)) ∧ (∀ b qs, H b = some (.tbl qs) → ∃ more, H2 b = some (.tbl (qs ++ more))) ∧ Q v H2) E) : FnOk P w K mg base CX k f fd ps sp' := by
  refine ⟨fun vs H Q E q => F.len _ _ _ _ (h vs H Q E q), fun A outer s H args us vs Q E hr e0 hb r q => ?_⟩
  refine codeAny_mono (F.run A outer s H args us vs _ E hr e0 hb r (h vs H Q E q)) fun rr s' hc => ?_
  cases rr with
  | error e => exact hc
  | ok fl =>
    cases fl with
    | ret u =>
      obtain ⟨v, H1, h1, h2, un, hok, rv, q⟩ := hc
      obtain ⟨H2, k1, k2, k3, k4, k5, k6⟩ := q s'.heap hok
      exact ⟨v, H2, h1, h2, ⟨un.keep, un.slot, fun b o e n x => k2 b (un.free b o e n x), un.there, k3, k4, k5⟩, k1, rv, k6⟩
    | next => exact False.elim hc
    | brk => exact False.elim hc
    | cont => exact False.elim hc
theorem okf_alt {k : Nat} {f : Addr} {ps : List Str} {sp sp' : Sp} (F : Okf P w K mg base k f ps sp)
    (h : ∀ vs H Q E, sp' vs H Q E → sp vs H (fun v H1 => ∀ h' : Heap, HOk P w H1 h' → ∃ H2 : Hp, HOk P w H2 h' ∧ (∀ a, H1 a = none → H2 a = none) ∧ (∀ b xs, H b = some (.tup xs) → H2 b = some (.tup xs)) ∧
      (∀ b o u, H b = some (.frz o u) → H2 b = some (.frz o u)) ∧ (∀ b qs, H b = some (.tbl qs) → ∃ more, H2 b = some (.tbl (qs ++ more))) ∧ Q v H2) E) : Okf P w K mg base k f ps sp' :=
  let ⟨fd, a, b⟩ := F
  ⟨fd, fn_alt a h, b⟩
theorem hok_put {H : Hp} {h : Heap} {a : Addr} {o u : HO} (x : HOk P w H h) (ha : H a = some o) (hm : Mut (some o)) (hu : ObjOk P w (upd H a u) h a u) : HOk P w (upd H a u) h := fun b q e => by
  by_cases hb : b = a
  · subst hb
    rw [upd_same] at e
    cases e
    exact hu
  · rw [upd_ne hb] at e
    refine (x b q e).stay (fun _ _ _ z => z) (fun c z => ?_) fun c xs z => ?_
    · rw [upd_ne (ne_of z ha (by intro q; rw [← q] at hm; exact hm))]
      exact z
    · rw [upd_ne (ne_of z ha (by intro q; rw [← q] at hm; exact hm))]
      exact z
theorem ext_ok {H : Hp} {h : Heap} {b l : Addr} {xs : List V} (hx : BagV l xs) (ok : ObjOk P w H h b (.lst xs)) (H' : Hp) : ObjOk P w H' h b (.ext (BagO b l)) := by
  obtain ⟨_, its, n, r, e⟩ := ok
  refine ⟨⟨xs, hx, its, n, r, e⟩, ⟨_, e⟩, fun h1 h2 q k => ?_⟩
  obtain ⟨xs', hx', its', n', r', e'⟩ := q
  exact ⟨xs', hx', its', n', r', k _ e'⟩
def spTakeL : Sp := fun vs H Q _ => ∃ (b l : Addr) (u : Int) (o : Obj) (cs : List Int) (xs : List V), vs = [.ref b, .int u] ∧ H b = some (.lst xs) ∧ BagV l xs ∧ H l = some (.frz o (.lst (cs.map V.int))) ∧ (∀ c ∈ cs, 0 ≤ c) ∧ cs.length ≤ 63 ∧ 0 < u ∧ u < 1000000000000000000000000000000000000000000000000000 ∧
  ∀ (n : Int) (ys : List V), 0 ≤ n → n < u → BagV l ys → Q (.int n) (upd H b (.lst ys))
def spTake : Sp := fun vs H Q _ => ∃ (b : Addr) (u : Int), vs = [.ref b, .int u] ∧ Bag H b ∧ 0 < u ∧ u < 1000000000000000000000000000000000000000000000000000 ∧ ∀ n : Int, 0 ≤ n → n < u → Q (.int n) H
theorem take_ok {k : Nat} {f : Addr} {ps : List Str} (F : Okf P w K mg base k f ps spTakeL) (hl : ps.length = 2) : Okf P w K mg base k f ps spTake := by
  obtain ⟨fd, F, hb⟩ := F
  refine ⟨fd, ⟨fun vs H Q E q => ?_, fun A outer s H args us vs Q E hr e0 hbd r q => ?_⟩, hb⟩
  · obtain ⟨b, u, rfl, _⟩ := q
    exact hl.symm
  · obtain ⟨b, u, rfl, ⟨l, o, cs, hB, hL, hc, hcl⟩, hu0, hu1, k⟩ := q
    obtain ⟨⟨xs, hx, its, n, rv, hobj⟩, _, _⟩ := e0.hok b _ hB
    have hz : xs.length ≤ sizeLine := by
      obtain ⟨c0, c1, c2, rfl, _⟩ := hx
      show 4 ≤ sizeLine
      decide
    have ok1 : HOk P w (upd H b (.lst xs)) s.heap := hok_put e0.hok hB trivial ⟨hz, its, n, rv, hobj⟩
    have nb : ∀ c, H c = none → c ≠ b := fun c z y => by rw [y, hB] at z; cases z
    have e1 : Env0 P w K mg base A outer s (upd H b (.lst xs)) :=
      ⟨e0.frames, e0.mod, fun c q e => ⟨(e0.bs c q e).1, by rw [upd_ne (nb c (e0.bs c q e).2)]; exact (e0.bs c q e).2⟩, e0.bsz, e0.funs, fun c hc' => by rw [upd_ne (nb c (e0.frf c hc'))]; exact e0.frf c hc', ok1, e0.bare⟩
    have nl : l ≠ b := ne_of hL hB (by intro z; cases z)
    refine codeAny_mono (F.run A outer s (upd H b (.lst xs)) args us [.ref b, .int u] (fun v H' => ∃ m ys, v = .int m ∧ 0 ≤ m ∧ m < u ∧ BagV l ys ∧ H' = upd H b (.lst ys)) E0 hr e1 hbd r
      ⟨b, l, u, o, cs, xs, rfl, upd_same, hx, by rw [upd_ne nl]; exact hL, hc, hcl, hu0, hu1, fun m ys h0 h1 hy => ⟨m, ys, rfl, h0, h1, hy, upd_upd⟩⟩) fun rr s' hc' => ?_
    cases rr with
    | error e =>
      obtain ⟨_, _, _, _, _, _, _, _, _, _, _, _, z⟩ := hc'
      exact z.elim
    | ok fl =>
      cases fl with
      | ret uu =>
        obtain ⟨v, H1, h1, h2, un, hok, rv', m, ys, rfl, m0, m1, hy, rfl⟩ := hc'
        refine ⟨.int m, H, h1, h2, ⟨fun c q e n hf hx' => ?_, fun c q e n hf hx' => ?_, fun c q e n hx' => n, un.there, fun _ _ z => z, fun _ _ _ z => z, fun c qs z => ⟨#[], by rw [z]; simp⟩⟩, ?_, rv', k m m0 m1⟩
        · exact un.keep c q e (by rw [upd_ne (nb c n)]; exact n) hf hx'
        · exact un.slot c q e (by rw [upd_ne (nb c n)]; exact n) hf hx'
        · have ok2 := hok_put hok (upd_same (H := H)) trivial (u := .ext (BagO b l)) (ext_ok hy (hok b _ upd_same) _)
          rw [upd_upd] at ok2
          have eH : upd H b (.ext (BagO b l)) = H := by
            funext c
            by_cases hcb : c = b
            · subst hcb
              rw [upd_same, hB]
            · rw [upd_ne hcb]
          rw [eH] at ok2
          exact ok2
      | next => exact False.elim hc'
      | brk => exact False.elim hc'
      | cont => exact False.elim hc'
def spBagL (K : PySem.W.Frag) : Sp := fun vs H Q _ => ∃ (a : Addr) (ns : List Int), vs = [.ref a] ∧ SqL K H a (ns.map V.int) ∧ ns.length ≤ 63 ∧
  ∀ (b l : Addr) (cs : List Int) (H' : Hp), Ex H H' → H b = none → H l = none → H' b = some (.lst [.int 0, .int 1234567891, .int 0, .ref l]) → H' l = some (.lst (cs.map V.int)) → (∀ c ∈ cs, 0 ≤ c) → cs.length ≤ 63 → Q (.ref b) H'
def spBag (K : PySem.W.Frag) : Sp := fun vs H Q _ => ∃ (a : Addr) (ns : List Int), vs = [.ref a] ∧ SqL K H a (ns.map V.int) ∧ ns.length ≤ 63 ∧ ∀ (b : Addr) (H' : Hp), Ex H H' → Bag H' b → Q (.ref b) H'
theorem bag_ok {k : Nat} {f : Addr} {ps : List Str} (F : Okf P w K mg base k f ps (spBagL K)) : Okf P w K mg base k f ps (spBag K) := by
  refine okf_alt F fun vs H Q E q => ?_
  obtain ⟨a, ns, rfl, hS, hl, k⟩ := q
  refine ⟨a, ns, rfl, hS, hl, fun b l cs H' e nb nl hb hL h0 hcl h' hok => ?_⟩
  have nlb : l ≠ b := ne_of hL hb (by
    intro z
    have z' : cs.map V.int = [.int 0, .int 1234567891, .int 0, .ref l] := by injection z
    have := congrArg (fun z => z[3]?) z'
    rw [List.getElem?_map] at this
    cases hh : cs[3]? with
    | none => rw [hh] at this; simp at this
    | some q => rw [hh] at this; simp at this)
  obtain ⟨hz, its, n, r, hobj⟩ := hok l _ hL
  have ok1 : HOk P w (upd H' l (.frz { cls := .type "list", data := .seq its.toArray n } (.lst (cs.map V.int)))) h' := hok_put hok hL trivial ⟨hobj, hz, its, n, r, hobj⟩
  have hb1 : upd H' l (.frz { cls := .type "list", data := .seq its.toArray n } (.lst (cs.map V.int))) b = some (.lst [.int 0, .int 1234567891, .int 0, .ref l]) := by rw [upd_ne nlb.symm]; exact hb
  have hv : BagV l [.int 0, .int 1234567891, .int 0, .ref l] := ⟨0, 1234567891, 0, rfl, by decide, by decide, by decide, by decide⟩
  have ok2 := hok_put ok1 hb1 trivial (u := .ext (BagO b l)) (ext_ok hv (ok1 b _ hb1) _)
  have e2 : Ex H (upd (upd H' l (.frz { cls := .type "list", data := .seq its.toArray n } (.lst (cs.map V.int)))) b (.ext (BagO b l))) := Ex.mut (Ex.mut e nl) nb
  refine ⟨_, ok2, fun c hc => ?_, fun c xs z => e2 _ _ z, fun c o u z => e2 _ _ z, fun c qs z => ⟨#[], by rw [e2 _ _ z]; simp⟩, k b _ e2 ⟨l, _, cs, upd_same, by rw [upd_ne nlb]; exact upd_same, h0, hcl⟩⟩
  have c1 : c ≠ b := fun z => by rw [z, hb] at hc; cases hc
  have c2 : c ≠ l := fun z => by rw [z, hL] at hc; cases hc
  rw [upd_ne c1, upd_ne c2]
  exact hc
end
end Hn
namespace Hn
open PySem PySem.Spec PyProof.Rows L2 Evl
section
variable {X : Cx} {k : Nat} {f C : Addr} {ps : List Str} {sp : Sp}
theorem pe_gint {x : Str} {i : Int} {pos : Pos} (hg : Gl X x) (hm : ∃ t : Tok, X.mg x = some (.int i t)) (hd : (x == ("__debug__" : Str)) = false := by decide) : PE X (.Name x pos) (tC (.int i)) :=
  let ⟨t, h⟩ := hm
  pe_glob hg h ⟨t, rfl⟩ hd
theorem op_ownB {op : Operator} (G : Okf X.prog X.w X.K X.mg X.base k f ps sp) (hr : Room k X.A)
    (hc : PySem.W.selfFirst X.K C = true) (hs : PySem.W.findIn X.K (.ref C) (PySem.dunder op.info.2) = some (some (.ref f))) (hf : PySem.W.isFn X.K (.ref f) = true) : OpR X (binaryOp op) (rOwn C sp E0) :=
  let ⟨_, a, b⟩ := G
  op_own a hr b passL hc hs hf
theorem op_eqB (G : Okf X.prog X.w X.K X.mg X.base k f ps sp) (hr : Room k X.A)
    (hs : PySem.W.findIn X.K (.ref C) "__eq__" = some (some (.ref f))) (hf : PySem.W.isFn X.K (.ref f) = true) : OpR X (compareOp .Eq) (rOwn C sp E0) :=
  let ⟨_, a, b⟩ := G
  op_eqOwn a hr b passL hs hf
end
end Hn
namespace Hn
open PySem PySem.Spec PyProof.Rows L2 Evl
section
variable {K : PySem.W.Frag} {σ : L2.St} {H : Hp} {Q : VK} {QB : Bool → Hp → Prop} {D : Ends} {ta tb tc te : TE} {t u : TS} {tt tu : TT} {ar : TA} {QA : List V → Hp → Prop} {r r' : R2} {x y v : V} {i j : Int} {n : Nat} {wi : TI} {g : TG} {R : It → Hp → Prop} {vs : List Nat}
theorem r_seq (h : t { D with nx := u D } σ H) : tSeq t u D σ H := h
theorem r_next (h : D.nx σ H) : tNext D σ H := h
theorem r_asg (h : te σ H fun x H1 => g x σ H1 D.nx) : tAsg te g D σ H := h
theorem r_name {q : L2.St → Hp → Prop} (h : q (σ.set n (some v)) H) : gName n v σ H q := h
theorem r_ret (h : te σ H D.rt) : tRet te D σ H := h
theorem r_retN (h : D.rt .non H) : tRetN D σ H := h
theorem r_drop (h : te σ H fun _ H1 => D.nx σ H1) : tDrop te D σ H := h
theorem r_ifS (h : tt σ H fun b H1 => if b = true then t D σ H1 else u D σ H1) : tIfS tt t u D σ H := h
theorem r_test (h : te σ H fun x H' => ∃ k, x = .bl k ∧ QB k H') : tTest te σ H QB := h
theorem r_B (h : te σ H fun x H' => ∃ k, x = .bl k ∧ QB k H') : tB te σ H QB := h
theorem r_and (h : tt σ H fun c H1 => if c = true then tu σ H1 QB else QB false H1) : tAnd tt tu σ H QB := h
theorem r_or (h : tt σ H fun c H1 => if c = true then QB true H1 else tu σ H1 QB) : tOr tt tu σ H QB := h
theorem r_not (h : tt σ H fun c H1 => QB (!c) H1) : tNot tt σ H QB := h
theorem r_andV (h : ta σ H fun x H1 => ∃ c, x = .bl c ∧ if c = true then tb σ H1 Q else Q (.bl false) H1) : tAndV ta tb σ H Q := h
theorem r_orV (h : ta σ H fun x H1 => ∃ c, x = .bl c ∧ if c = true then Q (.bl true) H1 else tb σ H1 Q) : tOrV ta tb σ H Q := h
theorem r_notV (h : ta σ H fun x H1 => ∃ c, x = .bl c ∧ Q (.bl (!c)) H1) : tNotV ta σ H Q := h
theorem r_if (h : tt σ H fun c H1 => if c = true then ta σ H1 Q else tb σ H1 Q) : tIf tt ta tb σ H Q := h
theorem r_var (h : σ[n]? = some (some v)) (q : Q v H) : tVar n σ H Q := ⟨v, h, q⟩
theorem r_c (q : Q v H) : tC v σ H Q := q
theorem r_op (h : ta σ H fun x H1 => tb σ H1 fun y H2 => r x y H2 Q) : tOp r ta tb σ H Q := h
theorem r_un {ru : V → Hp → VK → Prop} (h : ta σ H fun x H1 => ru x H1 Q) : tUn ru ta σ H Q := h
theorem r_chain (h : ta σ H fun x H1 => tb σ H1 fun y H2 => r x y H2 fun z H3 => ∃ k, z = .bl k ∧ (if k = true then tc σ H3 fun w' H4 => r' y w' H4 Q else Q (.bl false) H3)) : tChain r r' ta tb tc σ H Q := h
theorem r_lst (h : ar σ H fun xs H1 => xs.length ≤ sizeLine ∧ ∀ p, H1 p = none → Q (.ref p) (upd H1 p (.lst xs))) : tLst ar σ H Q := h
theorem r_tup (h : ar σ H fun xs H1 => xs.length ≤ sizeLine ∧ ∀ p, H1 p = none → Q (.ref p) (upd H1 p (.tup xs))) : tTup ar σ H Q := h
theorem r_nil (h : QA [] H) : tNil σ H QA := h
theorem r_cons (h : ta σ H fun x H1 => ar σ H1 fun xs H2 => QA (x :: xs) H2) : tCons ta ar σ H QA := h
theorem r_call {sp : Sp} {dvs : List V} {E : XK} (h : ar σ H fun vs H1 => sp (vs ++ dvs) H1 Q E) : tCall sp dvs E ar σ H Q := h
theorem r_call1 {sp : Sp} {E : XK} {ws : List V} (h : sp ws H Q E) : sp (ws ++ []) H Q E := by rw [List.append_nil]; exact h
theorem r_meth {sp : Sp} {C : Addr} {m : Str} {E : XK} (h : ta σ H fun x H1 => ∃ a dx fs, x = .ref a ∧ H1 a = some (.ins C dx fs) ∧ fs.lookup m = none ∧ ar σ H1 fun vs H2 => sp (x :: (vs ++ [])) H2 Q E) : tMeth C m sp [] E ta ar σ H Q := h
theorem r_make {sp : Sp} {C : Addr} {E : XK} (h : ar σ H fun vs H1 => ∀ x dx, H1 x = none → H1 dx = none → dx ≠ x → sp (.ref x :: (vs ++ [])) (upd (upd H1 dx (.own x)) x (.ins C dx [])) (fun v H2 => v = .non ∧ Q (.ref x) H2) E) : tMake C sp [] E ar σ H Q := h
theorem r_prop {sp : Sp} {C : Addr} {E : XK} (h : ta σ H fun x H1 => ∃ a dx fs, x = .ref a ∧ H1 a = some (.ins C dx fs) ∧ sp [.ref a] H1 Q E) : tProp C sp [] E ta σ H Q := h
theorem r_cb {rc : List V → Hp → VK → Prop} (h : ar σ H fun vs H1 => rc vs H1 Q) : tCB rc ar σ H Q := h
theorem r_bm {T : String} {rm : V → List V → Hp → VK → Prop} (h : te σ H fun x H1 => tyV K T x H1 ∧ ar σ H1 fun xs H2 => rm x xs H2 Q) : tBM K T rm te ar σ H Q := h
theorem r_bm0 {T : String} {rm : V → List V → Hp → VK → Prop} (h : te σ H fun x H1 => tyV K T x H1 ∧ rm x [] H1 Q) : tBM0 K T rm te σ H Q := h
theorem r_sl {rs : V → Option Int → Option Int → Hp → VK → Prop} {tl th : TO} (h : te σ H fun x H1 => tl σ H1 fun l H2 => th σ H2 fun u H3 => rs x l u H3 Q) : L2.tSl rs te tl th σ H Q := h
theorem r_noPart {q : Option Int → Hp → Prop} (h : q none H) : tNoPart σ H q := h
theorem r_part {q : Option Int → Hp → Prop} (h : te σ H fun x H1 => ∃ i, x = .int i ∧ q (some i) H1) : tPart te σ H q := h
theorem r_int1 {p : Int → Prop} (h : p i) : ∃ k, V.int i = .int k ∧ p k := ⟨i, rfl, h⟩
theorem r_bl1 {b : Bool} {p : Bool → Prop} (h : p b) : ∃ k, V.bl b = .bl k ∧ p k := ⟨b, rfl, h⟩
theorem r_revL (h : te σ H fun x H1 => ∃ a xs, x = .ref a ∧ SqL K H1 a xs ∧ ∀ p, H1 p = none → Q (.ref p) (upd H1 p (.lst xs.reverse))) : tRevL K te σ H Q := h
theorem r_lc (h : wi σ H fun J H1 => LcTail J H1 g tt te vs σ Q) : tLc wi g tt te vs σ H Q := h
theorem r_par {n m : Nat} (h : ar σ H fun vs H1 => ∃ v w, vs = [v, w] ∧ D.nx ((σ.set n (some v)).set m (some w)) H1) : tPar n m ar D σ H := h
theorem r_par3 {n m l : Nat} (h : ar σ H fun vs H1 => ∃ u v w, vs = [u, v, w] ∧ D.nx (((σ.set n (some u)).set m (some v)).set l (some w)) H1) : tPar3 n m l ar D σ H := h
theorem r_two {p : V → V → Prop} {a b : V} (h : p a b) : ∃ v w, [a, b] = [v, w] ∧ p v w := ⟨a, b, rfl, h⟩
theorem r_three {p : V → V → V → Prop} {a b c : V} (h : p a b c) : ∃ u v w, [a, b, c] = [u, v, w] ∧ p u v w := ⟨a, b, c, rfl, h⟩
theorem r_aug {ti : TIp} {x : V} (h : σ[n]? = some (some x)) (q : te σ H fun y H1 => ti x y H1 fun z H2 => D.nx (σ.set n (some z)) H2) : tAug n te ti D σ H := ⟨x, h, q⟩
theorem r_augS {ti te' : TE} {tget : V → V → Hp → VK → Prop} {tip : TIp} {tset : TSet} (h : ta σ H fun o H1 => ti σ H1 fun i H2 => tget o i H2 fun x H3 => te' σ H3 fun y H4 => tip x y H4 fun z H5 => tset o i z H5 fun H6 => D.nx σ H6) : tAugS ta ti te' tget tip tset D σ H := h
theorem r_sub {tset : TSet} {q : L2.St → Hp → Prop} (h : ta σ H fun o H1 => tb σ H1 fun i H2 => tset o i v H2 fun H3 => q σ H3) : gSub ta tb tset v σ H q := h
theorem r_fld {f : Str} (h : ta σ H fun x H1 => ∃ a C dx fs v, x = .ref a ∧ H1 a = some (.ins C dx fs) ∧ Cls K C ∧ NoAttr K C f ∧ fs.lookup f = some v ∧ Q v H1) : tFld K ta f σ H Q := h
theorem r_sfld {f : Str} (h : tb σ H fun y H1 => ta σ H1 fun x H2 => ∃ a C dx fs, x = .ref a ∧ H2 a = some (.ins C dx fs) ∧ Cls K C ∧ NoAttr K C f ∧ fs.length < 1000 ∧ D.nx σ (upd H2 a (.ins C dx (putF f y fs)))) : sFld K ta tb f D σ H := h
theorem r_iList (h : te σ H fun x H1 => ∃ a, x = .ref a ∧ (∃ xs, SqL K H1 a xs) ∧ R (Itl K a) H1) : iList K te σ H R := h
theorem r_iTup (h : te σ H fun x H1 => ∃ a, x = .ref a ∧ (∃ xs, SqT K H1 a xs) ∧ R (Itt K a) H1) : iTup K te σ H R := h
theorem r_iRng1 (h : ar σ H fun vs H1 => ∃ j : Int, vs = [.int j] ∧ -(2 ^ 62) ≤ j ∧ j < 2 ^ 62 ∧ R (Itr 0 j.toNat) H1) : iRng1 ar σ H R := h
theorem r_iRng2 (h : ar σ H fun vs H1 => ∃ i j : Int, vs = [.int i, .int j] ∧ (-(2 ^ 62) ≤ i ∧ i < 2 ^ 62 ∧ -(2 ^ 62) ≤ j ∧ j < 2 ^ 62) ∧ R (Itr i (j - i).toNat) H1) : iRng2 ar σ H R := h
theorem r_iEnum (h : ar σ H fun vs H1 => ∃ a xs, vs = [.ref a] ∧ SqL K H1 a xs ∧ R (Ite K a) H1) : iEnum K ar σ H R := h
theorem r_iZip (h : ar σ H fun vs H1 => ∃ a b xs ys, vs = [.ref a, .ref b] ∧ SqL K H1 a xs ∧ SqL K H1 b ys ∧ R (Itz K a b) H1) : iZip K ar σ H R := h
theorem r_range1 {p : Int → Prop} (h0 : -(2 ^ 62) ≤ i) (h1 : i < 2 ^ 62) (h : p i) : ∃ j : Int, [V.int i] = [.int j] ∧ -(2 ^ 62) ≤ j ∧ j < 2 ^ 62 ∧ p j := ⟨i, rfl, h0, h1, h⟩
theorem r_yes (h : QB true H) : tYes σ H QB := h
theorem r_wipe {σ2 : L2.St} {p : Prop} (e : wipe σ2 vs = wipe σ vs) (h : p) : wipe σ2 vs = wipe σ vs ∧ p := ⟨e, h⟩
theorem r_pair {T : Addr} {n m : Nat} {q : L2.St → Hp → Prop} (h : q ((σ.set n (some x)).set m (some y)) (upd H T (.tup [x, y]))) : gTup K 2 (gCons (gName n) (gCons (gName m) gNil)) (.ref T) σ (upd H T (.tup [x, y])) q :=
  ⟨T, [x, y], rfl, .inl (.inl upd_same), rfl, x, [y], rfl, y, [], rfl, rfl, h⟩
theorem r_I0 {f : Int → Int → V} (q : Q (f i j) H) : rI0 f (.int i) (.int j) H Q := ⟨i, j, rfl, rfl, q⟩
theorem r_I {C : Int → Int → Prop} {f : Int → Int → V} (c : C i j) (q : Q (f i j) H) : rI C f (.int i) (.int j) H Q := ⟨i, j, rfl, rfl, c, q⟩
theorem r_U {f : Int → V} (q : Q (f i) H) : rU f (.int i) H Q := ⟨i, rfl, q⟩
theorem r_eqI (q : Q (.bl (decide (i = j))) H) : rEq (.int i) (.int j) H Q := by
  refine ⟨rfl, ?_⟩
  have e : decide (V.int i = V.int j) = decide (i = j) := by rw [Bool.eq_iff_iff]; simp
  rw [e]
  exact q
theorem r_neI (q : Q (.bl (!decide (i = j))) H) : rNe (.int i) (.int j) H Q := by
  refine ⟨rfl, ?_⟩
  have e : decide (V.int i = V.int j) = decide (i = j) := by rw [Bool.eq_iff_iff]; simp
  rw [e]
  exact q
theorem r_eqB {a b : Bool} (q : Q (.bl (decide (a = b))) H) : rEq (.bl a) (.bl b) H Q := by
  refine ⟨rfl, ?_⟩
  have e : decide (V.bl a = V.bl b) = decide (a = b) := by rw [Bool.eq_iff_iff]; simp
  rw [e]
  exact q
theorem r_neB {a b : Bool} (q : Q (.bl (!decide (a = b))) H) : rNe (.bl a) (.bl b) H Q := by
  refine ⟨rfl, ?_⟩
  have e : decide (V.bl a = V.bl b) = decide (a = b) := by rw [Bool.eq_iff_iff]; simp
  rw [e]
  exact q
theorem r_ipI {f : Int → Int → Int} (q : Q (.int (f i j)) H) : ipI f (.int i) (.int j) H Q := ⟨i, j, rfl, rfl, q⟩
theorem r_ixL {p : Addr} {xs : List V} (h : SqL K H p xs) (ha : atI xs i = some v) (q : Q v H) : rIxL K (.ref p) (.int i) H Q := ⟨p, xs, i, v, rfl, rfl, h, ha, q⟩
theorem r_ite {p A B : Prop} [Decidable p] (h1 : p → A) (h2 : ¬ p → B) : if decide p = true then A else B := ite2 (fun h => h1 (of_decide_eq_true h)) fun h => h2 fun z => h (decide_eq_true z)
theorem r_itn {p A B : Prop} [Decidable p] (h1 : ¬ p → A) (h2 : p → B) : if (!decide p) = true then A else B := by
  by_cases h : p
  · rw [decide_eq_true h]
    exact iteF (h2 h)
  · rw [decide_eq_false h]
    exact iteT (h1 h)
def ForTail (J : It) (H1 : Hp) (g : TG) (tb : TS) (D : Ends) (σ : L2.St) : Prop := ∃ W : Nat → Nat → L2.St → Hp → Prop, (∃ m, W 0 m σ H1) ∧ ∀ i m σ H, W i m σ H →
  (J.stop i H ∧ D.nx σ H) ∨ (J.go i H ∧ ∃ N : L2.St → Hp → Prop, (∀ σ' H', N σ' H' → ∃ m', m' < m ∧ W (i + 1) m' σ' H') ∧ ∀ x H', J.yld i H x H' → g x σ H' fun σ2 H2 => tb { D with nx := N, ct := N, bk := D.nx } σ2 H2)
theorem r_for (h : wi σ H fun J H1 => ForTail J H1 g t D σ) : tFor wi g t D σ H := h
theorem for_w {J : It} {G : Hp → Prop} {Y : Nat → Hp → V → Hp → Prop} (w : Walk J n G Y) (Pv : Nat → L2.St → Hp → Prop) (h0 : Pv 0 σ H) (hG : ∀ i σ H, i ≤ n → Pv i σ H → G H)
    (hs : ∀ i x σ H H', i < n → Pv i σ H → Y i H x H' → g x σ H' fun σ2 H2 => t { D with nx := Pv (i + 1), ct := Pv (i + 1), bk := D.nx } σ2 H2) (hd : ∀ σ H, Pv n σ H → D.nx σ H) : ForTail J H g t D σ :=
  for_it w Pv h0 hG hs hd
end
end Hn
namespace Hn
open PySem PySem.Spec PyProof.Rows L2 Evl
section
variable {X : Cx} {tg : Expr}
def Goes1 (H1 : Hp) (n : Nat) (Y : Nat → Hp → V → Hp → Prop) (J : It) : Prop := ∃ G : Hp → Prop, Walk J n G Y ∧ ∀ H, Ex H1 H → G H
def iSeq (K : PySem.W.Frag) (tl : TE) : TI := fun σ H R => tl σ H fun x H1 => ∃ a xs H0, x = .ref a ∧ Sq K H0 a xs ∧ Ex H0 H1 ∧ ∀ J, Goes1 H0 xs.length (YAt xs) J → R J H1
theorem new1 {pins : List (Addr × Obj)} {σ : L2.St} {H : Hp} {s : Shared} (I : Inv X pins σ H s) : (∀ b ∈ [s.heap.objs.size], FpOk X pins H b) ∧ ∀ o, Inv X pins σ H { s with heap := s.heap.push o } :=
  ⟨fun b hb => by
    obtain rfl : b = s.heap.objs.size := by simpa using hb
    exact I.fpOk (Nat.le_refl _) (I.hok.fresh (Nat.le_refl _)), fun o => I.kept (t' := s.toks) fun b o e => Heap.get?_push_of_some _ e⟩
theorem pi_seq {l : Expr} {tl : TE} (hl : PE X l tl) : PI X tg l (iSeq X.K tl) := by
  refine ⟨fun pins s σ H R I h => ?_⟩
  refine thn (hl.run pins s σ H _ I h) fun v s1 ⟨x, H1, I1, r1, a, xs, H0, ex, hq0, e0, q⟩ => ?_
  subst ex
  cases r1
  obtain ⟨fp, kp⟩ := new1 I1
  rcases hq0 with hq | hq
  · obtain ⟨its, rv, p, hz⟩ := I1.list (ex_l e0 hq)
    refine wpAny_pyIter_list p.isList ?_
    exact ⟨s1.heap.objs.size, [s1.heap.objs.size], _, _, H1, rfl, kp _, turn_list a _, ⟨_, Heap.get?_push_size _ rfl, rfl, rfl⟩, fp, q _ ⟨_, walk_list, fun H' e => ex_l e hq⟩⟩
  · obtain ⟨its, rv, p, hz⟩ := I1.tuple (ex_t e0 hq)
    refine wpAny_pyIter_tuple (show s1.heap.IsTuple a its.toArray from p) ?_
    exact ⟨s1.heap.objs.size, [s1.heap.objs.size], _, _, H1, rfl, kp _, turn_tuple a _, ⟨_, Heap.get?_push_size _ rfl, rfl, rfl⟩, fp, q _ ⟨_, walk_tup, fun H' e => ex_t e hq⟩⟩
def YEnum (xs : List V) : Nat → Hp → V → Hp → Prop := YPair (fun i => some (.int (i : Nat))) (fun i => xs[i]?)
def iEnumS (K : PySem.W.Frag) (ta : TA) : TI := fun σ H R => ta σ H fun vs H1 => ∃ a xs H0, vs = [.ref a] ∧ Sq K H0 a xs ∧ Ex H0 H1 ∧ ∀ J, Goes1 H0 xs.length (YEnum xs) J → R J H1
end
section
variable {K : PySem.W.Frag} {σ : L2.St} {H : Hp} {te : TE} {ar : TA} {R : It → Hp → Prop}
theorem r_iSeq (h : te σ H fun x H1 => ∃ a xs H0, x = .ref a ∧ Sq K H0 a xs ∧ Ex H0 H1 ∧ ∀ J, Goes1 H0 xs.length (YAt xs) J → R J H1) : iSeq K te σ H R := h
theorem r_iEnumS (h : ar σ H fun vs H1 => ∃ a xs H0, vs = [.ref a] ∧ Sq K H0 a xs ∧ Ex H0 H1 ∧ ∀ J, Goes1 H0 xs.length (YEnum xs) J → R J H1) : iEnumS K ar σ H R := h
end
section
open HT
variable {prog : Program} {w : World} {A : Around} {E : Value → Shared → Prop} {s : Shared}
end
section
variable {X : Cx}
def tRevT (K : PySem.W.Frag) (te : TE) : TE := fun σ H Q => te σ H fun x H1 => ∃ a xs, x = .ref a ∧ SqT K H1 a xs ∧ ∀ p, H1 p = none → Q (.ref p) (upd H1 p (.tup xs.reverse))
theorem r_revT {K : PySem.W.Frag} {σ : L2.St} {H : Hp} {te : TE} {Q : VK} (h : te σ H fun x H1 => ∃ a xs, x = .ref a ∧ SqT K H1 a xs ∧ ∀ p, H1 p = none → Q (.ref p) (upd H1 p (.tup xs.reverse))) : tRevT K te σ H Q := h
variable {k : Nat} {f C : Addr} {ps : List Str} {sp : Sp}
def tIxO (C : Addr) (sp : Sp) (ta tb : TE) : TE := fun σ H Q => ta σ H fun x H1 => tb σ H1 fun y H2 => ∃ a dx fs, x = .ref a ∧ H2 a = some (.ins C dx fs) ∧ sp [x, y] H2 Q E0
theorem r_ixO {C : Addr} {sp : Sp} {σ : L2.St} {H : Hp} {ta tb : TE} {Q : VK} (h : ta σ H fun x H1 => tb σ H1 fun y H2 => ∃ a dx fs, x = .ref a ∧ H2 a = some (.ins C dx fs) ∧ sp [x, y] H2 Q E0) : tIxO C sp ta tb σ H Q := h
end
end Hn
namespace Hn
def cyc (s : List Int) (i : Int) : Int := s.getD (i % (s.length : Int)).toNat 0
def wd (s : List Int) (h : Int) : Int := (((List.range s.length).filter fun (b : Nat) => decide ((b : Int) < cyc s (h - (b : Int)))).length : Int)
def wds (s : List Int) : List Int := (List.range s.length).map fun (h : Nat) => wd s h
def okStays (s : List Int) : Bool := decide (1 ≤ s.length) && decide (s.length ≤ 48) && s.all fun x => decide (1 ≤ x) && decide (x ≤ (s.length : Int))
structure Good (s : List Int) : Prop where
  ne : 1 ≤ s.length
  le : s.length ≤ 48
  lo : ∀ i : Int, 1 ≤ cyc s i
  hi : ∀ i : Int, cyc s i ≤ (s.length : Int)
  od : ∀ i : Int, cyc s i ≤ 1 + cyc s (i + 1)
theorem mod_bd {n : Nat} (h : 1 ≤ n) (i : Int) : 0 ≤ i % (n : Int) ∧ i % (n : Int) < (n : Int) := ⟨Int.emod_nonneg _ (by omega), Int.emod_lt_of_pos _ (by omega)⟩
theorem cyc_mem {s : List Int} (h : 1 ≤ s.length) (i : Int) : cyc s i ∈ s := by
  have := mod_bd h i
  unfold cyc
  rw [List.getD_eq_getElem?_getD, List.getElem?_eq_getElem (by omega)]
  exact List.getElem_mem _
theorem cyc_at {s : List Int} {j : Nat} (h : j < s.length) : cyc s (j : Int) = s.getD j 0 := by
  unfold cyc
  rw [Int.emod_eq_of_lt (by omega) (by omega), Int.toNat_natCast]
theorem cyc_mod (s : List Int) (i : Int) : cyc s (i % (s.length : Int)) = cyc s i := by
  unfold cyc
  rw [Int.emod_emod_of_dvd _ (Int.dvd_refl _)]
theorem cyc_congr {s : List Int} {i j : Int} (h : i % (s.length : Int) = j % (s.length : Int)) : cyc s i = cyc s j := by
  unfold cyc
  rw [h]
theorem okStays_iff {s : List Int} : okStays s = true ↔ (1 ≤ s.length ∧ s.length ≤ 48 ∧ ∀ x ∈ s, 1 ≤ x ∧ x ≤ (s.length : Int)) := by
  unfold okStays
  simp only [Bool.and_eq_true, decide_eq_true_eq, List.all_eq_true]
  constructor
  · rintro ⟨⟨a, b⟩, c⟩
    exact ⟨a, b, c⟩
  · rintro ⟨a, b, c⟩
    exact ⟨⟨a, b⟩, c⟩
theorem Good.ok {s : List Int} (g : Good s) : okStays s = true := by
  refine okStays_iff.mpr ⟨g.ne, g.le, fun x hx => ?_⟩
  obtain ⟨j, hj, rfl⟩ := List.mem_iff_getElem.mp hx
  have e : cyc s (j : Int) = s[j] := by
    rw [cyc_at hj, List.getD_eq_getElem?_getD, List.getElem?_eq_getElem hj]
    rfl
  rw [← e]
  exact ⟨g.lo _, g.hi _⟩
theorem Good.of {s : List Int} (h : okStays s = true) (o : ∀ j : Nat, j < s.length → s.getD j 0 ≤ 1 + cyc s ((j : Int) + 1)) : Good s := by
  obtain ⟨h1, h2, h3⟩ := okStays_iff.mp h
  refine ⟨h1, h2, fun i => (h3 _ (cyc_mem h1 i)).1, fun i => (h3 _ (cyc_mem h1 i)).2, fun i => ?_⟩
  have hb := mod_bd h1 i
  have e1 := o (i % (s.length : Int)).toNat (by omega)
  have e2 : (((i % (s.length : Int)).toNat : Nat) : Int) = i % (s.length : Int) := by omega
  rw [e2] at e1
  have e3 : cyc s (i % (s.length : Int) + 1) = cyc s (i + 1) := cyc_congr (by rw [Int.emod_add_emod])
  rw [e3] at e1
  exact e1
end Hn
namespace Hn
open PySem PySem.Spec PyProof.Rows L2 Evl
section
variable {K : PySem.W.Frag} {σ : L2.St} {H : Hp} {Q : VK} {a : Addr} {xs : List V} {i : Int}
theorem ty_lst (h : H a = some (.lst xs)) : tyV K "list" (.ref a) H := .inl ⟨rfl, xs, .inl (.inl h)⟩
theorem szc (h : Nat.ble xs.length 1000 = true) : xs.length ≤ sizeLine := by
  have : (1000 : Nat) ≤ sizeLine := by decide
  have := Nat.le_of_ble_eq_true h
  omega
def RetN (xs : List V) (H : Hp) (Q : VK) : Prop := ∀ p H', H p = none → Ex H H' → H' p = some (.lst xs) → Q (.ref p) H'
theorem tup_mono {H' : Hp} (e : Xl H H') (h : SqT K H a xs) : SqT K H' a xs := by
  rcases h with (h | ⟨o, h⟩) | h
  · exact .inl (.inl (e _ _ h rfl))
  · exact .inl (.inr ⟨o, e _ _ h rfl⟩)
  · exact .inr h
end
end Hn
namespace Hn
open PySem PySem.Spec PyProof.Rows L2 Evl
section
variable {X : Cx} {K : PySem.W.Frag} {tg l e : Expr} {tl te : TE} {ar : TA}
theorem k_ixL (h : X.K = K) : IxR X (rIxL K) := h ▸ ix_list
theorem k_ixS (h : X.K = K) : IxR X (rIx K) := h ▸ ix_seq
theorem k_getL (h : X.K = K) : PGet X (rIxL K) := h ▸ get_list
def rLen (K : PySem.W.Frag) : List V → Hp → VK → Prop := fun xs H Q => ∃ p ys, xs = [.ref p] ∧ (SqL K H p ys ∨ SqT K H p ys) ∧ Q (.int ys.length) H
def rListOf (K : PySem.W.Frag) : List V → Hp → VK → Prop := fun xs H Q => ∃ p ys, xs = [.ref p] ∧ (SqL K H p ys ∨ SqT K H p ys) ∧ ∀ l, H l = none → Q (.ref l) (upd H l (.lst ys))
def rTupOf (K : PySem.W.Frag) : List V → Hp → VK → Prop := fun xs H Q => ∃ p ys, xs = [.ref p] ∧ ((SqL K H p ys ∧ ∀ l, H l = none → Q (.ref l) (upd H l (.tup ys))) ∨ (SqT K H p ys ∧ Q (.ref p) H))
def rAbs : List V → Hp → VK → Prop := fun xs H Q => ∃ i, xs = [.int i] ∧ Q (.int (if i < 0 then -i else i)) H
def rInt1 : List V → Hp → VK → Prop := fun xs H Q => (∃ i, xs = [.int i] ∧ Q (.int i) H) ∨ ∃ k, xs = [.bl k] ∧ Q (.int (if k then 1 else 0)) H
def rIsNon : R2 := fun x y H Q => y = .non ∧ Q (.bl (decide (x = .non))) H
def rNotNon : R2 := fun x y H Q => y = .non ∧ Q (.bl (!decide (x = .non))) H
def rMin2 : List V → Hp → VK → Prop := fun xs H Q => ∃ i j, xs = [.int i, .int j] ∧ Q (.int (if j < i then j else i)) H
def rMx2 : List V → Hp → VK → Prop := fun xs H Q => ∃ i j, xs = [.int i, .int j] ∧ Q (.int (if j > i then j else i)) H
theorem k_len (h : X.K = K) : CallR X (.builtin "len") (rLen K) := h ▸ call_len_seq
theorem k_listOf (h : X.K = K) : CallR X (.type "list") (rListOf K) := h ▸ call_list_of
theorem k_tupOf (h : X.K = K) : CallR X (.type "tuple") (rTupOf K) := h ▸ call_tuple_of
theorem k_abs : CallR X (.builtin "abs") rAbs := call_abs
theorem k_int1 : CallR X (.type "int") rInt1 := call_int1
theorem k_min2 (hc : X.calm = true) : CallR X (.builtin "min") rMin2 := call_min2 hc
theorem k_max2 (hc : X.calm = true) : CallR X (.builtin "max") rMx2 := call_max2 hc
section
variable {H : Hp} {Q : VK} {i j : Int} {x : V} {a : Addr} {xs : List V}
theorem r_len (h : Sq K H a xs) (q : Q (.int (xs.length : Int)) H) : rLen K [.ref a] H Q := ⟨a, xs, rfl, h, q⟩
theorem r_abs (q : Q (.int (if i < 0 then -i else i)) H) : rAbs [.int i] H Q := ⟨i, rfl, q⟩
theorem r_intP (q : Q (.int i) H) : rInt1 [.int i] H Q := .inl ⟨i, rfl, q⟩
theorem r_intB {b : Bool} (q : Q (.int (if b then 1 else 0)) H) : rInt1 [.bl b] H Q := .inr ⟨b, rfl, q⟩
theorem r_min2 (q : Q (.int (if j < i then j else i)) H) : rMin2 [.int i, .int j] H Q := ⟨i, j, rfl, q⟩
theorem r_max2 (q : Q (.int (if j > i then j else i)) H) : rMx2 [.int i, .int j] H Q := ⟨i, j, rfl, q⟩
theorem r_isNi (q : Q (.bl false) H) : rIsNon (.int i) .non H Q := ⟨rfl, q⟩
theorem r_isNr (q : Q (.bl false) H) : rIsNon (.ref a) .non H Q := ⟨rfl, q⟩
theorem r_isNn (q : Q (.bl true) H) : rIsNon .non .non H Q := ⟨rfl, q⟩
theorem r_notNi (q : Q (.bl true) H) : rNotNon (.int i) .non H Q := ⟨rfl, q⟩
theorem r_notNr (q : Q (.bl true) H) : rNotNon (.ref a) .non H Q := ⟨rfl, q⟩
theorem r_notNn (q : Q (.bl false) H) : rNotNon .non .non H Q := ⟨rfl, q⟩
end
theorem k_all (h : X.K = K) (hc : X.calm = true) : CallR X (.builtin "all") (rAll K) := h ▸ cr_all hc
theorem k_eqD (h : X.K = K) (hu : X.A.units + 64 < cLine) : OpR X (compareOp .Eq) (rEqD K) := h ▸ op_eqD hu
theorem k_isi (h : X.K = K) : CallR X (.builtin "isinstance") (rIsi K) := h ▸ call_isi
theorem k_isiT (h : X.K = K) : CallR X (.builtin "isinstance") (rIsiT K) := h ▸ call_isiT
theorem k_slL (h : X.K = K) : SlR X (rSlL K) := h ▸ sl_list
theorem k_piL (h : X.K = K) (hl : PE X l tl) : PI X tg l (iList K tl) := h ▸ pi_list hl
theorem k_piS (h : X.K = K) (hl : PE X l tl) : PI X tg l (iSeq K tl) := h ▸ pi_seq hl
theorem k_fld {f : Str} {pos : Pos} (h : X.K = K) (he : PE X e te) (hb : attributeBase e f X.env (eval e X.env) = eval e X.env := by rfl) : PE X (.Attribute e f pos) (tFld K te f) := h ▸ pe_fld he hb
theorem k_sfld {o : Expr} {ta : TE} {f : Str} {pos pos' : Pos} (h : X.K = K) (ha : PE X o ta) (hv : PE X e te) (hs : swapsWith e (some (.Attribute o f pos')) pos.line X.env = pure false := by rfl) : PS X (.Assign [.Attribute o f pos'] e pos) (sFld K ta te f) := h ▸ ps_fld ha hv hs
theorem k_revL {k : Nat} {p1 p2 p3 pos : Pos} (h : X.K = K) (he : PE X e te) : PE X (.Subscript e (.Slice none none (some (.UnaryOp .USub (.Constant (.int 1) k p1) p2)) p3) pos) (tRevL K te) := h ▸ pe_revL he
theorem k_gtup {es : List Expr} {k : Nat} {t : TGs} {n : Nat} {pos : Pos} (h : X.K = K) (hc : X.calm = true) (hh : PGs X es t)
    (hn : (assignEach es X.env).length = n := by rfl) (hst : (assignEach es X.env).findIdx? (·.1) = none := by rfl) : PG X (.Tuple es k pos) (gTup K n t) := h ▸ pg_tup hc hh hn hst
theorem pe_bty {x : Str} {n : String} {pos : Pos} (hg : Gl X x) (hm : X.mg x = none) (hv : bootBuiltins x = some (.type n)) (hn : x ≠ "__name__" := by decide) (hd : (x == ("__debug__" : Str)) = false := by decide) : PE X (.Name x pos) (tC (.ty n)) := pe_bltn hg hm hv rfl hn hd
end
end Hn
namespace Hn
open PySem PySem.Spec PyProof.Rows L2 Evl
def clkF (a b : Addr) : List (Str × V) := putF "kept_widths" (.ref b) (putF "kept_stays" (.ref a) [])
def Clk (K : PySem.W.Frag) (C : Addr) (H : Hp) (v : V) (s : List Int) : Prop :=
  ∃ p dx a b, v = .ref p ∧ H p = some (.ins C dx (clkF a b)) ∧ SqT K H a (s.map V.int) ∧ SqT K H b ((wds s).map V.int) ∧ Good s
theorem Clk.mono {K : PySem.W.Frag} {C : Addr} {H H' : Hp} {v : V} {s : List Int} (e : Xl H H') (h : Clk K C H v s) : Clk K C H' v s :=
  let ⟨p, dx, a, b, h1, h2, h3, h4, h5⟩ := h
  ⟨p, dx, a, b, h1, e _ _ h2 rfl, tup_mono e h3, tup_mono e h4, h5⟩
theorem Clk.ex {K : PySem.W.Frag} {C : Addr} {H H' : Hp} {v : V} {s : List Int} (e : Ex H H') (h : Clk K C H v s) : Clk K C H' v s := h.mono (.of e)
theorem Clk.good {K : PySem.W.Frag} {C : Addr} {H : Hp} {v : V} {s : List Int} (h : Clk K C H v s) : Good s := let ⟨_, _, _, _, _, _, _, _, h5⟩ := h; h5
end Hn
namespace Hn
def rowOf (n : Nat) (f : Int → Int) : List Int := (List.range n).map fun (i : Nat) => f (i : Int)
theorem rowOf_length (n : Nat) (f : Int → Int) : (rowOf n f).length = n := by
  unfold rowOf
  rw [List.length_map, List.length_range]
theorem rowOf_getD {n : Nat} (f : Int → Int) {j : Nat} (h : j < n) : (rowOf n f).getD j 0 = f (j : Int) := by
  unfold rowOf
  rw [List.getD_eq_getElem?_getD, List.getElem?_map, List.getElem?_range h]
  rfl
theorem cyc_rowOf {n : Nat} (f : Int → Int) (h : 1 ≤ n) (i : Int) : cyc (rowOf n f) i = f (i % (n : Int)) := by
  have hb := mod_bd h i
  unfold cyc
  rw [rowOf_length, rowOf_getD f (by omega), show ((i % (n : Int)).toNat : Int) = i % (n : Int) by omega]
def turnS (s : List Int) (b : Int) : List Int := rowOf s.length fun i => cyc s (i + b)
theorem turnS_length (s : List Int) (b : Int) : (turnS s b).length = s.length := rowOf_length _ _
theorem cyc_turn {s : List Int} (h : 1 ≤ s.length) (b i : Int) : cyc (turnS s b) i = cyc s (i + b) := by
  unfold turnS
  rw [cyc_rowOf _ h]
  exact cyc_congr (by rw [Int.emod_add_emod])
theorem Good.turn {s : List Int} (g : Good s) (b : Int) : Good (turnS s b) := by
  have hl := turnS_length s b
  refine ⟨by rw [hl]; exact g.ne, by rw [hl]; exact g.le, fun i => ?_, fun i => ?_, fun i => ?_⟩
  · rw [cyc_turn g.ne]
    exact g.lo _
  · rw [cyc_turn g.ne, hl]
    exact g.hi _
  · rw [cyc_turn g.ne, cyc_turn g.ne, show i + 1 + b = (i + b) + 1 by omega]
    exact g.od _
def Sg : Nat → (Int → Int) → Int
  | 0, _ => 0
  | n + 1, f => Sg n f + f (n : Int)
end Hn
namespace Hn
open PySem PySem.Spec PyProof.Rows L2 Evl
section
variable {α β : Type} [DecidableEq α] [PySem.W.Datum α] [DecidableEq β] [PySem.W.Datum β] {K : PySem.W.Frag} {H H' : Hp} {Q : VK} {x y : V} {a b : Addr} {vs : List V} {ns : List Int}
def Hd (K : PySem.W.Frag) (H : Hp) (x : V) (u : α) : Prop := Dp K H x (PySem.W.Datum.toD u)
def HdAll (K : PySem.W.Frag) (H : Hp) (vs : List V) (us : List α) : Prop := DpAll K H vs (us.map PySem.W.Datum.toD)
def LayT (α : Type) [DecidableEq α] [PySem.W.Datum α] : Prop := ∀ u : α, PyData.canLay0 (PySem.W.Datum.toD u) = true
theorem lay_int : LayT Int := fun _ => rfl
theorem lay_all (h : LayT α) : ∀ us : List α, PyData.canLayAll0 (us.map PySem.W.Datum.toD) = true
  | [] => rfl
  | u :: us => by
    rw [List.map_cons, PyData.canLayAll0, h u, lay_all h us]
    rfl
theorem lay_tup (h : LayT α) : LayT (PySem.W.Tup α) := fun us => by
  show PyData.canLay0 (.tuple _) = true
  rw [PyData.canLay0]
  exact lay_all h us.items
theorem lay_sh (h : LayT α) (hd : PySem.W.Datum.depth α ≤ 64) (u : α) : SeqAt.shaped (PySem.W.Datum.toD u) = true := by
  unfold SeqAt.shaped
  rw [h u]
  exact decide_eq_true (Nat.le_trans (PySem.W.Datum.depth_le u) hd)
theorem r_eqH (l : LayT α) {u v : α} (hx : Hd K H x u) (hy : Hd K H y v) (q : Q (.bl (decide (u = v))) H) (hd : PySem.W.Datum.depth α ≤ 64 := by decide) : rEqD K x y H Q :=
  ⟨_, _, hx, hy, lay_sh l hd u, lay_sh l hd v, by rw [PySem.W.Datum.eqv]; exact q⟩
theorem hd_list {us : List α} (h : SqL K H a vs) (hv : HdAll K H vs us) : Hd K H (.ref a) us := .lst h hv
theorem hd_tup {us : List α} (h : SqT K H a vs) (hv : HdAll K H vs us) : Hd K H (.ref a) (PySem.W.Tup.mk us) := .tup h hv
theorem hda_ints : ∀ ns : List Int, HdAll K H (ns.map V.int) ns
  | [] => .nil
  | n :: ns => .cons (.int n) (hda_ints ns)
theorem hd_ints (h : SqL K H a (ns.map V.int)) : Hd K H (.ref a) ns := hd_list h (hda_ints ns)
theorem hd_intsT (h : SqT K H a (ns.map V.int)) : Hd K H (.ref a) (PySem.W.Tup.mk ns) := hd_tup h (hda_ints ns)
theorem hda_ix : ∀ {vs : List V} {us : List α}, vs.length = us.length → (∀ (i : Nat) v u, vs[i]? = some v → us[i]? = some u → Hd K H v u) → HdAll K H vs us
  | [], [], _, _ => .nil
  | _ :: _, [], h, _ => by cases h
  | [], _ :: _, h, _ => by cases h
  | v :: vs, u :: us, h, f => .cons (f 0 v u rfl rfl) (hda_ix (by simpa using h) fun i v u h1 h2 => f (i + 1) v u (by simpa using h1) (by simpa using h2))
mutual
theorem dp_ex (e : Ex H H') : ∀ {x : V} {u : PyData}, Dp K H x u → Dp K H' x u
  | _, _, .non => .non
  | _, _, .bl b => .bl b
  | _, _, .int i => .int i
  | _, _, .str y => .str y
  | _, _, .lst a b => .lst (ex_l e a) (dpa_ex e b)
  | _, _, .tup a b => .tup (ex_t e a) (dpa_ex e b)
theorem dpa_ex (e : Ex H H') : ∀ {vs : List V} {us : List PyData}, DpAll K H vs us → DpAll K H' vs us
  | _, _, .nil => .nil
  | _, _, .cons a b => .cons (dp_ex e a) (dpa_ex e b)
end
theorem r_eqT {ms : List Int} (h1 : SqT K H a (ns.map V.int)) (h2 : SqT K H b (ms.map V.int)) (q : Q (.bl (decide (ns = ms))) H) : rEqD K (.ref a) (.ref b) H Q := r_eqH (lay_tup lay_int) (hd_intsT h1) (hd_intsT h2) (by
  rw [show decide (PySem.W.Tup.mk ns = PySem.W.Tup.mk ms) = decide (ns = ms) from decide_eq_decide.mpr ⟨fun e => by cases e; rfl, fun e => by rw [e]⟩]
  exact q)
end
section
variable {X : Cx}
def rAddS : R2 := fun x y H Q => ∃ i j, x = .str i ∧ y = .str j ∧ i.length + j.length ≤ sizeLine ∧ Q (.str (i ++ j)) H
theorem k_addS : OpR X (binaryOp .Add) rAddS := op_add_str
end
def Rows (H : Hp) (D : Addr) (n : Nat) (f : Nat → List V) : Prop := ∃ ys, H D = some (.lst ys) ∧ ys.length = n ∧ ∀ (i : Nat) y, ys[i]? = some y → ∃ p, y = .ref p ∧ H p = some (.lst (f i))
theorem Rows.ex {H H' : Hp} {D : Addr} {n : Nat} {f : Nat → List V} (e : Ex H H') (h : Rows H D n f) : Rows H' D n f :=
  let ⟨ys, h1, h2, h3⟩ := h
  ⟨ys, e _ _ h1, h2, fun i y hy => let ⟨p, hp, q⟩ := h3 i y hy; ⟨p, hp, e _ _ q⟩⟩
theorem Rows.sq {K : PySem.W.Frag} {H : Hp} {D : Addr} {n : Nat} {f : Nat → List V} (h : Rows H D n f) {Q : VK} {i : Nat} (hi : i < n) (q : ∀ p, H p = some (.lst (f i)) → Q (.ref p) H) : rIxL K (.ref D) (.int (i : Int)) H Q := by
  obtain ⟨ys, h1, h2, h3⟩ := h
  have hy : ys[i]? = some ys[i] := List.getElem?_eq_getElem (by omega)
  obtain ⟨p, hp, hq⟩ := h3 i _ hy
  refine ⟨D, ys, i, .ref p, rfl, rfl, .inl (.inl h1), atI_nat ?_, q p hq⟩
  rw [hy, hp]
theorem Rows.hd {α : Type} [DecidableEq α] [PySem.W.Datum α] {K : PySem.W.Frag} {H : Hp} {D : Addr} {n : Nat} {f : Nat → List V} (h : Rows H D n f) (us : Nat → List α) (hu : ∀ i, i < n → HdAll K H (f i) (us i)) : Hd K H (.ref D) ((List.range n).map us) := by
  obtain ⟨ys, h1, h2, h3⟩ := h
  refine hd_list (.inl (.inl h1)) (hda_ix (by rw [List.length_map, List.length_range]; exact h2) fun i v u hv hu' => ?_)
  obtain ⟨p, rfl, hp⟩ := h3 i v hv
  have hi : i < n := by
    have := (List.getElem?_eq_some_iff.mp hv).1
    omega
  rw [List.getElem?_map, List.getElem?_range hi] at hu'
  cases hu'
  exact hd_list (.inl (.inl hp)) (hu i hi)
section
variable {J : It} {n : Nat} {G : Hp → Prop} {Y : Nat → Hp → V → Hp → Prop}
end
def spLaw (K : PySem.W.Frag) : Sp := fun vs H Q _ => ∃ (a : Addr) (ns : List Int), vs = [.ref a] ∧ SqL K H a (ns.map V.int) ∧ ns.length ≤ 63 ∧ ∀ H', Q (.bl true) H'
def RowsP (H : Hp) (D : Addr) (n : Nat) (P : Nat → List V → Prop) : Prop := ∃ ys, H D = some (.lst ys) ∧ ys.length = n ∧ ∀ (i : Nat) y, ys[i]? = some y → ∃ p xs, y = .ref p ∧ H p = some (.lst xs) ∧ P i xs
theorem RowsP.ex {H H' : Hp} {D : Addr} {n : Nat} {P : Nat → List V → Prop} (e : Ex H H') (h : RowsP H D n P) : RowsP H' D n P :=
  let ⟨ys, h1, h2, h3⟩ := h
  ⟨ys, e _ _ h1, h2, fun i y hy => let ⟨p, xs, hp, q, r⟩ := h3 i y hy; ⟨p, xs, hp, e _ _ q, r⟩⟩
theorem RowsP.sq {K : PySem.W.Frag} {H : Hp} {D : Addr} {n : Nat} {P : Nat → List V → Prop} (h : RowsP H D n P) {Q : VK} {i : Nat} (hi : i < n) (q : ∀ p xs, P i xs → H p = some (.lst xs) → Q (.ref p) H) : rIxL K (.ref D) (.int (i : Int)) H Q := by
  obtain ⟨ys, h1, h2, h3⟩ := h
  have hy : ys[i]? = some ys[i] := List.getElem?_eq_getElem (by omega)
  obtain ⟨p, xs, hp, hq, hr⟩ := h3 i _ hy
  refine ⟨D, ys, i, .ref p, rfl, rfl, .inl (.inl h1), atI_nat ?_, q p xs hr hq⟩
  rw [hy, hp]
section
variable {J : It} {n : Nat} {G : Hp → Prop} {Y : Nat → Hp → V → Hp → Prop}
end
end Hn
namespace Hn
open PySem PySem.W PySem.Calls PySem.Spec PyProof.Rows L2 Evl
open Sem (wp)
theorem zip_nolen : typeLookup (.type "zip") "__len__" = pure none := by rw [typeLookup_type, builtinLookup_eq_fast]; kernel_rfl
theorem zip_nohint : typeLookup (.type "zip") "__length_hint__" = pure none := by rw [typeLookup_type, builtinLookup_eq_fast]; kernel_rfl
section
variable {prog : Program} {w : World} {A : Around} {E : Value → Shared → Prop} {s : Shared} {z TI TO T i1 i2 S : Addr} {fp1 fp2 : List Addr} {n i : Nat} {P1 P2 : Nat → Value → Prop} {St1 St2 : Nat → Heap → Prop} {f : Bool} {oT : Obj}
theorem zh_item {Q : Value → Shared → Prop} (D : ZipSep2 z TI TO i1 i2 fp1 fp2) (D1 : Draws prog w A i1 fp1 n P1 St1) (D2 : Draws prog w A i2 fp2 n P2 St2)
    (hz : IsZipHeld s.heap z TI TO T f) (hT : s.heap.get? T = some oT) (hTI : IsTupOf2 s.heap TI (.ref i1) (.ref i2)) (st1 : St1 i s.heap) (st2 : St2 i s.heap) (hi : i < n)
    (hQ : ∀ x1 x2 h' tk, P1 i x1 → P2 i x2 → IsZipHeld h' z TI TO T true → St1 (i + 1) h' → St2 (i + 1) h' → IsTupOf2 h' s.heap.objs.size x1 x2 → h'.objs.size = s.heap.objs.size + 1 →
      (∀ c o, c ≠ z → c ≠ i1 → c ≠ i2 → s.heap.get? c = some o → h'.get? c = some o) → Q (.ref s.heap.objs.size) { s with heap := h', toks := tk }) :
    wpAny (model prog w) A (Builtin.«zip.__next__» ⟨[.ref z], []⟩) (fun fin s' => ∃ v, fin = .done (.ret v) ∧ Q v s') E s := by
  obtain ⟨hp, g, d, tk0, os⟩ := s
  show wpAny _ _ (field (.ref z) 2 >>= _) _ _ _
  refine wpAny_bind (wpAny_field hz rfl (x := .bool false) rfl ?_)
  show wpAny _ _ (field (.ref z) 3 >>= _) _ _ _
  refine wpAny_bind (wpAny_field hz rfl (x := .ref TI) rfl ?_)
  refine wpAny_bind (wpAny_seqItems hTI rfl ?_)
  show wpAny _ _ (Builtin.SmallTypes.ownedTupleIsFree (.ref z) >>= _) _ _ _
  refine wpAny_bind (wpAny_tupleHeld_zip hz hT fun g0 hz0 hs0 => ?_)
  replace hs0 : Heap.SameBut z hp g0 := hs0
  simp only [Bool.false_eq_true, if_false]
  refine wpAny_bind ?_
  rw [← Array.forIn_toList]
  simp only [List.forIn_cons, List.forIn_nil]
  refine wpAny_bind (wpAny_bind (wpAny_holding ?_))
  show wpAny _ _ (Builtin.SmallTypes.nextOf (.ref i1) >>= _) _ _ ⟨g0, g, d, tk0, os⟩
  refine wpAny_bind (D1.item i _ _ _ hi (D1.over st1 hs0 D.zf1) fun x1 p1 tk1 hx1 sn1 hp1 => wpAny_pure ?_)
  replace hp1 : Heap.SameBut i1 g0 p1 := hp1
  refine wpAny_pure ?_
  refine wpAny_bind (wpAny_bind (wpAny_holding ?_))
  show wpAny _ _ (Builtin.SmallTypes.nextOf (.ref i2) >>= _) _ _ ⟨p1, g, d, tk1, os⟩
  refine wpAny_bind (D2.item i _ _ _ hi (D2.over (D2.over st2 hs0 D.zf2) hp1 D.sep1_2) fun x2 p2 tk2 hx2 sn2 hp2 => wpAny_pure ?_)
  replace hp2 : Heap.SameBut i2 p1 p2 := hp2
  refine wpAny_pure (wpAny_pure ?_)
  show wpAny _ _ (newTuple [x1, x2] >>= _) _ _ ⟨p2, g, d, tk2, os⟩
  refine wpAny_bind (wpAny_newTuple ?_)
  have hsz : p2.objs.size = hp.objs.size := by rw [hp2.1, hp1.1, hs0.1]
  have hzz : IsZipHeld p2 z TI TO T true := hp2.extBut _ _ D.zi2 (hp1.extBut _ _ D.zi1 hz0)
  have hkk : ∀ c o, c ≠ z → c ≠ i1 → c ≠ i2 → hp.get? c = some o → p2.get? c = some o := fun c o cz c1 c2 e => hp2.extBut _ _ c2 (hp1.extBut _ _ c1 (hs0.extBut _ _ cz e))
  have hj1 : St1 (i + 1) p2 := D1.over sn1 hp2 D.sep2_1
  have up : ∀ c o, p2.get? c = some o → (p2.push { cls := .type "tuple", data := .seq #[x1, x2] }).get? c = some o := fun c o e => Heap.get?_push_of_some _ e
  have hp3 : IsTupOf2 (p2.push { cls := .type "tuple", data := .seq #[x1, x2] }) p2.objs.size x1 x2 := Heap.get?_push_size _ rfl
  have hz4 : (p2.push { cls := .type "tuple", data := .seq #[x1, x2] }).objs.size = p2.objs.size + 1 := Heap.size_push ..
  refine wpAny_pure ⟨_, rfl, ?_⟩
  show Q (.ref p2.objs.size) ⟨p2.push { cls := .type "tuple", data := .seq #[x1, x2] }, g, d, tk2, os⟩
  rw [hsz] at hp3 hz4 ⊢
  exact hQ x1 x2 _ tk2 hx1 hx2 (up _ _ hzz) (D1.frame _ _ _ hj1 fun b _ o e => up b o e) (D2.frame _ _ _ sn2 fun b _ o e => up b o e) hp3 hz4 fun c o cz c1 c2 e => up c o (hkk c o cz c1 c2 e)
theorem zh_end {Q : Fin → Shared → Prop} (D : ZipSep2 z TI TO i1 i2 fp1 fp2) (D1 : Draws prog w A i1 fp1 n P1 St1)
    (hz : IsZipHeld s.heap z TI TO T f) (hT : s.heap.get? T = some oT) (hTI : IsTupOf2 s.heap TI (.ref i1) (.ref i2)) (st1 : St1 n s.heap)
    (hE : ∀ h' tk e, (∀ c o, c ≠ z → c ≠ i1 → c ≠ i2 → s.heap.get? c = some o → h'.get? c = some o) → (∃ o, h'.get? e = some o ∧ o.cls = .type "StopIteration") → E (.ref e) { s with heap := h', toks := tk }) :
    wpAny (model prog w) A (Builtin.«zip.__next__» ⟨[.ref z], []⟩) Q E s := by
  obtain ⟨hp, g, d, tk0, os⟩ := s
  show wpAny _ _ (field (.ref z) 2 >>= _) _ _ _
  refine wpAny_bind (wpAny_field hz rfl (x := .bool false) rfl ?_)
  show wpAny _ _ (field (.ref z) 3 >>= _) _ _ _
  refine wpAny_bind (wpAny_field hz rfl (x := .ref TI) rfl ?_)
  refine wpAny_bind (wpAny_seqItems hTI rfl ?_)
  show wpAny _ _ (Builtin.SmallTypes.ownedTupleIsFree (.ref z) >>= _) _ _ _
  refine wpAny_bind (wpAny_tupleHeld_zip hz hT fun g0 hz0 hs0 => ?_)
  replace hs0 : Heap.SameBut z hp g0 := hs0
  simp only [Bool.false_eq_true, if_false]
  refine wpAny_bind ?_
  rw [← Array.forIn_toList]
  simp only [List.forIn_cons, List.forIn_nil]
  refine wpAny_bind (wpAny_bind (wpAny_holding ?_))
  show wpAny _ _ (Builtin.SmallTypes.nextOf (.ref i1) >>= _) _ _ ⟨g0, g, d, tk0, os⟩
  refine wpAny_bind (D1.done ⟨g0, g, d, tk0, os⟩ _ _ (D1.over st1 hs0 D.zf1) fun q e hq he => ?_)
  replace hq : Heap.ExtBut i1 g0 q := hq
  exact hE q tk0 e (fun c o cz c1 _ x => hq _ _ c1 (hs0.extBut _ _ cz x)) he
theorem zn_held {Q : Option Value → Shared → Prop} (D : ZipSep2 z TI TO i1 i2 fp1 fp2) (D1 : Draws prog w A.in1 i1 fp1 n P1 St1) (D2 : Draws prog w A.in1 i2 fp2 n P2 St2)
    (hz : IsZipHeld s.heap z TI TO T f) (hT : s.heap.get? T = some oT) (hTI : IsTupOf2 s.heap TI (.ref i1) (.ref i2)) (st1 : St1 i s.heap) (st2 : St2 i s.heap) (hi : i < n)
    (hQ : ∀ x1 x2 h' tk, P1 i x1 → P2 i x2 → IsZipHeld h' z TI TO T true → St1 (i + 1) h' → St2 (i + 1) h' → IsTupOf2 h' s.heap.objs.size x1 x2 → h'.objs.size = s.heap.objs.size + 1 →
      (∀ c o, c ≠ z → c ≠ i1 → c ≠ i2 → s.heap.get? c = some o → h'.get? c = some o) → Q (some (.ref s.heap.objs.size)) { s with heap := h', toks := tk }) :
    wpAny (model prog w) A (pyNext (.ref z)) Q E s := by
  have hTy : s.TypeIs (.ref z) "zip" := ⟨_, hz, rfl⟩
  unfold pyNext
  exact wpAny_bind (wpAny_attempt (wpAny_callSpecial?_slot (name := Str.ofString "__next__") hTy F.slot_zip_next
    (wpAny_call_entry F.slot_zip_next hTy F.entry_zip_next
      (zh_item D D1 D2 hz hT hTI st1 st2 hi fun x1 x2 h' tk a1 a2 a3 a4 a5 a6 a7 a8 => wpAny_pure (hQ x1 x2 h' tk a1 a2 a3 a4 a5 a6 a7 a8)) (F.args_zip_next_1 _))))
theorem zn_first {Q : Option Value → Shared → Prop} {a1 a2 : Value} (D : ZipSep2 z TI TO i1 i2 fp1 fp2) (D1 : Draws prog w A.in1 i1 fp1 n P1 St1) (D2 : Draws prog w A.in1 i2 fp2 n P2 St2)
    (hz : IsZip s.heap z TI TO .none) (hTI : IsTupOf2 s.heap TI (.ref i1) (.ref i2)) (hTO : IsTupOf2 s.heap TO a1 a2) (st1 : St1 i s.heap) (st2 : St2 i s.heap) (hi : i < n)
    (hQ : ∀ x1 x2 h' tk, P1 i x1 → P2 i x2 → IsZip h' z TI TO (rawInt s.heap.objs.size) → St1 (i + 1) h' → St2 (i + 1) h' → IsTupOf2 h' s.heap.objs.size x1 x2 → h'.objs.size = s.heap.objs.size + 1 →
      (∀ c o, c ≠ z → c ≠ TO → c ≠ i1 → c ≠ i2 → s.heap.get? c = some o → h'.get? c = some o) → Q (some (.ref s.heap.objs.size)) { s with heap := h', toks := tk }) :
    wpAny (model prog w) A (pyNext (.ref z)) Q E s := by
  have hTy : s.TypeIs (.ref z) "zip" := ⟨_, hz, rfl⟩
  unfold pyNext
  exact wpAny_bind (wpAny_attempt (wpAny_callSpecial?_slot (name := Str.ofString "__next__") hTy F.slot_zip_next
    (wpAny_call_entry F.slot_zip_next hTy F.entry_zip_next
      (zipD2_next_item D D1 D2 hz hTI hTO st1 st2 hi hi fun x1 x2 h' tk a1 a2 a3 _ a4 a5 a6 a7 a8 => wpAny_pure (hQ x1 x2 h' tk a1 a2 a3 a4 a5 a6 a7 a8)) (F.args_zip_next_1 _))))
theorem zn_end {Q : Option Value → Shared → Prop} (D : ZipSep2 z TI TO i1 i2 fp1 fp2) (D1 : Draws prog w A.in1 i1 fp1 n P1 St1)
    (hz : IsZipHeld s.heap z TI TO T f) (hT : s.heap.get? T = some oT) (hTI : IsTupOf2 s.heap TI (.ref i1) (.ref i2)) (st1 : St1 n s.heap)
    (hQ : ∀ h' tk, (∀ c o, c ≠ z → c ≠ i1 → c ≠ i2 → s.heap.get? c = some o → h'.get? c = some o) → Q none { s with heap := h', toks := tk }) : wpAny (model prog w) A (pyNext (.ref z)) Q E s := by
  have hTy : s.TypeIs (.ref z) "zip" := ⟨_, hz, rfl⟩
  unfold pyNext
  refine wpAny_bind (wpAny_attempt (wpAny_callSpecial?_slot (name := Str.ofString "__next__") hTy F.slot_zip_next
    (wpAny_call_entry F.slot_zip_next hTy F.entry_zip_next (zh_end D D1 hz hT hTI st1 fun h' tk e hk he => ?_) (F.args_zip_next_1 _))))
  obtain ⟨o, ho, hc⟩ := he
  refine wpAny_bind (wpAny_isInstance (T := "StopIteration") (b := true) ⟨o, ho, hc⟩ isSubtype_stop ?_)
  exact wpAny_pure (hQ _ _ hk)
structure ZS (z TI TO i1 i2 S : Addr) (St1 St2 : Nat → Heap → Prop) (i : Nat) (h : Heap) : Prop where
  ti : IsTupOf2 h TI (.ref i1) (.ref i2)
  s1 : St1 i h
  s2 : St2 i h
  zz : (i = 0 ∧ IsZip h z TI TO .none ∧ ∃ a b, IsTupOf2 h TO a b) ∨ (0 < i ∧ ∃ T f oT, IsZipHeld h z TI TO T f ∧ h.get? T = some oT ∧ T ≠ S ∧ T ≠ z ∧ T ≠ i1 ∧ T ≠ i2)
structure ZG (P1 P2 : Nat → Value → Prop) (lo : Addr) (h : Heap) (as : List Addr) : Prop where
  rise : as.Pairwise (· < ·)
  above : ∀ a ∈ as, lo < a
  pairs : ∀ (j : Nat) (a : Addr), as[j]? = some a → ∃ x1 x2, P1 j x1 ∧ P2 j x2 ∧ IsTupOf2 h a x1 x2
theorem ZG.there {lo : Addr} {h : Heap} {as : List Addr} (g : ZG P1 P2 lo h as) {a : Addr} (ha : a ∈ as) : a < h.objs.size := by
  obtain ⟨j, hj⟩ := List.mem_iff_getElem?.mp ha
  obtain ⟨_, _, _, _, e⟩ := g.pairs j a hj
  exact Heap.lt_size e
end
structure ZB (z TI TO i1 i2 S : Addr) (fp1 fp2 : List Addr) : Prop where
  z : z < S
  TI : TI < S
  TO : TO < S
  i1 : i1 < S
  i2 : i2 < S
  f1 : ∀ b ∈ fp1, b < S
  f2 : ∀ b ∈ fp2, b < S
section
variable {prog : Program} {w : World} {z TI TO i1 i2 S : Addr} {fp1 fp2 : List Addr} {n : Nat} {P1 P2 : Nat → Value → Prop} {St1 St2 : Nat → Heap → Prop}
theorem ZS.keep {A : Around} {i : Nat} {h h' : Heap} (B : ZB z TI TO i1 i2 S fp1 fp2) (D1 : Draws prog w A i1 fp1 n P1 St1) (D2 : Draws prog w A i2 fp2 n P2 St2) (x : ZS z TI TO i1 i2 S St1 St2 i h) (k : ∀ b o, b ≠ S → h.get? b = some o → h'.get? b = some o) : ZS z TI TO i1 i2 S St1 St2 i h' :=
  ⟨k _ _ (Nat.ne_of_lt B.TI) x.ti, D1.frame _ _ _ x.s1 fun b hb o e => k b o (Nat.ne_of_lt (B.f1 b hb)) e, D2.frame _ _ _ x.s2 fun b hb o e => k b o (Nat.ne_of_lt (B.f2 b hb)) e, by
    rcases x.zz with ⟨h0, h1, a, b, h2⟩ | ⟨h0, T, f, oT, h1, h2, h3, h4⟩
    · exact .inl ⟨h0, k _ _ (Nat.ne_of_lt B.z) h1, a, b, k _ _ (Nat.ne_of_lt B.TO) h2⟩
    · exact .inr ⟨h0, T, f, oT, k _ _ (Nat.ne_of_lt B.z) h1, k _ _ h3 h2, h3, h4⟩⟩
variable {A : Around} {E : Value → Shared → Prop} {s : Shared} {R : Result → Shared → Prop}
theorem zs_next {i : Nat} {Q : Option Value → Shared → Prop} (D : ZipSep2 z TI TO i1 i2 fp1 fp2) (B : ZB z TI TO i1 i2 S fp1 fp2) (D1 : Draws prog w A.in1 i1 fp1 n P1 St1) (D2 : Draws prog w A.in1 i2 fp2 n P2 St2) (hS : S < s.heap.objs.size)
    (x : ZS z TI TO i1 i2 S St1 St2 i s.heap) (hi : i < n)
    (hQ : ∀ x1 x2 h' tk, P1 i x1 → P2 i x2 → ZS z TI TO i1 i2 S St1 St2 (i + 1) h' → IsTupOf2 h' s.heap.objs.size x1 x2 → h'.objs.size = s.heap.objs.size + 1 →
      (∀ c o, c ≠ z → c ≠ TO → c ≠ i1 → c ≠ i2 → s.heap.get? c = some o → h'.get? c = some o) → Q (some (.ref s.heap.objs.size)) { s with heap := h', toks := tk }) :
    wpAny (model prog w) A (pyNext (.ref z)) Q E s := by
  have big : ∀ b, b < S → s.heap.objs.size ≠ b := fun b hb => Nat.ne_of_gt (Nat.lt_trans hb hS)
  rcases x.zz with ⟨h0, h1, a, b, h2⟩ | ⟨h0, T, f, oT, h1, h2, h3, h4, h5, h6⟩
  · refine zn_first D D1 D2 h1 x.ti h2 x.s1 x.s2 hi fun x1 x2 h' tk p1 p2 z' t1 t2 tp sz k => ?_
    exact hQ x1 x2 h' tk p1 p2 ⟨k _ _ D.TIz D.TITO D.TIi1 D.TIi2 x.ti, t1, t2, .inr ⟨Nat.succ_pos _, s.heap.objs.size, false, _, z', tp, Nat.ne_of_gt hS, big _ B.z, big _ B.i1, big _ B.i2⟩⟩ tp sz k
  · refine zn_held D D1 D2 h1 h2 x.ti x.s1 x.s2 hi fun x1 x2 h' tk p1 p2 z' t1 t2 tp sz k => ?_
    exact hQ x1 x2 h' tk p1 p2 ⟨k _ _ D.TIz D.TIi1 D.TIi2 x.ti, t1, t2, .inr ⟨Nat.succ_pos _, T, true, oT, z', k _ _ h4 h5 h6 h2, h3, h4, h5, h6⟩⟩ tp sz fun c o c1 _ c3 c4 e => k c o c1 c3 c4 e
theorem zl_loop (D : ZipSep2 z TI TO i1 i2 fp1 fp2) (B : ZB z TI TO i1 i2 S fp1 fp2) (D1 : Draws prog w A.in1.in1 i1 fp1 n P1 St1) (D2 : Draws prog w A.in1.in1 i2 fp2 n P2 St2) (hn : n ≤ sizeLine) (hn1 : 1 ≤ n) (res : Value) {h₁ : Heap}
    (hR : ∀ h' tk acc c as, (∀ b o, b ≠ S → b ≠ z → b ≠ TO → b ≠ i1 → b ≠ i2 → h₁.get? b = some o → h'.get? b = some o) → h'.get? S = some { cls := .type "list", dict := none, data := .seq acc c, slots := #[] } → as.length = n → ZG P1 P2 S h' as →
      acc.toList = as.map Value.ref → R (.ok (.ret res)) { s with heap := h', toks := tk }) :
    ∀ (k i : Nat) (h : Heap) (tk c : Nat) (acc : Array Value) (as : List Addr), n - i = k → i ≤ n → ZS z TI TO i1 i2 S St1 St2 i h → (∀ b o, b ≠ S → b ≠ z → b ≠ TO → b ≠ i1 → b ≠ i2 → h₁.get? b = some o → h.get? b = some o) →
      h.get? S = some { cls := .type "list", dict := none, data := .seq acc c, slots := #[] } → acc.toList = as.map Value.ref → as.length = i → ZG P1 P2 S h as →
      codeAny (model prog w) A (.builtin "list.extend.loop" ⟨[.ref S, .ref z, res], []⟩) R { s with heap := h, toks := tk } := by
  have ne : ∀ a, S < a → a ≠ z ∧ a ≠ TO ∧ a ≠ i1 ∧ a ≠ i2 := fun a ha => ⟨Nat.ne_of_gt (Nat.lt_trans B.z ha), Nat.ne_of_gt (Nat.lt_trans B.TO ha), Nat.ne_of_gt (Nat.lt_trans B.i1 ha), Nat.ne_of_gt (Nat.lt_trans B.i2 ha)⟩
  intro k
  induction k with
  | zero =>
    intro i h tk c acc as hk hi hst hkeep hS hacc hal hG
    obtain rfl : i = n := by omega
    refine codeAny_builtin PySem.F.entry_extend_loop ?_
    rw [Around.under_plainId PySem.F.plain_extend_loop _]
    show wpAny _ A.in1 (pyNext (.ref z) >>= _) _ _ _
    rcases hst.zz with ⟨h0, _⟩ | ⟨h0, T, f, oT, h1, h2, h3, h4, h5, h6⟩
    · omega
    · refine wpAny_bind (zn_end (s := { s with heap := h, toks := tk }) (A := A.in1) D D1 h1 h2 hst.ti hst.s1 fun h' tk' he => ?_)
      refine wpAny_pure (hR h' tk' acc c as (fun b o b1 b2 b3 b4 b5 e => he b o b2 b4 b5 (hkeep b o b1 b2 b3 b4 b5 e)) (he S _ (Nat.ne_of_gt B.z) (Nat.ne_of_gt B.i1) (Nat.ne_of_gt B.i2) hS) hal ⟨hG.rise, hG.above, fun j a hj => ?_⟩ hacc)
      obtain ⟨x1, x2, q1, q2, e3⟩ := hG.pairs j a hj
      obtain ⟨n1, n2, n3, n4⟩ := ne a (hG.above a (List.mem_of_getElem? hj))
      exact ⟨x1, x2, q1, q2, he a _ n1 n3 n4 e3⟩
  | succ k ih =>
    intro i h tk c acc as hk hi hst hkeep hS hacc hal hG
    have hlt : i < n := by omega
    have hsz : acc.size = i := by rw [← Array.length_toList, hacc, List.length_map, hal]
    have hSl : S < h.objs.size := Heap.lt_size hS
    refine codeAny_builtin PySem.F.entry_extend_loop ?_
    rw [Around.under_plainId PySem.F.plain_extend_loop _]
    show wpAny _ A.in1 (pyNext (.ref z) >>= _) _ _ _
    refine wpAny_bind (zs_next (s := { s with heap := h, toks := tk }) (A := A.in1) D B D1 D2 hSl hst hlt fun x1 x2 h' tk' p1 p2 hst' ht hz hkp => ?_)
    dsimp only at ht hz hkp ⊢
    have hS' := hkp S _ (Nat.ne_of_gt B.z) (Nat.ne_of_gt B.TO) (Nat.ne_of_gt B.i1) (Nat.ne_of_gt B.i2) hS
    have up : ∀ b o, b ≠ S → h'.get? b = some o → (h'.update S (Obj.mapSeq (·.push (Value.ref h.objs.size)))).get? b = some o := fun b o hb e => (Heap.get?_update_other _ _ (Ne.symm hb)).trans e
    show wpAny _ A.in1 (updateSeq S (·.push (Value.ref h.objs.size)) >>= _) _ _ _
    refine wpAny_bind ?_
    refine wpAny_updateSeq hS' rfl (wpAny_pure ⟨plainId_quiet PySem.F.plain_extend_loop _, ih (i + 1) _ tk' _ (acc.push (Value.ref h.objs.size)) (as ++ [h.objs.size]) (by omega) hlt (hst'.keep B D1 D2 up)
      (fun b o b1 b2 b3 b4 b5 e => up b o b1 (hkp b o b2 b3 b4 b5 (hkeep b o b1 b2 b3 b4 b5 e))) (Heap.get?_update_self _ hS' rfl) (by rw [Array.toList_push, hacc, List.map_append]; rfl) (by rw [List.length_append, hal]; rfl) ⟨?_, ?_, ?_⟩⟩) (by rw [hsz]; omega) (by show (acc.push (Value.ref h.objs.size)).size ≤ sizeLine + 1; rw [Array.size_push, hsz]; omega)
    · refine List.pairwise_append.mpr ⟨hG.rise, List.pairwise_singleton _ _, fun a ha b hb => ?_⟩
      rw [List.mem_singleton.mp hb]
      exact hG.there ha
    · intro a ha
      rcases List.mem_append.mp ha with ha | ha
      · exact hG.above a ha
      · rw [List.mem_singleton.mp ha]; exact hSl
    · intro j b hj
      rcases Nat.lt_trichotomy j as.length with h1 | h1 | h1
      · rw [List.getElem?_append_left h1] at hj
        obtain ⟨y1, y2, q1, q2, e3⟩ := hG.pairs j b hj
        have hb := hG.above b (List.mem_of_getElem? hj)
        obtain ⟨n1, n2, n3, n4⟩ := ne b hb
        exact ⟨y1, y2, q1, q2, up b _ (Nat.ne_of_gt hb) (hkp b _ n1 n2 n3 n4 e3)⟩
      · subst h1
        have hb : h.objs.size = b := by simpa using hj
        subst hb
        exact ⟨x1, x2, by rw [hal]; exact p1, by rw [hal]; exact p2, up _ _ (Nat.ne_of_gt hSl) ht⟩
      · have hnone : (as ++ [h.objs.size])[j]? = none := List.getElem?_eq_none (by rw [List.length_append, List.length_singleton]; omega)
        rw [hnone] at hj; cases hj
theorem zl_call {Q : Value → Shared → Prop} {a1 a2 : Value} (D : ZipSep2 z TI TO i1 i2 fp1 fp2) (B : ZB z TI TO i1 i2 s.heap.objs.size fp1 fp2) (D1 : ∀ A : Around, A.handled = none → Draws prog w A i1 fp1 n P1 St1) (D2 : ∀ A : Around, A.handled = none → Draws prog w A i2 fp2 n P2 St2) (hh : A.handled = none)
    (hz : IsZip s.heap z TI TO .none) (hTI : IsTupOf2 s.heap TI (.ref i1) (.ref i2)) (hTO : IsTupOf2 s.heap TO a1 a2) (st1 : St1 0 s.heap) (st2 : St2 0 s.heap) (hn : n ≤ sizeLine) (hn1 : 1 ≤ n)
    (hQ : ∀ h' tk acc c as, (∀ b o, b ≠ z → b ≠ TO → b ≠ i1 → b ≠ i2 → s.heap.get? b = some o → h'.get? b = some o) → h'.get? s.heap.objs.size = some { cls := .type "list", dict := none, data := .seq acc c, slots := #[] } → as.length = n → ZG P1 P2 s.heap.objs.size h' as →
      acc.toList = as.map Value.ref → Q (.ref s.heap.objs.size) { s with heap := h', toks := tk }) :
    wpAny (model prog w) A (call (.type "list") [.ref z]) Q E s := by
  refine callType_codes (Q₁ := fun obj s₁ => obj = .ref s.heap.objs.size ∧ s₁ = { s with heap := s.heap.push { cls := .type "list", data := .seq #[] } }) PySem.F.called_list (PySem.F.typeCall_list_1 _) PySem.F.entry_list_init
    (code_list_new _ ⟨rfl, rfl⟩) fun obj s₁ h₁ => ?_
  obtain ⟨rfl, rfl⟩ := h₁
  have hS : (s.heap.push { cls := .type "list", data := .seq #[] }).get? s.heap.objs.size = some { cls := .type "list", data := .seq #[] } := Heap.get?_push_size _ rfl
  have hzS : s.heap.objs.size ≠ z := Nat.ne_of_gt B.z
  refine ⟨⟨_, hS, rfl⟩, PySem.F.args_list_init_2 _ _, ?_⟩
  show wpAny _ _ (do let old ← Builtin.List.listItems (.ref s.heap.objs.size); Builtin.List.listUpdate (.ref s.heap.objs.size) (fun _ => #[]); letGo old.toList.reverse; Builtin.List.listExtendWith (.ref s.heap.objs.size) (.ref z) .none) _ _ _
  refine wpAny_bind ?_
  unfold Builtin.List.listItems
  refine wpAny_bind (wpAny_seqItems hS rfl (wpAny_pure ?_))
  show wpAny _ _ (updateSeq s.heap.objs.size (fun _ => #[]) >>= fun _ => letGo (#[] : Array Value).toList.reverse >>= fun _ => Builtin.List.listExtendWith (.ref s.heap.objs.size) (.ref z) .none) _ _ _
  refine wpAny_bind (wpAny_updateSeq hS rfl ?_)
  have hS₂ := Heap.get?_update_self (Obj.mapSeq (fun _ => (#[] : Array Value))) hS rfl
  have oth : ∀ b o, b ≠ s.heap.objs.size → (s.heap.push { cls := .type "list", data := .seq #[] }).get? b = some o → ((s.heap.push { cls := .type "list", data := .seq #[] }).update s.heap.objs.size (Obj.mapSeq (fun _ => (#[] : Array Value)))).get? b = some o :=
    fun b o hb e => (Heap.get?_update_other _ _ (Ne.symm hb)).trans e
  refine wpAny_bind (wpAny_letGo ?_)
  have kp : ∀ b o, s.heap.get? b = some o → ((s.heap.push { cls := .type "list", data := .seq #[] }).update s.heap.objs.size (Obj.mapSeq (fun _ => (#[] : Array Value)))).get? b = some o := fun b o e => oth b o (Nat.ne_of_lt (Heap.lt_size e)) (Heap.get?_push_of_some _ e)
  have hz2 := kp _ _ hz
  have hh1 : A.in1.in1.in1.handled = none := hh
  have d1 := D1 A.in1.in1.in1 hh1
  have d2 := D2 A.in1.in1.in1 hh1
  unfold Builtin.List.listExtendWith
  refine wpAny_bind (wpAny_typeOf (T := "zip") ⟨_, hz2, rfl⟩ ?_)
  have h1 : Builtin.List.listSameRef (.ref s.heap.objs.size) (.ref z) = false := by simp [Builtin.List.listSameRef, hzS]
  have h2 : (Value.type "zip" == Value.type "list") = false := by decide
  have h3 : (Value.type "zip" == Value.type "tuple") = false := by decide
  simp only [h1, h2, h3, Bool.or_false, Bool.false_eq_true, if_false]
  refine wpAny_bind (wpAny_pyIter_zip hz2 ?_)
  refine wpAny_bind (wpAny_holding ?_)
  unfold Builtin.List.listLengthHint
  refine wpAny_bind (wpAny_specialOf (T := "zip") ⟨_, hz2, rfl⟩ zip_nolen ?_)
  refine wpAny_bind (wpAny_specialOf (T := "zip") ⟨_, hz2, rfl⟩ zip_nohint ?_)
  refine wpAny_pure ?_
  rw [Bool.true_or, if_pos rfl]
  refine wpAny_bind (wpAny_rule ?_)
  refine wpAny_bind ?_
  show wpAny _ _ (updateSeq s.heap.objs.size (·.push .none) >>= fun _ => updateSeq s.heap.objs.size (·.pop)) _ _ _
  refine wpAny_bind (wpAny_updateSeq hS₂ rfl ?_)
  have hS₃ := Heap.get?_update_self (Obj.mapSeq (·.push Value.none)) hS₂ rfl
  refine wpAny_updateSeq (hz := by seq_fits) hS₃ rfl ?_
  have hS₄ := Heap.get?_update_self (Obj.mapSeq (·.pop)) hS₃ rfl
  have kp2 : ∀ b o, s.heap.get? b = some o → _ := fun b o e => (Heap.get?_update_other _ (Obj.mapSeq (·.pop)) (Ne.symm (Nat.ne_of_lt (Heap.lt_size e)))).trans ((Heap.get?_update_other _ (Obj.mapSeq (·.push Value.none)) (Ne.symm (Nat.ne_of_lt (Heap.lt_size e)))).trans (kp b o e))
  refine wpAny_pure ⟨plainId_quiet PySem.F.plain_extend_loop _, zl_loop (h₁ := s.heap) D B d1 d2 hn hn1 .none (fun h' tk acc c as hk hS' hl hG hacc => ?_) n 0 _ _ _ _ [] rfl (Nat.zero_le _)
    ⟨kp2 _ _ hTI, (D1 A hh).frame _ _ _ st1 fun b _ o e => kp2 b o e, (D2 A hh).frame _ _ _ st2 fun b _ o e => kp2 b o e, .inl ⟨rfl, kp2 _ _ hz, _, _, kp2 _ _ hTO⟩⟩ (fun b o _ _ _ _ _ e => kp2 b o e) hS₄ rfl rfl ⟨List.Pairwise.nil, (fun _ ha => nomatch ha), (fun j a hj => by simp at hj)⟩⟩
  exact ⟨rfl, hQ h' tk acc c as (fun b o b1 b2 b3 b4 e => hk b o (Nat.ne_of_lt (Heap.lt_size e)) b1 b2 b3 b4 e) hS' hl hG hacc⟩
end
def putP : Hp → List Addr → List (V × V) → Hp
  | H, a :: as, p :: ps => putP (upd H a (.tup [p.1, p.2])) as ps
  | H, _, _ => H
theorem putP_off {b : Addr} : ∀ (as : List Addr) (ps : List (V × V)) (H : Hp), b ∉ as → putP H as ps b = H b
  | [], _, _, _ => rfl
  | _ :: _, [], _, _ => rfl
  | a :: as, p :: ps, H, h => by
    show putP (upd H a _) as ps b = H b
    rw [putP_off as ps _ (fun z => h (List.mem_cons_of_mem _ z)), upd_ne (fun z => h (by rw [z]; exact List.mem_cons_self))]
theorem putP_at : ∀ (as : List Addr) (ps : List (V × V)) (H : Hp), as.Nodup → ∀ (j : Nat) (a : Addr) (p : V × V), as[j]? = some a → ps[j]? = some p → putP H as ps a = some (.tup [p.1, p.2])
  | [], _, _, _, _, _, _, h, _ => by simp at h
  | _ :: _, [], _, _, _, _, _, _, h => by simp at h
  | a :: as, p :: ps, H, hn, j, b, q, h1, h2 => by
    have hn' := List.nodup_cons.mp hn
    show putP (upd H a _) as ps b = _
    cases j with
    | zero =>
      obtain rfl : a = b := by simpa using h1
      obtain rfl : p = q := by simpa using h2
      rw [putP_off as ps _ hn'.1, upd_same]
    | succ j => exact putP_at as ps _ hn'.2 j b q (by simpa using h1) (by simpa using h2)
section
variable {X : Cx}
theorem pairs_laid {pins : List (Addr × Obj)} {σ : L2.St} {H : Hp} {s : Shared} {h' : Heap} {tk : Nat} {zs : List (V × V)} {acc : Array Value} {c : Nat} {as : List Addr} {S : Addr} (I : Inv X pins σ H s) (hS0 : s.heap.objs.size ≤ S) (hz : zs.length ≤ sizeLine)
    (hk : ∀ b o, s.heap.get? b = some o → h'.get? b = some o) (hS : h'.get? S = some { cls := .type "list", dict := none, data := .seq acc c, slots := #[] }) (hl : as.length = zs.length) (rise : as.Pairwise (· < ·)) (above : ∀ a ∈ as, S < a)
    (pairs : ∀ (j : Nat) (a : Addr) (p : V × V), as[j]? = some a → zs[j]? = some p → ∃ x1 x2, RelV p.1 x1 ∧ RelV p.2 x2 ∧ IsTupOf2 h' a x1 x2) (hacc : acc.toList = as.map Value.ref) :
    ∃ H' : Hp, Ex H H' ∧ H S = none ∧ (∀ t ∈ as, H t = none) ∧ S ∉ as ∧ H' S = some (.lst (as.map V.ref)) ∧ (∀ (j : Nat) (a : Addr) (p : V × V), as[j]? = some a → zs[j]? = some p → H' a = some (.tup [p.1, p.2])) ∧ Inv X pins σ H' { s with heap := h', toks := tk } := by
  have hSn : S ∉ as := fun z => Nat.lt_irrefl _ (above _ z)
  have nd : as.Nodup := List.Pairwise.imp (fun {a b} (h : a < b) => Nat.ne_of_lt h) rise
  have new : ∀ t ∈ as, H t = none := fun t ht => I.hok.fresh (Nat.le_trans hS0 (Nat.le_of_lt (above t ht)))
  have newS : H S = none := I.hok.fresh hS0
  have atP := putP_at as zs (upd H S (.lst (as.map V.ref))) nd
  have off : ∀ b, b ∉ as → b ≠ S → putP (upd H S (.lst (as.map V.ref))) as zs b = H b := fun b h1 h2 => by rw [putP_off as zs _ h1, upd_ne h2]
  have low : ∀ b o, s.heap.get? b = some o → b ∉ as ∧ b ≠ S := fun b o e => ⟨fun z => absurd (Heap.lt_size e) (Nat.not_lt.mpr (Nat.le_trans hS0 (Nat.le_of_lt (above b z)))), fun z => absurd (Heap.lt_size e) (Nat.not_lt.mpr (z ▸ hS0))⟩
  have kp : ∀ b u, H b = some u → (putP (upd H S (.lst (as.map V.ref))) as zs) b = some u := fun b u e => by
    rw [off b (fun z => by rw [new b z] at e; cases e) (fun z => by rw [z, newS] at e; cases e)]
    exact e
  have eS : putP (upd H S (.lst (as.map V.ref))) as zs S = some (.lst (as.map V.ref)) := by rw [putP_off as zs _ hSn, upd_same]
  refine ⟨putP (upd H S (.lst (as.map V.ref))) as zs, kp, newS, new, hSn, eS, atP, ?_⟩
  refine I.call' (ch := []) rfl ⟨fun b o q _ _ _ => hk b o q, fun b o q _ _ _ => ⟨o.slots, hk b o q⟩, fun b o q n _ => ?_, fun b o q _ => ⟨o, hk b o q⟩, fun b xs q => kp b _ q, fun b o u q => kp b _ q, fun b ps q => ⟨#[], by rw [kp b _ q]; simp⟩⟩ (fun b u q => ?_) I.bare fun b z => by simp at z
  · obtain ⟨z1, z2⟩ := low b o q
    rw [off b z1 z2]
    exact n
  · by_cases hb : b ∈ as
    · obtain ⟨j, hj⟩ := List.mem_iff_getElem?.mp hb
      have hj2 : j < zs.length := by
        have := (List.getElem?_eq_some_iff.mp hj).1
        omega
      have e2 : zs[j]? = some zs[j] := List.getElem?_eq_getElem hj2
      rw [atP j b _ hj e2] at q
      cases q
      obtain ⟨x1, x2, f1, f2, f3⟩ := pairs j b _ hj e2
      exact ⟨by show 2 ≤ sizeLine; decide, [x1, x2], .cons f1 (.cons f2 .nil), ⟨_, f3, rfl, _, rfl⟩⟩
    · by_cases hb2 : b = S
      · rw [hb2] at q ⊢
        rw [eS] at q
        cases q
        refine ⟨by rw [List.length_map]; omega, acc.toList, c, by rw [hacc]; exact LiI.vals_refs as, ?_⟩
        rw [Array.toArray_toList]
        exact hS
      · rw [off b hb hb2] at q
        exact (I.hok b u q).stay (fun d v _ y => hk d v y) (fun d y => kp d _ y) fun d xs y => kp d _ y
theorem sq_src {pins : List (Addr × Obj)} {σ : L2.St} {H : Hp} {s : Shared} {a : Addr} {xs : List V} (I : Inv X pins σ H s) (hq : Sq X.K H a xs) {it : Addr} (hit : s.heap.objs.size ≤ it) :
    ∃ (its : List Value) (o : Obj) (HH : Heap → Prop) (St : Nat → Heap → Prop), Vals xs its ∧ xs.length ≤ sizeLine ∧ Begins (.ref a) o HH ∧ HH s.heap ∧ a < s.heap.objs.size ∧
      (∀ A : Around, A.handled = none → Draws X.prog X.w A it [it, a] its.length (fun i v => its[i]? = some v) St) ∧ ∀ h', HH h' → h'.get? it = some o → St 0 h' := by
  rcases hq with hq | hq
  · obtain ⟨its, rv, p, hz⟩ := I.list hq
    have hlt : a < s.heap.objs.size := p.lt
    have hd : ∀ A : Around, A.handled = none → Draws X.prog X.w A it [it, a] its.toArray.size (fun i v => its.toArray[i]? = some v) (fun i h => h.IsListIter it a i ∧ h.IsList a its.toArray) := fun A hh => Draws.list hh it a (Nat.ne_of_lt (Nat.lt_of_lt_of_le hlt hit)) its.toArray
    simp only [List.size_toArray, List.getElem?_toArray] at hd
    exact ⟨its, _, _, _, rv, hz, begins_list a its.toArray, p.isList, hlt, hd, fun h' h1 h2 => ⟨⟨_, h2, rfl, rfl⟩, h1⟩⟩
  · obtain ⟨its, rv, p, hz⟩ := I.tuple hq
    have hlt : a < s.heap.objs.size := by obtain ⟨o, ho, _⟩ := id p; exact Heap.lt_size ho
    have hd : ∀ A : Around, A.handled = none → Draws X.prog X.w A it [it, a] its.toArray.size (fun i v => its.toArray[i]? = some v) (fun i h => h.IsTupleIter it a i ∧ h.IsTuple a its.toArray) := fun A hh => Draws.tuple hh it a (Nat.ne_of_lt (Nat.lt_of_lt_of_le hlt hit)) its.toArray
    simp only [List.size_toArray, List.getElem?_toArray] at hd
    exact ⟨its, _, _, _, rv, hz, begins_tuple a its.toArray, p, hlt, hd, fun h' h1 h2 => ⟨⟨_, h2, rfl, rfl⟩, h1⟩⟩
def rListZip (K : PySem.W.Frag) : List V → Hp → VK → Prop := fun vs H Q => ∃ a b xs ys, vs = [.ref a, .ref b] ∧ Sq K H a xs ∧ Sq K H b ys ∧ xs.length = ys.length ∧ 1 ≤ xs.length ∧
  ∀ (H' : Hp) (p : Addr) (ts : List Addr), Ex H H' → H p = none → (∀ t ∈ ts, H t = none) → p ∉ ts → H' p = some (.lst (ts.map V.ref)) → ts.length = xs.length →
    (∀ (j : Nat) t x y, ts[j]? = some t → xs[j]? = some x → ys[j]? = some y → H' t = some (.tup [x, y])) → Q (.ref p) H'
def tListZip (K : PySem.W.Frag) (ar : TA) : TE := fun σ H Q => ar σ H fun vs H1 => rListZip K vs H1 Q
theorem vals_get : ∀ {xs : List V} {us : List Value}, Vals xs us → ∀ {i : Nat} {u : Value}, us[i]? = some u → ∃ x, xs[i]? = some x ∧ RelV x u
  | _, _, .nil, _, _, h => by simp at h
  | _, _, .cons r t, 0, u, h => by
    obtain rfl := Option.some.inj h
    exact ⟨_, rfl, r⟩
  | _, _, .cons r t, i + 1, u, h => vals_get t h
theorem vals_len {xs : List V} {us : List Value} (h : Vals xs us) : xs.length = us.length := by
  induction h with
  | nil => rfl
  | cons _ _ ih => rw [List.length_cons, List.length_cons, ih]
theorem pe_listZip {e e2 : Expr} {ta : TA} {p p2 cpos pos : Pos} {K : PySem.W.Frag} (hKK : X.K = K) (hc : X.calm = true) (hg : Gl X "list") (hm : X.mg "list" = none) (hg2 : Gl X "zip") (hm2 : X.mg "zip" = none) (ha : PA X [e, e2] ta)
    (hs2 : starEach [e, e2] X.env = (false, eval e X.env) :: starEach [e2] X.env := by rfl) (hpl : (backTo cpos (starEach [e2] X.env)).any (·.1) = false := by rfl)
    (hs : starEach [.Call (.Name "zip" p2) [e, e2] [] cpos] X.env = (false, eval (.Call (.Name "zip" p2) [e, e2] [] cpos) X.env) :: starEach [] X.env := by rfl) :
    PE X (.Call (.Name "list" p) [.Call (.Name "zip" p2) [e, e2] [] cpos] [] pos) (tListZip K ta) := by
  subst hKK
  refine ⟨fun pins s σ H Q I hq => ?_⟩
  refine wpAny_Call_Name_kw (ld_blt I hg hm (show bootBuiltins "list" = some (.type "list") by decide +kernel) ?_)
  refine PyProof.Rows.callWith_type1 ?_ hs rfl
  rw [hs]
  show wpAny _ _ (spliced ((false, eval (.Call (.Name "zip" p2) [e, e2] [] cpos) X.env) :: backTo pos (starEach [] X.env))) _ _ s
  refine Calls.spliced_cons ?_
  refine Call_ (ld_blt I hg2 hm2 PyProof.Rows.boot_zip (PyProof.Rows.callWith_type1 (thn (ha.run cpos pins s σ H _ I hq) fun us s1 ⟨vs, H1, I1, r1, q1⟩ => ?_) hs2 hpl))
  obtain ⟨a, b, xs, ys, ex, hx, hy, hl, h1, q⟩ := q1
  subst ex
  cases r1 with
  | cons r rr =>
    cases rr with
    | cons r' rr =>
      cases rr
      cases r
      cases r'
      obtain ⟨its, o1, HH1, St1, rv1, hz1, B1, hh1, lt1, D1, S1⟩ := sq_src I1 hx (it := s1.heap.objs.size) (Nat.le_refl _)
      obtain ⟨its2, o2, HH2, St2, rv2, hz2, B2, hh2, lt2, D2, S2⟩ := sq_src I1 hy (it := s1.heap.objs.size + 1) (Nat.le_succ _)
      have ll : its2.length = its.length := by rw [← vals_len rv1, ← vals_len rv2, hl]
      rw [ll] at D2
      refine zip_begins2 B1 B2 hh1 hh2 fun h' hz hTI hTO g1 g2 hsz hk => ?_
      refine Calls.spliced_nil ?_
      have bnd : ∀ k : Nat, k < 5 → s1.heap.objs.size + k < h'.objs.size := fun k hk => by
        rw [hsz]
        exact Nat.add_lt_add_left hk _
      refine zl_call (s := { s1 with heap := h' }) (fp1 := [s1.heap.objs.size, a]) (fp2 := [s1.heap.objs.size + 1, b]) (zip_sep2 (fun c hc => by rw [List.mem_singleton.mp hc]; exact lt1) (fun c hc => by rw [List.mem_singleton.mp hc]; exact lt2))
        ⟨bnd 4 (by decide), bnd 2 (by decide), bnd 3 (by decide), bnd 0 (by decide), bnd 1 (by decide), fun c hc => ?_, fun c hc => ?_⟩ D1 D2 (I1.ok.hd hc) hz hTI hTO (S1 h' (B1.keeps _ _ hh1 hk) g1) (S2 h' (B2.keeps _ _ hh2 hk) g2) (by rw [← vals_len rv1]; exact hz1) (by rw [← vals_len rv1]; exact h1) fun h'' tk acc c as hk2 hS hlen hG hacc => ?_
      · rcases List.mem_cons.mp hc with rfl | hc
        · exact bnd 0 (by decide)
        · rw [List.mem_singleton.mp hc]
          exact Nat.lt_trans lt1 (bnd 0 (by decide))
      · rcases List.mem_cons.mp hc with rfl | hc
        · exact bnd 1 (by decide)
        · rw [List.mem_singleton.mp hc]
          exact Nat.lt_trans lt2 (bnd 0 (by decide))
      · have low : ∀ b o, s1.heap.get? b = some o → ∀ k : Nat, b ≠ s1.heap.objs.size + k := fun b o e k z => absurd (Heap.lt_size e) (Nat.not_lt.mpr (by rw [z]; exact Nat.le_add_right _ _))
        obtain ⟨H', k1, k2, k3, k4, k5, k6, J⟩ := pairs_laid (tk := tk) (zs := xs.zip ys) (S := h'.objs.size) I1 (by rw [hsz]; exact Nat.le_add_right _ _) (by rw [List.length_zip, hl, Nat.min_self, ← hl]; exact hz1) (fun b o e => hk2 b o (low b o e 4) (low b o e 3) (low b o e 0) (low b o e 1) (hk b o e)) hS (by rw [hlen, List.length_zip, hl, Nat.min_self, ← hl, vals_len rv1]) hG.rise hG.above (fun j t pr hj hp => by
          obtain ⟨x1, x2, p1, p2, p3⟩ := hG.pairs j t hj
          obtain ⟨v1, e1, f1⟩ := vals_get rv1 p1
          obtain ⟨v2, e2, f2⟩ := vals_get rv2 p2
          have : (xs.zip ys)[j]? = some (v1, v2) := by
            rw [List.getElem?_zip_eq_some]
            exact ⟨e1, e2⟩
          rw [this] at hp
          cases hp
          exact ⟨x1, x2, f1, f2, p3⟩) hacc
        exact ⟨.ref _, H', J, rfl, q H' _ as k1 k2 k3 k4 k5 (by rw [hlen, vals_len rv1]) fun j t x y e1 e2 e3 => k6 j t (x, y) e1 (by rw [List.getElem?_zip_eq_some]; exact ⟨e2, e3⟩)⟩
end
section
variable {K : PySem.W.Frag} {σ : L2.St} {H : Hp} {Q : VK} {ar : TA}
theorem r_listZip (h : ar σ H fun vs H1 => rListZip K vs H1 Q) : tListZip K ar σ H Q := h
end
end Hn
namespace Hn
open PySem PySem.Spec PyProof.Rows L2 Evl
section
variable {X : Cx} {K : PySem.W.Frag} {k : Nat} {f C : Addr} {ps : List Str} {sp : Sp}
def rLenO (C : Addr) (sp : Sp) (E : XK) : List V → Hp → VK → Prop := fun vs H Q => ∃ a dx fs, vs = [.ref a] ∧ H a = some (.ins C dx fs) ∧ sp [.ref a] H (fun v H' => ∃ n : Int, v = .int n ∧ 0 ≤ n ∧ n < 2 ^ 63 ∧ Q (.int n) H') E
theorem k_lenO (G : Okf X.prog X.w X.K X.mg X.base k f ps sp) (hr : Room (k + 1) X.A) (hs : PySem.W.findIn X.K (.ref C) "__len__" = some (some (.ref f))) (hf : PySem.W.isFn X.K (.ref f) = true) : CallR X (.builtin "len") (rLenO C sp E0) := by
  obtain ⟨fd, F, hb⟩ := G
  intro pins s σ H vs us Q I r h
  obtain ⟨a, dx, fs, rfl, ha, q⟩ := h
  rw [Vals.ref1 r]
  obtain ⟨mA, J, _⟩ := ins_get I.hok ha
  obtain ⟨od, J, _⟩ := J.look
  obtain ⟨m, hF⟩ := I.fr
  refine PySem.W.len_K hF I.ok.mod.kin J hs hf ?_
  refine wpAny_mono (run_fn1 (us := [.ref a]) (vs := [.ref a]) F hr hb passL I (.cons rfl .nil) q) (fun v s' hv => ?_) fun _ _ e => e
  obtain ⟨z, H', I', rz, n, rfl, h0, h1, q'⟩ := hv
  obtain ⟨t, rfl⟩ := rz
  exact ⟨⟨h0, h1⟩, .int n, H', I'.tok _, ⟨_, rfl⟩, q'⟩
end
section
open PySem.W
variable {prog : Program} {w : World} {A : Around} {E : Value → Shared → Prop} {s : Shared} {K : Frag} {x C L f : Addr} {h₀ : Heap} {m : Str → Option Value} {ox : Obj} {od : Option Obj} {i : Int} {t : Tok}
end
section
variable {X : Cx} {k : Nat} {f C : Addr} {ps : List Str} {sp : Sp}
end
end Hn
namespace Hn
open PySem PySem.Spec PyProof.Rows L2 Evl
structure IsC (K : PySem.W.Frag) (C : Addr) : Prop where
  cl : Cls K C
  ha : PySem.W.findIn K (.ref C) "__class__" = some (some (.builtin "object.__class__"))
  hn : PySem.W.specialIn K (.builtin "object.__class__") "__get__" = some (some (.builtin "getset_descriptor.__get__"))
  tk : PySem.W.takesIn K (.builtin "object.__class__") = some true
  mr : PySem.W.mroIn K C (.type "object") = some true
theorem r_isiOwn {K : PySem.W.Frag} {C a dx : Addr} {H : Hp} {fs : List (Str × V)} {Q : VK} (h : IsC K C) (ha : H a = some (.ins C dx fs)) (q : Q (.bl true) H) : rIsi K [.ref a, .ref C] H Q :=
  ⟨.ref a, .ref C, _, _, true, rfl, .own C, .base (.ins ha h.cl h.ha h.hn h.tk h.mr), by unfold PySem.W.kitOne; rw [if_pos (beq_self_eq_true _)], q⟩
structure GoodN (ns : List Int) : Prop where
  ne : 1 ≤ ns.length
  le : ns.length ≤ 48
  nn : ∀ i, 0 ≤ cyc ns i
theorem GoodN.mem {ns : List Int} (g : GoodN ns) : ∀ x ∈ ns, 0 ≤ x := fun x hx => by
  obtain ⟨j, hj, rfl⟩ := List.mem_iff_getElem.mp hx
  have := g.nn (j : Int)
  rw [cyc_at hj, List.getD_eq_getElem?_getD, List.getElem?_eq_getElem hj] at this
  exact this
theorem GoodN.of {ns : List Int} (h1 : 1 ≤ ns.length) (h2 : ns.length ≤ 48) (h : ∀ x ∈ ns, 0 ≤ x) : GoodN ns := ⟨h1, h2, fun i => h _ (cyc_mem h1 i)⟩
def rwF (fld : Str) (a : Addr) : List (Str × V) := putF fld (.ref a) []
theorem rwF_at (fld : Str) (a : Addr) : (rwF fld a).lookup fld = some (.ref a) := by
  unfold rwF
  rw [lookup_putF, if_pos rfl]
def Rw (K : PySem.W.Frag) (C : Addr) (fld : Str) (H : Hp) (v : V) (ns : List Int) : Prop :=
  ∃ p dx a, v = .ref p ∧ H p = some (.ins C dx (rwF fld a)) ∧ SqT K H a (ns.map V.int) ∧ GoodN ns
section
variable {K : PySem.W.Frag} {C : Addr} {fld : Str} {H H' : Hp} {v : V} {ns : List Int}
theorem Rw.mono (e : Xl H H') (h : Rw K C fld H v ns) : Rw K C fld H' v ns :=
  let ⟨p, dx, a, h1, h2, h3, h4⟩ := h
  ⟨p, dx, a, h1, e _ _ h2 rfl, tup_mono e h3, h4⟩
theorem Rw.ex (e : Ex H H') (h : Rw K C fld H v ns) : Rw K C fld H' v ns := h.mono (.of e)
theorem Rw.good (h : Rw K C fld H v ns) : GoodN ns := let ⟨_, _, _, _, _, _, g⟩ := h; g
theorem r_rwF {p : V → Prop} (h : Rw K C fld H v ns) (cl : Cls K C) (na : NoAttr K C fld) (q : ∀ a, SqT K H a (ns.map V.int) → p (.ref a)) : ∃ a C dx fs u, v = .ref a ∧ H a = some (.ins C dx fs) ∧ Cls K C ∧ NoAttr K C fld ∧ fs.lookup fld = some u ∧ p u :=
  let ⟨x, dx, a, e, hp, ha, _⟩ := h
  ⟨x, C, dx, _, _, e, hp, cl, na, rwF_at fld a, q a ha⟩
end
def MkRw (K : PySem.W.Frag) (C : Addr) (fld : Str) (H : Hp) (v : V) (Q : Addr → Hp → Prop) : Prop := ∃ a s, v = .ref a ∧ Sq K H a (s.map V.int) ∧ GoodN s ∧ ∀ u H', Ex H H' → Rw K C fld H' (.ref u) s → Q u H'
def spRwInit (K : PySem.W.Frag) (C : Addr) (fld : Str) : Sp := fun vs H Q _ => ∃ (H0 : Hp) (x dx a : Addr) (s : List Int), vs = [.ref x, .ref a] ∧ H = upd (upd H0 dx (.own x)) x (.ins C dx []) ∧ H0 x = none ∧ H0 dx = none ∧ dx ≠ x ∧ Sq K H0 a (s.map V.int) ∧ GoodN s ∧
  ∀ H', Ex H0 H' → Rw K C fld H' (.ref x) s → Q .non H'
theorem mkRw {K : PySem.W.Frag} {C : Addr} {fld : Str} {H : Hp} {v : V} {Q : Addr → Hp → Prop} {E : XK} (h : MkRw K C fld H v Q) : ∀ x dx, H x = none → H dx = none → dx ≠ x → spRwInit K C fld (.ref x :: ([v] ++ [])) (upd (upd H dx (.own x)) x (.ins C dx [])) (fun v H2 => v = .non ∧ Q x H2) E := by
  intro x dx nx ndx ne
  obtain ⟨a, s, rfl, hS, g, k⟩ := h
  exact ⟨H, x, dx, a, s, rfl, rfl, nx, ndx, ne, hS, g, fun H' e c => ⟨rfl, k _ _ e c⟩⟩
def Prs (H : Hp) (p : Addr) (ns ms : List Int) : Prop := ∃ ts : List Addr, H p = some (.lst (ts.map V.ref)) ∧ ts.length = ns.length ∧ ∀ (j : Nat) t, ts[j]? = some t → H t = some (.tup [.int (ns.getD j 0), .int (ms.getD j 0)])
theorem Prs.ex {H H' : Hp} {p : Addr} {ns ms : List Int} (e : Ex H H') (h : Prs H p ns ms) : Prs H' p ns ms :=
  let ⟨ts, h1, h2, h3⟩ := h
  ⟨ts, e _ _ h1, h2, fun j t ht => e _ _ (h3 j t ht)⟩
def zipR (f : Int → Int → Int) (s t : List Int) : List Int := rowOf s.length fun i => f (cyc s i) (cyc t i)
def mapR (f : Int → Int) (s : List Int) : List Int := rowOf s.length fun i => f (cyc s i)
theorem zipR_length (f : Int → Int → Int) (s t : List Int) : (zipR f s t).length = s.length := rowOf_length _ _
theorem mapR_length (f : Int → Int) (s : List Int) : (mapR f s).length = s.length := rowOf_length _ _
theorem cyc_zipR {f : Int → Int → Int} {s t : List Int} (h : 1 ≤ s.length) (hl : t.length = s.length) (i : Int) : cyc (zipR f s t) i = f (cyc s i) (cyc t i) := by
  unfold zipR
  rw [cyc_rowOf _ h, cyc_mod]
  rw [← hl, cyc_mod]
theorem cyc_mapR {f : Int → Int} {s : List Int} (h : 1 ≤ s.length) (i : Int) : cyc (mapR f s) i = f (cyc s i) := by
  unfold mapR
  rw [cyc_rowOf _ h, cyc_mod]
theorem GoodN.zip {f : Int → Int → Int} {s t : List Int} (g : GoodN s) (gt : GoodN t) (hl : t.length = s.length) (h : ∀ a b, 0 ≤ a → 0 ≤ b → 0 ≤ f a b) : GoodN (zipR f s t) := by
  refine ⟨by rw [zipR_length]; exact g.ne, by rw [zipR_length]; exact g.le, fun i => ?_⟩
  rw [cyc_zipR g.ne hl]
  exact h _ _ (g.nn i) (gt.nn i)
theorem GoodN.map {f : Int → Int} {s : List Int} (g : GoodN s) (h : ∀ a, 0 ≤ a → 0 ≤ f a) : GoodN (mapR f s) := by
  refine ⟨by rw [mapR_length]; exact g.ne, by rw [mapR_length]; exact g.le, fun i => ?_⟩
  rw [cyc_mapR g.ne]
  exact h _ (g.nn i)
theorem GoodN.turn {s : List Int} (g : GoodN s) (b : Int) : GoodN (turnS s b) := by
  refine ⟨by rw [turnS_length]; exact g.ne, by rw [turnS_length]; exact g.le, fun i => ?_⟩
  rw [cyc_turn g.ne]
  exact g.nn _
theorem row_lit {n : Nat} (f : Int → Int) : (rowOf n f).map V.int = (List.range n).map fun (i : Nat) => V.int (f (i : Int)) := by
  unfold rowOf
  rw [List.map_map]
  rfl
section
variable {n : Nat} {a b : Int → Int}
end
theorem cut_drop {xs : List V} {h : Int} (h0 : 0 ≤ h) (h1 : h ≤ (xs.length : Int)) : cutV xs (some h) none = xs.drop h.toNat := by
  obtain ⟨k, rfl⟩ : ∃ k : Nat, h = (k : Int) := ⟨h.toNat, by omega⟩
  unfold cutV
  rw [HT.sIx_none, show HT.sIx xs.length 0 (some (k : Int)) = min k xs.length from HT.sIx_nat xs.length 0 k]
  rw [Int.toNat_natCast, Nat.min_eq_left (by omega)]
  exact List.take_of_length_le (by rw [List.length_drop]; omega)
end Hn
namespace Hn
open PySem PySem.Spec PyProof.Rows L2 Evl
def OkP (Pre : Around → Shared → Prop) (P : Program) (w : World) (K : PySem.W.Frag) (mg : Str → Option Value) (base : Heap) (k : Nat) (f : Addr) (ps : List Str) (sp : Sp) : Prop :=
  ∃ fd, Binds K fd ps [] ∧ (∀ vs H Q E, sp vs H Q E → vs.length = ps.length) ∧ ∀ (A : Around) (out : List Env) (s : Shared) (H : Hp) (ag : Args) (us : List Value) (vs : List V) (Q : VK) (E : XK), Pre A s → Room k A → Env0 P w K mg base A out s H → BindsTo s fd ag (ps.zip us) → Vals vs us → sp vs H Q E →
    codeAny (model P w) A (.call (.ref f) ag) (CR CX0 out P w H s Q E) s
section
variable {P : Program} {w : World} {K : PySem.W.Frag} {mg : Str → Option Value} {base : Heap} {Pre : Around → Shared → Prop}
theorem okP_of {x qual : Str} {st : Stmt} {f : Addr} {N ps : List Str} {k : Nat} {sp : Sp} (D : Df K x qual st f ps) (S : FnScope N ps (defScope st)) (len : ∀ vs H Q E, sp vs H Q E → vs.length = ps.length)
    (hbody : ∀ (cdv : Value) (A : Around) (out : List Env) (s : Shared) (H : Hp) (vs : List V) (Q : VK) (E : XK), Pre A s → Room k (A.deeper (envOfC qual (defScope st) s.heap.objs.size f cdv)) → sp vs H Q E →
      ∃ t, PSs (cxOf CX0 P w K mg base N qual (defScope st) f cdv A out s H E).nox (defBody st) t ∧ t { nx := fun _ H' => Q .non H', rt := Q } (start N vs) H) : OkP Pre P w K mg base (k + 1) f ps sp := by
  obtain ⟨fd, F, bd⟩ := D
  refine ⟨fd, bd, len, ?_⟩
  obtain ⟨oc, od, kV, doc, pm, an, cdv, ct, osl, rfl, lk, hcd⟩ := F.ex
  intro A out s H ag us vs Q E pre room env bnd rel hsp
  have ll := len _ _ _ _ hsp
  have inK : K.In s.heap := env.mod.kin.keeps fun b o e => (env.bs b o e).1
  have nol : s.heap.NoLimit := env.mod.nolimit.keeps fun b o e => (env.bs b o e).1
  have kinds : ∀ y ∈ ps.zip us, (defScope st).names.lookup y.1 = some .local ∨ ((defScope st).names.lookup y.1 = some .cell ∧ ((cellsFrom (s.heap.objs.size + 1) (defScope st).names []).lookup y.1).isSome = true) := fun y hy => by
    rcases S.par y.1 (List.of_mem_zip (a := y.1) (b := y.2) hy).1 with z | z
    · exact Or.inl z
    · exact Or.inr ⟨z, PySem.W.cellsFrom_some _ _ _ (Or.inl z)⟩
  refine codeAny_call_function room.depth (inK _ _ lk) rfl S.co S.gen rfl (PySem.W.codeRec_of inK hcd) (bnd _ _ _ _ ?_)
  refine wpAny_newFunctionEnv_cells S.kind kinds fun env1 he s1 x1 => ?_
  subst he
  refine ⟨nol.keeps x1.toInCall.keep, codeAny_func ?_⟩
  obtain ⟨t, tt, qq⟩ := hbody cdv A out s H vs Q E pre (room.deeper _) hsp
  have J : Inv (cxOf CX0 P w K mg base N qual (defScope st) f cdv A out s H E) [] (start N vs) H s1 := inv_start S room.hd env ll rel x1
  refine wpAny_mono (tt.nox.run [] s1 (start N vs) H _ J qq) (fun fl s' hs => ?_) fun e s' hs => hs
  have done : ∀ {σ' : L2.St} {H' : Hp} {v : V} {u : Value}, Inv (cxOf CX0 P w K mg base N qual (defScope st) f cdv A out s H E) [] σ' H' s' → RelV v u → Q v H' → CE out P w H s Q u s' :=
    fun {σ' H' v u} J rv q => ⟨v, H', J.os, J.bare, J.base, J.hok, rv, q⟩
  cases fl with
  | ret u =>
    obtain ⟨v, σ', H', J', rv, q⟩ := hs
    exact done J' rv q
  | next =>
    obtain ⟨σ', H', J', q⟩ := hs
    exact done (v := V.non) (u := Value.none) J' rfl q
  | brk =>
    obtain ⟨_, _, _, z⟩ := hs
    exact z.elim
  | cont =>
    obtain ⟨_, _, _, z⟩ := hs
    exact z.elim
end
def ItT (l it : Addr) : HO := .ext fun h => h.get? it = some { cls := .type "tuple_iterator", data := .fields #[.ref l, .int 0 0] }
theorem itT_ok {P : Program} {w : World} {H : Hp} {h : Heap} {l it : Addr} (e : h.get? it = some { cls := .type "tuple_iterator", data := .fields #[.ref l, .int 0 0] }) : ObjOk P w H h it (ItT l it) := ⟨e, ⟨_, e⟩, fun _ _ q k => k _ q⟩
theorem call_iterT0 {prog : Program} {w : World} {A : Around} {E : Value → Shared → Prop} {s : Shared} {l : Addr} {items : Array Value} {Q : Value → Shared → Prop} (hl : s.heap.IsTuple l items)
    (h : Q (.ref s.heap.objs.size) { s with heap := s.heap.push { cls := .type "tuple_iterator", data := .fields #[.ref l, .int 0 0] } }) : wpAny (model prog w) A (call (.builtin "iter") [.ref l]) Q E s := by
  refine Calls.call_function_entry (by decide +kernel) (by decide +kernel) PySem.W.kdk_entry_iter (PySem.W.kdk_args_iter _) ?_
  unfold Builtin.«iter»
  refine wpAny_bind (m := someArgs "iter" 1 2 _) (wpAny_of_eq (a := [Value.ref l]) (by first | rfl | kernel_rfl!) ?_)
  exact wpAny_bind (wpAny_pyIter_tuple hl (wpAny_pure ⟨_, rfl, h⟩))
def rIterT (K : PySem.W.Frag) (n : Nat) : List V → Hp → VK → Prop := fun xs H Q => ∃ (l : Addr) (zs : List V), xs = [.ref l] ∧ SqT K H l zs ∧ ∀ it, H it = none → n ≤ it → Q (.ref it) (upd H it (ItT l it))
section
variable {X : Cx} {K : PySem.W.Frag} {n k : Nat}
theorem k_iterT (hK : X.K = K) (hn : n ≤ X.s_0.heap.objs.size) : CallR X (.builtin "iter") (rIterT K n) := by
  subst hK
  intro pins s σ H xs us Q I r h
  obtain ⟨l, zs, rfl, hq, q⟩ := h
  rw [Vals.ref1 r]
  obtain ⟨its, rv, pl, hz⟩ := I.tuple hq
  refine call_iterT0 (show s.heap.IsTuple l its.toArray from pl) ?_
  exact ⟨.ref s.heap.objs.size, _, I.laid (t' := s.toks) (fun b u e => Heap.get?_push_of_some _ e) (Nat.le_refl _) (itT_ok (Heap.get?_push_size _ rfl)), rfl, q _ (I.hok.fresh (Nat.le_refl _)) (Nat.le_trans hn I.sz)⟩
theorem tl_loop {pins : List (Addr × Obj)} {σ : L2.St} {H : Hp} {A : Around} {R : Result → Shared → Prop} {q it l : Addr} {xs : List V} (hc : A.handled = none) (hl : SqT X.K H l xs) (hq : H q = none) (hz : xs.length < sizeLine)
    (hR : ∀ s, Inv X pins σ (upd H q (.lst xs)) s → R (.ok (.ret .none)) s) :
    ∀ (k i : Nat) (s : Shared), xs.length - i = k → i ≤ xs.length → Inv X pins σ (upd H q (.lst (xs.take i))) s → FpOk X pins (upd H q (.lst (xs.take i))) it → s.heap.IsTupleIter it l i →
      codeAny (model X.prog X.w) A (.builtin "list.extend.loop" ⟨[.ref q, .ref it, .none], []⟩) R s := by
  have hl' : ∀ ys, SqT X.K (upd H q (.lst ys)) l xs := fun ys => ex_t (Ex.new hq) hl
  intro k
  induction k with
  | zero =>
    intro i s hk hi I fp st
    obtain rfl : i = xs.length := by omega
    rw [List.take_length] at I fp
    obtain ⟨its, rv, p, _⟩ := I.tuple (hl' xs)
    obtain ⟨f0, f1, f2, f3, f4, f5⟩ := id fp
    have ln := rv.length
    refine codeAny_builtin PySem.F.entry_extend_loop ?_
    rw [Around.under_plainId PySem.F.plain_extend_loop _]
    show wpAny _ A.in1 (pyNext (.ref it) >>= _) _ _ _
    refine wpAny_bind (wpAny_pyNext_tuple_end (A := A.in1) hc st (show s.heap.IsTuple l its.toArray from p) (by simp; omega) fun h' eb => ?_)
    exact wpAny_pure (hR _ (I.turned (t' := s.toks) (fun b o hb e => eb b o hb e) f0 f1 f3 f4 f5))
  | succ k ih =>
    intro i s hk hi I fp st
    have hlt : i < xs.length := by omega
    obtain ⟨its, rv, p, _⟩ := I.tuple (hl' (xs.take i))
    have hx : xs[i]? = some xs[i] := List.getElem?_eq_getElem hlt
    obtain ⟨u, hu, ru⟩ := rv.get hx
    obtain ⟨f0, f1, f2, f3, f4, f5⟩ := id fp
    refine codeAny_builtin PySem.F.entry_extend_loop ?_
    rw [Around.under_plainId PySem.F.plain_extend_loop _]
    show wpAny _ A.in1 (pyNext (.ref it) >>= _) _ _ _
    refine wpAny_bind (wpAny_pyNext_tuple_item st (show s.heap.IsTuple l its.toArray from p) (x := u) (by simpa using hu) fun h' st' sb => ?_)
    have I1 : Inv X pins σ (upd H q (.lst (xs.take i))) { s with heap := h' } := I.turned (t' := s.toks) (fun b o hb e => (sb.2 b hb).trans e) f0 f1 f3 f4 f5
    show wpAny _ A.in1 (updateSeq q (·.push u) >>= _) _ _ _
    obtain ⟨z, its2, n2, r2, l2, e2⟩ := I1.lstM upd_same
    have tl : (xs.take i).length = i := by rw [List.length_take]; omega
    have nq : it ≠ q := fun z => by rw [z, upd_same] at f0; cases f0
    have I2 := I1.lset (f := (·.push u)) (its' := its2 ++ [u]) (ys := xs.take i ++ [xs[i]]) (t' := s.toks) upd_same e2 (by simp) (r2.append (.cons ru .nil)) (by rw [List.length_append, List.length_singleton]; omega)
    rw [upd_upd] at I2
    have tk : xs.take i ++ [xs[i]] = xs.take (i + 1) := by rw [List.take_succ, hx]; rfl
    rw [tk] at I2
    refine wpAny_bind (wpAny_updateSeq e2 rfl (wpAny_pure ⟨plainId_quiet PySem.F.plain_extend_loop _, ih (i + 1) _ (by omega) hlt I2 ⟨by rw [upd_ne nq]; rw [upd_ne nq] at f0; exact f0, f1, f2, f3, f4, f5⟩ ?_⟩) (by rw [List.size_toArray]; omega) (by show (its2.toArray.push u).size ≤ sizeLine + 1; rw [Array.size_push, List.size_toArray]; omega))
    exact st'.at fun o e => (Heap.get?_update_other _ _ (Ne.symm nq)).trans e
end
def rListO (K : PySem.W.Frag) (C : Addr) (spI : Nat → Sp) (spL : Sp) : List V → Hp → VK → Prop := fun vs H Q => ∃ a dx fs xs, vs = [.ref a] ∧ H a = some (.ins C dx fs) ∧ xs.length ≤ 1000 ∧
  (∀ n H' Q', Ex H H' → (∀ l it, SqT K H' l xs → H' it = none → n ≤ it → Q' (.ref it) (upd H' it (ItT l it))) → spI n [.ref a] H' Q' E0) ∧
  (∀ H' Q', Ex H H' → (∀ m : Int, 0 ≤ m → m ≤ 1000 → Q' (.int m) H') → spL [.ref a] H' Q' E0) ∧ ∀ q, H q = none → Q (.ref q) (upd H q (.lst xs))
structure ItK (K : PySem.W.Frag) (C fi fl : Addr) : Prop where
  it : PySem.W.findIn K (.ref C) "__iter__" = some (some (.ref fi))
  itF : PySem.W.isFn K (.ref fi) = true
  ln : PySem.W.findIn K (.ref C) "__len__" = some (some (.ref fl))
  lnF : PySem.W.isFn K (.ref fl) = true
section
variable {X : Cx} {k : Nat} {C fi fl : Addr} {psI psL : List Str} {spI : Nat → Sp} {spL : Sp}
theorem run_pre {EE : Value → Shared → Prop} {Pre : Around → Shared → Prop} {pins : List (Addr × Obj)} {σ : L2.St} {H : Hp} {s : Shared} {Q : VK} {f : Addr} {ps : List Str} {sp : Sp} {A1 : Around} {us : List Value} {vs : List V} (G : OkP Pre X.prog X.w X.K X.mg X.base k f ps sp) (sb : Sub X k A1) (pre : Pre A1 s)
    (I : Inv X pins σ H s) (r : Vals vs us) (h : sp vs H Q E0) : wpAny (model X.prog X.w) A1 (call (.ref f) us) (EP X pins σ Q) EE s := by
  obtain ⟨fd, hb, hlen, run⟩ := G
  have e0 : Env0 X.prog X.w X.K X.mg X.base A1 X.stack s H := by
    have e := I.env0
    exact ⟨by rw [sb.fr]; exact e.frames, e.mod, e.bs, e.bsz, e.funs, e.frf, e.hok, e.bare⟩
  have hl : (us ++ []).length = ps.length := by
    rw [List.append_nil, ← r.length]
    exact hlen _ _ _ _ h
  have hb' := hb s us I.kIn hl
  rw [List.append_nil] at hb'
  refine wpAny_call (codeAny_mono (run A1 X.stack s H ⟨us, []⟩ us vs Q E0 pre sb.room e0 hb' r h) fun rr s' hq => ?_)
  cases rr with
  | error e => exact False.elim hq
  | ok fl =>
    cases fl with
    | ret u => exact I.after hq
    | next => exact False.elim hq
    | brk => exact False.elim hq
    | cont => exact False.elim hq
theorem run_sub {EE : Value → Shared → Prop} {pins : List (Addr × Obj)} {σ : L2.St} {H : Hp} {s : Shared} {Q : VK} {f : Addr} {ps : List Str} {sp : Sp} {A1 : Around} {us : List Value} {vs : List V} (G : Okf X.prog X.w X.K X.mg X.base k f ps sp) (sb : Sub X k A1)
    (I : Inv X pins σ H s) (r : Vals vs us) (h : sp vs H Q E0) : wpAny (model X.prog X.w) A1 (call (.ref f) us) (EP X pins σ Q) EE s := by
  obtain ⟨fd, F, hb⟩ := G
  have e0 : Env0 X.prog X.w X.K X.mg X.base A1 X.stack s H := by
    have e := I.env0
    exact ⟨by rw [sb.fr]; exact e.frames, e.mod, e.bs, e.bsz, e.funs, e.frf, e.hok, e.bare⟩
  have hl : (us ++ []).length = ps.length := by
    rw [List.append_nil, ← r.length]
    exact F.len _ _ _ _ h
  have hb' := hb s us I.kIn hl
  rw [List.append_nil] at hb'
  refine wpAny_call (codeAny_mono (F.run A1 X.stack s H ⟨us, []⟩ us vs Q E0 sb.room e0 hb' r h) fun rr s' hq => ?_)
  cases rr with
  | error e =>
    obtain ⟨_, _, _, _, _, _, _, _, _, _, _, _, z⟩ := hq
    exact z.elim
  | ok fl =>
    cases fl with
    | ret u => exact I.after hq
    | next => exact False.elim hq
    | brk => exact False.elim hq
    | cont => exact False.elim hq
theorem own_lenHint {EE : Value → Shared → Prop} {pins : List (Addr × Obj)} {σ : L2.St} {H : Hp} {s : Shared} {A1 : Around} {a dx : Addr} {fs : List (Str × V)} {R : Bool → Shared → Prop} (c : ItK X.K C fi fl) (GL : Okf X.prog X.w X.K X.mg X.base k fl psL spL) (sb : Sub X k A1.in1) (I : Inv X pins σ H s) (ha : H a = some (.ins C dx fs))
    (hL : ∀ Q', (∀ m : Int, 0 ≤ m → m ≤ 1000 → Q' (.int m) H) → spL [.ref a] H Q' E0) (h : ∀ b s', Inv X pins σ H s' → R b s') : wpAny (model X.prog X.w) A1 (Builtin.List.listLengthHint (.ref a)) R EE s := by
  obtain ⟨mA, J, _⟩ := ins_get I.hok ha
  obtain ⟨od, J, _⟩ := J.look
  obtain ⟨m, hF⟩ := I.fr
  unfold Builtin.List.listLengthHint
  refine wpAny_bind (wpAny_bind (J.type.here ((PySem.W.looks_findIn I.kIn c.ln).here ?_)))
  refine PySem.W.KFB.if_not rfl ?_
  rw [if_pos (show (some (Value.ref fl)).isSome = true from rfl)]
  refine wpAny_bind (wpAny_rule ?_)
  refine wpAny_bind (wpAny_attempt (PySem.W.len_K hF I.ok.mod.kin J c.ln c.lnF (wpAny_mono (run_sub (us := [.ref a]) (vs := [.ref a]) (Q := fun v H' => (∃ m : Int, v = .int m ∧ 0 ≤ m ∧ m ≤ 1000) ∧ H' = H) GL sb I (.cons rfl .nil) (hL _ fun m h0 h1 => ⟨⟨m, rfl, h0, h1⟩, rfl⟩)) (fun v s' hv => ?_) fun e s' he => he)))
  obtain ⟨z, H', I', rz, ⟨n, rfl, h0, h1⟩, rfl⟩ := hv
  obtain ⟨t, rfl⟩ := rz
  refine ⟨⟨h0, by omega⟩, ?_⟩
  refine wpAny_bind (m := asInt? (.int n s'.toks)) (wpAny_pure ?_)
  refine PySem.W.KFB.if_not (notLongL (by have : (1000 : Nat) ≤ sizeLine := (by decide); omega)) ?_
  exact wpAny_pure (h _ _ (I'.tok _))
theorem k_listO {K : PySem.W.Frag} (hK : X.K = K) (hc : X.calm = true) (c : ItK X.K C fi fl) (GI : ∀ n, OkP (fun _ s => n ≤ s.heap.objs.size) X.prog X.w X.K X.mg X.base k fi psI (spI n)) (GL : Okf X.prog X.w X.K X.mg X.base k fl psL spL) (hr : Room (k + 3) X.A) :
    CallR X (.type "list") (rListO K C spI spL) := by
  subst hK
  intro pins s σ H xs us Q I rv h
  obtain ⟨a, dx, fs, zs, rfl, ha, hz, hI, hL, q⟩ := h
  obtain ⟨u, rfl, ru⟩ := rv.one
  cases ru
  have sb3 : Sub X (k + 1) X.A.in1.in1 := (Sub.in1 (Sub.in1 (⟨hr, rfl⟩ : Sub X (k + 3) X.A)))
  have sb2 : Sub X k X.A.in1.in1 := sb3.mono (Nat.le_succ _)
  have line : (1000 : Nat) < sizeLine := by decide
  refine callType_codes (Q₁ := fun obj s₁ => obj = .ref s.heap.objs.size ∧ s₁ = { s with heap := s.heap.push { cls := .type "list", data := .seq #[] } }) PySem.F.called_list (PySem.F.typeCall_list_1 _) PySem.F.entry_list_init
    (code_list_new _ ⟨rfl, rfl⟩) fun obj s₁ h₁ => ?_
  obtain ⟨rfl, rfl⟩ := h₁
  have hS : (s.heap.push { cls := .type "list", data := .seq #[] }).get? s.heap.objs.size = some { cls := .type "list", data := .seq #[] } := Heap.get?_push_size _ rfl
  refine ⟨⟨_, hS, rfl⟩, PySem.F.args_list_init_2 _ _, ?_⟩
  have fr : H s.heap.objs.size = none := I.hok.fresh (Nat.le_refl _)
  have I1 : Inv X pins σ (upd H s.heap.objs.size (.lst [])) { s with heap := s.heap.push { cls := .type "list", data := .seq #[] } } := I.lnew (its := []) (t' := s.toks) .nil (Nat.zero_le _)
  show wpAny _ _ (do let old ← Builtin.List.listItems (.ref s.heap.objs.size); Builtin.List.listUpdate (.ref s.heap.objs.size) (fun _ => #[]); letGo old.toList.reverse; Builtin.List.listExtendWith (.ref s.heap.objs.size) (.ref a) .none) _ _ _
  refine wpAny_bind ?_
  unfold Builtin.List.listItems
  refine wpAny_bind (wpAny_seqItems hS rfl (wpAny_pure ?_))
  show wpAny _ _ (updateSeq s.heap.objs.size (fun _ => #[]) >>= fun _ => letGo (#[] : Array Value).toList.reverse >>= fun _ => Builtin.List.listExtendWith (.ref s.heap.objs.size) (.ref a) .none) _ _ _
  refine wpAny_bind (wpAny_updateSeq hS rfl ?_)
  have I2 := I1.lset (f := fun _ => #[]) (its := []) (its' := []) (ys := []) (t' := s.toks) upd_same hS rfl .nil (Nat.zero_le _)
  rw [upd_upd] at I2
  refine wpAny_bind (wpAny_letGo ?_)
  have eq0 : Ex H (upd H s.heap.objs.size (.lst [])) := Ex.new fr
  have hs2 : s.heap.objs.size ≤ ((s.heap.push { cls := .type "list", data := .seq #[] }).update s.heap.objs.size (Obj.mapSeq (fun _ => (#[] : Array Value)))).objs.size := by
    have e := Heap.get?_update_self (Obj.mapSeq (fun _ => (#[] : Array Value))) hS rfl
    exact Nat.le_of_lt (Heap.lt_size e)
  have ha2 : upd H s.heap.objs.size (.lst []) a = some (.ins C dx fs) := eq0 _ _ ha
  generalize hQ0 : s.heap.objs.size = p at *
  have hne : p ≠ a := ne_of (upd_same (H := H) (a := p) (o := .lst [])) ha2 (fun z => nomatch z)
  obtain ⟨mA, J, _⟩ := ins_get I2.hok ha2
  obtain ⟨od, J, _⟩ := J.look
  obtain ⟨m0, hF⟩ := I2.fr
  unfold Builtin.List.listExtendWith
  refine wpAny_bind (J.type.here ?_)
  have h1 : Builtin.List.listSameRef (.ref p) (.ref a) = false := by simp [Builtin.List.listSameRef, hne]
  have h2 : (Value.ref C == Value.type "list") = false := rfl
  have h3 : (Value.ref C == Value.type "tuple") = false := rfl
  simp only [h1, h2, h3, Bool.or_false, Bool.false_eq_true, if_false]
  refine wpAny_bind (PySem.W.owit_iter hF I2.ok.mod.kin J c.it c.itF ?_)
  refine wpAny_mono (run_pre (us := [.ref a]) (vs := [.ref a]) (Q := fun v H' => ∃ l it, v = .ref it ∧ SqT X.K (upd H p (.lst [])) l zs ∧ upd H p (.lst []) it = none ∧ X.s_0.heap.objs.size ≤ it ∧ H' = upd (upd H p (.lst [])) it (ItT l it)) (GI X.s_0.heap.objs.size) sb2 (I2.sz) I2 (.cons rfl .nil) (hI _ _ _ eq0 fun l it a1 a2 a3 => ⟨l, it, rfl, a1, a2, a3, rfl⟩)) (fun v s3 hv => ?_) fun e s' he => he
  obtain ⟨v', H3, I3, rv3, l, it, rfl, hl, hit, hn, rfl⟩ := hv
  cases rv3
  obtain ⟨hobj, _⟩ := (show ObjOk X.prog X.w _ s3.heap it (ItT l it) from I3.hok it _ upd_same)
  have hobj' : s3.heap.get? it = some { cls := .type "tuple_iterator", data := .fields #[.ref l, .int 0 0] } := hobj
  show wpAny _ _ (specialOf (.ref it) "__next__") _ _ _
  refine wpAny_specialOf (T := "tuple_iterator") ⟨_, hobj', rfl⟩ PySem.F.slot_tuple_iterator_next.lookup ?_
  have e3 : Ex H (upd (upd H p (.lst [])) it (ItT l it)) := eq0.trans (Ex.new hit)
  refine wpAny_bind (wpAny_holding (own_lenHint c GL (Sub.in1 sb3) I3 (e3 _ _ ha) (fun Q' hq' => hL _ _ e3 hq') fun b s4 I4 => ?_))
  have fp4 := ItX.inv_fp I4 upd_same hn
  have I5 := ItX.inv_drop I4 (a := it) (φ := fun h => h.get? it = some { cls := .type "tuple_iterator", data := .fields #[.ref l, .int 0 0] }) upd_same
  rw [ItX.dropH_upd hit] at I5 fp4
  obtain ⟨hobj4, _⟩ := (show ObjOk X.prog X.w _ s4.heap it (ItT l it) from I4.hok it _ upd_same)
  have st4 : s4.heap.IsTupleIter it l 0 := ⟨_, hobj4, rfl, rfl⟩
  have lq : p ≠ it := fun z => by rw [← z, upd_same] at hit; cases hit
  have fin : ∀ s5, Inv X pins σ (upd H p (.lst [])) s5 → s5.heap.IsTupleIter it l 0 → codeAny (model X.prog X.w) X.A.in1 (.builtin "list.extend.loop" ⟨[.ref p, .ref it, .none], []⟩) (wants (fun r s₂ => r = .none ∧ EP X pins σ Q (.ref p) s₂) X.xe) s5 := fun s5 J5 t5 => by
    have hl0 : SqT X.K H l zs := by
      rcases hl with (z | ⟨o, z⟩) | z
      · exact .inl (.inl (by rw [upd_ne (ne_of z upd_same (fun z => nomatch z))] at z; exact z))
      · exact .inl (.inr ⟨o, by rw [upd_ne (ne_of z upd_same (fun z => nomatch z))] at z; exact z⟩)
      · exact .inr z
    exact tl_loop (A := X.A.in1) (I.ok.hd hc) hl0 fr (by omega) (fun s6 J6 => ⟨rfl, .ref p, _, J6, rfl, q p fr⟩) zs.length 0 s5 rfl (Nat.zero_le _) J5 fp4 t5
  obtain ⟨z6, its6, k6, r6, hl6, e6⟩ := I5.lstM upd_same
  cases r6
  refine wpAny_ite_split (fun _ => ?_) (fun _ => wpAny_pure ⟨plainId_quiet PySem.F.plain_extend_loop _, fin s4 I5 st4⟩)
  refine wpAny_bind (wpAny_rule ?_)
  refine wpAny_bind ?_
  show wpAny _ _ (updateSeq p (·.push .none) >>= fun _ => updateSeq p (·.pop)) _ _ _
  refine wpAny_bind (wpAny_updateSeq e6 rfl ?_)
  have I7 := I5.lset (f := (·.push Value.none)) (its' := [Value.none]) (ys := [.non]) (t' := s4.toks) upd_same e6 (by simp) (.cons rfl .nil) (by rw [List.length_singleton, sizeLine_eq]; decide)
  obtain ⟨z8, its8, k8, r8, hl8, e8⟩ := I7.lstM upd_same
  obtain ⟨u8, rfl, ru8⟩ := r8.one
  refine wpAny_updateSeq e8 rfl ?_ (by show 1 ≤ sizeLine; rw [sizeLine_eq]; decide) (by show 0 ≤ sizeLine + 1; exact Nat.zero_le _)
  have I9 := I7.lset (f := (·.pop)) (its := [u8]) (its' := []) (ys := []) (t' := s4.toks) upd_same e8 (by rfl) .nil (Nat.zero_le _)
  rw [upd_upd, upd_upd] at I9
  refine wpAny_pure ⟨plainId_quiet PySem.F.plain_extend_loop _, fin _ I9 ?_⟩
  exact st4.at fun o e => (Heap.get?_update_other _ _ lq).trans ((Heap.get?_update_other _ _ lq).trans e)
end
end Hn
namespace Hn
open PySem PySem.Spec PyProof.Rows L2 Evl
def NoG (A : Around) (_ : Shared) : Prop := A.guards = some []
structure Fine (d : PyData) (w : Nat) : Prop where
  sh : d.showable = true
  nd : d.hasDict = false
  ls : d.leavesShort 41 = true
  wt : d.weight ≤ w
theorem Fine.mono {d : PyData} {w v : Nat} (h : Fine d w) (e : w ≤ v) : Fine d v := ⟨h.sh, h.nd, h.ls, Nat.le_trans h.wt e⟩
theorem log_40 {i : Int} (h : i.natAbs < 10 ^ 40) : i.natAbs.log2 < 140 := by
  by_cases z : i.natAbs = 0
  · rw [z]
    decide
  · exact (Nat.log2_lt z).mpr (Nat.lt_trans h (by decide))
theorem fine_int {i : Int} (h : i.natAbs < 10 ^ 40) : Fine (.int i) 200 := by
  have hl := log_40 h
  refine ⟨?_, ?_, ?_, ?_⟩
  · simp only [PyData.showable]
    exact decide_eq_true (by omega)
  · simp only [PyData.hasDict]
  · simp only [PyData.leavesShort]
    have e := int_text_length_le10 (k := 40) (by decide) h
    refine decide_eq_true ?_
    show (Str.ofString (toString i)).length ≤ 41
    rw [PySem.ofString_length]
    exact e
  · simp only [PyData.weight]
    split <;> omega
theorem fine_small {i : Int} (h : i.natAbs < 1000) : Fine (.int i) 11 := by
  have f := fine_int (i := i) (Nat.lt_trans h (by decide))
  refine ⟨f.sh, f.nd, f.ls, ?_⟩
  simp only [PyData.weight]
  split
  · omega
  · by_cases z : i.natAbs = 0
    · rw [z]
      decide
    · have : i.natAbs.log2 < 10 := (Nat.log2_lt z).mpr (Nat.lt_trans h (by decide))
      omega
theorem fine_bool (b : Bool) : Fine (.bool b) 0 := ⟨rfl, rfl, rfl, Nat.le_refl _⟩
theorem fine_none : Fine .none 0 := ⟨rfl, rfl, rfl, Nat.le_refl _⟩
theorem Fine.len {d : PyData} {w : Nat} (h : Fine d w) (hw : w ≤ 300000) : d.shown.length ≤ 12900041 := by
  have e := PyData.shown_le 41 (by decide) d h.ls
  have := h.wt
  omega
section
variable {X : Cx} {K : PySem.W.Frag} {k : Nat}
theorem r_eqS {H : Hp} {Q : VK} {a b : Str} (q : Q (.bl (decide (a = b))) H) : rEq (.str a) (.str b) H Q := by
  refine ⟨rfl, ?_⟩
  have e : decide (V.str a = V.str b) = decide (a = b) := by rw [Bool.eq_iff_iff]; simp
  rw [e]
  exact q
theorem r_neS {H : Hp} {Q : VK} {a b : Str} (q : Q (.bl (!decide (a = b))) H) : rNe (.str a) (.str b) H Q := by
  refine ⟨rfl, ?_⟩
  have e : decide (V.str a = V.str b) = decide (a = b) := by rw [Bool.eq_iff_iff]; simp
  rw [e]
  exact q
end
section
variable {X : Cx} {k : Nat} {f C : Addr} {ps : List Str} {sp : Sp} {x m : Str} {p pos apos : Pos} {e o : Expr} {es : List Expr} {ta : TE} {t : TA} {Pre : Around → Shared → Prop}
theorem pg_call (G : OkP Pre X.prog X.w X.K X.mg X.base k f ps sp) (hp : ∀ s, Pre X.A s) (hr : Room k X.A) (hg : Gl X x) (hm : X.mg x = some (.ref f)) (hk : PySem.W.keepIn X.K (.ref f) = true)
    (ha : PA X (e :: es) t) (hdb : (x == ("__debug__" : Str)) = false := by decide) (he : starEach (e :: es) X.env = (false, eval e X.env) :: starEach es X.env := by rfl) (hpl : (backTo pos (starEach es X.env)).any (·.1) = false := by rfl) :
    PE X (.Call (.Name x p) (e :: es) [] pos) (tCall sp [] E0 t) := by
  refine ⟨fun pins s σ H Q I h => ?_⟩
  refine wpAny_Call_Name_kw (ld_glob I hg hm ?_ hdb)
  refine PySem.W.callWith_K (h₀ := X.base) I.ok.mod.kin hk (thn (ha.run pos pins s σ H _ I h) fun us s1 ⟨vs, H1, I1, r, q⟩ => ⟨I1.kIn, ?_⟩) he hpl
  replace q : sp (vs ++ []) H1 Q E0 := q
  rw [List.append_nil] at q
  exact run_pre G ⟨hr, rfl⟩ (hp s1) I1 r q
end
section
variable {P : Program} {w : World} {K : PySem.W.Frag} {mg mb : Str → Option Value} {k : Nat} {fa a : Addr} {x : Str} {sp : Sp} {st : Shared} {vs : List Value} {ns : List Int}
end
end Hn
namespace Hn
open PySem PySem.Spec PyProof.Rows L2 Evl
structure SMet (K : PySem.W.Frag) (C : Addr) (mc : Value) (m : Str) (p g : Addr) : Prop where
  rd : PySem.W.readsIn K C mc = true
  ga : PySem.W.specialIn K (.ref C) "__getattribute__" = some (some (.builtin "type.__getattribute__"))
  at_ : PySem.W.findCls K (.ref C) mc m = some (.get (.builtin "staticmethod.__get__") (.ref p) .none (.ref C))
  rc : ∃ rest, PySem.W.recIn K p "staticmethod" = some (.ref g :: rest)
def tSMeth (C : Addr) (sp : Sp) (ta : TE) (t : TA) : TE := fun σ H Q => ta σ H fun x H1 => x = .ref C ∧ t σ H1 fun vs H2 => sp vs H2 Q E0
section
variable {X : Cx} {k : Nat} {C p g : Addr} {mc : Value} {ps : List Str} {sp : Sp} {o e : Expr} {es : List Expr} {m : Str} {pos apos : Pos} {ta : TE} {t : TA} {pl : Sem Bool}
theorem pe_static (he : PE X o ta) (c : SMet X.K C mc m p g) (hk : PySem.W.keepIn X.K (.ref g) = true) (G : Okf X.prog X.w X.K X.mg X.base k g ps sp) (hr : Room k X.A) (ha : PA X (e :: es) t)
    (hst : starEach (e :: es) X.env = (false, eval e X.env) :: starEach es X.env := by rfl) (hpl : (backTo pos (starEach es X.env)).any (·.1) = false := by rfl)
    (ht : eval (.Call (.Attribute o m apos) (e :: es) [] pos) X.env = (do
      let ov ← eval o X.env
      standAt apos.atName
      let (f, first) ← holding [ov] (getMethod ov m pl)
      callWith pos f first (backTo pos (starEach (e :: es) X.env)) (backToKw pos (keywordEach [] X.env))) := by rfl) :
    PE X (.Call (.Attribute o m apos) (e :: es) [] pos) (tSMeth C sp ta t) := by
  refine ⟨fun pins s σ H Q I h => ?_⟩
  refine PySem.W.methodCall_KW (pl := pl) (thn (he.run pins s σ H _ I h) fun u s1 ⟨x, H1, I1, rx, ex, q⟩ => ?_) ht
  subst ex
  obtain rfl : u = Value.ref C := rx
  obtain ⟨rest, hp⟩ := c.rc
  refine PySem.W.method_cls I1.kIn c.ga (PySem.W.cls_bind I1.kIn c.rd c.at_ (wpAny_call (PySem.W.sm_get (s := { s1 with toks := s1.toks + 1 }) I1.kIn hp (PySem.W.handed_on rfl ?_))))
  have I2 : Inv X pins σ H1 { s1 with toks := s1.toks + 1 } := I1.tok _
  refine PySem.W.callWith_K (h₀ := X.base) I2.ok.mod.kin hk (thn (ha.run pos pins _ σ H1 _ I2 q) fun us s3 ⟨vs, H2, I3, rv, q2⟩ => ⟨I3.kIn, ?_⟩) hst hpl
  exact run_sub G ⟨hr, rfl⟩ I3 rv q2
end
section
variable {σ : L2.St} {H : Hp} {Q : VK} {C : Addr} {sp : Sp} {ta : TE} {ar : TA} {x : V}
theorem r_smeth (h : ta σ H fun x H1 => x = .ref C ∧ ar σ H1 fun vs H2 => sp vs H2 Q E0) : tSMeth C sp ta ar σ H Q := h
theorem r_isC {p : Prop} (h : p) : V.ref C = .ref C ∧ p := ⟨rfl, h⟩
theorem r_lstRg {te : L2.St → Hp → (Int → Int → Hp → Prop) → Prop} (h : te σ H fun a b H1 => RgOk a b ∧ ∀ q, H1 q = none → Q (.ref q) (upd H1 q (.lst (rgV a b)))) : tLstRg te σ H Q := h
theorem r_rg1 {q : Int → Int → Hp → Prop} (h : ta σ H fun x H1 => ∃ n, x = .int n ∧ q 0 n H1) : tRg1 ta σ H q := h
end
section
variable {K : PySem.W.Frag} {C : Addr} {H : Hp} {v w : V} {s t : List Int} {sp : Sp} {E : XK} {Q : VK}
end
end Hn
namespace Hn
open PySem PySem.Spec PyProof.Rows L2 Evl
def iOwn (K : PySem.W.Frag) (C : Addr) (spI : Nat → Sp) (tl : TE) : TI := fun σ H R => tl σ H fun x H1 => ∃ a dx fs xs, x = .ref a ∧ H1 a = some (.ins C dx fs) ∧
  (∀ n Q', (∀ l it, SqT K H1 l xs → H1 it = none → n ≤ it → Q' (.ref it) (upd H1 it (ItT l it))) → spI n [.ref a] H1 Q' E0) ∧ ∀ l, SqT K H1 l xs → R (Itt K l) H1
section
variable {X : Cx} {K : PySem.W.Frag} {k : Nat} {C fi : Addr} {psI : List Str} {spI : Nat → Sp} {tg l : Expr} {tl : TE}
end
section
variable {K : PySem.W.Frag} {C : Addr} {spI : Nat → Sp} {σ : L2.St} {H : Hp} {te : TE} {R : It → Hp → Prop}
theorem r_iOwn (h : te σ H fun x H1 => ∃ a dx fs xs, x = .ref a ∧ H1 a = some (.ins C dx fs) ∧ (∀ n Q', (∀ l it, SqT K H1 l xs → H1 it = none → n ≤ it → Q' (.ref it) (upd H1 it (ItT l it))) → spI n [.ref a] H1 Q' E0) ∧ ∀ l, SqT K H1 l xs → R (Itt K l) H1) : iOwn K C spI te σ H R := h
end
section
variable {X : Cx} {K : PySem.W.Frag} {k : Nat} {C f : Addr} {ps : List Str} {sp : Sp}
end
theorem r_break {D : Ends} {σ : L2.St} {H : Hp} (h : D.bk σ H) : tBreak D σ H := h
theorem r_cont {D : Ends} {σ : L2.St} {H : Hp} (h : D.ct σ H) : tCont D σ H := h
end Hn
namespace Hn
open PySem PySem.Spec PyProof.Rows L2 Evl
section
variable {K : PySem.W.Frag} {C : Addr} {fld : Str} {H H' : Hp} {v : V} {s : List Int} {a b : Addr} {xs : List V} {o : HO}
theorem mv_bag (h : Bag H b) (e : Xl H H') : Bag H' b := h.mono e
theorem mv_clk (h : Clk K C H v s) (e : Xl H H') : Clk K C H' v s := h.mono e
theorem mv_rw (h : Rw K C fld H v s) (e : Xl H H') : Rw K C fld H' v s := h.mono e
theorem mv_at (h : H a = some o) (e : Ex H H') : H' a = some o := e _ _ h
theorem mv_sqL (h : SqL K H a xs) (e : Ex H H') : SqL K H' a xs := ex_l e h
theorem mv_sqT (h : SqT K H a xs) (e : Ex H H') : SqT K H' a xs := ex_t e h
theorem at_sqL (h : H a = some (.lst xs)) : SqL K H a xs := .inl (.inl h)
theorem at_sqT (h : H a = some (.tup xs)) : SqT K H a xs := .inl (.inl h)
theorem sqL_sq (h : SqL K H a xs) : Sq K H a xs := .inl h
theorem sqT_sq (h : SqT K H a xs) : Sq K H a xs := .inr h
end
def Pile (H : Hp) (D : Addr) (rs : List (List V)) : Prop := ∃ ys : List V, H D = some (.lst ys) ∧ ys.length = rs.length ∧ ∀ (i : Nat) y, ys[i]? = some y → ∃ p, y = .ref p ∧ p ≠ D ∧ H p = some (.lst (rs.getD i []))
theorem Pile.nil {H : Hp} {D : Addr} (h : H D = some (.lst [])) : Pile H D [] := ⟨[], h, rfl, fun i y z => by simp at z⟩
theorem Pile.ex {H H' : Hp} {D : Addr} {rs : List (List V)} (e : Ex H H') (h : Pile H D rs) : Pile H' D rs :=
  let ⟨ys, h1, h2, h3⟩ := h
  ⟨ys, e _ _ h1, h2, fun i y hy => let ⟨p, hp, n, q⟩ := h3 i y hy; ⟨p, hp, n, e _ _ q⟩⟩
theorem Pile.push {H : Hp} {D q : Addr} {rs : List (List V)} {ys xs : List V} (h : Pile H D rs) (hD : H D = some (.lst ys)) (hq : H q = some (.lst xs)) (hn : q ≠ D) : Pile (upd H D (.lst (ys ++ [.ref q]))) D (rs ++ [xs]) := by
  obtain ⟨zs, h1, h2, h3⟩ := h
  rw [hD] at h1
  cases h1
  refine ⟨_, upd_same, by rw [List.length_append, List.length_append, h2]; rfl, fun i y hy => ?_⟩
  by_cases hi : i < ys.length
  · rw [List.getElem?_append_left hi] at hy
    obtain ⟨p, hp, n, e⟩ := h3 i y hy
    refine ⟨p, hp, n, ?_⟩
    rw [upd_ne n, e, List.getD_eq_getElem?_getD, List.getD_eq_getElem?_getD, List.getElem?_append_left (by omega)]
  · have hi2 : i = ys.length := by
      have := (List.getElem?_eq_some_iff.mp hy).1
      rw [List.length_append, List.length_singleton] at this
      omega
    subst hi2
    rw [List.getElem?_append_right (Nat.le_refl _), Nat.sub_self] at hy
    cases hy
    refine ⟨q, rfl, hn, ?_⟩
    rw [upd_ne hn, hq, List.getD_eq_getElem?_getD, List.getElem?_append_right (by omega), h2, Nat.sub_self]
    rfl
theorem Pile.hd {K : PySem.W.Frag} {H : Hp} {D : Addr} {us : List (List Int)} (h : Pile H D (us.map fun r => r.map V.int)) : Hd K H (.ref D) us := by
  obtain ⟨ys, h1, h2, h3⟩ := h
  rw [List.length_map] at h2
  refine hd_list (.inl (.inl h1)) (hda_ix h2 fun i v u hv hu => ?_)
  obtain ⟨p, rfl, _, hp⟩ := h3 i v hv
  rw [List.getD_eq_getElem?_getD, List.getElem?_map, hu] at hp
  exact hd_ints (.inl (.inl hp))
section
variable {K : PySem.W.Frag} {C : Addr} {fld : Str} {H H' : Hp} {v w : V} {s : List Int} {a b : Addr} {xs : List V} {Q : VK} {sp : Sp}
end
theorem row_all {n : Nat} {f : Int → Int} {P : Int → Prop} (h : ∀ j : Nat, j < n → P (f j)) : ∀ z ∈ rowOf n f, P z := fun z hz => by
  unfold rowOf at hz
  obtain ⟨j, hj, rfl⟩ := List.mem_map.mp hz
  exact h j (List.mem_range.mp hj)
theorem getD_mem' {s : List Int} {j : Nat} (h : j < s.length) : s.getD j 0 ∈ s := by
  rw [List.getD_eq_getElem?_getD, List.getElem?_eq_getElem h]
  exact List.getElem_mem h
theorem mv_sq {K : PySem.W.Frag} {H H' : Hp} {a : Addr} {xs : List V} (h : Sq K H a xs) (e : Ex H H') : Sq K H' a xs := h.mono e
theorem at_last_row {n : Nat} {f : Int → Int} : atI ((rowOf (n + 1) f).map V.int) (-1) = some (.int (f (n : Int))) := by
  unfold rowOf
  rw [List.range_succ, List.map_append, List.map_append]
  exact atI_last _ _
end Hn
namespace Hn
open PySem PySem.Spec PyProof.Rows L2 Evl RZ
def rSlQ (K : PySem.W.Frag) : V → Option Int → Option Int → Hp → VK → Prop := fun x lo hi H Q => ∃ a xs, x = .ref a ∧ ((SqL K H a xs ∧ ∀ p, H p = none → Q (.ref p) (upd H p (.lst (cutV xs lo hi)))) ∨
  (SqT K H a xs ∧ ¬ (HT.sIx xs.length 0 lo = 0 ∧ HT.sIx xs.length xs.length hi = xs.length) ∧ ∀ p, H p = none → Q (.ref p) (upd H p (.tup (cutV xs lo hi)))))
section
variable {X : Cx} {K : PySem.W.Frag}
theorem k_slQ (h : X.K = K) : SlR X (rSlQ K) := by
  subst h
  intro pins s σ H x v vl vu lo hi sl Q I rx hs pl pu h
  obtain ⟨a, xs, rfl, ⟨h1, q⟩ | ⟨h1, h2, q⟩⟩ := h
  · exact sl_list pins s σ H _ v vl vu lo hi sl Q I rx hs pl pu ⟨a, xs, rfl, h1, q⟩
  · exact sl_tup pins s σ H _ v vl vu lo hi sl Q I rx hs pl pu ⟨a, xs, rfl, h1, h2, q⟩
theorem k_piZA {e e2 : Expr} {ar : TA} {p pos tpos : Pos} {elts : List Expr} {kk : Nat} (h : X.K = K) (hg : Gl X "zip") (hm : X.mg "zip" = none) (ha : PA X [e, e2] ar)
    (hs : starEach [e, e2] X.env = (false, eval e X.env) :: starEach [e2] X.env := by rfl) (hpl : (backTo pos (starEach [e2] X.env)).any (·.1) = false := by rfl) :
    PI X (.Tuple elts kk tpos) (.Call (.Name "zip" p) [e, e2] [] pos) (iZipA K ar) := h ▸ pi_zipA hg hm ha hs hpl
end
theorem r_iZipA {K : PySem.W.Frag} {ar : TA} {σ : L2.St} {H : Hp} {R : It → Hp → Prop} (h : ar σ H fun vs H1 => ∃ a b xs ys, vs = [.ref a, .ref b] ∧ ((SqL K H1 a xs ∧ SqL K H1 b ys ∧ R (Itz K a b) H1) ∨ (SqT K H1 a xs ∧ SqT K H1 b ys ∧ R (ItzT K a b) H1))) : iZipA K ar σ H R := h
theorem walk_zipT {K : PySem.W.Frag} {a b : Addr} {xs ys : List V} {n : Nat} (hn : n = min xs.length ys.length) : Walk (ItzT K a b) n (fun H => SqT K H a xs ∧ SqT K H b ys) (YPair (fun i => xs[i]?) (fun i => ys[i]?)) := by
  subst hn
  refine ⟨fun i _ hi q => ?_, fun _ q => ⟨xs, ys, q.1, q.2, by omega⟩, fun i H v H' _ q y => ?_⟩
  · have h1 : i < xs.length := by omega
    have h2 : i < ys.length := by omega
    exact ⟨xs, ys, xs[i], ys[i], q.1, q.2, by simp [h1], by simp [h2]⟩
  · obtain ⟨T, x, z, h1, h2, h3, h4, h5⟩ := y
    exact ⟨T, x, z, h1, h2, h3, h4 xs q.1, h5 ys q.2⟩
theorem rowOf_succ (n : Nat) (f : Int → Int) : rowOf (n + 1) f = rowOf n f ++ [f (n : Int)] := by
  unfold rowOf
  rw [List.range_succ, List.map_append]
  rfl
def sumsR (s : List Int) : List Int := rowOf (s.length + 1) fun k => (s.take k.toNat).sum
theorem sumsR_length (s : List Int) : (sumsR s).length = s.length + 1 := rowOf_length _ _
theorem take_sum {s : List Int} {j : Nat} (h : j < s.length) : (s.take (j + 1)).sum = (s.take j).sum + s.getD j 0 := by
  rw [List.take_succ, List.sum_append, List.getElem?_eq_getElem h, List.getD_eq_getElem?_getD, List.getElem?_eq_getElem h]
  simp
theorem sumsR_getD {s : List Int} {j : Nat} (h : j ≤ s.length) : (sumsR s).getD j 0 = (s.take j).sum := by
  unfold sumsR
  rw [rowOf_getD _ (by omega)]
  rfl
def diffR (t : List Int) : List Int := rowOf (t.length - 1) fun i => t.getD (i.toNat + 1) 0 - t.getD i.toNat 0
theorem diffR_length (t : List Int) : (diffR t).length = t.length - 1 := rowOf_length _ _
theorem Sg_succ (n : Nat) (f : Int → Int) : Sg (n + 1) f = Sg n f + f (n : Int) := rfl
def okSums (t : List Int) : Bool := decide (2 ≤ t.length) && decide (t.length ≤ 49) && (t.all fun x => decide (0 ≤ x)) && decide (t.getD 0 0 = 0) && ((List.range (t.length - 1)).all fun i => decide (t.getD i 0 ≤ t.getD (i + 1) 0))
theorem Sg_nn {n : Nat} {f : Int → Int} (h : ∀ j : Nat, j < n → 0 ≤ f j) : 0 ≤ Sg n f := by
  induction n with
  | zero => exact Int.le_refl _
  | succ n ih =>
    rw [Sg_succ]
    have := ih fun j hj => h j (by omega)
    have := h n (by omega)
    omega
theorem good_diff {t : List Int} (h : okSums t = true) : GoodN (diffR t) := by
  unfold okSums at h
  simp only [Bool.and_eq_true, List.all_eq_true, decide_eq_true_eq, List.mem_range] at h
  obtain ⟨⟨⟨⟨h1, h2⟩, h3⟩, h4⟩, h5⟩ := h
  refine GoodN.of (by rw [diffR_length]; omega) (by rw [diffR_length]; omega) ?_
  unfold diffR
  refine row_all (P := fun z => 0 ≤ z) fun j hj => ?_
  show 0 ≤ t.getD ((j : Int).toNat + 1) 0 - t.getD (j : Int).toNat 0
  have := h5 j hj
  rw [Int.toNat_natCast]
  omega
theorem cut_part {n : Nat} (h : 1 ≤ n) : ¬ (HT.sIx n 0 (some 1) = 0 ∧ HT.sIx n n none = n) := fun z => by
  have e : HT.sIx n 0 (some ((1 : Nat) : Int)) = min 1 n := HT.sIx_nat n 0 1
  have := z.1
  rw [show (some (1 : Int)) = some ((1 : Nat) : Int) from rfl, e] at this
  omega
end Hn
namespace Hn
open PySem PySem.Spec PyProof.Rows L2 Evl
def byS (n : Nat) (A : Int → Int) : List Int := rowOf n fun i => A (i + 1) - A i
theorem byS_length (n : Nat) (A : Int → Int) : (byS n A).length = n := rowOf_length _ _
def mono (n : Nat) (A : Int → Int) : Prop := ∀ j : Nat, j < n → A j ≤ A ((j : Int) + 1)
theorem mono_of {n : Nat} {A : Int → Int} (g : GoodN (byS n A)) : mono n A := fun j hj => by
  have := g.mem _ (getD_mem' (s := byS n A) (j := j) (by rw [byS_length]; exact hj))
  unfold byS at this
  rw [rowOf_getD _ hj] at this
  show A j ≤ A ((j : Int) + 1)
  have h : 0 ≤ A ((j : Int) + 1) - A j := this
  omega
def Ps (K : PySem.W.Frag) (C : Addr) (H : Hp) (v : V) (n : Nat) (P : Int) (A : Int → Int) : Prop := Rw K C "kept_begins" H v (byS n A) ∧ A 0 = 0 ∧ A (n : Int) = P
section
variable {K : PySem.W.Frag} {C : Addr} {H H' : Hp} {v w : V} {n : Nat} {P : Int} {A B : Int → Int}
theorem mv_ps (h : Ps K C H v n P A) (e : Xl H H') : Ps K C H' v n P A := ⟨h.1.mono e, h.2⟩
theorem Ps.good (h : Ps K C H v n P A) : GoodN (byS n A) := h.1.good
theorem Ps.mono (h : Ps K C H v n P A) : mono n A := mono_of h.1.good
theorem Ps.ne (h : Ps K C H v n P A) : 1 ≤ n := by
  have := h.1.good.ne
  rw [byS_length] at this
  exact this
theorem Ps.le (h : Ps K C H v n P A) : n ≤ 48 := by
  have := h.1.good.le
  rw [byS_length] at this
  exact this
end
theorem ps_rw {K : PySem.W.Frag} {C : Addr} {H : Hp} {v : V} {n : Nat} {P : Int} {A : Int → Int} (h : Ps K C H v n P A) : Rw K C "kept_begins" H v (byS n A) := h.1
section
variable {J : It} {n : Nat} {G : Hp → Prop} {Y : Nat → Hp → V → Hp → Prop}
end
end Hn
namespace Hn
open PySem PySem.Spec PyProof.Rows L2 Evl
def thF (n : Nat) (s : List Int) (F : Int → Int) (h : Int) : Int := Sg n (fun b => if b < cyc s (h - b) then F (h - b) else 0)
theorem th_nn {n : Nat} {s : List Int} {F : Int → Int} (h : ∀ i, 0 ≤ F i) (t : Int) : 0 ≤ thF n s F t := Sg_nn fun j _ => by
  show 0 ≤ if (j : Int) < cyc s (t - j) then F (t - j) else 0
  split
  · exact h _
  · omega
def enough (n : Nat) (a b : Int → Int) : Bool := (List.range n).all fun (h : Nat) => decide (b (h : Int) ≤ a (h : Int))
theorem two_of {α : Type} {l : List α} (h : l.length = 2) : ∃ a b, l = [a, b] := by
  match l, h with
  | [a, b], _ => exact ⟨a, b, rfl⟩
theorem RowsP.two {H : Hp} {D : Addr} {P : Nat → List V → Prop} (h : RowsP H D 2 P) : ∃ p q xs ys, H D = some (.lst [.ref p, .ref q]) ∧ H p = some (.lst xs) ∧ H q = some (.lst ys) ∧ P 0 xs ∧ P 1 ys := by
  obtain ⟨zs, h1, h2, h3⟩ := h
  obtain ⟨a, b, rfl⟩ := two_of h2
  obtain ⟨p, xs, rfl, hp, px⟩ := h3 0 a rfl
  obtain ⟨q, ys, rfl, hq, py⟩ := h3 1 b rfl
  exact ⟨p, q, xs, ys, h1, hp, hq, px, py⟩
end Hn
namespace Hn
open PySem PySem.Spec PyProof.Rows L2 Evl
def ext (n : Nat) (P : Int) (A : Int → Int) (k : Int) : Int := A (k % (n : Int)) + k / (n : Int) * P
theorem ext_step {n : Nat} {P : Int} {A : Int → Int} (hn : 1 ≤ n) (h0 : A 0 = 0) (hP : A (n : Int) = P) (i : Int) : cyc (byS n A) i = ext n P A (i + 1) - ext n P A i := by
  unfold byS ext
  rw [cyc_rowOf _ hn]
  show A (i % (n : Int) + 1) - A (i % (n : Int)) = _
  have hm := mod_bd hn i
  have e := Int.emod_add_mul_ediv i (n : Int)
  generalize hq : i / (n : Int) = q at e
  generalize hr : i % (n : Int) = r at e hm
  by_cases c : r + 1 = (n : Int)
  · have e1 : i + 1 = (n : Int) * (q + 1) := by rw [Int.mul_add, Int.mul_one]; omega
    have e2 : (i + 1) % (n : Int) = 0 := by rw [e1]; exact Int.mul_emod_right _ _
    have e3 : (i + 1) / (n : Int) = q + 1 := by rw [e1]; exact Int.mul_ediv_cancel_left _ (by omega)
    rw [e2, e3, h0, c, hP, Int.add_mul, Int.one_mul]
    omega
  · have e1 : i + 1 = r + 1 + (n : Int) * q := by omega
    have e2 : (i + 1) % (n : Int) = r + 1 := by rw [e1, Int.add_mul_emod_self_left, Int.emod_eq_of_lt (by omega) (by omega)]
    have e3 : (i + 1) / (n : Int) = q := by rw [e1, Int.add_mul_ediv_left _ _ (by omega), Int.ediv_eq_zero_of_lt (by omega) (by omega)]; omega
    rw [e2, e3]
    omega
section
variable {s : List Int} {P : Int} {A B : Int → Int} {r : Int → Int}
end
end Hn
namespace Hn
open PySem PySem.Spec PyProof.Rows L2 Evl
def txI (i : Int) : Str := Str.ofString (toString i)
def Sml (x : Str) (n : Nat) : Prop := x.length ≤ n ∧ ∀ c ∈ x.cps.toList, c < 1114112
theorem Sml.mono {x : Str} {n m : Nat} (h : Sml x n) (e : n ≤ m) : Sml x m := ⟨Nat.le_trans h.1 e, h.2⟩
theorem sml_of (s : String) : ∀ c ∈ (Str.ofString s).cps.toList, c < 1114112 := fun c hc => by
  rw [Str.ofString_eq_toList] at hc
  obtain ⟨z, _, rfl⟩ := List.mem_map.mp hc
  have h : z.val.toNat < 0xd800 ∨ (0xdfff < z.val.toNat ∧ z.val.toNat < 0x110000) := z.valid
  show z.val.toNat < 1114112
  omega
theorem fine_txt {x : Str} {n : Nat} (h : Sml x n) : Fine (.str x) n :=
  ⟨rfl, rfl, by simp only [PyData.leavesShort]; exact List.all_eq_true.mpr fun c hc => decide_eq_true (Nat.lt_of_lt_of_le (h.2 c hc) (by decide)), by simp only [PyData.weight]; exact h.1⟩
theorem r_m1 {r : V → List V → Hp → VK → Prop} {to te : TE} {σ : L2.St} {H : Hp} {Q : VK} (h : to σ H fun x H1 => (∃ a, x = .str a) ∧ te σ H1 fun y H2 => r x [y] H2 Q) : tM1 r to te σ H Q := h
theorem r_isS {a : Str} {p : Prop} (h : p) : (∃ b, V.str a = .str b) ∧ p := ⟨⟨a, rfl⟩, h⟩
def Wy (H : Hp) (l : Addr) (ws : List (Str × Int)) : Prop := ∃ ts : List Addr, H l = some (.lst (ts.map V.ref)) ∧ ts.length = ws.length ∧ ∀ (j : Nat) t, ts[j]? = some t → ∃ w, ws[j]? = some w ∧ H t = some (.tup [.str w.1, .int w.2])
theorem Wy.ex {H H' : Hp} {l : Addr} {ws : List (Str × Int)} (e : Ex H H') (h : Wy H l ws) : Wy H' l ws :=
  let ⟨ts, h1, h2, h3⟩ := h
  ⟨ts, e _ _ h1, h2, fun j t ht => let ⟨w, a, b⟩ := h3 j t ht; ⟨w, a, e _ _ b⟩⟩
end Hn
namespace Hn
open PySem PySem.Spec PyProof.Rows L2 Evl
section
variable {J : It} {n : Nat} {G : Hp → Prop} {Y : Nat → Hp → V → Hp → Prop}
end
end Hn
namespace Hn
open PySem PySem.Spec PyProof.Rows L2 Evl
section
variable {X : Cx} {K : PySem.W.Frag}
end
def DfK (K : PySem.W.Frag) (x qual : Str) (st : Stmt) (f : Addr) (ps : List Str) (n : Nat) (ks : List Str) : Prop := ∃ fd, Fun K x qual st f fd ∧ KBn K fd ps n ks (fun us ws => us ++ ws) (fun vs zs => vs ++ zs)
section
variable {P : Program} {w : World} {K : PySem.W.Frag} {mg : Str → Option Value} {base : Heap}
end
section
variable {X : Cx} {k n : Nat} {f C : Addr} {ps ks : List Str} {sp : Sp} {x : Str} {p pos : Pos} {e : Expr} {es : List Expr} {kws : List Keyword} {t tk : TA}
end
def OkO (rs : List (Option Int)) : Prop := ∀ r ∈ rs, ∀ i, r = some i → 0 ≤ i
def OkC (ks : List Int) : Prop := ∀ i ∈ ks, 0 ≤ i
structure GoodH (s ns : List Int) (rs : List (Option Int)) (ks : List Int) (ds : List (Option Int)) : Prop where
  cs : Good s
  cn : GoodN ns
  ln : ns.length = s.length
  lr : rs.length = s.length
  lk : ks.length = s.length
  ld : ds.length = s.length
  cr : OkO rs
  ck : OkC ks
  cd : OkO ds
end Hn
namespace Hn
open PySem PySem.Spec PyProof.Rows L2 Evl
def DfKm (K : PySem.W.Frag) (x qual : Str) (st : Stmt) (f : Addr) (ps : List Str) (n : Nat) (ks : List Str) (gV : List V → List V → List V) : Prop := ∃ fd g, Fun K x qual st f fd ∧ KBn K fd ps n ks g gV
section
variable {P : Program} {w : World} {K : PySem.W.Frag} {mg : Str → Option Value} {base : Heap}
theorem DfK.m {x qual : Str} {st : Stmt} {f : Addr} {ps : List Str} {n : Nat} {ks : List Str} (h : DfK K x qual st f ps n ks) : DfKm K x qual st f ps n ks fun vs zs => vs ++ zs :=
  let ⟨fd, a, b⟩ := h
  ⟨fd, _, a, b⟩
end
section
variable {X : Cx} {k n : Nat} {f C : Addr} {ps ks : List Str} {sp : Sp} {x x' qual : Str} {st : Stmt} {p pos : Pos} {e : Expr} {es : List Expr} {kws : List Keyword} {t tk : TA} {gV : List V → List V → List V}
end
set_option maxHeartbeats 4000000
end Hn
namespace Hn
structure Ed (S : Type) where
  f : Nat
  l : Nat
  t : Int
  v : Int
  s : S
section
variable {S : Type}
def gn (pa pb : Int) (e : Ed S) : Int := pb * e.v - pa * e.t
def upF {α : Type} (g : Nat → α) (i : Nat) (x : α) : Nat → α := fun j => if j = i then x else g j
theorem upF_same {α : Type} {g : Nat → α} {i : Nat} {x : α} : upF g i x i = x := if_pos rfl
theorem upF_ne {α : Type} {g : Nat → α} {i j : Nat} {x : α} (h : j ≠ i) : upF g i x j = g j := if_neg h
structure Sta (S : Type) where
  r : Nat → Option Int
  c : Nat → Option (Ed S)
  ch : Option Nat
def better (x : Int) : Option Int → Bool
  | none => true
  | some y => decide (x > y)
def relax (pa pb : Int) (q : Sta S) (e : Ed S) : Sta S :=
  match q.r e.f with
  | none => q
  | some x => if better (x + gn pa pb e) (q.r e.l) = true then ⟨upF q.r e.l (some (x + gn pa pb e)), upF q.c e.l (some e), some e.l⟩ else q
def pass (pa pb : Int) (es : List (Ed S)) (r : Nat → Option Int) (c : Nat → Option (Ed S)) : Sta S := es.foldl (relax pa pb) ⟨r, c, none⟩
theorem relax_none {pa pb : Int} {q : Sta S} {e : Ed S} (h : q.r e.f = none) : relax pa pb q e = q := by
  unfold relax
  rw [h]
theorem relax_some {pa pb : Int} {q : Sta S} {e : Ed S} {x : Int} (h : q.r e.f = some x) : relax pa pb q e = if better (x + gn pa pb e) (q.r e.l) = true then ⟨upF q.r e.l (some (x + gn pa pb e)), upF q.c e.l (some e), some e.l⟩ else q := by
  unfold relax
  rw [h]
end
section
variable {S : Type}
def prd (c : Nat → Option (Ed S)) (m : Nat) : Nat := match c m with
  | some e => e.f
  | none => m
def prdN (c : Nat → Option (Ed S)) : Nat → Nat → Nat
  | 0, m => m
  | k + 1, m => prd c (prdN c k m)
theorem prdN_add (c : Nat → Option (Ed S)) (j : Nat) (m : Nat) : ∀ k, prdN c (k + j) m = prdN c k (prdN c j m)
  | 0 => by rw [Nat.zero_add]; rfl
  | k + 1 => by
    rw [show k + 1 + j = (k + j) + 1 by omega]
    unfold prdN
    rw [prdN_add c j m k]
structure Inv (pa pb : Int) (es : List (Ed S)) (k i now : Nat) (R : Nat → Int) (c : Nat → Option (Ed S)) (tau lp : Nat → Nat) : Prop where
  i1 : ∀ v e, c v = some e → e ∈ es ∧ e.l = v ∧ R v ≤ R e.f + gn pa pb e ∧ (tau v ≤ tau e.f → R v < R e.f + gn pa pb e)
  i2 : ∀ v, 1 ≤ lp v → ∃ e, c v = some e
  i3 : ∀ v e, c v = some e → lp v ≤ lp e.f + 1
  i4 : ∀ e ∈ es, R e.l < R e.f + gn pa pb e → k ≤ lp e.f + 1
  i4' : ∀ e ∈ es.take i, R e.l < R e.f + gn pa pb e → k ≤ lp e.f
  i5 : ∀ v, lp v ≤ k ∧ tau v ≤ now
theorem Inv.step {pa pb : Int} {es : List (Ed S)} {k i now : Nat} {R : Nat → Int} {c : Nat → Option (Ed S)} {tau lp : Nat → Nat} (I : Inv pa pb es k i now R c tau lp) {e : Ed S} (he : es[i]? = some e) :
    (R e.f + gn pa pb e > R e.l → Inv pa pb es k (i + 1) (now + 1) (upF R e.l (R e.f + gn pa pb e)) (upF c e.l (some e)) (upF tau e.l (now + 1)) (upF lp e.l k)) ∧ (¬ R e.f + gn pa pb e > R e.l → Inv pa pb es k (i + 1) now R c tau lp) := by
  have hm : e ∈ es := List.mem_of_getElem? he
  have ht : es.take (i + 1) = es.take i ++ [e] := by
    rw [List.take_add_one, he]
    rfl
  refine ⟨fun hb => ?_, fun hb => ?_⟩
  · have hl4 := I.i4 e hm (by omega)
    refine ⟨fun v e' hv => ?_, fun v hv => ?_, fun v e' hv => ?_, fun e' he' hv => ?_, fun e' he' hv => ?_, fun v => ?_⟩
    · by_cases q : v = e.l
      · subst q
        rw [upF_same] at hv
        cases hv
        refine ⟨hm, rfl, ?_, ?_⟩
        · rw [upF_same]
          by_cases z : e.f = e.l
          · rw [z, upF_same]
            rw [z] at hb
            omega
          · rw [upF_ne z]
            omega
        · intro hle
          rw [upF_same]
          by_cases z : e.f = e.l
          · rw [z, upF_same]
            rw [z] at hb
            omega
          · rw [upF_same, upF_ne z] at hle
            have := (I.i5 e.f).2
            omega
      · rw [upF_ne q] at hv
        obtain ⟨h1, h2, h3, h4⟩ := I.i1 v e' hv
        refine ⟨h1, h2, ?_, ?_⟩
        · rw [upF_ne q]
          by_cases z : e'.f = e.l
          · rw [z, upF_same]
            rw [z] at h3
            omega
          · rw [upF_ne z]
            exact h3
        · rw [upF_ne q, upF_ne q]
          by_cases z : e'.f = e.l
          · intro _
            rw [z, upF_same]
            rw [z] at h3
            omega
          · rw [upF_ne z, upF_ne z]
            exact h4
    · by_cases q : v = e.l
      · subst q
        exact ⟨e, upF_same⟩
      · rw [upF_ne q] at hv ⊢
        exact I.i2 v hv
    · by_cases q : v = e.l
      · subst q
        rw [upF_same] at hv ⊢
        cases hv
        by_cases z : e.f = e.l
        · rw [z, upF_same]
          omega
        · rw [upF_ne z]
          omega
      · rw [upF_ne q] at hv ⊢
        have h3 := I.i3 v e' hv
        by_cases z : e'.f = e.l
        · rw [z, upF_same]
          have := (I.i5 v).1
          omega
        · rw [upF_ne z]
          exact h3
    · by_cases z : e'.f = e.l
      · rw [z, upF_same]
        omega
      · rw [upF_ne z] at hv ⊢
        refine I.i4 e' he' ?_
        by_cases q : e'.l = e.l
        · rw [q, upF_same] at hv
          rw [q]
          omega
        · rw [upF_ne q] at hv
          exact hv
    · by_cases z : e'.f = e.l
      · rw [z, upF_same]
        omega
      · rw [upF_ne z] at hv ⊢
        rw [ht] at he'
        rcases List.mem_append.mp he' with he' | he'
        · refine I.i4' e' he' ?_
          by_cases q : e'.l = e.l
          · rw [q, upF_same] at hv
            rw [q]
            omega
          · rw [upF_ne q] at hv
            exact hv
        · rw [List.mem_singleton.mp he', upF_same] at hv
          omega
    · by_cases q : v = e.l
      · subst q
        rw [upF_same, upF_same]
        omega
      · rw [upF_ne q, upF_ne q]
        have := I.i5 v
        omega
  · refine ⟨I.i1, I.i2, I.i3, I.i4, fun e' he' hv => ?_, I.i5⟩
    rw [ht] at he'
    rcases List.mem_append.mp he' with he' | he'
    · exact I.i4' e' he' hv
    · rw [List.mem_singleton.mp he'] at hv
      omega
theorem Inv.fold {pa pb : Int} {es : List (Ed S)} {k : Nat} : ∀ (fs : List (Ed S)) (i now : Nat) (R : Nat → Int) (c : Nat → Option (Ed S)) (tau lp : Nat → Nat) (ch : Option Nat), es.drop i = fs → Inv pa pb es k i now R c tau lp → (∀ m, ch = some m → lp m = k) →
    ∃ now' R' c' tau' lp' ch', fs.foldl (relax pa pb) ⟨fun v => some (R v), c, ch⟩ = ⟨fun v => some (R' v), c', ch'⟩ ∧ Inv pa pb es k es.length now' R' c' tau' lp' ∧ ∀ m, ch' = some m → lp' m = k
  | [], i, now, R, c, tau, lp, ch, hd, I, hc => by
    have hi : es.length ≤ i := List.drop_eq_nil_iff.mp hd
    have : es.take es.length = es.take i := by rw [List.take_of_length_le hi, List.take_length]
    exact ⟨now, R, c, tau, lp, ch, rfl, ⟨I.i1, I.i2, I.i3, I.i4, by rw [this]; exact I.i4', I.i5⟩, hc⟩
  | e :: fs, i, now, R, c, tau, lp, ch, hd, I, hc => by
    have he : es[i]? = some e := by
      have := congrArg (fun l => l[0]?) hd
      simpa using this
    have hd' : es.drop (i + 1) = fs := by
      rw [← List.tail_drop, hd]
      rfl
    have st := I.step he
    rw [List.foldl_cons, relax_some (x := R e.f) rfl]
    by_cases hb : R e.f + gn pa pb e > R e.l
    · rw [if_pos (by show decide _ = true; exact decide_eq_true hb)]
      have hq : (upF (fun v => some (R v)) e.l (some (R e.f + gn pa pb e)) : Nat → Option Int) = fun v => some (upF R e.l (R e.f + gn pa pb e) v) := by
        funext v
        unfold upF
        split <;> rfl
      show ∃ now' R' c' tau' lp' ch', fs.foldl (relax pa pb) ⟨upF (fun v => some (R v)) e.l (some (R e.f + gn pa pb e)), upF c e.l (some e), some e.l⟩ = _ ∧ _
      rw [hq]
      refine Inv.fold fs (i + 1) (now + 1) _ _ _ _ _ hd' (st.1 hb) fun m hm => ?_
      cases hm
      exact upF_same
    · rw [if_neg (by show ¬ decide _ = true; rw [decide_eq_false hb]; intro z; cases z)]
      exact Inv.fold fs (i + 1) now _ _ _ _ _ hd' (st.2 hb) hc
theorem Inv.pass {pa pb : Int} {es : List (Ed S)} {k now : Nat} {R : Nat → Int} {c : Nat → Option (Ed S)} {tau lp : Nat → Nat} (I : Inv pa pb es k es.length now R c tau lp) :
    ∃ now' R' c' tau' lp' ch', Hn.pass pa pb es (fun v => some (R v)) c = ⟨fun v => some (R' v), c', ch'⟩ ∧ Inv pa pb es (k + 1) es.length now' R' c' tau' lp' ∧ ∀ m, ch' = some m → lp' m = k + 1 :=
  Inv.fold es 0 now R c tau lp none rfl ⟨I.i1, I.i2, I.i3, fun e he h => by
    have := I.i4' e (by rw [List.take_length]; exact he) h
    omega, (fun e he => nomatch he), fun v => by have := I.i5 v; omega⟩ fun _ h => nomatch h
theorem Inv.start {pa pb : Int} {es : List (Ed S)} : Inv pa pb es 0 es.length 0 (fun _ => 0) (fun _ => none) (fun _ => 0) (fun _ => 0) :=
  ⟨(fun _ _ h => nomatch h), fun _ h => absurd h (by omega), (fun _ _ h => nomatch h), fun _ _ _ => by omega, fun _ _ _ => by omega, fun _ => by omega⟩
def Wk : Nat → List (Ed S) → Nat → Prop
  | a, [], b => a = b
  | a, e :: w, b => e.f = a ∧ Wk e.l w b
theorem Wk.append : ∀ {u w : List (Ed S)} {a b c : Nat}, Wk a u b → Wk b w c → Wk a (u ++ w) c
  | [], w, a, b, c, h, h' => by
    have h : a = b := h
    rw [h]
    exact h'
  | e :: u, w, a, b, c, h, h' => ⟨h.1, Wk.append h.2 h'⟩
def tn (w : List (Ed S)) : Int := (w.map (·.t)).sum
def wo (w : List (Ed S)) : Int := (w.map (·.v)).sum
theorem gn_sum (pa pb : Int) : ∀ w : List (Ed S), (w.map (gn pa pb)).sum = pb * wo w - pa * tn w
  | [] => by
    show (0 : Int) = pb * 0 - pa * 0
    rw [Int.mul_zero, Int.mul_zero]
    rfl
  | e :: w => by
    have := gn_sum pa pb w
    unfold wo tn at *
    rw [List.map_cons, List.sum_cons, this, List.map_cons, List.sum_cons, List.map_cons, List.sum_cons, Int.mul_add, Int.mul_add]
    unfold gn
    omega
theorem pot_sum {pa pb : Int} {X : Nat → Int} : ∀ {w : List (Ed S)} {a b : Nat}, Wk a w b → (∀ e ∈ w, X e.f + gn pa pb e ≤ X e.l) → (w.map (gn pa pb)).sum ≤ X b - X a
  | [], a, b, h, _ => by
    have h : a = b := h
    rw [h]
    show (0 : Int) ≤ X b - X b
    omega
  | e :: w, a, b, h, hp => by
    have h1 := pot_sum h.2 fun e' he' => hp e' (List.mem_cons_of_mem _ he')
    have h2 := hp e List.mem_cons_self
    have h3 := h.1
    rw [List.map_cons, List.sum_cons, ← h3]
    omega
structure Loop (pa pb : Int) (es : List (Ed S)) (n : Nat) (w : List (Ed S)) : Prop where
  ne : w ≠ []
  mem : ∀ e ∈ w, e ∈ es
  len : w.length ≤ n
  wk : ∃ a, Wk a w a
  gain : 0 < (w.map (gn pa pb)).sum
theorem pigeon : ∀ (n : Nat) (g : Nat → Nat), (∀ i, i ≤ n → g i < n) → ∃ i j, i < j ∧ j ≤ n ∧ g i = g j
  | 0, g, h => absurd (h 0 (Nat.le_refl 0)) (Nat.not_lt_zero _)
  | n + 1, g, h => by
    by_cases q : ∃ i, i ≤ n ∧ g i = g (n + 1)
    · obtain ⟨i, hi, e⟩ := q
      exact ⟨i, n + 1, by omega, Nat.le_refl _, e⟩
    · have q' : ∀ i, i ≤ n → g i ≠ g (n + 1) := fun i hi e => q ⟨i, hi, e⟩
      obtain ⟨i, j, h1, h2, h3⟩ := pigeon n (fun i => if g i = n then g (n + 1) else g i) fun i hi => by
        have a := h i (by omega)
        have b := h (n + 1) (Nat.le_refl _)
        have d := q' i hi
        show (if g i = n then g (n + 1) else g i) < n
        split <;> omega
      have a := q' i (by omega)
      have b := q' j (by omega)
      refine ⟨i, j, h1, by omega, ?_⟩
      have h3 : (if g i = n then g (n + 1) else g i) = (if g j = n then g (n + 1) else g j) := h3
      split at h3 <;> split at h3 <;> omega
structure Ring (c : Nat → Option (Ed S)) (n m : Nat) : Prop where
  al : ∀ i, ∃ e, c (prdN c i m) = some e ∧ prdN c i m < n
  ag : ∃ p, 1 ≤ p ∧ p ≤ n ∧ prdN c (n + p) m = prdN c n m ∧ ∀ q, 1 ≤ q → q < p → prdN c (n + q) m ≠ prdN c n m
theorem least_of {P : Nat → Prop} : ∀ n, P n → ∃ k, k ≤ n ∧ P k ∧ ∀ j, j < k → ¬ P j := by
  intro n
  induction n using Nat.strongRecOn with
  | ind n ih =>
    intro h
    by_cases q : ∃ j, j < n ∧ P j
    · obtain ⟨j, hj, pj⟩ := q
      obtain ⟨k, a, b, d⟩ := ih j hj pj
      exact ⟨k, by omega, b, d⟩
    · exact ⟨n, Nat.le_refl n, h, fun j hj pj => q ⟨j, hj, pj⟩⟩
theorem Inv.ring {pa pb : Int} {es : List (Ed S)} {n now m : Nat} {R : Nat → Int} {c : Nat → Option (Ed S)} {tau lp : Nat → Nat} (I : Inv pa pb es (n + 1) es.length now R c tau lp) (hm : lp m = n + 1) (hes : ∀ e ∈ es, e.f < n ∧ e.l < n) : Ring c n m := by
  have a1 : ∀ i, i ≤ n → n + 1 ≤ lp (prdN c i m) + i := by
    intro i
    induction i with
    | zero => intro _; show n + 1 ≤ lp m + 0; omega
    | succ i ih =>
      intro hi
      have h := ih (by omega)
      obtain ⟨e, he⟩ := I.i2 (prdN c i m) (by omega)
      have h3 := I.i3 _ _ he
      have : prdN c (i + 1) m = e.f := by
        show prd c (prdN c i m) = e.f
        unfold prd
        rw [he]
      rw [this]
      omega
  have a2 : ∀ i, i ≤ n → ∃ e, c (prdN c i m) = some e ∧ prdN c i m < n := fun i hi => by
    have := a1 i hi
    obtain ⟨e, he⟩ := I.i2 (prdN c i m) (by omega)
    obtain ⟨h1, h2, _⟩ := I.i1 _ _ he
    exact ⟨e, he, h2 ▸ (hes e h1).2⟩
  obtain ⟨i, j, h1, h2, h3⟩ := pigeon n (fun i => prdN c i m) fun i hi => by
    obtain ⟨e, _, h⟩ := a2 i hi
    exact h
  have h3 : prdN c i m = prdN c j m := h3
  have per : ∀ a, i ≤ a → prdN c (a + (j - i)) m = prdN c a m := fun a ha => by
    obtain ⟨b, rfl⟩ : ∃ b, a = b + i := ⟨a - i, by omega⟩
    rw [show b + i + (j - i) = b + j by omega, prdN_add, prdN_add, h3]
  have al : ∀ i, ∃ e, c (prdN c i m) = some e ∧ prdN c i m < n := by
    intro k
    induction k using Nat.strongRecOn with
    | ind k ih =>
      by_cases q : k ≤ n
      · exact a2 k q
      · have := per (k - (j - i)) (by omega)
        rw [show k - (j - i) + (j - i) = k by omega] at this
        rw [this]
        exact ih _ (by omega)
  refine ⟨al, ?_⟩
  obtain ⟨k, b1, b2, b3⟩ := least_of (P := fun q => prdN c (n + (q + 1)) m = prdN c n m) (j - i - 1) (by
    show prdN c (n + (j - i - 1 + 1)) m = prdN c n m
    rw [show j - i - 1 + 1 = j - i by omega]
    exact per n (by omega))
  refine ⟨k + 1, by omega, by omega, b2, fun q q1 q2 => ?_⟩
  have := b3 (q - 1) (by omega)
  rw [show n + (q - 1 + 1) = n + q by omega] at this
  exact this
theorem Inv.loop {pa pb : Int} {es : List (Ed S)} {n now m p : Nat} {R : Nat → Int} {c : Nat → Option (Ed S)} {tau lp : Nat → Nat} {k i : Nat} (I : Inv pa pb es k i now R c tau lp) (al : ∀ i, ∃ e, c (prdN c i m) = some e) (p1 : 1 ≤ p) (pn : p ≤ n) (ag : prdN c p m = m) {w : List (Ed S)}
    (hl : w.length = p) (hw : ∀ i, i < p → w[i]? = c (prdN c i m)) : Loop pa pb es n w.reverse := by
  have stp : ∀ i e, c (prdN c i m) = some e → e.f = prdN c (i + 1) m := fun i e he => by
    show e.f = prd c (prdN c i m)
    unfold prd
    rw [he]
  have g : ∀ k, k ≤ p → (R m - R (prdN c k m) < ((w.take k).map (gn pa pb)).sum) ∨ (R m - R (prdN c k m) ≤ ((w.take k).map (gn pa pb)).sum ∧ (k = 0 ∨ tau (prdN c k m) < tau m)) := by
    intro k
    induction k with
    | zero =>
      intro _
      refine .inr ⟨?_, .inl rfl⟩
      show R m - R m ≤ 0
      omega
    | succ k ih =>
      intro hk
      obtain ⟨e, he⟩ := al k
      have hs := stp k e he
      obtain ⟨_, h2, h3, h4⟩ := I.i1 _ _ he
      have hsum : ((w.take (k + 1)).map (gn pa pb)).sum = ((w.take k).map (gn pa pb)).sum + gn pa pb e := by
        rw [List.take_add_one, hw k (by omega), he]
        simp
      rw [hsum, ← hs]
      rcases ih (by omega) with h | ⟨h, h0⟩
      · left; omega
      · by_cases z : tau (prdN c k m) ≤ tau e.f
        · have := h4 z
          left; omega
        · right
          refine ⟨by omega, .inr ?_⟩
          rcases h0 with rfl | h0
          · have : prdN c 0 m = m := rfl
            rw [this] at z
            omega
          · omega
  have gg := g p (Nat.le_refl p)
  rw [ag, ← hl, List.take_length] at gg
  have key : ∀ i, i < p → ∃ e, w[i]? = some e ∧ e ∈ es ∧ e.l = prdN c i m ∧ e.f = prdN c (i + 1) m := fun i hi => by
    obtain ⟨e, he⟩ := al i
    have := I.i1 _ _ he
    exact ⟨e, by rw [hw i hi, he], this.1, this.2.1, stp i e he⟩
  refine ⟨?_, ?_, ?_, ?_, ?_⟩
  · intro z
    have := congrArg List.length z
    rw [List.length_reverse] at this
    simp at this
    subst this
    simp at hl
    omega
  · intro e he
    rw [List.mem_reverse] at he
    obtain ⟨i, hi, rfl⟩ := List.mem_iff_getElem.mp he
    obtain ⟨e, h1, h2, _⟩ := key i (by omega)
    rw [List.getElem?_eq_getElem hi] at h1
    cases h1
    exact h2
  · rw [List.length_reverse]
    omega
  · have wk : ∀ k, k ≤ p → Wk (prdN c k m) (w.take k).reverse m := by
      intro k
      induction k with
      | zero =>
        intro _
        show m = m
        rfl
      | succ k ih =>
        intro hk
        obtain ⟨e, h1, h2, h3, h4⟩ := key k (by omega)
        rw [List.take_add_one, h1]
        show Wk _ (List.take k w ++ [e]).reverse m
        rw [List.reverse_append]
        refine ⟨h4, ?_⟩
        rw [h3]
        exact ih (by omega)
    have := wk p (Nat.le_refl p)
    rw [ag, ← hl, List.take_length] at this
    exact ⟨m, this⟩
  · rw [List.map_reverse, List.sum_reverse]
    rcases gg with h | ⟨h, h0 | h0⟩
    · omega
    · omega
    · omega
end
section
variable {S : Type}
theorem fold_keep {pa pb : Int} {I : (Nat → Option Int) → Prop} {es : List (Ed S)} (h : ∀ r e x, e ∈ es → I r → r e.f = some x → better (x + gn pa pb e) (r e.l) = true → I (upF r e.l (some (x + gn pa pb e)))) :
    ∀ (fs : List (Ed S)) (q : Sta S), (∀ e ∈ fs, e ∈ es) → I q.r → I (fs.foldl (relax pa pb) q).r
  | [], q, _, hq => hq
  | e :: fs, q, hm, hq => by
    rw [List.foldl_cons]
    refine fold_keep h fs _ (fun e' he' => hm e' (List.mem_cons_of_mem _ he')) ?_
    cases z : q.r e.f with
    | none => rw [relax_none z]; exact hq
    | some x =>
      rw [relax_some z]
      cases zb : better (x + gn pa pb e) (q.r e.l) with
      | true => exact h q.r e x (hm e List.mem_cons_self) hq z zb
      | false => exact hq
theorem fold_mu {pa pb : Int} {I : (Nat → Option Int) → Prop} {mu : (Nat → Option Int) → Nat} {es : List (Ed S)} (h : ∀ r e x, e ∈ es → I r → r e.f = some x → better (x + gn pa pb e) (r e.l) = true → I (upF r e.l (some (x + gn pa pb e))) ∧ mu (upF r e.l (some (x + gn pa pb e))) < mu r) :
    ∀ (fs : List (Ed S)) (q : Sta S), (∀ e ∈ fs, e ∈ es) → I q.r → mu (fs.foldl (relax pa pb) q).r ≤ mu q.r ∧ (q.ch = none → (fs.foldl (relax pa pb) q).ch ≠ none → mu (fs.foldl (relax pa pb) q).r < mu q.r)
  | [], q, _, hq => ⟨Nat.le_refl _, fun a b => absurd a b⟩
  | e :: fs, q, hm, hq => by
    rw [List.foldl_cons]
    have hm' := fun e' he' => hm e' (List.mem_cons_of_mem _ he')
    cases z : q.r e.f with
    | none => rw [relax_none z]; exact fold_mu h fs q hm' hq
    | some x =>
      rw [relax_some z]
      cases zb : better (x + gn pa pb e) (q.r e.l) with
      | true =>
        rw [if_pos rfl]
        obtain ⟨h1, h2⟩ := h q.r e x (hm e List.mem_cons_self) hq z zb
        have h3 := (fold_mu h fs ⟨upF q.r e.l (some (x + gn pa pb e)), upF q.c e.l (some e), some e.l⟩ hm' h1).1
        exact ⟨Nat.le_of_lt (Nat.lt_of_le_of_lt h3 h2), fun _ _ => Nat.lt_of_le_of_lt h3 h2⟩
      | false =>
        rw [if_neg (by intro z; cases z)]
        exact fold_mu h fs q hm' hq
def sumN : Nat → (Nat → Nat) → Nat
  | 0, _ => 0
  | n + 1, f => sumN n f + f n
theorem sumN_le {f g : Nat → Nat} : ∀ n, (∀ v, v < n → f v ≤ g v) → sumN n f ≤ sumN n g
  | 0, _ => Nat.le_refl _
  | n + 1, h => Nat.add_le_add (sumN_le n fun v hv => h v (by omega)) (h n (by omega))
theorem sumN_lt {f g : Nat → Nat} : ∀ n u, u < n → (∀ v, v < n → f v ≤ g v) → f u < g u → sumN n f < sumN n g
  | 0, u, hu, _, _ => absurd hu (Nat.not_lt_zero _)
  | n + 1, u, hu, h, hl => by
    by_cases q : u = n
    · subst q
      exact Nat.add_lt_add_of_le_of_lt (sumN_le u fun v hv => h v (by omega)) hl
    · exact Nat.add_lt_add_of_lt_of_le (sumN_lt n u (by omega) (fun v hv => h v (by omega)) hl) (h n (by omega))
def cnt (n : Nat) (r : Nat → Option Int) : Nat := sumN n fun v => if (r v).isSome = true then 1 else 0
theorem cnt_le (n : Nat) (r : Nat → Option Int) : cnt n r ≤ n := by
  have : ∀ n, sumN n (fun v => if (r v).isSome = true then 1 else 0) ≤ n := by
    intro n
    induction n with
    | zero => exact Nat.le_refl _
    | succ n ih =>
      show sumN n _ + (if (r n).isSome = true then 1 else 0) ≤ n + 1
      split <;> omega
  exact this n
def Att (pa pb : Int) (es : List (Ed S)) (r0 r : Nat → Option Int) : Prop := ∀ v x, r v = some x → ∃ u x0 w, r0 u = some x0 ∧ Wk u w v ∧ (∀ e ∈ w, e ∈ es) ∧ x = x0 + (w.map (gn pa pb)).sum
def Lo (n : Nat) (G : Int) (r : Nat → Option Int) : Prop := ∀ v x, r v = some x → -((cnt n r : Nat) * G) ≤ x
def Up (X : Nat → Int) (C : Int) (r : Nat → Option Int) : Prop := ∀ v x, r v = some x → x ≤ X v + C
def Ge (r0 r : Nat → Option Int) : Prop := ∀ v x, r0 v = some x → ∃ y, r v = some y ∧ x ≤ y
structure Set0 (pa pb : Int) (es : List (Ed S)) (n : Nat) (X : Nat → Int) (C G : Int) (r0 r : Nat → Option Int) : Prop where
  at_ : Att pa pb es r0 r
  lo : Lo n G r
  up : Up X C r
  ge : Ge r0 r
def mu0 (n : Nat) (X : Nat → Int) (C G : Int) (r : Nat → Option Int) : Nat := sumN n fun v => match r v with
  | none => (X v + C + n * G + 1).toNat
  | some x => (X v + C - x).toNat
theorem Set0.step {pa pb : Int} {es : List (Ed S)} {n : Nat} {X : Nat → Int} {C G : Int} {r0 r : Nat → Option Int} (hX : ∀ e ∈ es, X e.f + gn pa pb e ≤ X e.l) (hn : ∀ e ∈ es, e.l < n) (hG : ∀ e ∈ es, -G ≤ gn pa pb e) (hG0 : 0 ≤ G) {e : Ed S} {x : Int} (he : e ∈ es) (I : Set0 pa pb es n X C G r0 r) (hx : r e.f = some x) (hb : better (x + gn pa pb e) (r e.l) = true) :
    Set0 pa pb es n X C G r0 (upF r e.l (some (x + gn pa pb e))) ∧ mu0 n X C G (upF r e.l (some (x + gn pa pb e))) < mu0 n X C G r := by
  have hXe := hX e he
  have hln := hn e he
  have hGe := hG e he
  have hup := I.up e.f x hx
  have hlo := I.lo e.f x hx
  have hcn : cnt n r ≤ cnt n (upF r e.l (some (x + gn pa pb e))) := sumN_le n fun v _ => by
    show (if (r v).isSome = true then 1 else 0) ≤ (if (upF r e.l (some (x + gn pa pb e)) v).isSome = true then 1 else 0)
    by_cases q : v = e.l
    · rw [q, upF_same]
      show (if (r e.l).isSome = true then 1 else 0) ≤ 1
      split <;> omega
    · rw [upF_ne q]
      exact Nat.le_refl _
  have hlow : -((cnt n (upF r e.l (some (x + gn pa pb e))) : Nat) * G) ≤ x + gn pa pb e ∧ ∀ v y, r v = some y → -((cnt n (upF r e.l (some (x + gn pa pb e))) : Nat) * G) ≤ y := by
    have h2 : ∀ v y, r v = some y → -((cnt n (upF r e.l (some (x + gn pa pb e))) : Nat) * G) ≤ y := fun v y hy => by
      have a := I.lo v y hy
      have b : (cnt n r : Int) * G ≤ (cnt n (upF r e.l (some (x + gn pa pb e))) : Int) * G := Int.mul_le_mul_of_nonneg_right (by omega) hG0
      omega
    refine ⟨?_, h2⟩
    cases z : r e.l with
    | none =>
      have hc1 : cnt n r < cnt n (upF r e.l (some (x + gn pa pb e))) := sumN_lt n e.l hln (fun v _ => by
        show (if (r v).isSome = true then 1 else 0) ≤ (if (upF r e.l (some (x + gn pa pb e)) v).isSome = true then 1 else 0)
        by_cases q : v = e.l
        · rw [q, upF_same]
          show (if (r e.l).isSome = true then 1 else 0) ≤ 1
          split <;> omega
        · rw [upF_ne q]
          exact Nat.le_refl _) (by
        show (if (r e.l).isSome = true then 1 else 0) < (if (upF r e.l (some (x + gn pa pb e)) e.l).isSome = true then 1 else 0)
        rw [upF_same, z]
        show 0 < 1
        omega)
      have b : ((cnt n r : Int) + 1) * G ≤ (cnt n (upF r e.l (some (x + gn pa pb e))) : Int) * G := Int.mul_le_mul_of_nonneg_right (by omega) hG0
      rw [Int.add_mul] at b
      omega
    | some y =>
      rw [z] at hb
      have := h2 e.l y z
      have hb : x + gn pa pb e > y := of_decide_eq_true hb
      omega
  refine ⟨⟨fun v y hy => ?_, fun v y hy => ?_, fun v y hy => ?_, fun v y hy => ?_⟩, ?_⟩
  · by_cases q : v = e.l
    · subst q
      rw [upF_same] at hy
      cases hy
      obtain ⟨u, x0, w, h1, h2, h3, h4⟩ := I.at_ e.f x hx
      refine ⟨u, x0, w ++ [e], h1, h2.append ⟨rfl, rfl⟩, fun e' he' => ?_, ?_⟩
      · rcases List.mem_append.mp he' with q | q
        · exact h3 e' q
        · rw [List.mem_singleton.mp q]; exact he
      · rw [List.map_append, List.sum_append, h4]
        simp
        omega
    · rw [upF_ne q] at hy
      exact I.at_ v y hy
  · by_cases q : v = e.l
    · subst q
      rw [upF_same] at hy
      cases hy
      exact hlow.1
    · rw [upF_ne q] at hy
      exact hlow.2 v y hy
  · by_cases q : v = e.l
    · subst q
      rw [upF_same] at hy
      cases hy
      omega
    · rw [upF_ne q] at hy
      exact I.up v y hy
  · obtain ⟨z, hz, hyz⟩ := I.ge v y hy
    by_cases q : v = e.l
    · subst q
      rw [upF_same]
      refine ⟨_, rfl, ?_⟩
      rw [hz] at hb
      have hb : x + gn pa pb e > z := of_decide_eq_true hb
      omega
    · rw [upF_ne q]
      exact ⟨z, hz, hyz⟩
  · refine sumN_lt n e.l hln (fun v _ => ?_) ?_
    · by_cases q : v = e.l
      · subst q
        rw [upF_same]
        cases z : r e.l with
        | none =>
          have c1 := cnt_le n (upF r e.l (some (x + gn pa pb e)))
          have c2 : ((cnt n (upF r e.l (some (x + gn pa pb e))) : Nat) : Int) * G ≤ (n : Int) * G := Int.mul_le_mul_of_nonneg_right (by omega) hG0
          have c3 := hlow.1
          show (X e.l + C - (x + gn pa pb e)).toNat ≤ (X e.l + C + n * G + 1).toNat
          omega
        | some y =>
          rw [z] at hb
          have hb : x + gn pa pb e > y := of_decide_eq_true hb
          show (X e.l + C - (x + gn pa pb e)).toNat ≤ (X e.l + C - y).toNat
          omega
      · rw [upF_ne q]
        exact Nat.le_refl _
    · show (match upF r e.l (some (x + gn pa pb e)) e.l with | none => (X e.l + C + n * G + 1).toNat | some x => (X e.l + C - x).toNat) < (match r e.l with | none => (X e.l + C + n * G + 1).toNat | some x => (X e.l + C - x).toNat)
      rw [upF_same]
      cases z : r e.l with
      | none =>
        have c1 := cnt_le n (upF r e.l (some (x + gn pa pb e)))
        have c2 : ((cnt n (upF r e.l (some (x + gn pa pb e))) : Nat) : Int) * G ≤ (n : Int) * G := Int.mul_le_mul_of_nonneg_right (by omega) hG0
        have c3 := hlow.1
        show (X e.l + C - (x + gn pa pb e)).toNat < (X e.l + C + n * G + 1).toNat
        omega
      | some y =>
        rw [z] at hb
        have hb : x + gn pa pb e > y := of_decide_eq_true hb
        have := I.up e.l y z
        show (X e.l + C - (x + gn pa pb e)).toNat < (X e.l + C - y).toNat
        omega
theorem Set0.pass {pa pb : Int} {es : List (Ed S)} {n : Nat} {X : Nat → Int} {C G : Int} {r0 r : Nat → Option Int} {c : Nat → Option (Ed S)} (hX : ∀ e ∈ es, X e.f + gn pa pb e ≤ X e.l) (hn : ∀ e ∈ es, e.l < n) (hG : ∀ e ∈ es, -G ≤ gn pa pb e) (hG0 : 0 ≤ G) (I : Set0 pa pb es n X C G r0 r) :
    Set0 pa pb es n X C G r0 (Hn.pass pa pb es r c).r ∧ ((Hn.pass pa pb es r c).ch ≠ none → mu0 n X C G (Hn.pass pa pb es r c).r < mu0 n X C G r) :=
  ⟨fold_keep (I := Set0 pa pb es n X C G r0) (fun r e x he I hx hb => (I.step hX hn hG hG0 he hx hb).1) es ⟨r, c, none⟩ (fun _ h => h) I,
   (fold_mu (I := Set0 pa pb es n X C G r0) (mu := mu0 n X C G) (fun r e x he I hx hb => I.step hX hn hG hG0 he hx hb) es ⟨r, c, none⟩ (fun _ h => h) I).2 rfl⟩
end
section
variable {S : Type}
def runs (pa pb : Int) (es : List (Ed S)) : Nat → Option (Sta S)
  | 0 => some ⟨fun _ => some 0, fun _ => none, none⟩
  | k + 1 => match runs pa pb es k with
    | none => none
    | some q => match (pass pa pb es q.r q.c).ch with
      | none => none
      | some _ => some (pass pa pb es q.r q.c)
def per (c : Nat → Option (Ed S)) (n m : Nat) : Nat := (((List.range n).find? fun q => decide (prdN c (n + (q + 1)) m = prdN c n m)).getD 0) + 1
def clos (c : Nat → Option (Ed S)) (n m : Nat) : List (Ed S) := (List.range (per c n m)).filterMap fun i => c (prdN c (n + i) m)
def gaining (n : Nat) (es : List (Ed S)) (pa pb : Int) : Option (List (Ed S)) := match runs pa pb es (n + 1) with
  | none => none
  | some q => some (clos q.c n (q.ch.getD 0)).reverse
end
end Hn
namespace Hn
open PySem
abbrev Stp := Option (Str × Int)
def mdN (n : Nat) (x : Int) : Nat := (x % (n : Int)).toNat
theorem mdN_int {n : Nat} (h : 1 ≤ n) (x : Int) : ((mdN n x : Nat) : Int) = x % (n : Int) := Int.toNat_of_nonneg (mod_bd h x).1
def mkE (n : Nat) (x len v : Int) (s : Stp) : Ed Stp := ⟨mdN n x, mdN n (x + len), ((mdN n x : Nat) + len) / (n : Int), v, s⟩
theorem mkE_len {n : Nat} (h : 1 ≤ n) (x len v : Int) (s : Stp) : (((mkE n x len v s).f : Nat) : Int) + len = ((mkE n x len v s).l : Nat) + n * (mkE n x len v s).t := by
  show ((mdN n x : Nat) : Int) + len = ((mdN n (x + len) : Nat) : Int) + n * (((mdN n x : Nat) + len) / (n : Int))
  rw [mdN_int h, mdN_int h]
  have e : (x + len) % (n : Int) = (x % (n : Int) + len) % (n : Int) := by rw [Int.emod_add_emod]
  rw [e]
  have := Int.emod_add_mul_ediv (x % (n : Int) + len) n
  omega
def upI (a b : Int) : Int := -((-a) / b)
def kE (n : Nat) (v h : Int) : Ed Stp := mkE n h 1 v (some ("keep", h))
structure NeE (s d : List Int) (e : Ed Stp) (len : Int) : Prop where
  fl : e.f < s.length ∧ e.l < s.length
  ln : (e.f : Int) + len = e.l + s.length * e.t
  l1 : 1 ≤ len
  t0 : 0 ≤ e.t
  t1 : e.t ≤ 1
def Enf (s d : List Int) (P : Int) (A : Int → Int) : Prop := A 0 = 0 ∧ A (s.length : Int) = P ∧ mono s.length A ∧ enough s.length (thF s.length s (cyc (byS s.length A))) (cyc d) = true
def stp (s : List Int) (h k : Int) : Int := wd s k + (k - wd s k - h) % (s.length : Int)
def hops (s : List Int) : Int → List Int → Int
  | _, [] => 0
  | h, k :: r => stp s h k + hops s k r
def lastH (h : Int) : List Int → Int
  | [] => h
  | k :: r => lastH k r
def wnd (s r : List Int) : Int := hops s (lastH 0 r) r / (s.length : Int)
def sumD (d : List Int) (r : List Int) : Int := (r.map (cyc d)).sum
def ringB (s d r : List Int) : Int := upI (sumD d r) (wnd s r)
def isNd : Stp → Option Int
  | some (x, h) => if x = ("need" : Str) then some h else none
  | none => none
def needHs (w : List (Ed Stp)) : List Int := w.filterMap fun e => isNd e.s
end Hn
namespace Hn
open PySem
def fr (x y : Int) : Int × Int := (x / (Int.gcd x y : Int), y / (Int.gcd x y : Int))
structure FrOk (x y : Int) (g : Int) : Prop where
  g1 : 1 ≤ g
  ex : x = g * (fr x y).1
  ey : y = g * (fr x y).2
  p2 : 1 ≤ (fr x y).2
  le : (fr x y).2 ≤ y
inductive BR (n : Nat) (es : List (Ed Stp)) : Int → Int → List Int → List Int → Prop
  | stop {pa pb : Int} {r : List Int} : gaining n es pa pb = none → BR n es pa pb r r
  | go {pa pb : Int} {r q : List Int} {w : List (Ed Stp)} : gaining n es pa pb = some w → BR n es (fr (wo w) (tn w)).1 (fr (wo w) (tn w)).2 (needHs w) q → BR n es pa pb r q
structure Bst (s d : List Int) (M pa pb : Int) (r : List Int) : Prop where
  a0 : 0 ≤ pa
  b1 : 1 ≤ pb
  bn : pb ≤ (s.length : Int)
  bd : pa ≤ s.length * M * pb
  ne : r ≠ []
  le : r.length ≤ s.length
  hs : ∀ k ∈ r, 0 ≤ k ∧ k < (s.length : Int)
  up : upI pa pb ≤ ringB s d r
structure BestOk (s d r : List Int) : Prop where
  ne : r ≠ []
  le : r.length ≤ s.length
  hs : ∀ k ∈ r, 0 ≤ k ∧ k < (s.length : Int)
  en : ∃ A, Enf s d (ringB s d r) A
end Hn
namespace Hn
open PySem PySem.Spec PyProof.Rows L2 Evl
variable {K : PySem.W.Frag}
theorem sqt_xl {H H' : Hp} {a : Addr} {xs : List V} (e : Xl H H') (h : SqT K H a xs) : SqT K H' a xs := by
  rcases h with (h | ⟨o, h⟩) | h
  · exact .inl (.inl (e _ _ h rfl))
  · exact .inl (.inr ⟨o, e _ _ h rfl⟩)
  · exact .inr h
def StV (K : PySem.W.Frag) (H : Hp) (v : V) : Stp → Prop
  | none => v = .non
  | some (w, h) => ∃ t, v = .ref t ∧ SqT K H t [.str w, .int h]
def EdV (K : PySem.W.Frag) (H : Hp) (v : V) (e : Ed Stp) : Prop := ∃ t sv, v = .ref t ∧ SqT K H t [.int (e.f : Int), .int (e.l : Int), .int e.t, .int e.v, sv] ∧ StV K H sv e.s
theorem StV.mono {H H' : Hp} {v : V} {s : Stp} (e : Xl H H') (h : StV K H v s) : StV K H' v s := by
  cases s with
  | none => exact h
  | some p =>
    obtain ⟨t, rfl, ht⟩ := h
    exact ⟨t, rfl, sqt_xl e ht⟩
theorem EdV.mono {H H' : Hp} {v : V} {e : Ed Stp} (x : Xl H H') (h : EdV K H v e) : EdV K H' v e :=
  let ⟨t, sv, h1, h2, h3⟩ := h
  ⟨t, sv, h1, sqt_xl x h2, h3.mono x⟩
def EdL (K : PySem.W.Frag) (H : Hp) (l : Addr) (es : List (Ed Stp)) : Prop := ∃ vs : List V, H l = some (.lst vs) ∧ vs.length = es.length ∧ ∀ (i : Nat) v, vs[i]? = some v → ∃ e, es[i]? = some e ∧ EdV K H v e
theorem EdL.ex {H H' : Hp} {l : Addr} {es : List (Ed Stp)} (x : Ex H H') (h : EdL K H l es) : EdL K H' l es :=
  let ⟨vs, h1, h2, h3⟩ := h
  ⟨vs, x _ _ h1, h2, fun i v hv => let ⟨e, a, b⟩ := h3 i v hv; ⟨e, a, b.mono (.of x)⟩⟩
def CamV (K : PySem.W.Frag) (H : Hp) (v : V) : Option (Ed Stp) → Prop
  | none => v = .non
  | some e => EdV K H v e
theorem CamV.mono {H H' : Hp} {v : V} {c : Option (Ed Stp)} (x : Xl H H') (h : CamV K H v c) : CamV K H' v c := by
  cases c with
  | none => exact h
  | some e => exact EdV.mono x h
def CamL (K : PySem.W.Frag) (H : Hp) (p : Addr) (n : Nat) (c : Nat → Option (Ed Stp)) : Prop := ∃ vs : List V, H p = some (.lst vs) ∧ vs.length = n ∧ ∀ (i : Nat) v, vs[i]? = some v → CamV K H v (c i)
theorem CamL.put {H : Hp} {p : Addr} {n b : Nat} {c : Nat → Option (Ed Stp)} {vs : List V} {v : V} {e : Ed Stp} (h : CamL K H p n c) (hp : H p = some (.lst vs)) (he : EdV K H v e) : CamL K (upd H p (.lst (vs.set b v))) p n (upF c b (some e)) := by
  obtain ⟨ws, h1, h2, h3⟩ := h
  rw [hp] at h1
  cases h1
  have x : Xl H (upd H p (.lst (vs.set b v))) := Xl.set hp
  refine ⟨_, upd_same, by rw [List.length_set]; exact h2, fun i u hu => ?_⟩
  rw [List.getElem?_set] at hu
  by_cases q : b = i
  · subst q
    rw [if_pos rfl] at hu
    rw [upF_same]
    split at hu
    · cases hu
      exact EdV.mono x he
    · cases hu
  · rw [if_neg q] at hu
    rw [upF_ne (fun z => q z.symm)]
    exact (h3 i u hu).mono x
theorem CamL.start {H : Hp} {p : Addr} {n : Nat} (h : H p = some (.lst (List.replicate n .non))) : CamL K H p n fun _ => none := by
  refine ⟨_, h, List.length_replicate, fun i v hv => ?_⟩
  rw [List.getElem?_replicate] at hv
  split at hv
  · cases hv
    rfl
  · cases hv
def Mv2 (p q : Addr) (H H' : Hp) : Prop := ∀ a o, a ≠ p → a ≠ q → H a = some o → H' a = some o
theorem Mv2.refl (p q : Addr) (H : Hp) : Mv2 p q H H := fun _ _ _ _ h => h
theorem Mv2.trans {p q : Addr} {H H1 H2 : Hp} (x : Mv2 p q H H1) (y : Mv2 p q H1 H2) : Mv2 p q H H2 := fun a o h1 h2 h => y a o h1 h2 (x a o h1 h2 h)
theorem Mv2.l {p q : Addr} {H : Hp} {o : HO} : Mv2 p q H (upd H p o) := fun a o' h1 _ h => by rw [upd_ne h1]; exact h
theorem Mv2.r {p q : Addr} {H : Hp} {o : HO} : Mv2 p q H (upd H q o) := fun a o' _ h2 h => by rw [upd_ne h2]; exact h
theorem Mv2.xl {p q : Addr} {H H' : Hp} {xs ys : List V} (x : Mv2 p q H H') (hp : H p = some (.lst xs)) (hq : H q = some (.lst ys)) : Xl H H' := fun a o h n => by
  refine x a o ?_ ?_ h
  · exact ne_of h hp (by intro z; rw [z] at n; cases n)
  · exact ne_of h hq (by intro z; rw [z] at n; cases n)
theorem Mv2.ex {p q : Addr} {H0 H H' : Hp} (e : Ex H0 H) (x : Mv2 p q H H') (hp : H0 p = none) (hq : H0 q = none) : Ex H0 H' := fun a o h => by
  refine x a o ?_ ?_ (e a o h)
  · intro z; rw [z, hp] at h; cases h
  · intro z; rw [z, hq] at h; cases h
theorem CamL.at {H : Hp} {p : Addr} {n : Nat} {c : Nat → Option (Ed Stp)} (h : CamL K H p n c) {i : Nat} {e : Ed Stp} (hi : i < n) (he : c i = some e) : ∃ vs t sv, H p = some (.lst vs) ∧ vs[i]? = some (.ref t) ∧ SqT K H t [.int (e.f : Int), .int (e.l : Int), .int e.t, .int e.v, sv] ∧ EdV K H (.ref t) e := by
  obtain ⟨vs, h1, h2, h3⟩ := h
  have hv : vs[i]? = some vs[i] := List.getElem?_eq_getElem (by omega)
  have := h3 i _ hv
  rw [he] at this
  obtain ⟨t, sv, e1, e2, e3⟩ := id this
  rw [e1] at hv
  exact ⟨vs, t, sv, h1, hv, e2, t, sv, rfl, e2, e3⟩
theorem CamL.ex {H H' : Hp} {p : Addr} {n : Nat} {c : Nat → Option (Ed Stp)} (x : Ex H H') (h : CamL K H p n c) : CamL K H' p n c :=
  let ⟨vs, h1, h2, h3⟩ := h
  ⟨vs, x _ _ h1, h2, fun i v hv => (h3 i v hv).mono (.of x)⟩
theorem EdL.at {H : Hp} {l : Addr} {es : List (Ed Stp)} (h : EdL K H l es) {i : Nat} {e : Ed Stp} (he : es[i]? = some e) : ∃ vs t sv, H l = some (.lst vs) ∧ vs[i]? = some (.ref t) ∧ SqT K H t [.int (e.f : Int), .int (e.l : Int), .int e.t, .int e.v, sv] ∧ StV K H sv e.s := by
  obtain ⟨vs, h1, h2, h3⟩ := h
  have hi := (List.getElem?_eq_some_iff.mp he).1
  have hv : vs[i]? = some vs[i] := List.getElem?_eq_getElem (by omega)
  obtain ⟨e', he', t, sv, e1, e2, e3⟩ := h3 i _ hv
  rw [he] at he'
  cases he'
  rw [e1] at hv
  exact ⟨vs, t, sv, h1, hv, e2, e3⟩
theorem EdL.push {H : Hp} {p : Addr} {es : List (Ed Stp)} {vs : List V} {v : V} {e : Ed Stp} (h : EdL K H p es) (hp : H p = some (.lst vs)) (hv : EdV K H v e) : EdL K (upd H p (.lst (vs ++ [v]))) p (es ++ [e]) := by
  obtain ⟨ws, h1, h2, h3⟩ := h
  rw [hp] at h1
  cases h1
  have x : Xl H (upd H p (.lst (vs ++ [v]))) := Xl.set hp
  refine ⟨_, upd_same, by rw [List.length_append, List.length_append, h2]; rfl, fun i u hu => ?_⟩
  by_cases hi : i < vs.length
  · rw [List.getElem?_append_left hi] at hu
    obtain ⟨e', a, b⟩ := h3 i u hu
    exact ⟨e', by rw [List.getElem?_append_left (by omega)]; exact a, b.mono x⟩
  · rw [List.getElem?_append_right (by omega)] at hu
    have : i = vs.length := by
      have := (List.getElem?_eq_some_iff.mp hu).1
      rw [List.length_singleton] at this
      omega
    subst this
    rw [Nat.sub_self] at hu
    cases hu
    exact ⟨e, by rw [List.getElem?_append_right (by omega), h2, Nat.sub_self]; rfl, hv.mono x⟩
theorem EdL.nil {H : Hp} {p : Addr} (h : H p = some (.lst [])) : EdL K H p [] := ⟨[], h, rfl, fun i v hv => by simp at hv⟩
def del (H : Hp) (p : Addr) : Hp := fun a => if a = p then none else H a
def GaV (K : PySem.W.Frag) (H : Hp) (v : V) : Option (List (Ed Stp)) → Prop
  | none => v = .non
  | some w => ∃ p, v = .ref p ∧ EdL K H p w
theorem GaV.ex {H H' : Hp} {v : V} {w : Option (List (Ed Stp))} (x : Ex H H') (h : GaV K H v w) : GaV K H' v w := by
  cases w with
  | none => exact h
  | some w =>
    obtain ⟨p, rfl, h⟩ := h
    exact ⟨p, rfl, h.ex x⟩
end Hn
namespace Hn
open PySem PySem.Spec PyProof.Rows L2 Evl
theorem k_index {X : Cx} {K : PySem.W.Frag} (h : X.K = K) : MtR X "list.index" (rIndex K) := h ▸ mt_index
end Hn
namespace Wx
open PySem PySem.Spec PyProof.Rows L2 Evl Hn
class TabC where
  T : List (Addr × Str)
variable [TC : TabC]
def isTb : HO → Bool
  | .tbl _ => true
  | _ => false
structure Xn (H H' : Hp) : Prop where
  kp : ∀ a o, H a = some o → isTb o = false → H' a = some o
  dm : ∀ a, H a ≠ none → H' a ≠ none
theorem Xn.at {H H' : Hp} (e : Xn H H') {a : Addr} {o : HO} (h : H a = some o) (n : isTb o = false := by rfl) : H' a = some o := e.kp a o h n
theorem Xn.of {H H' : Hp} (e : Ex H H') : Xn H H' := ⟨fun a o h _ => e a o h, fun a h z => by
  cases q : H a with
  | none => exact h q
  | some o => rw [e a o q] at z; cases z⟩
theorem Xn.refl (H : Hp) : Xn H H := ⟨fun _ _ h _ => h, fun _ h => h⟩
theorem Xn.trans {H H1 H2 : Hp} (a : Xn H H1) (b : Xn H1 H2) : Xn H H2 := ⟨fun x o h n => b.kp x o (a.kp x o h n) n, fun x h => b.dm x (a.dm x h)⟩
theorem Xn.new {H : Hp} {p : Addr} {o : HO} (h : H p = none) : Xn H (upd H p o) := .of (Ex.new h)
theorem upd_def {H : Hp} {p a : Addr} {o : HO} (h : H a ≠ none) : upd H p o a ≠ none := by
  by_cases e : a = p
  · rw [e, upd_same]; intro z; cases z
  · rw [upd_ne e]; exact h
theorem Xn.mut {H H' : Hp} {p : Addr} {o : HO} (e : Xn H H') (h : H p = none) : Xn H (upd H' p o) := ⟨fun a u ha n => by
  rw [upd_ne (ne_of_none ha h)]
  exact e.kp a u ha n, fun a ha => upd_def (e.dm a ha)⟩
theorem back_x {H H' : Hp} {p : Addr} (e : Xn H H') (h : H' p = none) : H p = none := by
  cases h1 : H p with
  | none => rfl
  | some o => exact absurd h (e.dm p (by rw [h1]; intro z; cases z))
def TabsR (H : Hp) : Prop := LamX.Tabs TC.T H
theorem TabsR.ex {H H' : Hp} (t : TabsR H) (e : Ex H H') : TabsR H' := LamX.Tabs.ext t e
def isEx : HO → Bool
  | .ext _ => true
  | _ => false
theorem TabsR.but {H H' : Hp} {p : Addr} {u : HO} (t : TabsR H) (h : H p = some u) (n : isTb u = false) (m : isEx u = false) (k : ∀ a o, a ≠ p → H a = some o → H' a = some o) : TabsR H' := fun q hq => by
  obtain ⟨ps, h1, h2, h3⟩ := t q hq
  refine ⟨ps, k _ _ (fun e => ?_) h1, h2, fun pos cv hc => ?_⟩
  · rw [e, h] at h1
    cases h1
    cases n
  · obtain ⟨c, e1, e2⟩ := h3 pos cv hc
    refine ⟨c, e1, k _ _ (fun e => ?_) e2⟩
    rw [e, h] at e2
    cases e2
    cases m
theorem TabsR.mut {H : Hp} {p : Addr} {o u : HO} (t : TabsR H) (h : H p = some u) (n : isTb u = false) (m : isEx u = false) : TabsR (upd H p o) := t.but h n m fun a u ne ha => by rw [upd_ne ne]; exact ha
inductive Cn where
  | Clock | Needs | Plan | House | Book | Desk | Endless
  deriving DecidableEq
structure Fv where
  f : Addr
  c : Addr
  q : Str
  vs : List V
inductive PV where
  | non | bl (b : Bool) | int (i : Int) | str (x : Str) | ty (n : String) | cls (c : Cn)
  | lst (xs : List PV) | tup (xs : List PV) | ins (c : Cn) (fs : List (Str × PV)) | bag | scr (ns : List Int) | fnv (z : Fv) (xs : List PV)
  | dct (a : Addr) (kvs : List (Key × Int)) | idv (a : Addr) (x : PV)
abbrev Fz := Addr → Prop
def dkV (kvs : List (Key × Int)) : List (Key × V) := kvs.map fun p => (p.1, V.int p.2)
def ScrOk (K : PySem.W.Frag) (F : Fz) (H : Hp) (a : Addr) (xs : List V) : Prop := (H a = some (.lst xs) ∧ F a) ∨ (∃ o, H a = some (.frz o (.lst xs))) ∨ ∀ H', SqL K H' a xs
theorem ScrOk.sq {K : PySem.W.Frag} {F : Fz} {H : Hp} {a : Addr} {xs : List V} (h : ScrOk K F H a xs) : SqL K H a xs := by
  rcases h with ⟨h, _⟩ | ⟨o, h⟩ | h
  · exact .inl (.inl h)
  · exact .inl (.inr ⟨o, h⟩)
  · exact h H
mutual
inductive Rv (K : PySem.W.Frag) (d : Cn → Addr) (F : Fz) (H : Hp) : V → PV → Prop
  | non : Rv K d F H .non .non
  | bl (b : Bool) : Rv K d F H (.bl b) (.bl b)
  | int (i : Int) : Rv K d F H (.int i) (.int i)
  | str (x : Str) : Rv K d F H (.str x) (.str x)
  | ty (n : String) : Rv K d F H (.ty n) (.ty n)
  | cls (c : Cn) : Rv K d F H (.ref (d c)) (.cls c)
  | lst {a : Addr} {vs : List V} {xs : List PV} : H a = some (.lst vs) → F a → Rvs K d F H vs xs → Rv K d F H (.ref a) (.lst xs)
  | tup {a : Addr} {vs : List V} {xs : List PV} : SqT K H a vs → Rvs K d F H vs xs → Rv K d F H (.ref a) (.tup xs)
  | ins {a dx : Addr} {c : Cn} {gs : List (Str × V)} {fs : List (Str × PV)} : H a = some (.ins (d c) dx gs) → Rvf K d F H gs fs → Rv K d F H (.ref a) (.ins c fs)
  | bag {b : Addr} : Bag H b → Rv K d F H (.ref b) .bag
  | scr {a : Addr} {ns : List Int} : ScrOk K F H a (ns.map V.int) → ns.length ≤ 63 → Rv K d F H (.ref a) (.scr ns)
  | fnv {z : Fv} {xs : List PV} : H z.c = some (LamX.CodeO z.c z.q) → Rvs K d F H z.vs xs → Rv K d F H (.ref z.f) (.fnv z xs)
  | dct {a : Addr} {kvs : List (Key × Int)} : H a = some (.dK (dkV kvs)) → F a → Rv K d F H (.ref a) (.dct a kvs)
  | idv {a : Addr} {x : PV} : Rv K d F H (.ref a) x → Rv K d F H (.ref a) (.idv a x)
inductive Rvs (K : PySem.W.Frag) (d : Cn → Addr) (F : Fz) (H : Hp) : List V → List PV → Prop
  | nil : Rvs K d F H [] []
  | cons {v : V} {x : PV} {vs : List V} {xs : List PV} : Rv K d F H v x → Rvs K d F H vs xs → Rvs K d F H (v :: vs) (x :: xs)
inductive Rvf (K : PySem.W.Frag) (d : Cn → Addr) (F : Fz) (H : Hp) : List (Str × V) → List (Str × PV) → Prop
  | nil : Rvf K d F H [] []
  | cons {f : Str} {v : V} {x : PV} {vs : List (Str × V)} {xs : List (Str × PV)} : Rv K d F H v x → Rvf K d F H vs xs → Rvf K d F H ((f, v) :: vs) ((f, x) :: xs)
end
def isMu : HO → Bool
  | .lst _ => true
  | .dK _ => true
  | .dT _ => true
  | .tbl _ => true
  | _ => false
theorem tb_mu {o : HO} (h : isMu o = false) : isTb o = false := by cases o <;> first | rfl | cases h
def Xm (H H' : Hp) : Prop := ∀ a o, H a = some o → isMu o = false → H' a = some o
theorem Xm.refl (H : Hp) : Xm H H := fun _ _ h _ => h
theorem Xm.of {H H' : Hp} (e : Xn H H') : Xm H H' := fun a o h n => e.kp a o h (tb_mu n)
theorem tup_xm {K : PySem.W.Frag} {H H' : Hp} {a : Addr} {xs : List V} (e : Xm H H') (h : SqT K H a xs) : SqT K H' a xs := by
  rcases h with (h | ⟨o, h⟩) | h
  · exact .inl (.inl (e _ _ h rfl))
  · exact .inl (.inr ⟨o, e _ _ h rfl⟩)
  · exact .inr h
theorem bag_xm {H H' : Hp} {b : Addr} (e : Xm H H') (h : Bag H b) : Bag H' b :=
  let ⟨l, o, cs, h1, h2, h3, h4⟩ := h
  ⟨l, o, cs, e _ _ h1 rfl, e _ _ h2 rfl, h3, h4⟩
def Stb (F : Fz) (H H' : Hp) : Prop := ∀ a o, H a = some o → (isMu o = false ∨ (F a ∧ isTb o = false)) → H' a = some o
section
variable {K : PySem.W.Frag} {d : Cn → Addr} {F F' F1 F2 : Fz} {H H' H1 H2 H0 : Hp}
theorem Stb.xl (e : Stb F H H') : Xm H H' := fun a o h n => e a o h (.inl n)
theorem Stb.of (e : Xn H H') : Stb F H H' := fun a o h z => e.kp a o h (z.elim tb_mu fun q => q.2)
theorem Stb.refl : Stb F H H := fun _ _ h _ => h
theorem Stb.set {a : Addr} {vs : List V} {o : HO} (ha : H a = some (.lst vs)) (nf : ¬ F a) : Stb F H (upd H a o) := fun b q hb z => by
  have ne : b ≠ a := by
    rintro rfl
    rw [ha] at hb
    cases hb
    rcases z with z | z
    · cases z
    · exact nf z.1
  rw [upd_ne ne]
  exact hb
theorem ScrOk.mono {a : Addr} {xs : List V} (h : ScrOk K F H a xs) (e : Stb F H H') (f : ∀ a, F a → F' a) : ScrOk K F' H' a xs := by
  rcases h with ⟨h, q⟩ | ⟨o, h⟩ | h
  · exact .inl ⟨e _ _ h (.inr ⟨q, rfl⟩), f _ q⟩
  · exact .inr (.inl ⟨o, e _ _ h (.inl rfl)⟩)
  · exact .inr (.inr h)
mutual
theorem Rv.mono (e : Stb F H H') (f : ∀ a, F a → F' a) : ∀ {v : V} {x : PV}, Rv K d F H v x → Rv K d F' H' v x
  | _, _, .non => .non
  | _, _, .bl b => .bl b
  | _, _, .int i => .int i
  | _, _, .str x => .str x
  | _, _, .ty n => .ty n
  | _, _, .cls c => .cls c
  | _, _, .lst h1 h2 h3 => .lst (e _ _ h1 (.inr ⟨h2, rfl⟩)) (f _ h2) (Rvs.mono e f h3)
  | _, _, .tup h1 h2 => .tup (tup_xm e.xl h1) (Rvs.mono e f h2)
  | _, _, .ins h1 h2 => .ins (e _ _ h1 (.inl rfl)) (Rvf.mono e f h2)
  | _, _, .bag h => .bag (bag_xm e.xl h)
  | _, _, .scr h1 h2 => .scr (h1.mono e f) h2
  | _, _, .fnv h1 h2 => .fnv (e _ _ h1 (.inl rfl)) (Rvs.mono e f h2)
  | _, _, .dct h1 h2 => .dct (e _ _ h1 (.inr ⟨h2, rfl⟩)) (f _ h2)
  | _, _, .idv h => .idv (Rv.mono e f h)
theorem Rvs.mono (e : Stb F H H') (f : ∀ a, F a → F' a) : ∀ {vs : List V} {xs : List PV}, Rvs K d F H vs xs → Rvs K d F' H' vs xs
  | _, _, .nil => .nil
  | _, _, .cons a b => .cons (Rv.mono e f a) (Rvs.mono e f b)
theorem Rvf.mono (e : Stb F H H') (f : ∀ a, F a → F' a) : ∀ {vs : List (Str × V)} {xs : List (Str × PV)}, Rvf K d F H vs xs → Rvf K d F' H' vs xs
  | _, _, .nil => .nil
  | _, _, .cons a b => .cons (Rv.mono e f a) (Rvf.mono e f b)
end
theorem Rvs.length : ∀ {vs : List V} {xs : List PV}, Rvs K d F H vs xs → vs.length = xs.length
  | _, _, .nil => rfl
  | _, _, .cons _ b => by rw [List.length_cons, List.length_cons, b.length]
theorem Rvs.get : ∀ {vs : List V} {xs : List PV} {i : Nat} {x : PV}, Rvs K d F H vs xs → xs[i]? = some x → ∃ v, vs[i]? = some v ∧ Rv K d F H v x
  | _, _, _, _, .nil, h => by simp at h
  | _, _, 0, _, .cons a b, h => by simp at h; subst h; exact ⟨_, rfl, a⟩
  | _, _, i + 1, _, .cons a b, h => by
    obtain ⟨v, h1, h2⟩ := Rvs.get (i := i) b (by simpa using h)
    exact ⟨v, by simpa using h1, h2⟩
theorem Rvs.getV : ∀ {vs : List V} {xs : List PV} {i : Nat} {v : V}, Rvs K d F H vs xs → vs[i]? = some v → ∃ x, xs[i]? = some x ∧ Rv K d F H v x
  | _, _, _, _, .nil, h => by simp at h
  | _, _, 0, _, .cons a b, h => by simp at h; subst h; exact ⟨_, rfl, a⟩
  | _, _, i + 1, _, .cons a b, h => by
    obtain ⟨v, h1, h2⟩ := Rvs.getV (i := i) b (by simpa using h)
    exact ⟨v, by simpa using h1, h2⟩
theorem Rvs.append : ∀ {vs ws : List V} {xs ys : List PV}, Rvs K d F H vs xs → Rvs K d F H ws ys → Rvs K d F H (vs ++ ws) (xs ++ ys)
  | _, _, _, _, .nil, s => s
  | _, _, _, _, .cons a b, s => .cons a (b.append s)
theorem Rvs.take : ∀ {vs : List V} {xs : List PV} (n : Nat), Rvs K d F H vs xs → Rvs K d F H (vs.take n) (xs.take n)
  | _, _, 0, _ => .nil
  | _, _, _ + 1, .nil => .nil
  | _, _, n + 1, .cons a b => .cons a (b.take n)
theorem Rvs.drop : ∀ {vs : List V} {xs : List PV} (n : Nat), Rvs K d F H vs xs → Rvs K d F H (vs.drop n) (xs.drop n)
  | _, _, 0, r => r
  | _, _, _ + 1, .nil => .nil
  | _, _, n + 1, .cons _ b => b.drop n
theorem Rvs.set {x : PV} {v : V} (r : Rv K d F H v x) : ∀ {vs : List V} {xs : List PV} (i : Nat), Rvs K d F H vs xs → Rvs K d F H (vs.set i v) (xs.set i x)
  | _, _, _, .nil => .nil
  | _, _, 0, .cons _ b => .cons r b
  | _, _, i + 1, .cons a b => .cons a (b.set r i)
theorem Rvs.reverse : ∀ {vs : List V} {xs : List PV}, Rvs K d F H vs xs → Rvs K d F H vs.reverse xs.reverse
  | _, _, .nil => .nil
  | _, _, .cons a b => by
    rw [List.reverse_cons, List.reverse_cons]
    exact b.reverse.append (.cons a .nil)
theorem Rvs.flat {vs : List V} {xs : List PV} (r : Rvs K d F H vs xs) : ∀ n : Nat, Rvs K d F H (List.replicate n vs).flatten (List.replicate n xs).flatten
  | 0 => .nil
  | n + 1 => by
    rw [List.replicate_succ, List.replicate_succ, List.flatten_cons, List.flatten_cons]
    exact r.append (r.flat n)
def cutP (xs : List PV) (lo hi : Option Int) : List PV := (xs.drop (HT.sIx xs.length 0 lo)).take (HT.sIx xs.length xs.length hi - HT.sIx xs.length 0 lo)
theorem Rvs.ints : ∀ {vs : List V} {ns : List Int}, Rvs K d F H vs (ns.map PV.int) → vs = ns.map V.int
  | [], [], _ => rfl
  | [], _ :: _, h => by cases h
  | _ :: _, [], h => by cases h
  | v :: vs, n :: ns, .cons a b => by
    cases a
    rw [List.map_cons, b.ints]
theorem Rvs.of_ints : ∀ (ns : List Int), Rvs K d F H (ns.map V.int) (ns.map PV.int)
  | [] => .nil
  | n :: ns => .cons (.int n) (Rvs.of_ints ns)
theorem Rvs.bools : ∀ {vs : List V} {ns : List Bool}, Rvs K d F H vs (ns.map PV.bl) → vs = ns.map V.bl
  | [], [], _ => rfl
  | [], _ :: _, h => by cases h
  | _ :: _, [], h => by cases h
  | v :: vs, n :: ns, .cons a b => by
    cases a
    rw [List.map_cons, b.bools]
theorem Rvf.look : ∀ {gs : List (Str × V)} {fs : List (Str × PV)} {f : Str} {x : PV}, Rvf K d F H gs fs → fs.lookup f = some x → ∃ v, gs.lookup f = some v ∧ Rv K d F H v x
  | _, _, _, _, .nil, h => by simp at h
  | _, _, f, _, .cons (f := g) a b, h => by
    rw [List.lookup_cons] at h ⊢
    cases e : (f == g) with
    | true =>
      rw [e] at h
      simp at h
      subst h
      exact ⟨_, rfl, a⟩
    | false =>
      rw [e] at h
      exact b.look h
theorem Rvf.none : ∀ {gs : List (Str × V)} {fs : List (Str × PV)} {f : Str}, Rvf K d F H gs fs → fs.lookup f = none → gs.lookup f = none
  | _, _, _, .nil, _ => rfl
  | _, _, f, .cons (f := g) a b, h => by
    rw [List.lookup_cons] at h ⊢
    cases e : (f == g) with
    | true => rw [e] at h; simp at h
    | false =>
      rw [e] at h
      exact b.none h
theorem Rvf.length : ∀ {gs : List (Str × V)} {fs : List (Str × PV)}, Rvf K d F H gs fs → gs.length = fs.length
  | _, _, .nil => rfl
  | _, _, .cons _ b => by rw [List.length_cons, List.length_cons, b.length]
structure Dom (F : Fz) (H : Hp) : Prop where
  at_ : ∀ a, F a → H a ≠ none
  tb : TabsR H
theorem Dom.ex (h : Dom F H) (e : Ex H H') : Dom F H' := ⟨fun a f z => h.at_ a f (fresh_back e z), h.tb.ex e⟩
theorem Dom.set {p : Addr} {o : HO} {xs : List V} (h : Dom F H) (hp : H p = some (.lst xs)) : Dom F (upd H p o) := ⟨fun a f => upd_def (h.at_ a f), h.tb.mut hp rfl rfl⟩
theorem Dom.of (h : Dom F H) (q : ∀ a, F' a → H a ≠ none) : Dom F' H := ⟨q, h.tb⟩
structure Step (F : Fz) (H : Hp) (F' : Fz) (H' : Hp) : Prop where
  ex : Xn H H'
  up : ∀ a, F a → F' a
  nw : ∀ a, F' a → F a ∨ H a = none
  dm : Dom F' H'
theorem Step.trans (a : Step F H F1 H1) (b : Step F1 H1 F2 H2) : Step F H F2 H2 :=
  ⟨a.ex.trans b.ex, fun x h => b.up x (a.up x h), fun x h => (b.nw x h).elim (fun z => a.nw x z) fun z => .inr (back_x a.ex z), b.dm⟩
theorem Step.refl (h : Dom F H) : Step F H F H := ⟨Xn.refl H, fun _ h => h, fun _ h => .inl h, h⟩
theorem Step.to (h : Dom F H) (e : Ex H H') : Step F H F H' := ⟨.of e, fun _ h => h, fun _ h => .inl h, h.ex e⟩
structure Xt (H H' : Hp) : Prop where
  xn : Xn H H'
  tb : TabsR H'
theorem Xt.refl (h : Dom F H) : Xt H H := ⟨.refl H, h.tb⟩
theorem Xt.trans (a : Xt H H1) (b : Xt H1 H2) : Xt H H2 := ⟨a.xn.trans b.xn, b.tb⟩
theorem Step.xt (s : Step F H F' H') : Xt H H' := ⟨s.ex, s.dm.tb⟩
theorem Dom.xt (h : Dom F H) (e : Xt H H') : Dom F H' := ⟨fun a f => e.xn.dm a (h.at_ a f), e.tb⟩
theorem Step.tox (h : Dom F H) (e : Xt H H') : Step F H F H' := ⟨e.xn, fun _ h => h, fun _ h => .inl h, h.xt e⟩
theorem Rv.step {v : V} {x : PV} (s : Step F H F' H') (h : Rv K d F H v x) : Rv K d F' H' v x := h.mono (.of s.ex) s.up
theorem Rvs.step {v : List V} {x : List PV} (s : Step F H F' H') (h : Rvs K d F H v x) : Rvs K d F' H' v x := h.mono (.of s.ex) s.up
def plus (F : Fz) (p : Addr) : Fz := fun a => F a ∨ a = p
theorem Step.keep {p : Addr} (s : Step F H F' H') (n : H p = none) (h : H' p ≠ none) : Step F H (plus F' p) H' :=
  ⟨s.ex, fun a f => .inl (s.up a f), fun a f => f.elim (s.nw a) fun e => .inr (e ▸ n), s.dm.of fun a f => f.elim (s.dm.at_ a) fun e => e ▸ h⟩
theorem Step.new {p : Addr} {o : HO} (dm : Dom F H) (n : H p = none) : Step F H F (upd H p o) := Step.to dm (Ex.new n)
def notL : PV → Prop
  | .lst _ => False
  | _ => True
abbrev RR := Fz → Hp → Fz → Hp → V → PV → Prop
def rS (K : PySem.W.Frag) (d : Cn → Addr) : RR := fun _ _ F' H' v x => Rv K d F' H' v x
def rN (K : PySem.W.Frag) (d : Cn → Addr) : RR := fun _ H F' H' v x => (notL x ∧ Rv K d F' H' v x) ∨ ∃ p vs xs, v = .ref p ∧ x = .lst xs ∧ H p = none ∧ H' p = some (.lst vs) ∧ ¬ F' p ∧ Rvs K d F' H' vs xs
def Rw (K : PySem.W.Frag) (d : Cn → Addr) (F : Fz) (H : Hp) (v : V) (x : PV) : Prop := Rv K d F H v x ∨ ∃ p vs xs, v = .ref p ∧ x = .lst xs ∧ H p = some (.lst vs) ∧ Rvs K d F H vs xs
def rW (K : PySem.W.Frag) (d : Cn → Addr) : RR := fun _ _ F' H' v x => Rw K d F' H' v x
theorem Rw.dctE {v : V} {a : Addr} {kvs : List (Key × Int)} (h : Rw K d F H v (.dct a kvs)) : v = .ref a ∧ H a = some (.dK (dkV kvs)) ∧ F a := by
  rcases h with h | ⟨_, _, _, _, e, _⟩
  · cases h with
    | dct h1 h2 => exact ⟨rfl, h1, h2⟩
  · cases e
theorem Rw.idvE {v : V} {a : Addr} {x : PV} (h : Rw K d F H v (.idv a x)) : v = .ref a ∧ Rv K d F H (.ref a) x := by
  rcases h with h | ⟨_, _, _, _, e, _⟩
  · cases h with
    | idv h => exact ⟨rfl, h⟩
  · cases e
theorem Rw.step {v : V} {x : PV} (s : Step F H F' H') (h : Rw K d F H v x) : Rw K d F' H' v x := by
  rcases h with h | ⟨p, vs, xs, rfl, rfl, h1, h2⟩
  · exact .inl (h.step s)
  · exact .inr ⟨p, vs, xs, rfl, rfl, s.ex.at h1, h2.step s⟩
theorem Rw.lst {v : V} {xs : List PV} (h : Rw K d F H v (.lst xs)) : ∃ p vs, v = .ref p ∧ H p = some (.lst vs) ∧ Rvs K d F H vs xs := by
  rcases h with h | ⟨p, vs, ys, rfl, e, h1, h2⟩
  · cases h with
    | lst h1 h2 h3 => exact ⟨_, _, rfl, h1, h3⟩
  · cases e
    exact ⟨p, vs, rfl, h1, h2⟩
theorem Rw.of {v : V} {x : PV} (h : Rw K d F H v x) (n : notL x) : Rv K d F H v x := by
  rcases h with h | ⟨p, vs, ys, rfl, rfl, h1, h2⟩
  · exact h
  · exact n.elim
theorem Rv.tupE {v : V} {xs : List PV} (h : Rv K d F H v (.tup xs)) : ∃ p vs, v = .ref p ∧ SqT K H p vs ∧ Rvs K d F H vs xs := by
  cases h with
  | tup h1 h2 => exact ⟨_, _, rfl, h1, h2⟩
theorem Rv.insE {v : V} {c : Cn} {fs : List (Str × PV)} (h : Rv K d F H v (.ins c fs)) : ∃ p dx gs, v = .ref p ∧ H p = some (.ins (d c) dx gs) ∧ Rvf K d F H gs fs := by
  cases h with
  | ins h1 h2 => exact ⟨_, _, _, rfl, h1, h2⟩
structure ROk (R : RR) : Prop where
  back : ∀ {F H F1 H1 F2 H2 v x}, Step F H F1 H1 → R F1 H1 F2 H2 v x → R F H F2 H2 v x
theorem okS : ROk (rS K d) := ⟨fun _ h => h⟩
theorem okN : ROk (rN K d) := ⟨fun s h => by
  rcases h with h | ⟨p, vs, xs, h1, h2, h3, h4⟩
  · exact .inl h
  · exact .inr ⟨p, vs, xs, h1, h2, back_x s.ex h3, h4⟩⟩
theorem rN_S {v : V} {x : PV} (s : Step F H F' H') (h : rN K d F H F' H' v x) : ∃ F2, Step F H F2 H' ∧ Rv K d F2 H' v x := by
  rcases h with h | ⟨p, vs, xs, rfl, rfl, h1, h2, h3, h4⟩
  · exact ⟨F', s, h.2⟩
  · exact ⟨plus F' p, s.keep h1 (by rw [h2]; intro z; cases z), .lst h2 (.inr rfl) (h4.mono .refl fun a z => .inl z)⟩
theorem rN_W {v : V} {x : PV} (h : rN K d F H F' H' v x) : Rw K d F' H' v x := by
  rcases h with h | ⟨p, vs, xs, rfl, rfl, h1, h2, h3, h4⟩
  · exact .inl h.2
  · exact .inr ⟨p, vs, xs, rfl, rfl, h2, h4⟩
inductive Tag where
  | sh | ow | no | od | ex
  deriving DecidableEq
class XC where
  h : Fz → Hp → Prop
  a : Addr
  o : Option Addr
  fs : List (Str × PV)
  nw : Bool
def XdN (H0 : Hp) (gs : List (Str × V)) (fs : List (Str × PV)) : Prop := ∀ (k : Nat) (f : Str) (v : V) (ys : List PV), gs[k]? = some (f, v) → fs[k]? = some (f, .lst ys) → ∃ p, v = .ref p ∧ H0 p = none
def Exv [X : XC] (K : PySem.W.Frag) (d : Cn → Addr) (ts : List Tag) (H0 : Hp) (F : Fz) (H : Hp) (σ : L2.St) : Prop := ∀ i : Nat, ts[i]? = some .ex → σ[i]? = some (some (.ref X.a)) ∧ ∀ dd, X.o = some dd → ∃ gs, H dd = some (.xd gs) ∧ Rvf K d F H gs X.fs ∧ (X.nw = true → XdN H0 gs X.fs)
theorem Exv.mono [X : XC] {ts : List Tag} {σ : L2.St} (e : Stb F H H') (f : ∀ a, F a → F' a) (h : Exv K d ts H0 F H σ) : Exv K d ts H0 F' H' σ := fun i hi => by
  obtain ⟨h1, h2⟩ := h i hi
  refine ⟨h1, fun dd hd => ?_⟩
  obtain ⟨gs, g1, g2, g3⟩ := h2 dd hd
  exact ⟨gs, e _ _ g1 (.inl rfl), g2.mono e f, g3⟩
theorem Exv.set [X : XC] {ts : List Tag} {σ : L2.St} {i : Nat} {t : Tag} {v : Option V} (ht : t ≠ .ex) (h : Exv K d ts H0 F H σ) : Exv K d (ts.set i t) H0 F H (σ.set i v) := fun j hj => by
  rw [List.getElem?_set] at hj
  split at hj
  · split at hj
    · cases hj
      exact absurd rfl ht
    · cases hj
  · next e =>
    rw [List.getElem?_set_ne e]
    exact h j hj
def Dpl (H : Hp) (σ : L2.St) (i : Nat) (a : Addr) : Prop := ∃ (c : Addr) (ws : List V), σ[i]? = some (some (.ref c)) ∧ H c = some (.lst ws) ∧ (a = c ∨ V.ref a ∈ ws)
def Sc (K : PySem.W.Frag) (d : Cn → Addr) (w : V) (z : PV) : Prop := (∀ a, w ≠ .ref a) ∧ ∀ F H, Rv K d F H w z
def OdI (K : PySem.W.Frag) (d : Cn → Addr) (H0 : Hp) (F : Fz) (H : Hp) (w : V) (z : PV) : Prop := (∃ (b : Addr) (us : List V) (ys : List PV), w = .ref b ∧ z = .lst ys ∧ H b = some (.lst us) ∧ ¬ F b ∧ H0 b = none ∧ Rvs K d F H us ys) ∨ Sc K d w z
def Uq (ws : List V) : Prop := ∀ (k l : Nat) (a : Addr), ws[k]? = some (.ref a) → ws[l]? = some (.ref a) → k = l
def OdL (K : PySem.W.Frag) (d : Cn → Addr) (H0 : Hp) (F : Fz) (H : Hp) (v : V) (x : PV) : Prop := ∃ (c : Addr) (ws : List V) (zs : List PV), v = .ref c ∧ x = .lst zs ∧ H c = some (.lst ws) ∧ ¬ F c ∧ H0 c = none ∧ V.ref c ∉ ws ∧ Uq ws ∧ ws.length = zs.length ∧
  ∀ (k : Nat) (w : V) (z : PV), ws[k]? = some w → zs[k]? = some z → OdI K d H0 F H w z
structure EnvR [X : XC] (K : PySem.W.Frag) (d : Cn → Addr) (ts : List Tag) (H0 : Hp) (F0 F : Fz) (H : Hp) (σ : L2.St) (ρ : List PV) : Prop where
  st : Step F0 H0 F H
  ls : σ.length = ts.length
  lr : ρ.length = ts.length
  sh : ∀ i : Nat, ts[i]? = some .sh → ∃ v x, σ[i]? = some (some v) ∧ ρ[i]? = some x ∧ Rv K d F H v x
  ow : ∀ i : Nat, ts[i]? = some .ow → ∃ a vs xs, σ[i]? = some (some (.ref a)) ∧ ρ[i]? = some (.lst xs) ∧ H a = some (.lst vs) ∧ ¬ F a ∧ H0 a = none ∧ Rvs K d F H vs xs
  ap : ∀ (i j : Nat) (a : Addr), ts[i]? = some .ow → ts[j]? = some .ow → σ[i]? = some (some (.ref a)) → σ[j]? = some (some (.ref a)) → i = j
  od : ∀ i : Nat, ts[i]? = some .od → ∃ v x, σ[i]? = some (some v) ∧ ρ[i]? = some x ∧ OdL K d H0 F H v x
  ad : ∀ (i : Nat) (a : Addr), ts[i]? = some .od → Dpl H σ i a → (∀ j : Nat, ts[j]? = some .ow → σ[j]? ≠ some (some (.ref a))) ∧ ∀ j : Nat, ts[j]? = some .od → Dpl H σ j a → i = j
  xc : X.h F0 H0
  ex : Exv K d ts H0 F H σ
variable [X : XC]
variable {ts ts' : List Tag} {F0 : Fz} {σ : L2.St} {ρ : List PV}
theorem EnvR.dm (E : EnvR K d ts H0 F0 F H σ ρ) : Dom F H := E.st.dm
theorem OdL.to {d : Cn → Addr} {H0 : Hp} {x : PV} (h : OdL K d H0 F H v x) (ex : Xn H H') (nw : ∀ a, F' a → F a ∨ H a = none) (m : ∀ {us : List V} {ys : List PV}, Rvs K d F H us ys → Rvs K d F' H' us ys) : OdL K d H0 F' H' v x := by
  obtain ⟨c, bs, yss, h1, h2, h3, h4, h5, h6, h7, h8, h9⟩ := h
  have nf : ∀ {a : Addr} {o : HO}, H a = some o → ¬ F a → ¬ F' a := fun {a o} q n z => (nw a z).elim n fun e => by rw [q] at e; cases e
  refine ⟨c, bs, yss, h1, h2, ex.at h3, nf h3 h4, h5, h6, h7, h8, fun k w z k1 k2 => ?_⟩
  rcases h9 k w z k1 k2 with ⟨b, us, ys, e1, e2, u1, u2, u3, u4⟩ | s
  · exact .inl ⟨b, us, ys, e1, e2, ex.at u1, nf u1 u2, u3, m u4⟩
  · exact .inr s
theorem OdL.have_ {d : Cn → Addr} {H0 : Hp} {x : PV} (h : OdL K d H0 F H v x) {σ : L2.St} {i : Nat} (hs : σ[i]? = some (some v)) {a : Addr} (q : Dpl H σ i a) : H a ≠ none ∧ ¬ F a ∧ H0 a = none ∧ ∃ (c : Addr) (ws : List V), v = .ref c ∧ H c = some (.lst ws) ∧ (a = c ∨ V.ref a ∈ ws) := by
  obtain ⟨c, bs, yss, rfl, h2, h3, h4, h5, h6, h7, h8, h9⟩ := h
  obtain ⟨c', bs', q1, q2, q3⟩ := q
  rw [hs] at q1
  cases q1
  rw [h3] at q2
  cases q2
  have it : V.ref a ∈ bs → ∃ us, H a = some (.lst us) ∧ ¬ F a ∧ H0 a = none := fun q3 => by
    obtain ⟨k, hk, e⟩ := List.mem_iff_getElem.mp q3
    rcases h9 k (.ref a) _ (by rw [List.getElem?_eq_getElem hk, e]) (List.getElem?_eq_getElem (by omega)) with ⟨b, us, ys, e1, e2, u1, u2, u3, u4⟩ | s
    · cases e1
      exact ⟨us, u1, u2, u3⟩
    · exact absurd rfl (s.1 a)
  refine ⟨?_, ?_, ?_, c, bs, rfl, h3, q3⟩ <;> rcases q3 with rfl | q3
  · rw [h3]; intro z; cases z
  · obtain ⟨us, u1, _⟩ := it q3
    rw [u1]; intro z; cases z
  · exact h4
  · exact (it q3).choose_spec.2.1
  · exact h5
  · exact (it q3).choose_spec.2.2
theorem EnvR.back (E : EnvR K d ts H0 F0 F H σ ρ) (ex : Xn H H') {i : Nat} {a : Addr} (h : ts[i]? = some .od) (q : Dpl H' σ i a) : Dpl H σ i a := by
  obtain ⟨v, x, h1, h2, h3⟩ := E.od i h
  obtain ⟨c, bs, yss, rfl, _, g, _⟩ := h3
  obtain ⟨c', bs', q1, q2, q3⟩ := q
  rw [h1] at q1
  cases q1
  refine ⟨c, bs', h1, ?_, q3⟩
  rw [ex.at g] at q2
  rw [g, q2]
theorem EnvR.step (E : EnvR K d ts H0 F0 F H σ ρ) (s : Step F H F' H') : EnvR K d ts H0 F0 F' H' σ ρ where
  st := E.st.trans s
  ls := E.ls
  lr := E.lr
  sh := fun i h => let ⟨v, x, h1, h2, h3⟩ := E.sh i h; ⟨v, x, h1, h2, h3.step s⟩
  ow := fun i h => by
    obtain ⟨a, vs, xs, h1, h2, h3, h4, h5, h6⟩ := E.ow i h
    refine ⟨a, vs, xs, h1, h2, s.ex.at h3, fun z => ?_, h5, h6.step s⟩
    rcases s.nw a z with z | z
    · exact h4 z
    · rw [h3] at z
      cases z
  ap := E.ap
  od := fun i h => let ⟨v, x, h1, h2, h3⟩ := E.od i h; ⟨v, x, h1, h2, h3.to s.ex (fun a z => s.nw a z) fun r => r.step s⟩
  ad := fun i a h q => by
    obtain ⟨q1, q2⟩ := E.ad i a h (E.back s.ex h q)
    exact ⟨q1, fun j hj z => q2 j hj (E.back s.ex hj z)⟩
  xc := E.xc
  ex := E.ex.mono (.of s.ex) s.up
def shr (ts : List Tag) : List Tag := ts.map fun t => match t with | .ow => .sh | .od => .sh | t => t
def cv1 : Tag → Tag → Bool
  | _, .no => true
  | .sh, .sh => true
  | .ow, .sh => true
  | .ow, .ow => true
  | .od, .od => true
  | .od, .sh => true
  | .ex, .ex => true
  | _, _ => false
def cv : List Tag → List Tag → Bool
  | [], [] => true
  | a :: as, b :: bs => cv1 a b && cv as bs
  | _, _ => false
theorem cv_get : ∀ {as bs : List Tag}, cv as bs = true → as.length = bs.length ∧ ∀ (i : Nat) (b : Tag), bs[i]? = some b → ∃ a, as[i]? = some a ∧ cv1 a b = true
  | [], [], _ => ⟨rfl, fun i b h => by simp at h⟩
  | [], _ :: _, h => by cases h
  | _ :: _, [], h => by cases h
  | a :: as, b :: bs, h => by
    have h1 : (cv1 a b && cv as bs) = true := h
    rw [Bool.and_eq_true] at h1
    obtain ⟨l, g⟩ := cv_get h1.2
    refine ⟨by rw [List.length_cons, List.length_cons, l], fun i c hc => ?_⟩
    cases i with
    | zero =>
      simp at hc
      subst hc
      exact ⟨a, rfl, h1.1⟩
    | succ i =>
      obtain ⟨x, hx, q⟩ := g i c (by simpa using hc)
      exact ⟨x, by simpa using hx, q⟩
theorem cv_shr : ∀ ts : List Tag, cv ts (shr ts) = true
  | [] => rfl
  | a :: as => by
    show (cv1 a _ && cv as (shr as)) = true
    rw [cv_shr as]
    cases a <;> rfl
theorem EnvR.conv (E : EnvR K d ts H0 F0 F H σ ρ) (c : cv ts ts' = true) : ∃ F', (∀ a, F a → F' a) ∧ EnvR K d ts' H0 F0 F' H σ ρ := by
  obtain ⟨cl, cg⟩ := cv_get c
  let F' : Fz := fun a => F a ∨ (∃ i : Nat, ts[i]? = some .ow ∧ ts'[i]? = some .sh ∧ σ[i]? = some (some (.ref a))) ∨ ∃ i : Nat, ts[i]? = some .od ∧ ts'[i]? = some .sh ∧ Dpl H σ i a
  have up : ∀ a, F a → F' a := fun a h => .inl h
  have nwo : ∀ a, F' a → F a ∨ (H0 a = none ∧ H a ≠ none) := fun a h => h.elim .inl fun h => h.elim (fun ⟨i, h1, _, h2⟩ => by
    obtain ⟨b, vs, xs, g1, g2, g3, g4, g5, g6⟩ := E.ow i h1
    rw [h2] at g1
    cases g1
    exact .inr ⟨g5, by rw [g3]; intro z; cases z⟩) fun ⟨i, h1, _, h2⟩ => by
    obtain ⟨v, x, g1, g2, g3⟩ := E.od i h1
    obtain ⟨k1, k2, k3, _⟩ := g3.have_ g1 h2
    exact .inr ⟨k3, k1⟩
  have oo : ∀ k : Nat, ts'[k]? = some .ow → ts[k]? = some .ow := fun k hk => by
    obtain ⟨t, ht, q⟩ := cg k _ hk
    cases t with
    | ow => exact ht
    | sh => cases q
    | no => cases q
    | od => cases q
    | ex => cases q
  have dd : ∀ k : Nat, ts'[k]? = some .od → ts[k]? = some .od := fun k hk => by
    obtain ⟨t, ht, q⟩ := cg k _ hk
    cases t with
    | ow => cases q
    | sh => cases q
    | no => cases q
    | od => exact ht
    | ex => cases q
  refine ⟨F', up, ⟨⟨E.st.ex, fun a h => up a (E.st.up a h), fun a h => (nwo a h).elim (E.st.nw a) fun z => .inr z.1, E.dm.of fun a h => (nwo a h).elim (E.dm.at_ a) fun z => z.2⟩, by rw [E.ls, cl], by rw [E.lr, cl], fun i h => ?_, fun i h => ?_, fun i j a h1 h2 h3 h4 => ?_, fun i h => ?_, fun i a h q => ?_, E.xc, fun i h => ?_⟩⟩
  rotate_right
  · obtain ⟨t, ht, q⟩ := cg i _ h
    cases t with
    | ex => exact E.ex.mono .refl up i ht
    | sh => cases q
    | ow => cases q
    | no => cases q
    | od => cases q
  · obtain ⟨t, ht, q⟩ := cg i _ h
    cases t with
    | sh =>
      obtain ⟨v, x, h1, h2, h3⟩ := E.sh i ht
      exact ⟨v, x, h1, h2, h3.mono .refl up⟩
    | ow =>
      obtain ⟨a, vs, xs, h1, h2, h3, h4, h5, h6⟩ := E.ow i ht
      exact ⟨_, _, h1, h2, .lst h3 (.inr (.inl ⟨i, ht, h, h1⟩)) (h6.mono .refl up)⟩
    | no => cases q
    | ex => cases q
    | od =>
      obtain ⟨v, x, h1, h2, h3⟩ := E.od i ht
      obtain ⟨c, bs, yss, rfl, rfl, h4, h5, h6, h7, h8, h9, h10⟩ := h3
      refine ⟨_, _, h1, h2, .lst h4 (.inr (.inr ⟨i, ht, h, c, bs, h1, h4, .inl rfl⟩)) ?_⟩
      have all : ∀ (bs2 : List V) (yss2 : List PV), bs2.length = yss2.length → (∀ b ∈ bs2, b ∈ bs) → (∀ (k : Nat) (w : V) (z : PV), bs2[k]? = some w → yss2[k]? = some z → OdI K d H0 F H w z) → Rvs K d F' H bs2 yss2 := by
        intro bs2
        induction bs2 with
        | nil => intro yss2 e _ _; cases yss2 with
          | nil => exact .nil
          | cons => cases e
        | cons b bs2 ih => intro yss2 e m q; cases yss2 with
          | nil => cases e
          | cons ys yss2 =>
            refine .cons ?_ (ih yss2 (by simpa using e) (fun b' hb => m b' (List.mem_cons_of_mem _ hb)) fun k b' ys' k1 k2 => q (k + 1) b' ys' k1 k2)
            rcases q 0 b ys rfl rfl with ⟨p, us, zs, rfl, rfl, u1, u2, u3, u4⟩ | s
            · exact .lst u1 (.inr (.inr ⟨i, ht, h, c, bs, h1, h4, .inr (m _ List.mem_cons_self)⟩)) (u4.mono .refl up)
            · exact s.2 _ _
      exact all bs yss h9 (fun _ h => h) h10
  · have ht := oo i h
    obtain ⟨a, vs, xs, h1, h2, h3, h4, h5, h6⟩ := E.ow i ht
    refine ⟨a, vs, xs, h1, h2, h3, fun z => ?_, h5, h6.mono .refl up⟩
    rcases z with z | ⟨j, g1, g2, g3⟩ | ⟨j, g1, g2, g3⟩
    · exact h4 z
    · have := E.ap i j a ht g1 h1 g3
      subst this
      rw [h] at g2
      cases g2
    · exact (E.ad j a g1 g3).1 i ht h1
  · exact E.ap i j a (oo i h1) (oo j h2) h3 h4
  · have ht := dd i h
    obtain ⟨v, x, h1, h2, h3⟩ := E.od i ht
    have nf : ∀ a, Dpl H σ i a → ¬ F' a := fun a q z => by
      rcases z with z | ⟨j, g1, g2, g3⟩ | ⟨j, g1, g2, g3⟩
      · exact (h3.have_ h1 q).2.1 z
      · exact (E.ad i a ht q).1 j g1 g3
      · have := (E.ad i a ht q).2 j g1 g3
        subst this
        rw [h] at g2
        cases g2
    obtain ⟨c, bs, yss, rfl, rfl, h4, h5, h6, h7, h8, h9, h10⟩ := h3
    refine ⟨_, _, h1, h2, c, bs, yss, rfl, rfl, h4, nf c ⟨c, bs, h1, h4, .inl rfl⟩, h6, h7, h8, h9, fun k w z k1 k2 => ?_⟩
    rcases h10 k w z k1 k2 with ⟨b, us, ys, rfl, rfl, u1, u2, u3, u4⟩ | s
    · exact .inl ⟨b, us, ys, rfl, rfl, u1, nf b ⟨c, bs, h1, h4, .inr (List.mem_of_getElem? k1)⟩, u3, u4.mono .refl up⟩
    · exact .inr s
  · obtain ⟨q1, q2⟩ := E.ad i a (dd i h) q
    exact ⟨fun j hj => q1 j (oo j hj), fun j hj z => q2 j (dd j hj) z⟩
end
end Wx
namespace Wx
open PySem PySem.Spec PyProof.Rows L2 Evl Hn
variable [TabC]
abbrev WE := List PV → (PV → Prop) → Prop
abbrev WT := List PV → (Bool → Prop) → Prop
abbrev WA := List PV → (List PV → Prop) → Prop
abbrev W1 := PV → (PV → Prop) → Prop
abbrev W2 := PV → PV → (PV → Prop) → Prop
abbrev WC := List PV → (PV → Prop) → Prop
section
variable [XC]
variable (K : PySem.W.Frag) (d : Cn → Addr)
def Sim (R : RR) (ts : List Tag) (te : TE) (we : WE) : Prop := ∀ (H0 : Hp) (F0 F : Fz) (H : Hp) (σ : L2.St) (ρ : List PV) (Q : VK) (P : PV → Prop), EnvR K d ts H0 F0 F H σ ρ → we ρ P →
  (∀ x v F' H', Step F H F' H' → R F H F' H' v x → P x → Q v H') → te σ H Q
def SimT (ts : List Tag) (tt : TT) (wt : WT) : Prop := ∀ (H0 : Hp) (F0 F : Fz) (H : Hp) (σ : L2.St) (ρ : List PV) (Q : Bool → Hp → Prop) (P : Bool → Prop), EnvR K d ts H0 F0 F H σ ρ → wt ρ P →
  (∀ b H', Xt H H' → P b → Q b H') → tt σ H Q
def SimA (ts : List Tag) (ta : TA) (wa : WA) : Prop := ∀ (H0 : Hp) (F0 F : Fz) (H : Hp) (σ : L2.St) (ρ : List PV) (Q : List V → Hp → Prop) (P : List PV → Prop), EnvR K d ts H0 F0 F H σ ρ → wa ρ P →
  (∀ xs vs F' H', Step F H F' H' → Rvs K d F' H' vs xs → P xs → Q vs H') → ta σ H Q
inductive Rws (F : Fz) (H : Hp) : List V → List PV → Prop
  | nil : Rws F H [] []
  | cons {v : V} {x : PV} {vs : List V} {xs : List PV} : Rw K d F H v x → Rws F H vs xs → Rws F H (v :: vs) (x :: xs)
def SimAW (ts : List Tag) (ta : TA) (wa : WA) : Prop := ∀ (H0 : Hp) (F0 F : Fz) (H : Hp) (σ : L2.St) (ρ : List PV) (Q : List V → Hp → Prop) (P : List PV → Prop), EnvR K d ts H0 F0 F H σ ρ → wa ρ P →
  (∀ xs vs F' H', Step F H F' H' → Rws K d F' H' vs xs → P xs → Q vs H') → ta σ H Q
def OpS (R : RR) (r : R2) (w : W2) : Prop := ∀ (F : Fz) (H : Hp) (v u : V) (x y : PV) (Q : VK) (P : PV → Prop), Dom F H → Rw K d F H v x → Rw K d F H u y → w x y P →
  (∀ z v' F' H', Step F H F' H' → R F H F' H' v' z → P z → Q v' H') → r v u H Q
def UnS (r : V → Hp → VK → Prop) (w : W1) : Prop := ∀ (F : Fz) (H : Hp) (v : V) (x : PV) (Q : VK) (P : PV → Prop), Dom F H → Rw K d F H v x → w x P →
  (∀ z v' F' H', Step F H F' H' → rN K d F H F' H' v' z → P z → Q v' H') → r v H Q
def CaS (R : RR) (r : List V → Hp → VK → Prop) (w : WC) : Prop := ∀ (F : Fz) (H : Hp) (vs : List V) (xs : List PV) (Q : VK) (P : PV → Prop), Dom F H → Rws K d F H vs xs → w xs P →
  (∀ z v' F' H', Step F H F' H' → R F H F' H' v' z → P z → Q v' H') → r vs H Q
def SlS (r : V → Option Int → Option Int → Hp → VK → Prop) (w : PV → Option Int → Option Int → (PV → Prop) → Prop) : Prop := ∀ (F : Fz) (H : Hp) (v : V) (lo hi : Option Int) (x : PV) (Q : VK) (P : PV → Prop), Dom F H → Rw K d F H v x → w x lo hi P →
  (∀ z v' F' H', Step F H F' H' → rN K d F H F' H' v' z → P z → Q v' H') → r v lo hi H Q
end
section
variable [XC]
variable {K : PySem.W.Frag} {d : Cn → Addr} {F F' F0 : Fz} {H H' H0 : Hp} {v u : V} {ts : List Tag} {R : RR} {te ta tb tc : TE} {we wa wb wc : WE}
theorem Rw.intE {a : Int} (h : Rw K d F H v (.int a)) : v = .int a := by cases h.of trivial; rfl
theorem Rw.blE {a : Bool} (h : Rw K d F H v (.bl a)) : v = .bl a := by cases h.of trivial; rfl
theorem Rw.strE {a : Str} (h : Rw K d F H v (.str a)) : v = .str a := by cases h.of trivial; rfl
theorem Rw.tyE {a : String} (h : Rw K d F H v (.ty a)) : v = .ty a := by cases h.of trivial; rfl
theorem Rw.nonE (h : Rw K d F H v .non) : v = .non := by cases h.of trivial; rfl
theorem Rw.tupE {xs : List PV} (h : Rw K d F H v (.tup xs)) : ∃ p vs, v = .ref p ∧ SqT K H p vs ∧ Rvs K d F H vs xs := (h.of trivial).tupE
theorem Rw.insE {c : Cn} {fs : List (Str × PV)} (h : Rw K d F H v (.ins c fs)) : ∃ p dx gs, v = .ref p ∧ H p = some (.ins (d c) dx gs) ∧ Rvf K d F H gs fs := (h.of trivial).insE
theorem Rws.one {vs : List V} {x : PV} (h : Rws K d F H vs [x]) : ∃ v, vs = [v] ∧ Rw K d F H v x := by
  cases h with
  | cons a b => cases b; exact ⟨_, rfl, a⟩
theorem Rws.two {vs : List V} {x y : PV} (h : Rws K d F H vs [x, y]) : ∃ v u, vs = [v, u] ∧ Rw K d F H v x ∧ Rw K d F H u y := by
  cases h with
  | cons a b =>
    obtain ⟨u, rfl, q⟩ := b.one
    exact ⟨_, u, rfl, a, q⟩
theorem fin_val {x : PV} {Q : VK} {P : PV → Prop} (dm : Dom F H) (r : Rv K d F H v x) (p : P x) (k : ∀ z v' F' H', Step F H F' H' → rN K d F H F' H' v' z → P z → Q v' H') (n : notL x := by exact trivial) : Q v H :=
  k x v F H (Step.refl dm) (.inl ⟨n, r⟩) p
theorem fin_lst {p : Addr} {vs : List V} {xs : List PV} {Q : VK} {P : PV → Prop} (dm : Dom F H) (n : H p = none) (r : Rvs K d F H vs xs) (pp : P (.lst xs)) (k : ∀ z v' F' H', Step F H F' H' → rN K d F H F' H' v' z → P z → Q v' H') : Q (.ref p) (upd H p (.lst vs)) :=
  k (.lst xs) _ F _ (Step.new dm n) (.inr ⟨p, vs, xs, rfl, rfl, n, upd_same, fun f => dm.at_ p f n, r.mono (.of (Xn.new n)) fun _ h => h⟩) pp
theorem fin_tup {p : Addr} {vs : List V} {xs : List PV} {Q : VK} {P : PV → Prop} (dm : Dom F H) (n : H p = none) (r : Rvs K d F H vs xs) (pp : P (.tup xs)) (k : ∀ z v' F' H', Step F H F' H' → rN K d F H F' H' v' z → P z → Q v' H') : Q (.ref p) (upd H p (.tup vs)) :=
  k (.tup xs) _ F _ (Step.new dm n) (.inl ⟨(trivial : notL (.tup xs)), .tup (.inl (.inl upd_same)) (r.mono (.of (Xn.new n)) fun _ h => h)⟩) pp
theorem sim_NS (h : Sim K d (rN K d) ts te we) : Sim K d (rS K d) ts te we := fun H0 F0 F H σ ρ Q P E hw k => h H0 F0 F H σ ρ Q P E hw fun x v F' H' s r p => by
  obtain ⟨F2, s2, r2⟩ := rN_S s r
  exact k x v F2 H' s2 r2 p
theorem sim_SW (h : Sim K d (rS K d) ts te we) : Sim K d (rW K d) ts te we := fun H0 F0 F H σ ρ Q P E hw k => h H0 F0 F H σ ρ Q P E hw fun x v F' H' s r p => k x v F' H' s (.inl r) p
theorem sim_NW (h : Sim K d (rN K d) ts te we) : Sim K d (rW K d) ts te we := fun H0 F0 F H σ ρ Q P E hw k => h H0 F0 F H σ ρ Q P E hw fun x v F' H' s r p => k x v F' H' s (rN_W r) p
def wNL (we : WE) : WE := fun ρ P => we ρ fun x => notL x ∧ P x
theorem sim_SN (h : Sim K d (rS K d) ts te we) : Sim K d (rN K d) ts te (wNL we) := fun H0 F0 F H σ ρ Q P E hw k => h H0 F0 F H σ ρ Q _ E hw fun x v F' H' s r p => k x v F' H' s (.inl ⟨p.1, r⟩) p.2
def scalP : PV → Prop
  | .non => True
  | .bl _ => True
  | .int _ => True
  | .str _ => True
  | .ty _ => True
  | _ => False
def wScal (we : WE) : WE := fun ρ P => we ρ fun x => scalP x ∧ P x
def wVar (i : Nat) : WE := fun ρ P => P (ρ.getD i .non)
theorem getD_of {ρ : List PV} {i : Nat} {x : PV} (h : ρ[i]? = some x) : ρ.getD i .non = x := by rw [List.getD_eq_getElem?_getD, h]; rfl
theorem sim_var {i : Nat} (h : ts[i]? = some .sh) : Sim K d (rS K d) ts (tVar i) (wVar i) := fun H0 F0 F H σ ρ Q P E hw k => by
  obtain ⟨v, x, h1, h2, h3⟩ := E.sh i h
  have hw' : P (ρ.getD i .non) := hw
  rw [getD_of h2] at hw'
  exact ⟨v, h1, k x v F H (Step.refl E.dm) h3 hw'⟩
theorem sim_varO {i : Nat} (h : ts[i]? = some .ow) : Sim K d (rW K d) ts (tVar i) (wVar i) := fun H0 F0 F H σ ρ Q P E hw k => by
  obtain ⟨a, vs, xs, h1, h2, h3, h4, h5, h6⟩ := E.ow i h
  have hw' : P (ρ.getD i .non) := hw
  rw [getD_of h2] at hw'
  exact ⟨_, h1, k _ _ F H (Step.refl E.dm) (.inr ⟨a, vs, xs, rfl, rfl, h3, h6⟩) hw'⟩
def wC (x : PV) : WE := fun _ P => P x
theorem sim_int {i : Int} : Sim K d (rN K d) ts (tC (.int i)) (wC (.int i)) := fun H0 F0 F H σ ρ Q P E hw k => fin_val E.dm (.int i) hw k
theorem sim_bl {i : Bool} : Sim K d (rN K d) ts (tC (.bl i)) (wC (.bl i)) := fun H0 F0 F H σ ρ Q P E hw k => fin_val E.dm (.bl i) hw k
theorem sim_str {i : Str} : Sim K d (rN K d) ts (tC (.str i)) (wC (.str i)) := fun H0 F0 F H σ ρ Q P E hw k => fin_val E.dm (.str i) hw k
theorem sim_non : Sim K d (rN K d) ts (tC .non) (wC .non) := fun H0 F0 F H σ ρ Q P E hw k => fin_val E.dm .non hw k
theorem sim_ty {n : String} : Sim K d (rN K d) ts (tC (.ty n)) (wC (.ty n)) := fun H0 F0 F H σ ρ Q P E hw k => fin_val E.dm (.ty n) hw k
theorem sim_cls {a : Addr} (c : Cn) (e : d c = a := by rfl) : Sim K d (rN K d) ts (tC (.ref a)) (wC (.cls c)) := fun H0 F0 F H σ ρ Q P E hw k => by
  subst e
  exact fin_val E.dm (.cls c) hw k
def wOp (w : W2) (wa wb : WE) : WE := fun ρ P => wa ρ fun x => wb ρ fun y => w x y P
theorem sim_op {r : R2} {w : W2} (o : ROk R) (hr : OpS K d R r w) (ha : Sim K d (rW K d) ts ta wa) (hb : Sim K d (rW K d) ts tb wb) : Sim K d R ts (tOp r ta tb) (wOp w wa wb) := fun H0 F0 F H σ ρ Q P E hw k =>
  ha H0 F0 F H σ ρ _ _ E hw fun x v F1 H1 s1 r1 h1 => hb H0 F0 F1 H1 σ ρ _ _ (E.step s1) h1 fun y u F2 H2 s2 r2 h2 =>
    hr F2 H2 v u x y _ _ s2.dm (Rw.step s2 r1) r2 h2 fun z v' F3 H3 s3 r3 p => k z v' F3 H3 ((s1.trans s2).trans s3) (o.back (s1.trans s2) r3) p
def wUn (w : W1) (wa : WE) : WE := fun ρ P => wa ρ fun x => w x P
theorem sim_un {r : V → Hp → VK → Prop} {w : W1} (hr : UnS K d r w) (ha : Sim K d (rW K d) ts ta wa) : Sim K d (rN K d) ts (tUn r ta) (wUn w wa) := fun H0 F0 F H σ ρ Q P E hw k =>
  ha H0 F0 F H σ ρ _ _ E hw fun x v F1 H1 s1 r1 h1 => hr F1 H1 v x _ _ s1.dm r1 h1 fun z v' F3 H3 s3 r3 p => k z v' F3 H3 (s1.trans s3) (okN.back s1 r3) p
def wNeg : W1 := fun x P => match x with
  | .int a => P (.int (-a))
  | _ => False
theorem uns_neg : UnS K d (rU fun i => .int (-i)) wNeg := fun F H v x Q P dm rx h k => by
  cases x with
  | int a => cases rx.intE; exact ⟨a, rfl, fin_val dm (.int _) h k⟩
  | _ => exact h.elim
def orR (r s : R2) : R2 := fun x y H Q => r x y H Q ∨ s x y H Q
theorem op_or {X : Cx} {f : Value → Value → Sem Value} {r s : R2} (a : OpR X f r) (b : OpR X f s) : OpR X f (orR r s) := fun pins st σ H x y v u Q I rx ry h => h.elim (a pins st σ H x y v u Q I rx ry) (b pins st σ H x y v u Q I rx ry)
def wII (C : Int → Int → Prop) (g : Int → Int → Int) : W2 := fun x y P => match x, y with
  | .int a, .int b => C a b ∧ P (.int (g a b))
  | _, _ => False
theorem ops_II {C : Int → Int → Prop} {g : Int → Int → Int} : OpS K d (rN K d) (rI C fun i j => .int (g i j)) (wII C g) := fun F H v u x y Q P dm rx ry h k => by
  cases x with
  | int a => cases y with
    | int b => cases rx.intE; cases ry.intE; exact ⟨a, b, rfl, rfl, h.1, fin_val dm (.int _) h.2 k⟩
    | _ => exact h.elim
  | _ => exact h.elim
def wI0 (g : Int → Int → Int) : W2 := fun x y P => match x, y with
  | .int a, .int b => P (.int (g a b))
  | _, _ => False
theorem ops_I0 {g : Int → Int → Int} : OpS K d (rN K d) (rI0 fun i j => .int (g i j)) (wI0 g) := fun F H v u x y Q P dm rx ry h k => by
  cases x with
  | int a => cases y with
    | int b => cases rx.intE; cases ry.intE; exact ⟨a, b, rfl, rfl, fin_val dm (.int _) h k⟩
    | _ => exact h.elim
  | _ => exact h.elim
def wIB (g : Int → Int → Bool) : W2 := fun x y P => match x, y with
  | .int a, .int b => P (.bl (g a b))
  | _, _ => False
theorem ops_IB {g : Int → Int → Bool} : OpS K d (rN K d) (rI0 fun i j => .bl (g i j)) (wIB g) := fun F H v u x y Q P dm rx ry h k => by
  cases x with
  | int a => cases y with
    | int b => cases rx.intE; cases ry.intE; exact ⟨a, b, rfl, rfl, fin_val dm (.bl _) h k⟩
    | _ => exact h.elim
  | _ => exact h.elim
def rAddU (K : PySem.W.Frag) : R2 := orR (rI0 fun i j => .int (i + j)) (orR rCat (orR (rCatA K) rAddS))
theorem u_add {X : Cx} (h : X.K = K) : OpR X (binaryOp .Add) (rAddU K) := h ▸ op_or op_add (op_or op_cat (op_or op_catA k_addS))
def wAdd : W2 := fun x y P => match x, y with
  | .int a, .int b => P (.int (a + b))
  | .lst a, .lst b => a.length + b.length ≤ 100000 ∧ P (.lst (a ++ b))
  | .tup a, .tup b => a.length + b.length ≤ 100000 ∧ P (.tup (a ++ b))
  | .str a, .str b => a.length + b.length ≤ 100000 ∧ P (.str (a ++ b))
  | _, _ => False
theorem ops_add : OpS K d (rN K d) (rAddU K) wAdd := fun F H v u x y Q P dm rx ry h k => by
  cases x with
  | int a => cases y with
    | int b => cases rx.intE; cases ry.intE; exact .inl ⟨a, b, rfl, rfl, fin_val dm (.int _) h k⟩
    | _ => exact h.elim
  | lst a => cases y with
    | lst b =>
      obtain ⟨p, vs, rfl, h1, h2⟩ := rx.lst
      obtain ⟨q, us, rfl, h3, h4⟩ := ry.lst
      exact .inr (.inl ⟨p, q, vs, us, rfl, rfl, h1, h3, by rw [h2.length, h4.length]; exact sz_of h.1, fun r nr => fin_lst dm nr (h2.append h4) h.2 k⟩)
    | _ => exact h.elim
  | tup a => cases y with
    | tup b =>
      obtain ⟨p, vs, rfl, h1, h2⟩ := rx.tupE
      obtain ⟨q, us, rfl, h3, h4⟩ := ry.tupE
      refine .inr (.inr (.inl ⟨p, q, vs, us, rfl, rfl, h1, h3, by rw [h2.length, h4.length]; exact sz_of h.1, fun e => ?_, fun _ e => ?_, fun _ _ r nr => fin_tup dm nr (h2.append h4) h.2 k⟩))
      · subst e
        cases h2
        exact fin_val dm (.tup h3 h4) h.2 k
      · subst e
        cases h4
        have := h.2
        rw [List.append_nil] at this
        exact fin_val dm (.tup h1 h2) this k
    | _ => exact h.elim
  | str a => cases y with
    | str b => cases rx.strE; cases ry.strE; exact .inr (.inr (.inr ⟨a, b, rfl, rfl, sz_of h.1, fin_val dm (.str _) h.2 k⟩))
    | _ => exact h.elim
  | _ => exact h.elim
def rMulU : R2 := orR (rI CMulW fun i j => .int (i * j)) (orR (rI CMul fun i j => .int (i * j)) rRep)
theorem u_mul {X : Cx} : OpR X (binaryOp .Mult) rMulU := op_or op_mulW (op_or op_mul op_rep)
def wMul : W2 := fun x y P => match x, y with
  | .int a, .int b => (CMulW a b ∨ CMul a b) ∧ P (.int (a * b))
  | .lst a, .int b => -(2 ^ 63) ≤ b ∧ b < 2 ^ 63 ∧ a.length * b.toNat ≤ 100000 ∧ P (.lst (List.replicate b.toNat a).flatten)
  | _, _ => False
theorem ops_mul : OpS K d (rN K d) rMulU wMul := fun F H v u x y Q P dm rx ry h k => by
  cases x with
  | int a => cases y with
    | int b =>
      cases rx.intE
      cases ry.intE
      rcases h.1 with c | c
      · exact .inl ⟨a, b, rfl, rfl, c, fin_val dm (.int _) h.2 k⟩
      · exact .inr (.inl ⟨a, b, rfl, rfl, c, fin_val dm (.int _) h.2 k⟩)
    | _ => exact h.elim
  | lst a => cases y with
    | int b =>
      obtain ⟨p, vs, rfl, h1, h2⟩ := rx.lst
      cases ry.intE
      exact .inr (.inr ⟨p, b, vs, rfl, rfl, h1, h.1, h.2.1, by rw [h2.length]; exact sz_of h.2.2.1, fun r nr => fin_lst dm nr (h2.flat _) h.2.2.2 k⟩)
    | _ => exact h.elim
  | _ => exact h.elim
mutual
def toD : PV → Option PyData
  | .non => some .none
  | .bl b => some (.bool b)
  | .int i => some (.int i)
  | .str x => some (.str x)
  | .lst xs => (toDs xs).map PyData.list
  | .tup xs => (toDs xs).map PyData.tuple
  | .ty _ => none
  | .cls _ => none
  | .ins _ _ => none
  | .bag => none
  | .scr _ => none
  | .fnv _ _ => none
  | .dct _ _ => none
  | .idv _ _ => none
def toDs : List PV → Option (List PyData)
  | [] => some []
  | x :: xs => match toD x, toDs xs with
    | some a, some b => some (a :: b)
    | _, _ => none
end
mutual
theorem Rv.dp : ∀ {v : V} {x : PV} {e : PyData}, Rv K d F H v x → toD x = some e → Dp K H v e
  | _, _, e, .non, h => by simp only [toD] at h; cases h; exact .non
  | _, _, e, .bl b, h => by simp only [toD] at h; cases h; exact .bl b
  | _, _, e, .int b, h => by simp only [toD] at h; cases h; exact .int b
  | _, _, e, .str b, h => by simp only [toD] at h; cases h; exact .str b
  | _, _, e, .lst h1 h2 h3, h => by
    simp only [toD, Option.map_eq_some_iff] at h
    obtain ⟨ds, hd, rfl⟩ := h
    exact .lst (.inl (.inl h1)) (Rvs.dp h3 hd)
  | _, _, e, .tup h1 h3, h => by
    simp only [toD, Option.map_eq_some_iff] at h
    obtain ⟨ds, hd, rfl⟩ := h
    exact .tup h1 (Rvs.dp h3 hd)
  | _, _, e, .ty n, h => by simp only [toD] at h; cases h
  | _, _, e, .cls n, h => by simp only [toD] at h; cases h
  | _, _, e, .ins _ _, h => by simp only [toD] at h; cases h
  | _, _, e, .bag _, h => by simp only [toD] at h; cases h
  | _, _, e, .scr _ _, h => by simp only [toD] at h; cases h
  | _, _, e, .fnv _ _, h => by simp only [toD] at h; cases h
  | _, _, e, .dct _ _, h => by simp only [toD] at h; cases h
  | _, _, e, .idv _, h => by simp only [toD] at h; cases h
theorem Rvs.dp : ∀ {vs : List V} {xs : List PV} {es : List PyData}, Rvs K d F H vs xs → toDs xs = some es → DpAll K H vs es
  | _, _, es, .nil, h => by simp only [toDs] at h; cases h; exact .nil
  | _, _, es, .cons (x := x) (xs := xs) a b, h => by
    simp only [toDs] at h
    cases e1 : toD x with
    | none => rw [e1] at h; cases h
    | some q =>
      cases e2 : toDs xs with
      | none => rw [e1, e2] at h; cases h
      | some qs =>
        rw [e1, e2] at h
        cases h
        exact .cons (Rv.dp a e1) (Rvs.dp b e2)
end
theorem Rw.dp {x : PV} {e : PyData} (h : Rw K d F H v x) (he : toD x = some e) : Dp K H v e := by
  rcases h with h | ⟨p, vs, xs, rfl, rfl, h1, h2⟩
  · exact h.dp he
  · simp only [toD, Option.map_eq_some_iff] at he
    obtain ⟨ds, hd, rfl⟩ := he
    exact .lst (.inl (.inl h1)) (h2.dp hd)
def wEqD (neg : Bool) : W2 := fun x y P => ∃ a b, toD x = some a ∧ toD y = some b ∧ SeqAt.shaped a = true ∧ SeqAt.shaped b = true ∧ P (.bl (if neg then !PyData.eqv a b else PyData.eqv a b))
theorem ops_eqD : OpS K d (rN K d) (rEqD K) (wEqD false) := fun F H v u x y Q P dm rx ry h k => by
  obtain ⟨a, b, ha, hb, sa, sb, p⟩ := h
  exact ⟨a, b, rx.dp ha, ry.dp hb, sa, sb, fin_val dm (.bl _) p k⟩
theorem ops_neD : OpS K d (rN K d) (rNeD K) (wEqD true) := fun F H v u x y Q P dm rx ry h k => by
  obtain ⟨a, b, ha, hb, sa, sb, p⟩ := h
  exact ⟨a, b, rx.dp ha, ry.dp hb, sa, sb, fin_val dm (.bl _) p k⟩
def isN : PV → Bool
  | .non => true
  | _ => false
def wIsN (neg : Bool) : W2 := fun x y P => match y with
  | .non => P (.bl (if neg then !isN x else isN x))
  | _ => False
def wIx : W2 := fun x y P => match x, y with
  | .lst xs, .int i => ∃ z, atI xs i = some z ∧ P z
  | .tup xs, .int i => ∃ z, atI xs i = some z ∧ P z
  | .str s, .int i => ∃ c, s.length ≤ 100000 ∧ atI s.cps.toList i = some c ∧ P (.str ⟨#[c]⟩)
  | _, _ => False
theorem Rvs.atI {vs : List V} {xs : List PV} {i : Int} {z : PV} (r : Rvs K d F H vs xs) (h : L2.atI xs i = some z) : ∃ v, L2.atI vs i = some v ∧ Rv K d F H v z := by
  unfold L2.atI at h ⊢
  rw [r.length]
  cases e : ixN xs.length i with
  | none => rw [e] at h; simp at h
  | some j =>
    rw [e] at h
    obtain ⟨v, h1, h2⟩ := r.get (i := j) (by simpa using h)
    exact ⟨v, by simpa using h1, h2⟩
theorem ops_ix : OpS K d (rS K d) (rIx K) wIx := fun F H v u x y Q P dm rx ry h k => by
  cases x with
  | lst a => cases y with
    | int b =>
      obtain ⟨p, vs, rfl, h1, h2⟩ := rx.lst
      cases ry.intE
      obtain ⟨z, hz, pz⟩ := h
      obtain ⟨w, hw, rw'⟩ := h2.atI hz
      exact .inl ⟨p, vs, b, w, rfl, rfl, .inl (.inl h1), hw, k z w F H (Step.refl dm) rw' pz⟩
    | _ => exact h.elim
  | tup a => cases y with
    | int b =>
      obtain ⟨p, vs, rfl, h1, h2⟩ := rx.tupE
      cases ry.intE
      obtain ⟨z, hz, pz⟩ := h
      obtain ⟨w, hw, rw'⟩ := h2.atI hz
      exact .inr (.inl ⟨p, vs, b, w, rfl, rfl, h1, hw, k z w F H (Step.refl dm) rw' pz⟩)
    | _ => exact h.elim
  | str a => cases y with
    | int b =>
      cases rx.strE
      cases ry.intE
      obtain ⟨c, hz, hc, pz⟩ := h
      exact .inr (.inr ⟨a, b, c, rfl, rfl, sz_of hz, hc, k _ _ F H (Step.refl dm) (.str _) pz⟩)
    | _ => exact h.elim
  | _ => exact h.elim
def wTest (we : WE) : WT := fun ρ P => we ρ fun x => match x with
  | .bl b => P b
  | _ => False
theorem simT_val {t : TT} {wt : WT} (h : SimT K d (shr ts) t wt) : SimT K d ts t wt := fun H0 F0 F H σ ρ Q P E hw k => by
  obtain ⟨F1, up, E1⟩ := E.conv (cv_shr ts)
  exact h H0 F0 F1 H σ ρ Q P E1 hw k
theorem simT_test (h : Sim K d (rS K d) ts te we) : SimT K d ts (tTest te) (wTest we) := fun H0 F0 F H σ ρ Q P E hw k =>
  h H0 F0 F H σ ρ _ _ E hw fun x v F' H' s r p => by
    cases x with
    | bl b => cases r; exact ⟨b, rfl, k b H' s.xt p⟩
    | _ => exact p.elim
theorem simT_B (h : Sim K d (rS K d) ts te we) : SimT K d ts (tB te) (wTest we) := fun H0 F0 F H σ ρ Q P E hw k =>
  h H0 F0 F H σ ρ _ _ E hw fun x v F' H' s r p => by
    cases x with
    | bl b => cases r; exact ⟨b, rfl, k b H' s.xt p⟩
    | _ => exact p.elim
def wTand (a b : WT) : WT := fun ρ P => a ρ fun c => if c = true then b ρ P else P false
def wTor (a b : WT) : WT := fun ρ P => a ρ fun c => if c = true then P true else b ρ P
def wTnot (a : WT) : WT := fun ρ P => a ρ fun c => P (!c)
def wTyes : WT := fun _ P => P true
theorem simT_and {t u : TT} {a b : WT} (ha : SimT K d ts t a) (hb : SimT K d ts u b) : SimT K d ts (tAnd t u) (wTand a b) := fun H0 F0 F H σ ρ Q P E hw k =>
  ha H0 F0 F H σ ρ _ _ E hw fun c H1 e p => by
    cases c with
    | true => exact hb H0 F0 F H1 σ ρ _ _ (E.step (Step.tox E.dm e)) p fun c' H2 e2 p2 => k c' H2 (e.trans e2) p2
    | false => exact k false H1 e p
theorem simT_or {t u : TT} {a b : WT} (ha : SimT K d ts t a) (hb : SimT K d ts u b) : SimT K d ts (tOr t u) (wTor a b) := fun H0 F0 F H σ ρ Q P E hw k =>
  ha H0 F0 F H σ ρ _ _ E hw fun c H1 e p => by
    cases c with
    | true => exact k true H1 e p
    | false => exact hb H0 F0 F H1 σ ρ _ _ (E.step (Step.tox E.dm e)) p fun c' H2 e2 p2 => k c' H2 (e.trans e2) p2
theorem simT_not {t : TT} {a : WT} (ha : SimT K d ts t a) : SimT K d ts (tNot t) (wTnot a) := fun H0 F0 F H σ ρ Q P E hw k =>
  ha H0 F0 F H σ ρ _ _ E hw fun c H1 e p => k _ H1 e p
theorem simT_yes : SimT K d ts tYes wTyes := fun H0 F0 F H σ ρ Q P E hw k => k true H (Xt.refl E.dm) hw
def wAndV (a b : WE) : WE := fun ρ P => a ρ fun x => match x with
  | .bl c => if c = true then b ρ P else P (.bl false)
  | _ => False
def wOrV (a b : WE) : WE := fun ρ P => a ρ fun x => match x with
  | .bl c => if c = true then P (.bl true) else b ρ P
  | _ => False
def wNotV (a : WE) : WE := fun ρ P => a ρ fun x => match x with
  | .bl c => P (.bl (!c))
  | _ => False
theorem sim_andV (ha : Sim K d (rS K d) ts ta wa) (hb : Sim K d (rN K d) ts tb wb) : Sim K d (rN K d) ts (tAndV ta tb) (wAndV wa wb) := fun H0 F0 F H σ ρ Q P E hw k =>
  ha H0 F0 F H σ ρ _ _ E hw fun x v F1 H1 s r p => by
    cases x with
    | bl c =>
      cases r
      refine ⟨c, rfl, ?_⟩
      cases c with
      | true => exact hb H0 F0 F1 H1 σ ρ _ _ (E.step s) p fun y u F2 H2 s2 r2 p2 => k y u F2 H2 (s.trans s2) (okN.back s r2) p2
      | false => exact k (.bl _) _ F1 H1 s (.inl ⟨trivial, .bl _⟩) p
    | _ => exact p.elim
theorem sim_notV (ha : Sim K d (rS K d) ts ta wa) : Sim K d (rN K d) ts (tNotV ta) (wNotV wa) := fun H0 F0 F H σ ρ Q P E hw k =>
  ha H0 F0 F H σ ρ _ _ E hw fun x v F1 H1 s r p => by
    cases x with
    | bl c => cases r; exact ⟨c, rfl, k (.bl _) _ F1 H1 s (.inl ⟨trivial, .bl _⟩) p⟩
    | _ => exact p.elim
def wIf (t : WT) (a b : WE) : WE := fun ρ P => t ρ fun c => if c = true then a ρ P else b ρ P
theorem sim_if {t : TT} {wt : WT} (o : ROk R) (ht : SimT K d ts t wt) (ha : Sim K d R ts ta wa) (hb : Sim K d R ts tb wb) : Sim K d R ts (tIf t ta tb) (wIf wt wa wb) := fun H0 F0 F H σ ρ Q P E hw k =>
  ht H0 F0 F H σ ρ _ _ E hw fun c H1 e p => by
    have s := Step.tox E.dm e
    cases c with
    | true => exact ha H0 F0 F H1 σ ρ _ _ (E.step s) p fun y u F2 H2 s2 r2 p2 => k y u F2 H2 (s.trans s2) (o.back s r2) p2
    | false => exact hb H0 F0 F H1 σ ρ _ _ (E.step s) p fun y u F2 H2 s2 r2 p2 => k y u F2 H2 (s.trans s2) (o.back s r2) p2
def wChain (w w' : W2) (wa wb wc : WE) : WE := fun ρ P => wa ρ fun x => wb ρ fun y => w x y fun z => match z with
  | .bl c => if c = true then wc ρ fun u => w' y u P else P (.bl false)
  | _ => False
theorem sim_chain {r r' : R2} {w w' : W2} (hr : OpS K d (rN K d) r w) (hr' : OpS K d (rN K d) r' w') (ha : Sim K d (rW K d) ts ta wa) (hb : Sim K d (rW K d) ts tb wb) (hc : Sim K d (rW K d) ts tc wc) : Sim K d (rN K d) ts (tChain r r' ta tb tc) (wChain w w' wa wb wc) := fun H0 F0 F H σ ρ Q P E hw k =>
  ha H0 F0 F H σ ρ _ _ E hw fun x v F1 H1 s1 r1 h1 => hb H0 F0 F1 H1 σ ρ _ _ (E.step s1) h1 fun y u F2 H2 s2 r2 h2 =>
    hr F2 H2 v u x y _ _ s2.dm (Rw.step s2 r1) r2 h2 fun z v' F3 H3 s3 r3 p => by
      have s123 := (s1.trans s2).trans s3
      cases z with
      | bl c =>
        have r3' : Rv K d F3 H3 v' (.bl c) := by
          rcases r3 with r3 | ⟨_, _, _, _, e, _⟩
          · exact r3.2
          · cases e
        cases r3'
        refine ⟨c, rfl, ?_⟩
        cases c with
        | true =>
          exact hc H0 F0 F3 H3 σ ρ _ _ (E.step s123) p fun z4 v4 F4 H4 s4 r4 h4 => hr' F4 H4 u v4 y z4 _ _ s4.dm (Rw.step (s3.trans s4) r2) r4 h4 fun z5 v5 F5 H5 s5 r5 p5 =>
            k z5 v5 F5 H5 ((s123.trans s4).trans s5) (okN.back (s123.trans s4) r5) p5
        | false => exact k (.bl _) _ F3 H3 s123 (.inl ⟨trivial, .bl _⟩) p
      | _ => exact p.elim
def wNil : WA := fun _ P => P []
def wCons (we : WE) (wa : WA) : WA := fun ρ P => we ρ fun x => wa ρ fun xs => P (x :: xs)
theorem simA_nil : SimA K d ts tNil wNil := fun H0 F0 F H σ ρ Q P E hw k => k [] [] F H (Step.refl E.dm) .nil hw
theorem simA_cons {ta : TA} {wa : WA} (he : Sim K d (rS K d) ts te we) (ha : SimA K d ts ta wa) : SimA K d ts (tCons te ta) (wCons we wa) := fun H0 F0 F H σ ρ Q P E hw k =>
  he H0 F0 F H σ ρ _ _ E hw fun x v F1 H1 s1 r1 h1 => ha H0 F0 F1 H1 σ ρ _ _ (E.step s1) h1 fun xs vs F2 H2 s2 r2 h2 => k (x :: xs) (v :: vs) F2 H2 (s1.trans s2) (.cons (r1.step s2) r2) h2
theorem simAW_nil : SimAW K d ts tNil wNil := fun H0 F0 F H σ ρ Q P E hw k => k [] [] F H (Step.refl E.dm) .nil hw
theorem simAW_cons {ta : TA} {wa : WA} (he : Sim K d (rW K d) ts te we) (ha : SimAW K d ts ta wa) : SimAW K d ts (tCons te ta) (wCons we wa) := fun H0 F0 F H σ ρ Q P E hw k =>
  he H0 F0 F H σ ρ _ _ E hw fun x v F1 H1 s1 r1 h1 => ha H0 F0 F1 H1 σ ρ _ _ (E.step s1) h1 fun xs vs F2 H2 s2 r2 h2 => k (x :: xs) (v :: vs) F2 H2 (s1.trans s2) (.cons (Rw.step s2 r1) r2) h2
def wLst (wa : WA) : WE := fun ρ P => wa ρ fun xs => xs.length ≤ 1000 ∧ P (.lst xs)
def wTup (wa : WA) : WE := fun ρ P => wa ρ fun xs => xs.length ≤ 1000 ∧ P (.tup xs)
theorem sim_lst {ta : TA} {wa : WA} (ha : SimA K d ts ta wa) : Sim K d (rN K d) ts (tLst ta) (wLst wa) := fun H0 F0 F H σ ρ Q P E hw k =>
  ha H0 F0 F H σ ρ _ _ E hw fun xs vs F1 H1 s1 r1 h1 => ⟨by rw [r1.length]; exact sz_of (Nat.le_trans h1.1 (by decide)), fun p np => fin_lst s1.dm np r1 h1.2 fun z v' F' H' s r q => k z v' F' H' (s1.trans s) (okN.back s1 r) q⟩
theorem sim_tup {ta : TA} {wa : WA} (ha : SimA K d ts ta wa) : Sim K d (rN K d) ts (tTup ta) (wTup wa) := fun H0 F0 F H σ ρ Q P E hw k =>
  ha H0 F0 F H σ ρ _ _ E hw fun xs vs F1 H1 s1 r1 h1 => ⟨by rw [r1.length]; exact sz_of (Nat.le_trans h1.1 (by decide)), fun p np => fin_tup s1.dm np r1 h1.2 fun z v' F' H' s r q => k z v' F' H' (s1.trans s) (okN.back s1 r) q⟩
end
end Wx
namespace Wx
open PySem PySem.Spec PyProof.Rows L2 Evl Hn RZ
variable [TabC]
section
variable [XC]
variable {K : PySem.W.Frag} {d : Cn → Addr} {F F' F0 : Fz} {H H' H0 : Hp} {v u : V} {ts ts' : List Tag} {R : RR} {te ta tb tc : TE} {we wa wb wc : WE}
theorem cutP_rel {vs : List V} {xs : List PV} {lo hi : Option Int} (r : Rvs K d F H vs xs) : Rvs K d F H (cutV vs lo hi) (cutP xs lo hi) := by
  unfold cutV cutP
  rw [r.length]
  exact (r.drop _).take _
theorem cut_whole {α : Type} {xs : List α} {a b : Nat} (h : a = 0 ∧ b = xs.length) : (xs.drop a).take (b - a) = xs := by
  rw [h.1, h.2, List.drop_zero, Nat.sub_zero, List.take_length]
def orS (r s : V → Option Int → Option Int → Hp → VK → Prop) : V → Option Int → Option Int → Hp → VK → Prop := fun x lo hi H Q => r x lo hi H Q ∨ s x lo hi H Q
theorem sl_or {X : Cx} {r s : V → Option Int → Option Int → Hp → VK → Prop} (a : SlR X r) (b : SlR X s) : SlR X (orS r s) := by
  intro pins st σ H x v vl vu lo hi sl Q I rx hs pl pu h
  exact h.elim (a pins st σ H x v vl vu lo hi sl Q I rx hs pl pu) (b pins st σ H x v vl vu lo hi sl Q I rx hs pl pu)
def rSlU (K : PySem.W.Frag) := orS (rSlL K) (orS (rSlA K) rSlS)
theorem u_sl {X : Cx} (h : X.K = K) : SlR X (rSlU K) := h ▸ sl_or sl_list (sl_or sl_tupA sl_str)
def wSl1 : PV → Option Int → Option Int → (PV → Prop) → Prop := fun x lo hi P => match x with
  | .lst xs => P (.lst (cutP xs lo hi))
  | .tup xs => P (.tup (cutP xs lo hi))
  | .str s => s.length ≤ 100000 ∧ P (.str (cutS s lo hi))
  | _ => False
theorem sls_sl : SlS K d (rSlU K) wSl1 := fun F H v lo hi x Q P dm rx h k => by
  cases x with
  | lst xs =>
    obtain ⟨p, vs, rfl, h1, h2⟩ := rx.lst
    exact .inl ⟨p, vs, rfl, .inl (.inl h1), fun q nq => fin_lst dm nq (cutP_rel h2) h k⟩
  | tup xs =>
    obtain ⟨p, vs, rfl, h1, h2⟩ := rx.tupE
    refine .inr (.inl ⟨p, vs, rfl, h1, fun e => ?_, fun _ q nq => fin_tup dm nq (cutP_rel h2) h k⟩)
    have h' : P (.tup (cutP xs lo hi)) := h
    have e' : cutP xs lo hi = xs := by
      unfold cutP
      rw [h2.length] at e
      exact cut_whole e
    rw [e'] at h'
    exact fin_val dm (.tup h1 h2) h' k
  | str s => cases rx.strE; exact .inr (.inr ⟨s, rfl, sz_of h.1, fin_val dm (.str _) h.2 k⟩)
  | _ => exact h.elim
abbrev WO := List PV → (Option Int → Prop) → Prop
def SimO (K : PySem.W.Frag) (d : Cn → Addr) (ts : List Tag) (to : TO) (wo : WO) : Prop := ∀ (H0 : Hp) (F0 F : Fz) (H : Hp) (σ : L2.St) (ρ : List PV) (Q : Option Int → Hp → Prop) (P : Option Int → Prop), EnvR K d ts H0 F0 F H σ ρ → wo ρ P →
  (∀ o F' H', Step F H F' H' → P o → Q o H') → to σ H Q
def wNoPart : WO := fun _ P => P none
def wPart (we : WE) : WO := fun ρ P => we ρ fun x => match x with
  | .int i => P (some i)
  | _ => False
theorem simO_none : SimO K d ts tNoPart wNoPart := fun H0 F0 F H σ ρ Q P E hw k => k none F H (Step.refl E.dm) hw
theorem simO_some (h : Sim K d (rW K d) ts te we) : SimO K d ts (tPart te) (wPart we) := fun H0 F0 F H σ ρ Q P E hw k => h H0 F0 F H σ ρ _ _ E hw fun x v F' H' s r p => by
  cases x with
  | int i => cases Rw.intE r; exact ⟨i, rfl, k _ F' H' s p⟩
  | _ => exact p.elim
def wSl (we : WE) (wl wh : WO) : WE := fun ρ P => we ρ fun x => wl ρ fun l => wh ρ fun h => wSl1 x l h P
theorem sim_sl {tl th : TO} {wl wh : WO} (he : Sim K d (rW K d) ts te we) (hl : SimO K d ts tl wl) (hh : SimO K d ts th wh) : Sim K d (rN K d) ts (L2.tSl (rSlU K) te tl th) (wSl we wl wh) := fun H0 F0 F H σ ρ Q P E hw k =>
  he H0 F0 F H σ ρ _ _ E hw fun x v F1 H1 s1 r1 h1 => hl H0 F0 F1 H1 σ ρ _ _ (E.step s1) h1 fun l F2 H2 s2 h2 => hh H0 F0 F2 H2 σ ρ _ _ (E.step (s1.trans s2)) h2 fun u F3 H3 s3 h3 =>
    sls_sl F3 H3 v l u x _ _ s3.dm (Rw.step (s2.trans s3) r1) h3 fun z v' F4 H4 s4 r4 p => k z v' F4 H4 ((s1.trans (s2.trans s3)).trans s4) (okN.back (s1.trans (s2.trans s3)) r4) p
def wRev (we : WE) : WE := fun ρ P => we ρ fun x => match x with
  | .lst xs => P (.lst xs.reverse)
  | _ => False
def wRevT (we : WE) : WE := fun ρ P => we ρ fun x => match x with
  | .tup xs => P (.tup xs.reverse)
  | _ => False
theorem sim_revL (h : Sim K d (rW K d) ts te we) : Sim K d (rN K d) ts (tRevL K te) (wRev we) := fun H0 F0 F H σ ρ Q P E hw k => h H0 F0 F H σ ρ _ _ E hw fun x v F1 H1 s1 r1 h1 => by
  cases x with
  | lst xs =>
    obtain ⟨p, vs, rfl, h2, h3⟩ := Rw.lst r1
    exact ⟨p, vs, rfl, .inl (.inl h2), fun q nq => fin_lst s1.dm nq h3.reverse h1 fun z v' F' H' s r q => k z v' F' H' (s1.trans s) (okN.back s1 r) q⟩
  | _ => exact h1.elim
def wFld (we : WE) (f : Str) : WE := fun ρ P => we ρ fun x => match x with
  | .ins c fs => ∃ z, fs.lookup f = some z ∧ P z
  | _ => False
theorem sim_fld {f : Str} {c : Cn} {C : Addr} (hC : d c = C) (cl : Cls K C) (na : NoAttr K C f) (h : Sim K d (rS K d) ts te we) : Sim K d (rS K d) ts (tFld K te f) (fun ρ P => wFld (fun ρ P => we ρ fun x => (∃ fs, x = .ins c fs) ∧ P x) f ρ P) := fun H0 F0 F H σ ρ Q P E hw k => h H0 F0 F H σ ρ _ _ E hw fun x v F1 H1 s1 r1 h1 => by
  obtain ⟨⟨fs, rfl⟩, z, hz, pz⟩ := h1
  obtain ⟨p, dx, gs, rfl, h2, h3⟩ := Rv.insE r1
  obtain ⟨w, hw', rw'⟩ := h3.look hz
  subst hC
  exact ⟨p, _, dx, gs, w, rfl, h2, cl, na, hw', k z w F1 H1 s1 rw' pz⟩
def wCB (w : WC) (wa : WA) : WE := fun ρ P => wa ρ fun xs => w xs P
theorem sim_cb {rc : List V → Hp → VK → Prop} {w : WC} {ar : TA} {wr : WA} (o : ROk R) (hc : CaS K d R rc w) (ha : SimAW K d ts ar wr) : Sim K d R ts (tCB rc ar) (wCB w wr) := fun H0 F0 F H σ ρ Q P E hw k =>
  ha H0 F0 F H σ ρ _ _ E hw fun xs vs F1 H1 s1 r1 h1 => hc F1 H1 vs xs _ _ s1.dm r1 h1 fun z v' F3 H3 s3 r3 p => k z v' F3 H3 (s1.trans s3) (o.back s1 r3) p
def orC (r s : List V → Hp → VK → Prop) : List V → Hp → VK → Prop := fun xs H Q => r xs H Q ∨ s xs H Q
theorem ca_or {X : Cx} {f : Value} {r s : List V → Hp → VK → Prop} (a : CallR X f r) (b : CallR X f s) : CallR X f (orC r s) := by
  intro pins st σ H vs us Q I rx h
  exact h.elim (a pins st σ H vs us Q I rx) (b pins st σ H vs us Q I rx)
def rLenS : List V → Hp → VK → Prop := fun xs H Q => ∃ z, xs = [.str z] ∧ z.length ≤ sizeLine ∧ Q (.int z.length) H
theorem k_lenS {X : Cx} : CallR X (.builtin "len") rLenS := call_len_str
def rLenU (K : PySem.W.Frag) := orC (Hn.rLen K) rLenS
theorem u_len {X : Cx} (h : X.K = K) : CallR X (.builtin "len") (rLenU K) := ca_or (k_len h) k_lenS
def wLen : WC := fun xs P => match xs with
  | [.lst ys] => P (.int ys.length)
  | [.tup ys] => P (.int ys.length)
  | [.str s] => s.length ≤ 100000 ∧ P (.int s.length)
  | _ => False
theorem cas_len : CaS K d (rN K d) (rLenU K) wLen := fun F H vs xs Q P dm r h k => by
  unfold wLen at h
  split at h
  · obtain ⟨v, rfl, r1⟩ := r.one
    obtain ⟨p, vs, rfl, h2, h3⟩ := Rw.lst r1
    refine .inl ⟨p, vs, rfl, .inl (.inl (.inl h2)), ?_⟩
    show Q (.int (vs.length : Int)) H
    rw [h3.length]
    exact fin_val dm (.int _) h k
  · obtain ⟨v, rfl, r1⟩ := r.one
    obtain ⟨p, vs, rfl, h2, h3⟩ := Rw.tupE r1
    refine .inl ⟨p, vs, rfl, .inr h2, ?_⟩
    show Q (.int (vs.length : Int)) H
    rw [h3.length]
    exact fin_val dm (.int _) h k
  · obtain ⟨v, rfl, r1⟩ := r.one
    cases r1.strE
    exact .inr ⟨_, rfl, sz_of h.1, fin_val dm (.int _) h.2 k⟩
  · exact h.elim
def wListOf : WC := fun xs P => match xs with
  | [.lst ys] => P (.lst ys)
  | [.tup ys] => P (.lst ys)
  | _ => False
theorem cas_listOf : CaS K d (rN K d) (rListOf K) wListOf := fun F H vs xs Q P dm r h k => by
  unfold wListOf at h
  split at h
  · obtain ⟨v, rfl, r1⟩ := r.one
    obtain ⟨p, vs, rfl, h2, h3⟩ := Rw.lst r1
    exact ⟨p, vs, rfl, .inl (.inl (.inl h2)), fun q nq => fin_lst dm nq h3 h k⟩
  · obtain ⟨v, rfl, r1⟩ := r.one
    obtain ⟨p, vs, rfl, h2, h3⟩ := Rw.tupE r1
    exact ⟨p, vs, rfl, .inr h2, fun q nq => fin_lst dm nq h3 h k⟩
  · exact h.elim
def wTupOf : WC := fun xs P => match xs with
  | [.lst ys] => P (.tup ys)
  | [.tup ys] => P (.tup ys)
  | _ => False
theorem cas_tupOf : CaS K d (rN K d) (rTupOf K) wTupOf := fun F H vs xs Q P dm r h k => by
  unfold wTupOf at h
  split at h
  · obtain ⟨v, rfl, r1⟩ := r.one
    obtain ⟨p, vs, rfl, h2, h3⟩ := Rw.lst r1
    exact ⟨p, vs, rfl, .inl ⟨.inl (.inl h2), fun q nq => fin_tup dm nq h3 h k⟩⟩
  · obtain ⟨v, rfl, r1⟩ := r.one
    obtain ⟨p, vs, rfl, h2, h3⟩ := Rw.tupE r1
    exact ⟨p, vs, rfl, .inr ⟨h2, fin_val dm (.tup h2 h3) h k⟩⟩
  · exact h.elim
def wAbs : WC := fun xs P => match xs with
  | [.int i] => P (.int (if i < 0 then -i else i))
  | _ => False
def wInt1 : WC := fun xs P => match xs with
  | [.int i] => P (.int i)
  | [.bl b] => P (.int (if b then 1 else 0))
  | [.str a] => ∃ n, PySem.intText? a = some n ∧ a.length ≤ 640 ∧ P (.int n)
  | _ => False
def wAll : WC := fun xs P => ∃ bs : List Bool, xs = [.lst (bs.map .bl)] ∧ P (.bl (bs.all id))
theorem cas_all : CaS K d (rN K d) (rAll K) wAll := fun F H vs xs Q P dm r h k => by
  obtain ⟨ns, rfl, p⟩ := h
  obtain ⟨v, rfl, r1⟩ := r.one
  obtain ⟨q, vs, rfl, h2, h3⟩ := Rw.lst r1
  cases h3.bools
  exact ⟨q, ns, rfl, .inl (.inl h2), fin_val dm (.bl _) p k⟩
def wMin2 : WC := fun xs P => match xs with
  | [.int i, .int j] => P (.int (if j < i then j else i))
  | _ => False
theorem cas_min2 : CaS K d (rN K d) rMin2 wMin2 := fun F H vs xs Q P dm r h k => by
  unfold wMin2 at h
  split at h
  · obtain ⟨v, u, rfl, r1, r2⟩ := r.two
    cases r1.intE
    cases r2.intE
    exact ⟨_, _, rfl, fin_val dm (.int _) h k⟩
  · exact h.elim
def wMax2 : WC := fun xs P => match xs with
  | [.int i, .int j] => P (.int (if j > i then j else i))
  | _ => False
theorem cas_max2 : CaS K d (rN K d) rMx2 wMax2 := fun F H vs xs Q P dm r h k => by
  unfold wMax2 at h
  split at h
  · obtain ⟨v, u, rfl, r1, r2⟩ := r.two
    cases r1.intE
    cases r2.intE
    exact ⟨_, _, rfl, fin_val dm (.int _) h k⟩
  · exact h.elim
def wStrI : WC := fun xs P => match xs with
  | [.int i] => i.natAbs.log2 < 1920 ∧ P (.str (txI i))
  | _ => False
def tyP : PV → Option String
  | .non => some "NoneType"
  | .bl _ => some "bool"
  | .int _ => some "int"
  | .str _ => some "str"
  | .lst _ => some "list"
  | .tup _ => some "tuple"
  | .dct _ _ => some "dict"
  | _ => none
theorem tyP_ok {x : PV} {n : String} (h : Rw K d F H v x) (e : tyP x = some n) : TyX K H v (.type n) := by
  cases x with
  | non => cases e; cases h.nonE; exact .base .non
  | bl b => cases e; cases h.blE; exact .base (.bl b)
  | int b => cases e; cases h.intE; exact .base (.int b)
  | str b => cases e; cases h.strE; exact .base (.str b)
  | lst b =>
    cases e
    obtain ⟨p, vs, rfl, h1, _⟩ := h.lst
    exact .base (.lst h1)
  | tup b =>
    cases e
    obtain ⟨p, vs, rfl, h1, _⟩ := h.tupE
    rcases h1 with (h | ⟨o, h⟩) | ⟨o, its, n, h1, h2, _⟩
    · exact .base (.tup h)
    · exact .fTuple h
    · exact .kTuple h1 h2
  | dct b c =>
    cases e
    obtain ⟨rfl, h1, _⟩ := h.dctE
    exact .base (.dK h1)
  | _ => cases e
def wIsi : WC := fun xs P => match xs with
  | [x, .ty b] => ∃ a k, tyP x = some a ∧ kitB a b = some k ∧ P (.bl k)
  | _ => False
theorem cas_isi : CaS K d (rN K d) (rIsi K) wIsi := fun F H vs xs Q P dm r h k => by
  unfold wIsi at h
  split at h
  · obtain ⟨v, u, rfl, r1, r2⟩ := r.two
    cases r2.tyE
    obtain ⟨a, b, h1, h2, h3⟩ := h
    exact ⟨v, _, _, _, b, rfl, .ty _, tyP_ok r1 h1, kit_ty h2, fin_val dm (.bl _) h3 k⟩
  · exact h.elim
def wIsiT (we : WE) (A B : String) : WE := fun ρ P => we ρ fun x => ∃ a k l, tyP x = some a ∧ kitB a A = some k ∧ kitB a B = some l ∧ P (.bl (k || l))
theorem sim_isiT {A B : String} (h : Sim K d (rW K d) ts te we) : Sim K d (rN K d) ts (tCB (rIsiT K) (tCons te (tCons (tTup (tCons (tC (.ty A)) (tCons (tC (.ty B)) tNil))) tNil))) (wIsiT we A B) := fun H0 F0 F H σ ρ Q P E hw k =>
  h H0 F0 F H σ ρ _ _ E hw fun x v F1 H1 s1 r1 ⟨a, b, l, h1, h2, h3, h4⟩ => ⟨szc rfl, fun p np => by
    have s2 := Step.new (o := .tup [.ty A, .ty B]) s1.dm np
    have ty := tyP_ok (Rw.step s2 r1) h1
    refine ⟨v, p, _, _, [.type A, .type B], b || l, rfl, upd_same, .cons (.ty _) (.cons (.ty _) .nil), ty, ?_, k (.bl _) _ F1 _ (s1.trans s2) (.inl ⟨trivial, .bl _⟩) h4⟩
    exact kitAny_cons (b := b) (kit_ty h2) (fun z => by
      subst z
      exact kitAny_cons (b := l) (kit_ty h3) (fun z => by subst z; rfl) (fun z => by subst z; rfl)) (fun z => by subst z; rfl)⟩
abbrev WI := List PV → (List PV → Prop) → Prop
def Items (K : PySem.W.Frag) (d : Cn → Addr) (Kp : Hp → Prop) (F : Fz) (H : Hp) (J : It) (xs : List PV) : Prop := ∃ (G : Hp → Prop) (Y : Nat → Hp → V → Hp → Prop), Walk J xs.length G Y ∧ (∀ H', Kp H' → G H') ∧
  ∀ i H2 F2 v H3, Kp H2 → (∀ a, F a → F2 a) → Stb F H H2 → Dom F2 H2 → Y i H2 v H3 → i < xs.length → Step F2 H2 F2 H3 ∧ ∃ x, xs[i]? = some x ∧ Rv K d F2 H3 v x
def keep (lp : Bool) (F : Fz) (H : Hp) : Hp → Prop := fun H' => if lp = true then Stb F H H' else Xn H H'
def SimI (K : PySem.W.Frag) (d : Cn → Addr) (lp : Bool) (ts : List Tag) (wi : TI) (ww : WI) : Prop := ∀ (H0 : Hp) (F0 F : Fz) (H : Hp) (σ : L2.St) (ρ : List PV) (R : It → Hp → Prop) (P : List PV → Prop), EnvR K d ts H0 F0 F H σ ρ → ww ρ P →
  (∀ xs F' H' J, Step F H F' H' → Items K d (keep lp F' H') F' H' J xs → P xs → R J H') → wi σ H R
def only (H : Hp) (a : Addr) : Hp := fun b => if b = a then H a else none
theorem only_ex {a : Addr} {o : HO} (h : H a = some o) (h' : H' a = some o) : Ex (only H a) H' := fun b q e => by
  unfold only at e
  split at e
  · subst b
    rw [h] at e
    rw [h', e]
  · cases e
def wSeqI (we : WE) : WI := fun ρ P => we ρ fun x => match x with
  | .lst xs => P xs
  | .tup xs => P xs
  | _ => False
theorem tup_part {a : Addr} {vs : List V} (h : SqT K H a vs) : ∃ Hs : Hp, SqT K Hs a vs ∧ ∀ H', Xm H H' → Ex Hs H' := by
  rcases h with (h | ⟨o, h⟩) | h
  · refine ⟨only H a, .inl (.inl (by unfold only; rw [if_pos rfl]; exact h)), fun H' e => only_ex h (e _ _ h rfl)⟩
  · refine ⟨only H a, .inl (.inr ⟨o, by unfold only; rw [if_pos rfl]; exact h⟩), fun H' e => only_ex h (e _ _ h rfl)⟩
  · exact ⟨fun _ => none, .inr h, fun H' e b q hb => by cases hb⟩
theorem goes_items {lp : Bool} {J : It} {Hs : Hp} {vs : List V} {xs : List PV} (g : Goes1 Hs vs.length (YAt vs) J) (r : Rvs K d F H vs xs) (e : ∀ H', keep lp F H H' → Ex Hs H') : Items K d (keep lp F H) F H J xs := by
  obtain ⟨G, w, hG⟩ := g
  rw [r.length] at w
  refine ⟨G, _, w, fun H' h => hG H' (e H' h), fun i H2 F2 v H3 kp up st dm y hi => ?_⟩
  obtain ⟨e1, e2⟩ := (y : H3 = H2 ∧ vs[i]? = some v)
  subst e1
  obtain ⟨x, hx, rx⟩ := r.getV e2
  exact ⟨Step.refl dm, x, hx, rx.mono st up⟩
theorem keep_xl {lp : Bool} {H' : Hp} (h : keep lp F H H') : Xm H H' := by
  unfold keep at h
  split at h
  · exact h.xl
  · exact .of h
theorem keep_lst {lp : Bool} {H' : Hp} {a : Addr} {vs : List V} (h : keep lp F H H') (ha : H a = some (.lst vs)) (f : lp = true → F a) : H' a = some (.lst vs) := by
  unfold keep at h
  split at h
  · next z => exact h _ _ ha (.inr ⟨f z, rfl⟩)
  · exact h.at ha
theorem simI_seq {lp : Bool} (h : Sim K d (if lp = true then rS K d else rW K d) ts te we) : SimI K d lp ts (iSeq K te) (wSeqI we) := fun H0 F0 F H σ ρ Q P E hw k => h H0 F0 F H σ ρ _ _ E hw fun x v F1 H1 s1 r1 h1 => by
  have rw1 : Rw K d F1 H1 v x := by
    cases lp with
    | true => exact .inl r1
    | false => exact r1
  cases x with
  | lst xs =>
    obtain ⟨p, vs, rfl, h2, h3⟩ := rw1.lst
    have fp : lp = true → F1 p := fun z => by
      subst z
      cases (show Rv K d F1 H1 (.ref p) (.lst xs) from r1) with
      | lst a b c => exact b
    exact ⟨p, vs, only H1 p, rfl, .inl (.inl (.inl (by unfold only; rw [if_pos rfl]; exact h2))), only_ex h2 h2, fun J g => k xs F1 H1 J s1 (goes_items g h3 fun H' kp => only_ex h2 (keep_lst kp h2 fp)) h1⟩
  | tup xs =>
    obtain ⟨p, vs, rfl, h2, h3⟩ := rw1.tupE
    obtain ⟨Hs, a1, a2⟩ := tup_part h2
    exact ⟨p, vs, Hs, rfl, .inr a1, a2 _ (Xm.refl _), fun J g => k xs F1 H1 J s1 (goes_items g h3 fun H' kp => a2 _ (keep_xl kp)) h1⟩
  | _ => exact h1.elim
def enumP (xs : List PV) : List PV := (List.range xs.length).map fun i => .tup [.int (i : Nat), xs.getD i .non]
def wEnum (wa : WA) : WI := fun ρ P => wa ρ fun zs => match zs with
  | [.lst xs] => P (enumP xs)
  | [.tup xs] => P (enumP xs)
  | _ => False
def zipP (xs ys : List PV) : List PV := (List.range (min xs.length ys.length)).map fun i => .tup [xs.getD i .non, ys.getD i .non]
def wZip (wa : WA) : WI := fun ρ P => wa ρ fun zs => match zs with
  | [.lst xs, .lst ys] => P (zipP xs ys)
  | [.tup xs, .tup ys] => P (zipP xs ys)
  | _ => False
theorem zip_items {Kp : Hp → Prop} {J : It} {G : Hp → Prop} {vs us : List V} {xs ys : List PV} (w : Walk J (min vs.length us.length) G (YPair (fun i => vs[i]?) (fun i => us[i]?))) (r : Rvs K d F H vs xs) (r' : Rvs K d F H us ys) (e : ∀ H', Kp H' → G H') : Items K d Kp F H J (zipP xs ys) := by
  have hl : (zipP xs ys).length = min vs.length us.length := by unfold zipP; rw [List.length_map, List.length_range, r.length, r'.length]
  rw [← hl] at w
  refine ⟨G, _, w, e, fun i H2 F2 v H3 kp up st dm y hi => ?_⟩
  obtain ⟨T, z, x, e1, nT, e2, e3, e4⟩ := y
  subst e1 e2
  obtain ⟨q, hq, rq⟩ := r.getV e3
  obtain ⟨q', hq', rq'⟩ := r'.getV e4
  have s := Step.new (o := .tup [z, x]) dm nT
  refine ⟨s, .tup [q, q'], ?_, .tup (.inl (.inl upd_same)) (.cons ((rq.mono st up).step s) (.cons ((rq'.mono st up).step s) .nil))⟩
  unfold zipP
  rw [hl] at hi
  rw [List.getElem?_map, List.getElem?_range (by rw [← r.length, ← r'.length]; exact hi)]
  show some (PV.tup [xs.getD i .non, ys.getD i .non]) = _
  rw [getD_of hq, getD_of hq']
theorem simI_zip {lp : Bool} {ar : TA} {wa : WA} (h : SimA K d ts ar wa) : SimI K d lp ts (iZipA K ar) (wZip wa) := fun H0 F0 F H σ ρ Q P E hw k => h H0 F0 F H σ ρ _ _ E hw fun zs us F1 H1 s1 r1 h1 => by
  split at h1
  · rename_i xs ys
    cases r1 with
    | cons a b =>
      cases b with
      | cons b c =>
        cases c
        cases a with
        | lst h2 h4 h3 =>
          cases b with
          | lst g2 g4 g3 =>
            exact ⟨_, _, _, _, rfl, .inl ⟨.inl (.inl h2), .inl (.inl g2), k _ F1 H1 _ s1 (zip_items (walk_zip rfl) h3 g3 fun H' kp => ⟨.inl (.inl (keep_lst kp h2 fun _ => h4)), .inl (.inl (keep_lst kp g2 fun _ => g4))⟩) h1⟩⟩
  · rename_i xs ys
    cases r1 with
    | cons a b =>
      cases b with
      | cons b c =>
        cases c
        obtain ⟨p, vs, rfl, h2, h3⟩ := a.tupE
        obtain ⟨p', vs', rfl, g2, g3⟩ := b.tupE
        exact ⟨_, _, _, _, rfl, .inr ⟨h2, g2, k _ F1 H1 _ s1 (zip_items (walk_zipT rfl) h3 g3 fun H' kp => ⟨tup_xm (keep_xl kp) h2, tup_xm (keep_xl kp) g2⟩) h1⟩⟩
  · exact h1.elim
def rangeP (lo : Int) (n : Nat) : List PV := (List.range n).map fun i => .int (lo + (i : Nat))
def wRng1 (wa : WA) : WI := fun ρ P => wa ρ fun zs => match zs with
  | [.int j] => -(2 ^ 62) ≤ j ∧ j < 2 ^ 62 ∧ P (rangeP 0 j.toNat)
  | _ => False
def wRng2 (wa : WA) : WI := fun ρ P => wa ρ fun zs => match zs with
  | [.int i, .int j] => (-(2 ^ 62) ≤ i ∧ i < 2 ^ 62 ∧ -(2 ^ 62) ≤ j ∧ j < 2 ^ 62) ∧ P (rangeP i (j - i).toNat)
  | _ => False
theorem range_items {Kp : Hp → Prop} {lo : Int} {n : Nat} : Items K d Kp F H (Itr lo n) (rangeP lo n) := by
  have hl : (rangeP lo n).length = n := by unfold rangeP; rw [List.length_map, List.length_range]
  have w := walk_range (lo := lo) (n := n)
  refine ⟨fun _ => True, _, by rw [hl]; exact w, fun _ _ => trivial, fun i H2 F2 v H3 kp up st dm y hi => ?_⟩
  obtain ⟨e1, e2⟩ := (y : H3 = H2 ∧ v = .int (lo + (i : Nat)))
  subst e1 e2
  rw [hl] at hi
  refine ⟨Step.refl dm, .int (lo + (i : Nat)), ?_, .int _⟩
  unfold rangeP
  rw [List.getElem?_map, List.getElem?_range hi]
  rfl
theorem simI_rng1 {lp : Bool} {ar : TA} {wa : WA} (h : SimAW K d ts ar wa) : SimI K d lp ts (iRng1 ar) (wRng1 wa) := fun H0 F0 F H σ ρ Q P E hw k => h H0 F0 F H σ ρ _ _ E hw fun zs us F1 H1 s1 r1 h1 => by
  split at h1
  · obtain ⟨v, rfl, r2⟩ := r1.one
    cases r2.intE
    exact ⟨_, rfl, h1.1, h1.2.1, k _ F1 H1 _ s1 range_items h1.2.2⟩
  · exact h1.elim
theorem dp_ne {H : Hp} {σ : L2.St} {i j : Nat} {o : Option V} {a : Addr} (e : i ≠ j) : Dpl H (σ.set i o) j a ↔ Dpl H σ j a := by
  unfold Dpl
  rw [List.getElem?_set_ne e]
theorem od_ne {ts : List Tag} {i j : Nat} {t : Tag} (ht : t ≠ .od) (h : (ts.set i t)[j]? = some .od) : i ≠ j ∧ ts[j]? = some .od := by
  rw [List.getElem?_set] at h
  split at h
  · split at h
    · cases h
      exact absurd rfl ht
    · cases h
  · next e => exact ⟨e, h⟩
theorem ow_ne {ts : List Tag} {i j : Nat} {t : Tag} (ht : t ≠ .ow) (h : (ts.set i t)[j]? = some .ow) : i ≠ j ∧ ts[j]? = some .ow := by
  rw [List.getElem?_set] at h
  split at h
  · split at h
    · cases h
      exact absurd rfl ht
    · cases h
  · next e => exact ⟨e, h⟩
theorem EnvR.set {i : Nat} {x : PV} {σ : L2.St} {ρ : List PV} (E : EnvR K d ts H0 F0 F H σ ρ) (r : Rv K d F H v x) : EnvR K d (ts.set i .sh) H0 F0 F H (σ.set i (some v)) (ρ.set i x) where
  st := E.st
  xc := E.xc
  ex := E.ex.set (by decide)
  ls := by rw [List.length_set, List.length_set, E.ls]
  lr := by rw [List.length_set, List.length_set, E.lr]
  sh := fun j h => by
    rw [List.getElem?_set] at h
    split at h
    · next e =>
      subst e
      split at h
      · next l => exact ⟨v, x, by rw [List.getElem?_set_self (by rw [E.ls]; exact l)], by rw [List.getElem?_set_self (by rw [E.lr]; exact l)], r⟩
      · cases h
    · next e =>
      obtain ⟨w, y, h1, h2, h3⟩ := E.sh j h
      exact ⟨w, y, by rw [List.getElem?_set_ne e]; exact h1, by rw [List.getElem?_set_ne e]; exact h2, h3⟩
  ow := fun j h => by
    rw [List.getElem?_set] at h
    split at h
    · split at h <;> cases h
    · next e =>
      obtain ⟨a, vs, xs, h1, h2, h3⟩ := E.ow j h
      exact ⟨a, vs, xs, by rw [List.getElem?_set_ne e]; exact h1, by rw [List.getElem?_set_ne e]; exact h2, h3⟩
  ap := fun j l a h1 h2 h3 h4 => by
    have o : ∀ m : Nat, (ts.set i .sh)[m]? = some .ow → i ≠ m ∧ ts[m]? = some .ow := fun m h => by
      rw [List.getElem?_set] at h
      split at h
      · split at h <;> cases h
      · next e => exact ⟨e, h⟩
    obtain ⟨n1, o1⟩ := o j h1
    obtain ⟨n2, o2⟩ := o l h2
    rw [List.getElem?_set_ne n1] at h3
    rw [List.getElem?_set_ne n2] at h4
    exact E.ap j l a o1 o2 h3 h4
  od := fun j h => by
    obtain ⟨e, h⟩ := od_ne (by decide) h
    obtain ⟨w, y, h1, h2, h3⟩ := E.od j h
    exact ⟨w, y, by rw [List.getElem?_set_ne e]; exact h1, by rw [List.getElem?_set_ne e]; exact h2, h3⟩
  ad := fun j a h q => by
    obtain ⟨e, h⟩ := od_ne (by decide) h
    obtain ⟨q1, q2⟩ := E.ad j a h ((dp_ne e).mp q)
    refine ⟨fun l hl => ?_, fun l hl z => ?_⟩
    · obtain ⟨e', hl⟩ := ow_ne (by decide) hl
      rw [List.getElem?_set_ne e']
      exact q1 l hl
    · obtain ⟨e', hl⟩ := od_ne (by decide) hl
      exact q2 l hl ((dp_ne e').mp z)
theorem EnvR.setO {i : Nat} {p : Addr} {vs : List V} {xs : List PV} {σ : L2.St} {ρ : List PV} (E : EnvR K d ts H0 F0 F H σ ρ) (h1 : H p = some (.lst vs)) (h2 : ¬ F p) (h3 : H0 p = none) (h4 : Rvs K d F H vs xs)
    (h5 : ∀ j : Nat, j ≠ i → ts[j]? = some .ow → σ[j]? ≠ some (some (.ref p))) (h6 : ∀ j : Nat, ts[j]? = some .od → ¬ Dpl H σ j p) : EnvR K d (ts.set i .ow) H0 F0 F H (σ.set i (some (.ref p))) (ρ.set i (.lst xs)) where
  st := E.st
  xc := E.xc
  ex := E.ex.set (by decide)
  ls := by rw [List.length_set, List.length_set, E.ls]
  lr := by rw [List.length_set, List.length_set, E.lr]
  sh := fun j h => by
    rw [List.getElem?_set] at h
    split at h
    · split at h <;> cases h
    · next e =>
      obtain ⟨w, y, g1, g2, g3⟩ := E.sh j h
      exact ⟨w, y, by rw [List.getElem?_set_ne e]; exact g1, by rw [List.getElem?_set_ne e]; exact g2, g3⟩
  ow := fun j h => by
    rw [List.getElem?_set] at h
    split at h
    · next e =>
      subst e
      split at h
      · next l => exact ⟨p, vs, xs, by rw [List.getElem?_set_self (by rw [E.ls]; exact l)], by rw [List.getElem?_set_self (by rw [E.lr]; exact l)], h1, h2, h3, h4⟩
      · cases h
    · next e =>
      obtain ⟨a, vs, xs, g1, g2, g3⟩ := E.ow j h
      exact ⟨a, vs, xs, by rw [List.getElem?_set_ne e]; exact g1, by rw [List.getElem?_set_ne e]; exact g2, g3⟩
  ap := fun j l a g1 g2 g3 g4 => by
    have o : ∀ m : Nat, (ts.set i .ow)[m]? = some .ow → (i ≠ m → ts[m]? = some .ow ∧ (σ.set i (some (.ref p)))[m]? = σ[m]?) ∧ (i = m → (σ.set i (some (.ref p)))[m]? = some (some (.ref p))) := fun m h => by
      rw [List.getElem?_set] at h
      split at h
      · next e =>
        subst e
        split at h
        · next l => exact ⟨fun z => absurd rfl z, fun _ => by rw [List.getElem?_set_self (by rw [E.ls]; exact l)]⟩
        · cases h
      · next e => exact ⟨fun _ => ⟨h, by rw [List.getElem?_set_ne e]⟩, fun z => absurd z e⟩
    obtain ⟨a1, a2⟩ := o j g1
    obtain ⟨b1, b2⟩ := o l g2
    by_cases ej : i = j
    · by_cases el : i = l
      · rw [← ej, el]
      · rw [a2 ej] at g3
        cases g3
        obtain ⟨q1, q2⟩ := b1 el
        rw [q2] at g4
        exact absurd g4 (h5 l (Ne.symm el) q1)
    · by_cases el : i = l
      · rw [b2 el] at g4
        cases g4
        obtain ⟨q1, q2⟩ := a1 ej
        rw [q2] at g3
        exact absurd g3 (h5 j (Ne.symm ej) q1)
      · obtain ⟨q1, q2⟩ := a1 ej
        obtain ⟨q3, q4⟩ := b1 el
        rw [q2] at g3
        rw [q4] at g4
        exact E.ap j l a q1 q3 g3 g4
  od := fun j h => by
    obtain ⟨e, h⟩ := od_ne (by decide) h
    obtain ⟨w, y, g1, g2, g3⟩ := E.od j h
    exact ⟨w, y, by rw [List.getElem?_set_ne e]; exact g1, by rw [List.getElem?_set_ne e]; exact g2, g3⟩
  ad := fun j a h q => by
    obtain ⟨e, h⟩ := od_ne (by decide) h
    have q := (dp_ne e).mp q
    obtain ⟨q1, q2⟩ := E.ad j a h q
    refine ⟨fun l hl => ?_, fun l hl z => ?_⟩
    · by_cases el : i = l
      · subst el
        rw [List.getElem?_set]
        rw [if_pos rfl]
        intro z
        split at z
        · cases z
          exact h6 j h q
        · cases z
      · rw [List.getElem?_set_ne el] at hl ⊢
        exact q1 l hl
    · obtain ⟨e', hl⟩ := od_ne (by decide) hl
      exact q2 l hl ((dp_ne e').mp z)
def Own (H : Hp) (ts : List Tag) (σ : L2.St) (a : Addr) : Prop := (∃ i : Nat, ts[i]? = some .ow ∧ σ[i]? = some (some (.ref a))) ∨ ∃ i : Nat, ts[i]? = some .od ∧ Dpl H σ i a
abbrev WG := PV → List PV → (List PV → Prop) → Prop
abbrev WGs := List PV → List PV → (List PV → Prop) → Prop
def SimG (K : PySem.W.Frag) (d : Cn → Addr) (is : List Nat) (ts : List Tag) (g : TG) (wg : WG) (ts' : List Tag) : Prop := ∀ (H0 : Hp) (F0 F : Fz) (H : Hp) (σ : L2.St) (ρ : List PV) (v : V) (x : PV) (Q : L2.St → Hp → Prop) (P : List PV → Prop), EnvR K d ts H0 F0 F H σ ρ → Rv K d F H v x → wg x ρ P →
  (∀ σ' ρ', EnvR K d ts' H0 F0 F H σ' ρ' → (∀ vs : List Nat, (∀ i ∈ is, i ∈ vs) → wipe σ' vs = wipe σ vs) → (∀ a, Own H ts' σ' a → Own H ts σ a) → P ρ' → Q σ' H) → g v σ H Q
def SimGs (K : PySem.W.Frag) (d : Cn → Addr) (is : List Nat) (ts : List Tag) (g : TGs) (wg : WGs) (ts' : List Tag) : Prop := ∀ (H0 : Hp) (F0 F : Fz) (H : Hp) (σ : L2.St) (ρ : List PV) (v : List V) (x : List PV) (Q : L2.St → Hp → Prop) (P : List PV → Prop), EnvR K d ts H0 F0 F H σ ρ → Rvs K d F H v x → wg x ρ P →
  (∀ σ' ρ', EnvR K d ts' H0 F0 F H σ' ρ' → (∀ vs : List Nat, (∀ i ∈ is, i ∈ vs) → wipe σ' vs = wipe σ vs) → (∀ a, Own H ts' σ' a → Own H ts σ a) → P ρ' → Q σ' H) → g v σ H Q
theorem wipe_gone {j : Nat} : ∀ {τ : L2.St} {ws : List Nat}, j ∈ ws → (wipe τ ws)[j]? = if j < τ.length then some none else none
  | _, [], hw => by cases hw
  | τ, b :: ws, hw => by
    show ((wipe τ ws).set b none)[j]? = _
    rw [List.getElem?_set, wipe_length]
    by_cases z : b = j
    · rw [if_pos z, z]
    · rw [if_neg z]
      refine wipe_gone ?_
      rcases List.mem_cons.mp hw with y | y
      · exact absurd y.symm z
      · exact y
theorem wipe_idem (σ : L2.St) (vs : List Nat) : wipe (wipe σ vs) vs = wipe σ vs := by
  refine List.ext_getElem? fun j => ?_
  by_cases hm : j ∈ vs
  · rw [wipe_gone hm, wipe_gone hm, wipe_length]
  · rw [wipe_out hm]
theorem wipe_set {σ : L2.St} {i : Nat} {o : Option V} : ∀ {vs : List Nat}, i ∈ vs → wipe (σ.set i o) vs = wipe σ vs
  | [], h => by cases h
  | a :: vs, h => by
    show (wipe (σ.set i o) vs).set a none = (wipe σ vs).set a none
    by_cases q : i ∈ vs
    · rw [wipe_set q]
    · have e : i = a := by
        rcases List.mem_cons.mp h with z | z
        · exact z
        · exact absurd z q
      subst e
      refine List.ext_getElem? fun j => ?_
      rw [List.getElem?_set, List.getElem?_set, wipe_length, wipe_length, List.length_set]
      by_cases hj : i = j
      · rw [if_pos hj, if_pos hj]
      · rw [if_neg hj, if_neg hj]
        by_cases hm : j ∈ vs
        · rw [wipe_gone hm, wipe_gone hm, List.length_set]
        · rw [wipe_out hm, wipe_out hm, List.getElem?_set_ne hj]
def wgName (i : Nat) : WG := fun x ρ P => P (ρ.set i x)
theorem simG_name {i : Nat} : SimG K d [i] ts (gName i) (wgName i) (ts.set i .sh) := fun H0 F0 F H σ ρ v x Q P E r hw k =>
  k _ _ (E.set r) (fun vs h => wipe_set (h i (List.mem_singleton.mpr rfl))) (fun a z => by
    rcases z with ⟨j, h1, h2⟩ | ⟨j, h1, h2⟩
    · obtain ⟨e, h1⟩ := ow_ne (by decide) h1
      rw [List.getElem?_set_ne e] at h2
      exact .inl ⟨j, h1, h2⟩
    · obtain ⟨e, h1⟩ := od_ne (by decide) h1
      exact .inr ⟨j, h1, (dp_ne e).mp h2⟩) hw
def wgNil : WGs := fun xs ρ P => xs = [] ∧ P ρ
def wgCons (g : WG) (gs : WGs) : WGs := fun xs ρ P => match xs with
  | x :: r => g x ρ fun ρ' => gs r ρ' P
  | [] => False
theorem simGs_nil : SimGs K d [] ts gNil wgNil ts := fun H0 F0 F H σ ρ v x Q P E r hw k => by
  obtain ⟨rfl, hw⟩ := hw
  cases r
  exact ⟨rfl, k σ ρ E (fun _ _ => rfl) (fun _ h => h) hw⟩
theorem simGs_cons {is js : List Nat} {ts1 ts2 : List Tag} {g : TG} {gs : TGs} {wg : WG} {wgs : WGs} (h : SimG K d is ts g wg ts1) (hs : SimGs K d js ts1 gs wgs ts2) : SimGs K d (is ++ js) ts (gCons g gs) (wgCons wg wgs) ts2 := fun H0 F0 F H σ ρ v x Q P E r hw k => by
  cases r with
  | nil => exact hw.elim
  | cons a b =>
    exact ⟨_, _, rfl, h H0 F0 F H σ ρ _ _ _ _ E a hw fun σ1 ρ1 E1 w1 o1 h1 => hs H0 F0 F H σ1 ρ1 _ _ _ _ E1 b h1 fun σ2 ρ2 E2 w2 o2 h2 =>
      k σ2 ρ2 E2 (fun vs hv => (w2 vs fun i hi => hv i (List.mem_append_right _ hi)).trans (w1 vs fun i hi => hv i (List.mem_append_left _ hi))) (fun a z => o1 a (o2 a z)) h2⟩
def wgTup (n : Nat) (g : WGs) : WG := fun x ρ P => match x with
  | .tup xs => xs.length = n ∧ g xs ρ P
  | _ => False
theorem simG_tup {n : Nat} {is : List Nat} {gs : TGs} {wgs : WGs} (h : SimGs K d is ts gs wgs ts') : SimG K d is ts (gTup K n gs) (wgTup n wgs) ts' := fun H0 F0 F H σ ρ v x Q P E r hw k => by
  cases x with
  | tup xs =>
    obtain ⟨p, vs, rfl, h1, h2⟩ := r.tupE
    exact ⟨p, vs, rfl, h1, by rw [h2.length]; exact hw.1, h H0 F0 F H σ ρ vs xs Q P E h2 hw.2 k⟩
  | _ => exact hw.elim
def wtag (ts : List Tag) : List Nat → List Tag
  | [] => ts
  | v :: vs => (wtag ts vs).set v .no
theorem EnvR.drop1 {i : Nat} {o : Option V} {σ : L2.St} {ρ : List PV} (E : EnvR K d ts H0 F0 F H σ ρ) : EnvR K d (ts.set i .no) H0 F0 F H (σ.set i o) ρ where
  st := E.st
  xc := E.xc
  ex := E.ex.set (by decide)
  ls := by rw [List.length_set, List.length_set, E.ls]
  lr := by rw [List.length_set, E.lr]
  sh := fun j h => by
    rw [List.getElem?_set] at h
    split at h
    · split at h <;> cases h
    · next e =>
      obtain ⟨w, y, g1, g2, g3⟩ := E.sh j h
      exact ⟨w, y, by rw [List.getElem?_set_ne e]; exact g1, g2, g3⟩
  ow := fun j h => by
    rw [List.getElem?_set] at h
    split at h
    · split at h <;> cases h
    · next e =>
      obtain ⟨w, vs, xs, g1, g3⟩ := E.ow j h
      exact ⟨w, vs, xs, by rw [List.getElem?_set_ne e]; exact g1, g3⟩
  ap := fun j l a h1 h2 h3 h4 => by
    have o : ∀ m : Nat, (ts.set i .no)[m]? = some .ow → i ≠ m ∧ ts[m]? = some .ow := fun m h => by
      rw [List.getElem?_set] at h
      split at h
      · split at h <;> cases h
      · next e => exact ⟨e, h⟩
    obtain ⟨n1, o1⟩ := o j h1
    obtain ⟨n2, o2⟩ := o l h2
    rw [List.getElem?_set_ne n1] at h3
    rw [List.getElem?_set_ne n2] at h4
    exact E.ap j l a o1 o2 h3 h4
  od := fun j h => by
    obtain ⟨e, h⟩ := od_ne (by decide) h
    obtain ⟨w, y, h1, h2, h3⟩ := E.od j h
    exact ⟨w, y, by rw [List.getElem?_set_ne e]; exact h1, h2, h3⟩
  ad := fun j a h q => by
    obtain ⟨e, h⟩ := od_ne (by decide) h
    obtain ⟨q1, q2⟩ := E.ad j a h ((dp_ne e).mp q)
    refine ⟨fun l hl => ?_, fun l hl z => ?_⟩
    · obtain ⟨e', hl⟩ := ow_ne (by decide) hl
      rw [List.getElem?_set_ne e']
      exact q1 l hl
    · obtain ⟨e', hl⟩ := od_ne (by decide) hl
      exact q2 l hl ((dp_ne e').mp z)
theorem EnvR.wipe {σ : L2.St} {ρ : List PV} (E : EnvR K d ts H0 F0 F H σ ρ) : ∀ vs : List Nat, EnvR K d (wtag ts vs) H0 F0 F H (L2.wipe σ vs) ρ
  | [] => E
  | _ :: vs => (E.wipe vs).drop1
def wLcL (wg : WG) (wt : WT) (we : WE) (ρ : List PV) : List PV → List PV → (List PV → Prop) → Prop
  | [], acc, P => P acc
  | x :: xs, acc, P => wg x ρ fun ρ2 => wt ρ2 fun b => if b = true then we ρ2 fun y => wLcL wg wt we ρ xs (acc ++ [y]) P else wLcL wg wt we ρ xs acc P
def wLc (ww : WI) (wg : WG) (wt : WT) (we : WE) : WE := fun ρ P => ww ρ fun xs => xs.length ≤ 100000 ∧ wLcL wg wt we ρ xs [] fun ys => P (.lst ys)
theorem sim_lc {is vs : List Nat} {ts2 : List Tag} {wi : TI} {ww : WI} {g : TG} {wg : WG} {tt : TT} {wt : WT} (hi : SimI K d false ts wi ww) (hg : SimG K d is (wtag ts vs) g wg ts2) (ht : SimT K d ts2 tt wt) (he : Sim K d (rS K d) ts2 te we)
    (hv : (is.all fun i => vs.contains i) = true := by rfl) : Sim K d (rN K d) ts (tLc wi g tt te vs) (wLc ww wg wt we) := fun H0 F0 F H σ ρ Q P E hw k => hi H0 F0 F H σ ρ _ _ E hw fun xs F1 H1 J s1 it hx => by
  have hv' : ∀ i ∈ is, i ∈ vs := fun i h => by
    have := List.all_eq_true.mp hv i h
    exact List.contains_iff_mem.mp this
  obtain ⟨hl, hx⟩ := hx
  obtain ⟨G, Y, w, hG, item⟩ := it
  have E1 := E.step s1
  intro D nD
  refine lc_it w (fun i H' => ∃ (F' : Fz) (as : List V) (acc : List PV), H' D = some (.lst as) ∧ ¬ F' D ∧ Rvs K d F' H' as acc ∧ as.length ≤ i ∧ Step F1 H1 F' H' ∧ wLcL wg wt we ρ (xs.drop i) acc fun ys => P (.lst ys)) ?_ ?_ ?_ ?_
  · exact ⟨F1, [], [], upd_same, fun f => s1.dm.at_ D f nD, .nil, Nat.le_refl _, Step.new s1.dm nD, hx⟩
  · rintro i H' _ ⟨F', as, acc, _, _, _, _, st, _⟩
    exact hG H' st.ex
  · rintro i x H' H'' hi' ⟨F', as, acc, a1, a2, a3, a4, st, hw2⟩ y
    obtain ⟨s2, z, hz, rz⟩ := item i H' F' x H'' st.ex st.up (.of st.ex) st.dm y hi'
    have dr : xs.drop i = z :: xs.drop (i + 1) := by
      obtain ⟨hlt, e⟩ := List.getElem?_eq_some_iff.mp hz
      rw [List.drop_eq_getElem_cons hlt, e]
    rw [dr] at hw2
    have Ew := ((E1.step (st.trans s2)).wipe vs)
    refine hg H0 F0 F' H'' (L2.wipe σ vs) ρ x z _ _ Ew rz hw2 fun σ2 ρ2 E2 wp _ h2 => ?_
    have wip : wipe σ2 vs = wipe σ vs := by
      rw [wp vs hv']
      have : ∀ (τ : L2.St) (l : List Nat), wipe (wipe τ vs) l = wipe (wipe τ vs) l := fun _ _ => rfl
      exact wipe_idem σ vs
    refine ⟨wip, ht H0 F0 F' H'' σ2 ρ2 _ _ E2 h2 fun b H3 e3 hb => ?_⟩
    have s3 := Step.tox s2.dm e3
    have aD : H3 D = some (.lst as) := e3.xn.at (s2.ex.at a1)
    cases b with
    | true =>
      refine he H0 F0 F' H3 σ2 ρ2 _ _ (E2.step s3) hb fun q u F4 H4 s4 r4 h4 => ?_
      have aD4 : H4 D = some (.lst as) := s4.ex.at aD
      have nf4 : ¬ F4 D := fun f => (s4.nw D f).elim a2 fun z => by rw [aD] at z; cases z
      refine ⟨as, aD4, sz_lt (by omega), F4, as ++ [u], acc ++ [q], upd_same, nf4, ?_, by rw [List.length_append, List.length_singleton]; omega, ?_, h4⟩
      · have sb : Stb F4 H4 (upd H4 D (.lst (as ++ [u]))) := Stb.set aD4 nf4
        exact (((a3.step s2).step s3).step s4 |>.mono sb fun _ h => h).append (.cons (r4.mono sb fun _ h => h) .nil)
      · have s5 := ((st.trans s2).trans s3).trans s4
        exact ⟨Xn.mut s5.ex nD, s5.up, s5.nw, s5.dm.set aD4⟩
    | false => exact ⟨F', as, acc, aD, a2, (a3.step s2).step s3, by omega, (st.trans s2).trans s3, hb⟩
  · rintro H' ⟨F', as, acc, a1, a2, a3, a4, st, hw2⟩
    rw [List.drop_length] at hw2
    exact k (.lst acc) (.ref D) F' H' (s1.trans st) (.inr ⟨D, as, acc, rfl, rfl, back_x s1.ex nD, a1, a2, a3⟩) hw2
end
end Wx
namespace Wx
open PySem PySem.Spec PyProof.Rows L2 Evl Hn RZ
variable [TabC]
abbrev WF := List PV → (PV → Prop) → Prop
structure WEnds where
  nx : List PV → Prop
  rt : PV → Prop
  bk : List PV → Prop := fun _ => False
  ct : List PV → Prop := fun _ => False
abbrev WS := WEnds → List PV → Prop
section
variable [XC]
variable (K : PySem.W.Frag) (d : Cn → Addr)
def spW (R : RR) (w : WF) : Sp := fun vs H Q _ => ∃ (F : Fz) (xs : List PV) (P : PV → Prop), Dom F H ∧ Rvs K d F H vs xs ∧ w xs P ∧ ∀ x v F' H', Step F H F' H' → R F H F' H' v x → P x → Q v H'
def Gr (F : Fz) (H : Hp) (F' : Fz) (H' : Hp) : Prop := (∀ a, F a → F' a) ∧ Stb F H H'
def SimS (R : RR) (bt ct ts : List Tag) (t : TS) (w : WS) (ts' : List Tag) : Prop := ∀ (H0 : Hp) (F0 F : Fz) (H : Hp) (σ : L2.St) (ρ : List PV) (D : Ends) (D' : WEnds), EnvR K d ts H0 F0 F H σ ρ → w D' ρ →
  (∀ F' H' σ' ρ', Gr F H F' H' → EnvR K d ts' H0 F0 F' H' σ' ρ' → D'.nx ρ' → D.nx σ' H') →
  (∀ x v F' H', Step F0 H0 F' H' → R F0 H0 F' H' v x → D'.rt x → D.rt v H') →
  (∀ F' H' σ' ρ', Gr F H F' H' → EnvR K d bt H0 F0 F' H' σ' ρ' → D'.bk ρ' → D.bk σ' H') →
  (∀ F' H' σ' ρ', Gr F H F' H' → EnvR K d ct H0 F0 F' H' σ' ρ' → D'.ct ρ' → D.ct σ' H') → t D σ H
end
section
variable [XC]
variable {K : PySem.W.Frag} {d : Cn → Addr} {F F' F0 F1 F2 : Fz} {H H' H0 H1 H2 Hs : Hp} {v u : V} {ts ts' ts1 ts2 bt ct : List Tag} {R : RR} {te ta tb tc : TE} {we wa wb wc : WE} {σ : L2.St} {ρ : List PV} {x : PV}
theorem Gr.refl : Gr F H F H := ⟨fun _ h => h, .refl⟩
theorem Gr.of (s : Step F H F' H') : Gr F H F' H' := ⟨s.up, .of s.ex⟩
theorem Gr.up (h : ∀ a, F a → F' a) : Gr F H F' H := ⟨h, .refl⟩
theorem Gr.trans (a : Gr F H F1 H1) (b : Gr F1 H1 F2 H2) : Gr F H F2 H2 := ⟨fun x h => b.1 x (a.1 x h), fun x o h z => b.2 x o (a.2 x o h z) (z.elim .inl fun f => .inr ⟨a.1 x f.1, f.2⟩)⟩
def wCall (w : WF) (wa : WA) : WE := fun ρ P => wa ρ fun xs => w xs P
theorem sim_call {w : WF} {ar : TA} {wr : WA} {E : XK} (o : ROk R) (ha : SimA K d ts ar wr) : Sim K d R ts (tCall (spW K d R w) [] E ar) (wCall w wr) := fun H0 F0 F H σ ρ Q P E hw k =>
  ha H0 F0 F H σ ρ _ _ E hw fun xs vs F1 H1 s1 r1 h1 => ⟨F1, xs, P, s1.dm, by rw [List.append_nil]; exact r1, h1, fun x v F' H' s r p => k x v F' H' (s1.trans s) (o.back s1 r) p⟩
def wMeth (c : Cn) (m : Str) (w : WF) (wo : WE) (wa : WA) : WE := fun ρ P => wo ρ fun x => (∃ fs, x = .ins c fs ∧ fs.lookup m = none) ∧ wa ρ fun xs => w (x :: xs) P
def wProp (c : Cn) (w : WF) (wo : WE) : WE := fun ρ P => wo ρ fun x => (∃ fs, x = .ins c fs) ∧ w [x] P
theorem sim_prop {w : WF} {to : TE} {wo : WE} {E : XK} {C : Addr} (c : Cn) (o : ROk R) (ho : Sim K d (rS K d) ts to wo) (hC : d c = C := by rfl) : Sim K d R ts (tProp C (spW K d R w) [] E to) (wProp c w wo) := fun H0 F0 F H σ ρ Q P E hw k =>
  ho H0 F0 F H σ ρ _ _ E hw fun x v F1 H1 s1 r1 ⟨⟨fs, ex⟩, h1⟩ => by
    subst hC
    subst ex
    obtain ⟨p, dx, gs, rfl, h2, h3⟩ := Rv.insE r1
    exact ⟨p, dx, gs, rfl, h2, F1, [.ins c fs], P, s1.dm, .cons r1 .nil, h1, fun x v F' H' s r q => k x v F' H' (s1.trans s) (o.back s1 r) q⟩
def wStat (w : WF) (wo : WE) (wa : WA) (c : Cn) : WE := fun ρ P => wo ρ fun x => x = .cls c ∧ wa ρ fun xs => w xs P
def MkS (K : PySem.W.Frag) (d : Cn → Addr) (c : Cn) (sp : Sp) (w : WF) : Prop := ∀ (F : Fz) (H : Hp) (vs : List V) (xs : List PV) (Q : V → Hp → Prop) (P : PV → Prop) (E : XK), Dom F H → Rvs K d F H vs xs → w xs P →
  (∀ x v F' H', Step F H F' H' → Rv K d F' H' v x → notL x → P x → Q v H') → ∀ y dx, H y = none → H dx = none → dx ≠ y → sp (.ref y :: (vs ++ [])) (upd (upd H dx (.own y)) y (.ins (d c) dx [])) (fun v H2 => v = .non ∧ Q (.ref y) H2) E
theorem sim_make {w : WF} {sp : Sp} {ar : TA} {wr : WA} {E : XK} {C : Addr} {c : Cn} (m : MkS K d c sp w) (ha : SimA K d ts ar wr) (hC : d c = C := by rfl) : Sim K d (rN K d) ts (tMake C sp [] E ar) (wCall w wr) := fun H0 F0 F H σ ρ Q P E hw k =>
  ha H0 F0 F H σ ρ _ _ E hw fun xs vs F1 H1 s1 r1 h1 y dx ny nd ne => by
    subst hC
    exact m F1 H1 vs xs Q P _ s1.dm r1 h1 (fun x v F' H' s r nl p => k x v F' H' (s1.trans s) (.inl ⟨nl, r⟩) p) y dx ny nd ne
def OwS (K : PySem.W.Frag) (d : Cn → Addr) (R : RR) (r : R2) (w : W2) : Prop := ∀ (F : Fz) (H : Hp) (v u : V) (x y : PV) (Q : VK) (P : PV → Prop), Dom F H → Rv K d F H v x → Rv K d F H u y → w x y P →
  (∀ z v' F' H', Step F H F' H' → R F H F' H' v' z → P z → Q v' H') → r v u H Q
theorem sim_own {r : R2} {w : W2} (o : ROk R) (hr : OwS K d R r w) (ha : Sim K d (rS K d) ts ta wa) (hb : Sim K d (rS K d) ts tb wb) : Sim K d R ts (tOp r ta tb) (wOp w wa wb) := fun H0 F0 F H σ ρ Q P E hw k =>
  ha H0 F0 F H σ ρ _ _ E hw fun x v F1 H1 s1 r1 h1 => hb H0 F0 F1 H1 σ ρ _ _ (E.step s1) h1 fun y u F2 H2 s2 r2 h2 =>
    hr F2 H2 v u x y _ _ s2.dm (Rv.step s2 r1) r2 h2 fun z v' F3 H3 s3 r3 p => k z v' F3 H3 ((s1.trans s2).trans s3) (o.back (s1.trans s2) r3) p
def wOwn (c : Cn) (w : WF) : W2 := fun x y P => (∃ fs gs, x = .ins c fs ∧ y = .ins c gs) ∧ w [x, y] P
theorem ows_own {w : WF} {C : Addr} {E : XK} (c : Cn) (hC : d c = C := by rfl) : OwS K d R (rOwn C (spW K d R w) E) (wOwn c w) := fun F H v u x y Q P dm rx ry h k => by
  obtain ⟨⟨fs, gs, rfl, rfl⟩, h⟩ := h
  subst hC
  obtain ⟨p, dx, as, rfl, h2, h3⟩ := rx.insE
  obtain ⟨q, dy, bs, rfl, g2, g3⟩ := ry.insE
  exact ⟨p, q, dx, dy, as, bs, rfl, rfl, h2, g2, F, _, P, dm, .cons rx (.cons ry .nil), h, k⟩
def wOwnNe (c : Cn) (w : WF) : W2 := fun x y P => (∃ fs gs, x = .ins c fs ∧ y = .ins c gs) ∧ w [x, y] fun z => match z with
  | .bl b => P (.bl (!b))
  | _ => False
def wOwnI (c : Cn) (w : WF) : W2 := fun x y P => (∃ fs i, x = .ins c fs ∧ y = .int i) ∧ w [x, y] P
def wOwnR (c : Cn) (w : WF) : W2 := fun x y P => (∃ fs i, y = .ins c fs ∧ x = .int i) ∧ w [y, x] P
def wIxO (c : Cn) (w : WF) (wa wb : WE) : WE := fun ρ P => wa ρ fun x => wb ρ fun y => (∃ fs, x = .ins c fs) ∧ w [x, y] P
def wLenO (c : Cn) (w : WF) : WC := fun xs P => ∃ fs, xs = [.ins c fs] ∧ w xs fun z => match z with
  | .int n => 0 ≤ n ∧ n < 2 ^ 63 ∧ P (.int n)
  | _ => False
theorem cas_lenO {w : WF} {C : Addr} {E : XK} (c : Cn) (hC : d c = C := by rfl) : CaS K d (rN K d) (rLenO C (spW K d (rN K d) w) E) (wLenO c w) := fun F H vs xs Q P dm r h k => by
  obtain ⟨fs, rfl, h⟩ := h
  subst hC
  obtain ⟨v, rfl, r1⟩ := r.one
  have r1' := r1.of trivial
  obtain ⟨p, dx, as, rfl, g2, g3⟩ := r1'.insE
  refine ⟨p, dx, as, rfl, g2, F, _, _, dm, .cons r1' .nil, h, fun z v F' H' s r pz => ?_⟩
  cases z with
  | int n =>
    rcases r with r | ⟨_, _, _, _, e, _⟩
    · cases r.2
      exact ⟨n, rfl, pz.1, pz.2.1, k (.int n) _ F' H' s (.inl ⟨trivial, .int _⟩) pz.2.2⟩
    · cases e
  | _ => exact pz.elim
theorem simS_nil : SimS K d R bt ct ts tNext (fun D ρ => D.nx ρ) ts := fun H0 F0 F H σ ρ D D' E hw n r b c => n F H σ ρ .refl E hw
def wSeq (a b : WS) : WS := fun D ρ => a { D with nx := b D } ρ
theorem simS_seq {t t' : TS} {a b : WS} (h : SimS K d R bt ct ts t a ts1) (h' : SimS K d R bt ct ts1 t' b ts2) : SimS K d R bt ct ts (tSeq t t') (wSeq a b) ts2 := fun H0 F0 F H σ ρ D D' E hw n r b' c =>
  h H0 F0 F H σ ρ _ _ E hw (fun F1 H1 σ1 ρ1 g1 E1 h1 => h' H0 F0 F1 H1 σ1 ρ1 D D' E1 h1 (fun F2 H2 σ2 ρ2 g2 => n F2 H2 σ2 ρ2 (g1.trans g2)) r (fun F2 H2 σ2 ρ2 g2 => b' F2 H2 σ2 ρ2 (g1.trans g2)) fun F2 H2 σ2 ρ2 g2 => c F2 H2 σ2 ρ2 (g1.trans g2)) r b' c
def wCut (a b : WS) : WS := fun D ρ => ∃ M : List PV → Prop, a { D with nx := M } ρ ∧ ∀ ρ', M ρ' → b D ρ'
theorem simS_conv {t : TS} {a : WS} (c : cv ts ts1 = true) (h : SimS K d R bt ct ts1 t a ts2) : SimS K d R bt ct ts t a ts2 := fun H0 F0 F H σ ρ D D' E hw n r b' c' => by
  obtain ⟨F1, up, E1⟩ := E.conv c
  exact h H0 F0 F1 H σ ρ D D' E1 hw (fun F2 H2 σ2 ρ2 g2 => n F2 H2 σ2 ρ2 ((Gr.up up).trans g2)) r (fun F2 H2 σ2 ρ2 g2 => b' F2 H2 σ2 ρ2 ((Gr.up up).trans g2)) fun F2 H2 σ2 ρ2 g2 => c' F2 H2 σ2 ρ2 ((Gr.up up).trans g2)
def wSet (i : Nat) (we : WE) : WS := fun D ρ => we ρ fun x => D.nx (ρ.set i x)
theorem simS_set {i : Nat} (h : Sim K d (rS K d) ts te we) : SimS K d R bt ct ts (tAsg te (gName i)) (wSet i we) (ts.set i .sh) := fun H0 F0 F H σ ρ D D' E hw n r b c =>
  h H0 F0 F H σ ρ _ _ E hw fun x v F1 H1 s1 r1 h1 => n F1 H1 _ _ (.of s1) ((E.step s1).set r1) h1
def New (K : PySem.W.Frag) (d : Cn → Addr) (Hs : Hp) (F : Fz) (H : Hp) (k : Bool) (v : V) (x : PV) : Prop := if k = true then ∃ p vs xs, v = .ref p ∧ x = .lst xs ∧ Hs p = none ∧ H p = some (.lst vs) ∧ ¬ F p ∧ Rvs K d F H vs xs else Rv K d F H v x
def rK (K : PySem.W.Frag) (d : Cn → Addr) (k : Bool) : RR := if k = true then rN K d else rS K d
def tgK (k : Bool) : Tag := if k = true then .ow else .sh
def isL (k : Bool) (x : PV) : Prop := k = true → ∃ xs, x = .lst xs
theorem new_of {k : Bool} (h : rK K d k F H F' H' v x) (l : isL k x) : New K d H F' H' k v x := by
  cases k with
  | false => exact h
  | true =>
    obtain ⟨xs, rfl⟩ := l rfl
    rcases (show rN K d F H F' H' v (.lst xs) from h) with h | h
    · exact h.1.elim
    · exact h
theorem New.step {k : Bool} (s : Step F H F' H') (h : New K d Hs F H k v x) : New K d Hs F' H' k v x := by
  cases k with
  | false => exact Rv.step s h
  | true =>
    obtain ⟨p, vs, xs, h1, h2, h3, h4, h5, h6⟩ := h
    refine ⟨p, vs, xs, h1, h2, h3, s.ex.at h4, fun f => (s.nw p f).elim h5 fun z => ?_, h6.step s⟩
    rw [h4] at z
    cases z
def OwnIn (Hs : Hp) (ts : List Tag) (σ : L2.St) : Prop := (∀ (j : Nat) (a : Addr), ts[j]? = some .ow → σ[j]? = some (some (.ref a)) → Hs a ≠ none) ∧ ∀ (j : Nat) (c : Addr), ts[j]? = some .od → σ[j]? = some (some (.ref c)) → ∃ ws : List V, Hs c = some (.lst ws) ∧ ∀ b, V.ref b ∈ ws → Hs b ≠ none
theorem EnvR.ownIn (E : EnvR K d ts H0 F0 F H σ ρ) : OwnIn H ts σ := by
 refine ⟨fun j a h1 h2 z => ?_, fun j c h1 h2 => ?_⟩
 · obtain ⟨b, vs, xs, g1, g2, g3, _⟩ := E.ow j h1
   rw [h2] at g1
   cases g1
   rw [g3] at z
   cases z
 · obtain ⟨v, x, g1, g2, g3⟩ := E.od j h1
   rw [h2] at g1
   cases g1
   obtain ⟨c', bs, yss, e, _, g4, _⟩ := id g3
   cases e
   exact ⟨bs, g4, fun b hb => (g3.have_ h2 ⟨c, bs, h2, g4, .inr hb⟩).1⟩
theorem OwnIn.step (e : Xn H H') (h : OwnIn H ts σ) : OwnIn H' ts σ := ⟨fun j a h1 h2 z => h.1 j a h1 h2 (back_x e z), fun j c h1 h2 => by
  obtain ⟨bs, g1, g2⟩ := h.2 j c h1 h2
  exact ⟨bs, e.at g1, fun b hb z => g2 b hb (back_x e z)⟩⟩
theorem OwnIn.not {Hs : Hp} (h : OwnIn Hs ts σ) (e : Xn Hs H) {p : Addr} (hp : Hs p = none) {j : Nat} (hj : ts[j]? = some .od) : ¬ Dpl H σ j p := by
  rintro ⟨c, bs, h1, h2, h3⟩
  obtain ⟨bs', g1, g2⟩ := h.2 j c hj h1
  rw [e.at g1] at h2
  cases h2
  rcases h3 with rfl | h3
  · rw [hp] at g1
    cases g1
  · exact g2 p h3 hp
theorem EnvR.put {i : Nat} {k : Bool} (E : EnvR K d ts H0 F0 F H σ ρ) (n : New K d Hs F H k v x) (e0 : Xn H0 Hs) (o : OwnIn Hs ts σ) (e : Xn Hs H) : EnvR K d (ts.set i (tgK k)) H0 F0 F H (σ.set i (some v)) (ρ.set i x) := by
  cases k with
  | false => exact E.set n
  | true =>
    obtain ⟨p, vs, xs, rfl, rfl, h3, h4, h5, h6⟩ := n
    exact E.setO h4 h5 (back_x e0 h3) h6 (fun j _ h1 h2 => o.1 j p h1 h2 h3) fun j h1 => o.not e h3 h1
theorem OwnIn.put {i : Nat} {k : Bool} (h : OwnIn Hs ts σ) (n : k = true → ∃ p, v = .ref p ∧ Hs p ≠ none) : OwnIn Hs (ts.set i (tgK k)) (σ.set i (some v)) := by
 refine ⟨fun j a h1 h2 => ?_, fun j c h1 h2 => ?_⟩
 rotate_left
 · obtain ⟨e, h1⟩ := od_ne (by cases k <;> decide) h1
   rw [List.getElem?_set_ne e] at h2
   exact h.2 j c h1 h2
 · rw [List.getElem?_set] at h1
   by_cases e : i = j
   · subst e
     rw [if_pos rfl] at h1
     split at h1
     · next l =>
       cases k with
       | false => cases h1
       | true =>
         obtain ⟨p, rfl, q⟩ := n rfl
         rw [List.getElem?_set] at h2
         rw [if_pos rfl] at h2
         split at h2
         · cases h2; exact q
         · cases h2
     · cases h1
   · rw [if_neg e] at h1
     rw [List.getElem?_set_ne e] at h2
     exact h.1 j a h1 h2
def wSetO (i : Nat) (we : WE) : WS := fun D ρ => we ρ fun x => isL true x ∧ D.nx (ρ.set i x)
theorem simS_setO {i : Nat} (h : Sim K d (rN K d) ts te we) : SimS K d R bt ct ts (tAsg te (gName i)) (wSetO i we) (ts.set i .ow) := fun H0 F0 F H σ ρ D D' E hw n r b c =>
  h H0 F0 F H σ ρ _ _ E hw fun x v F1 H1 s1 r1 h1 => n F1 H1 _ _ (.of s1) ((E.step s1).put (k := true) (new_of (k := true) (F := F) (H := H) r1 h1.1) E.st.ex E.ownIn s1.ex) h1.2
def wPar (i j : Nat) (k l : Bool) (wa wb : WE) : WS := fun D ρ => wa ρ fun x => wb ρ fun y => isL k x ∧ isL l y ∧ D.nx ((ρ.set i x).set j y)
theorem New.have {k : Bool} (h : New K d Hs F H k v x) : k = true → ∃ p, v = .ref p ∧ H p ≠ none := fun e => by
  subst e
  obtain ⟨p, vs, xs, rfl, _, _, h4, _⟩ := h
  exact ⟨p, rfl, by rw [h4]; intro z; cases z⟩
theorem simS_par {i j : Nat} {k l : Bool} (ha : Sim K d (rK K d k) ts ta wa) (hb : Sim K d (rK K d l) ts tb wb) : SimS K d R bt ct ts (tPar i j (tCons ta (tCons tb tNil))) (wPar i j k l wa wb) ((ts.set i (tgK k)).set j (tgK l)) := fun H0 F0 F H σ ρ D D' E hw n r b c =>
  ha H0 F0 F H σ ρ _ _ E hw fun x v F1 H1 s1 r1 h1 => hb H0 F0 F1 H1 σ ρ _ _ (E.step s1) h1 fun y u F2 H2 s2 r2 ⟨lx, ly, h2⟩ => by
    have n1 := new_of r1 lx
    have E1 := ((E.step s1).step s2).put (i := i) (n1.step s2) E.st.ex E.ownIn (s1.trans s2).ex
    exact ⟨v, u, rfl, n F2 H2 _ _ (.of (s1.trans s2)) (E1.put (i := j) (new_of r2 ly) (E.st.ex.trans s1.ex) ((E.ownIn.step s1.ex).put n1.have) s2.ex) h2⟩
def wPar3 (i j m : Nat) (k l o : Bool) (wa wb wc : WE) : WS := fun D ρ => wa ρ fun x => wb ρ fun y => wc ρ fun z => isL k x ∧ isL l y ∧ isL o z ∧ D.nx (((ρ.set i x).set j y).set m z)
theorem simS_par3 {i j m : Nat} {k l o : Bool} (ha : Sim K d (rK K d k) ts ta wa) (hb : Sim K d (rK K d l) ts tb wb) (hc : Sim K d (rK K d o) ts tc wc) : SimS K d R bt ct ts (tPar3 i j m (tCons ta (tCons tb (tCons tc tNil)))) (wPar3 i j m k l o wa wb wc) (((ts.set i (tgK k)).set j (tgK l)).set m (tgK o)) := fun H0 F0 F H σ ρ D D' E hw n r b c =>
  ha H0 F0 F H σ ρ _ _ E hw fun x v F1 H1 s1 r1 h1 => hb H0 F0 F1 H1 σ ρ _ _ (E.step s1) h1 fun y u F2 H2 s2 r2 h2 => hc H0 F0 F2 H2 σ ρ _ _ ((E.step s1).step s2) h2 fun z q F3 H3 s3 r3 ⟨lx, ly, lz, h3⟩ => by
    have n1 := new_of r1 lx
    have n2 := new_of r2 ly
    have o1 := (E.ownIn.step s1.ex).put (i := i) n1.have
    have E1 := (((E.step s1).step s2).step s3).put (i := i) ((n1.step s2).step s3) E.st.ex E.ownIn ((s1.trans s2).trans s3).ex
    have E2 := E1.put (i := j) (n2.step s3) (E.st.ex.trans s1.ex) o1 (s2.trans s3).ex
    exact ⟨v, u, q, rfl, n F3 H3 _ _ (.of ((s1.trans s2).trans s3)) (E2.put (i := m) (new_of r3 lz) ((E.st.ex.trans s1.ex).trans s2.ex) ((o1.step s2.ex).put n2.have) s3.ex) h3⟩
def wAsg (we : WE) (wg : WG) : WS := fun D ρ => we ρ fun x => wg x ρ D.nx
def wAug (i : Nat) (f : Int → Int → Int) (we : WE) : WS := fun D ρ => we ρ fun y => match ρ.getD i .non, y with
  | .int a, .int b => D.nx (ρ.set i (.int (f a b)))
  | _, _ => False
theorem EnvR.write {i : Nat} {a : Addr} {vs us : List V} {xs ys : List PV} (E : EnvR K d ts H0 F0 F H σ ρ) (hi : ts[i]? = some .ow) (hs : σ[i]? = some (some (.ref a))) (hx : Rvs K d F H us ys) : EnvR K d ts H0 F0 F (upd H a (.lst us)) σ (ρ.set i (.lst ys)) := by
  obtain ⟨b, vs', xs', g1, g2, g3, g4, g5, g6⟩ := E.ow i hi
  rw [hs] at g1
  cases g1
  have sb : Stb F H (upd H a (.lst us)) := Stb.set g3 g4
  refine ⟨⟨Xn.mut E.st.ex g5, E.st.up, E.st.nw, E.dm.set g3⟩, E.ls, by rw [List.length_set, E.lr], fun j h => ?_, fun j h => ?_, E.ap, fun j h => ?_, fun j x h q => ?_, E.xc, E.ex.mono sb fun _ z => z⟩
  · obtain ⟨v, x, h1, h2, h3⟩ := E.sh j h
    have ne : i ≠ j := by rintro rfl; rw [hi] at h; cases h
    exact ⟨v, x, h1, by rw [List.getElem?_set_ne ne]; exact h2, h3.mono sb fun _ z => z⟩
  · by_cases e : i = j
    · subst e
      have li : i < ρ.length := (List.getElem?_eq_some_iff.mp g2).1
      exact ⟨a, us, ys, hs, by rw [List.getElem?_set_self li], upd_same, g4, g5, hx.mono sb fun _ z => z⟩
    · obtain ⟨b, ws, zs, h1, h2, h3, h4, h5, h6⟩ := E.ow j h
      have nb : b ≠ a := by
        rintro rfl
        exact e (E.ap i j b hi h hs h1)
      exact ⟨b, ws, zs, h1, by rw [List.getElem?_set_ne e]; exact h2, by rw [upd_ne nb]; exact h3, h4, h5, h6.mono sb fun _ z => z⟩
  · obtain ⟨v, x, h1, h2, h3⟩ := E.od j h
    have ne : i ≠ j := by rintro rfl; rw [hi] at h; cases h
    have na : ∀ b, Dpl H σ j b → b ≠ a := fun b q e => (E.ad j b h q).1 i hi (by rw [e]; exact hs)
    obtain ⟨c, bs, yss, rfl, rfl, k1, k2, k3, k4, k5, k6, k7⟩ := h3
    refine ⟨_, _, h1, by rw [List.getElem?_set_ne ne]; exact h2, c, bs, yss, rfl, rfl, by rw [upd_ne (na c ⟨c, bs, h1, k1, .inl rfl⟩)]; exact k1, k2, k3, k4, k5, k6, fun k w z q1 q2 => ?_⟩
    rcases k7 k w z q1 q2 with ⟨b, us, ys, rfl, rfl, u1, u2, u3, u4⟩ | s
    · exact .inl ⟨b, us, ys, rfl, rfl, by rw [upd_ne (na b ⟨c, bs, h1, k1, .inr (List.mem_of_getElem? q1)⟩)]; exact u1, u2, u3, u4.mono sb fun _ z => z⟩
    · exact .inr s
  · have bk : ∀ {l : Nat} {y : Addr}, ts[l]? = some .od → Dpl (upd H a (.lst us)) σ l y → Dpl H σ l y := fun {l y} hl ⟨c, bs, z1, z2, z3⟩ => by
      obtain ⟨v, w, h1, h2, h3⟩ := E.od l hl
      obtain ⟨c', bs', yss, e, _, k1, _⟩ := h3
      rw [h1, e] at z1
      cases z1
      have : c ≠ a := fun e' => (E.ad l c hl ⟨c, bs', by rw [h1, e], k1, .inl rfl⟩).1 i hi (by rw [e']; exact hs)
      rw [upd_ne this] at z2
      exact ⟨c, bs, by rw [h1, e], z2, z3⟩
    obtain ⟨q1, q2⟩ := E.ad j x h (bk h q)
    exact ⟨q1, fun l hl z => q2 l hl (bk hl z)⟩
def MuS (K : PySem.W.Frag) (d : Cn → Addr) (rm : V → List V → Hp → VK → Prop) (w : List PV → List PV → (List PV → Prop) → Prop) : Prop := ∀ (F : Fz) (H : Hp) (a : Addr) (vs as : List V) (xs zs : List PV) (Q : VK) (P : List PV → Prop), H a = some (.lst vs) → Rvs K d F H vs xs → Rvs K d F H as zs → w xs zs P →
  (∀ us ys v, Rvs K d F H us ys → P ys → Q v (upd H a (.lst us))) → rm (.ref a) as H Q
def wMut (i : Nat) (w : List PV → List PV → (List PV → Prop) → Prop) (wa : WA) : WS := fun D ρ => wa ρ fun zs => ∃ xs, ρ.getD i .non = .lst xs ∧ w xs zs fun ys => D.nx (ρ.set i (.lst ys))
theorem simS_mut {i : Nat} {T : String} {rm : V → List V → Hp → VK → Prop} {w : List PV → List PV → (List PV → Prop) → Prop} {ar : TA} {wr : WA} (hT : T = "list") (hi : ts[i]? = some .ow) (m : MuS K d rm w) (ha : SimA K d ts ar wr) : SimS K d R bt ct ts (tDrop (tBM K T rm (tVar i) ar)) (wMut i w wr) ts := fun H0 F0 F H σ ρ D D' E hw n r b c => by
  obtain ⟨a, vs, xs, g1, g2, g3, g4, g5, g6⟩ := E.ow i hi
  subst hT
  refine ⟨_, g1, ty_lst g3, ha H0 F0 F H σ ρ _ _ E hw fun zs as F1 H1 s1 r1 ⟨xs', e1, h1⟩ => ?_⟩
  rw [getD_of g2] at e1
  cases e1
  refine m F1 H1 a vs as xs zs _ _ (s1.ex.at g3) (g6.step s1) r1 h1 fun us ys v ru p => ?_
  have E1 := E.step s1
  have s2 : Stb F1 H1 (upd H1 a (.lst us)) := Stb.set (s1.ex.at g3) fun f => (s1.nw a f).elim g4 fun z => by rw [g3] at z; cases z
  exact n F1 _ _ _ ((Gr.of s1).trans ⟨fun _ h => h, s2⟩) (E1.write hi g1 ru (vs := vs) (xs := xs)) p
def wAppend : List PV → List PV → (List PV → Prop) → Prop := fun xs zs P => match zs with
  | [y] => xs.length < 100000 ∧ P (xs ++ [y])
  | _ => False
theorem mus_append : MuS K d rAppend wAppend := fun F H a vs as xs zs Q P ha rx rz h k => by
  unfold wAppend at h
  split at h
  · cases rz with
    | cons r1 r2 =>
      cases r2
      exact ⟨a, vs, _, rfl, rfl, ha, by rw [rx.length]; exact sz_lt h.1, k _ _ _ (rx.append (.cons r1 .nil)) h.2⟩
  · exact h.elim
def wExtend : List PV → List PV → (List PV → Prop) → Prop := fun xs zs P => match zs with
  | [.lst ys] => xs.length + ys.length ≤ 100000 ∧ P (xs ++ ys)
  | _ => False
def wInsert : List PV → List PV → (List PV → Prop) → Prop := fun xs zs P => match zs with
  | [.int i, y] => xs.length < 100000 ∧ 0 ≤ i ∧ i < 2 ^ 63 ∧ P (xs.take i.toNat ++ [y] ++ xs.drop i.toNat)
  | _ => False
def wClear : List PV → List PV → (List PV → Prop) → Prop := fun xs zs P => zs = [] ∧ P []
def wSub (i : Nat) (we wi : WE) : WS := fun D ρ => we ρ fun y => wi ρ fun j => match ρ.getD i .non, j with
  | .lst xs, .int k => ∃ m, ixN xs.length k = some m ∧ D.nx (ρ.set i (.lst (xs.set m y)))
  | _, _ => False
theorem simS_sub {i : Nat} {ti : TE} {wi : WE} (hi : ts[i]? = some .ow) (h : Sim K d (rS K d) ts te we) (hj : Sim K d (rW K d) ts ti wi) : SimS K d R bt ct ts (tAsg te (gSub (tVar i) ti rSetL)) (wSub i we wi) ts := fun H0 F0 F H σ ρ D D' E hw n r b c =>
  h H0 F0 F H σ ρ _ _ E hw fun y v F1 H1 s1 r1 h1 => by
    have E1 := E.step s1
    obtain ⟨a, vs, xs, g1, g2, g3, g4, g5, g6⟩ := E1.ow i hi
    refine ⟨_, g1, hj H0 F0 F1 H1 σ ρ _ _ E1 h1 fun j u F2 H2 s2 r2 p => ?_⟩
    rw [getD_of g2] at p
    cases j with
    | int k =>
      cases Rw.intE r2
      obtain ⟨m, hm, p⟩ := p
      exact ⟨a, vs, k, m, rfl, rfl, s2.ex.at g3, by rw [g6.length]; exact hm, n F2 _ _ _ ((Gr.of (s1.trans s2)).trans ⟨fun _ h => h, Stb.set (s2.ex.at g3) fun f => (s2.nw a f).elim g4 fun z => by rw [g3] at z; cases z⟩) ((E1.step s2).write hi g1 ((g6.step s2).set (Rv.step s2 r1) m) (vs := vs) (xs := xs)) p⟩
    | _ => exact p.elim
def wAugS (i : Nat) (f : Int → Int → Int) (wi we : WE) : WS := fun D ρ => wi ρ fun j => match ρ.getD i .non, j with
  | .lst xs, .int k => ∃ m a, ixN xs.length k = some m ∧ xs[m]? = some (.int a) ∧ we ρ fun y => match y with
    | .int b => D.nx (ρ.set i (.lst (xs.set m (.int (f a b)))))
    | _ => False
  | _, _ => False
theorem simS_augS {i : Nat} {f : Int → Int → Int} {ti : TE} {wi : WE} (hi : ts[i]? = some .ow) (hj : Sim K d (rW K d) ts ti wi) (h : Sim K d (rW K d) ts te we) : SimS K d R bt ct ts (tAugS (tVar i) ti te (rIxL K) (ipI f) rSetL) (wAugS i f wi we) ts := fun H0 F0 F H σ ρ D D' E hw n r b c => by
  obtain ⟨a, vs, xs, g1, g2, g3, g4, g5, g6⟩ := E.ow i hi
  refine ⟨_, g1, hj H0 F0 F H σ ρ _ _ E hw fun j u F1 H1 s1 r1 p => ?_⟩
  rw [getD_of g2] at p
  cases j with
  | int k =>
    cases Rw.intE r1
    obtain ⟨m, z, hm, hz, p⟩ := p
    have g6' := g6.step s1
    obtain ⟨w, hw', rw'⟩ := g6'.get hz
    cases rw'
    have g3' := s1.ex.at g3
    refine ⟨a, vs, k, .int z, rfl, rfl, .inl (.inl g3'), by unfold L2.atI; rw [g6'.length, hm]; exact hw', h H0 F0 F1 H1 σ ρ _ _ (E.step s1) p fun y q F2 H2 s2 r2 p2 => ?_⟩
    cases y with
    | int bb =>
      cases Rw.intE r2
      have s12 := s1.trans s2
      exact ⟨z, bb, rfl, rfl, a, vs, k, m, rfl, rfl, s2.ex.at g3', by rw [g6.length]; exact hm, n F2 _ _ _ ((Gr.of s12).trans ⟨fun _ h => h, Stb.set (s12.ex.at g3) fun f => (s12.nw a f).elim g4 fun z => by rw [g3] at z; cases z⟩) ((E.step s12).write hi g1 ((g6.step s12).set (.int _) m) (vs := vs) (xs := xs)) p2⟩
    | _ => exact p2.elim
  | _ => exact p.elim
def wDrop (we : WE) : WS := fun D ρ => we ρ fun _ => D.nx ρ
def wRet (we : WE) : WS := fun D ρ => we ρ D.rt
theorem simS_ret (o : ROk R) (h : Sim K d R ts te we) : SimS K d R bt ct ts (tRet te) (wRet we) ts' := fun H0 F0 F H σ ρ D D' E hw n r b c =>
  h H0 F0 F H σ ρ _ _ E hw fun x v F1 H1 s1 r1 h1 => r x v F1 H1 (E.st.trans s1) (o.back E.st r1) h1
def wIfS (wt : WT) (a b : WS) : WS := fun D ρ => wt ρ fun c => if c = true then a D ρ else b D ρ
theorem simS_if {tt : TT} {wt : WT} {t t' : TS} {a b : WS} (ht : SimT K d ts tt wt) (ha : SimS K d R bt ct ts t a ts1) (hb : SimS K d R bt ct ts t' b ts1) : SimS K d R bt ct ts (tIfS tt t t') (wIfS wt a b) ts1 := fun H0 F0 F H σ ρ D D' E hw n r b' c =>
  ht H0 F0 F H σ ρ _ _ E hw fun k H1 e p => by
    have s1 := Step.tox E.dm e
    have E1 := E.step s1
    have g1 : Gr F H F H1 := .of s1
    cases k with
    | true => exact ha H0 F0 F H1 σ ρ D D' E1 p (fun F2 H2 σ2 ρ2 g2 => n F2 H2 σ2 ρ2 (g1.trans g2)) r (fun F2 H2 σ2 ρ2 g2 => b' F2 H2 σ2 ρ2 (g1.trans g2)) fun F2 H2 σ2 ρ2 g2 => c F2 H2 σ2 ρ2 (g1.trans g2)
    | false => exact hb H0 F0 F H1 σ ρ D D' E1 p (fun F2 H2 σ2 ρ2 g2 => n F2 H2 σ2 ρ2 (g1.trans g2)) r (fun F2 H2 σ2 ρ2 g2 => b' F2 H2 σ2 ρ2 (g1.trans g2)) fun F2 H2 σ2 ρ2 g2 => c F2 H2 σ2 ρ2 (g1.trans g2)
def wForL (wg : WG) (w : WS) (D : WEnds) : List PV → List PV → Prop
  | [], ρ => D.nx ρ
  | x :: xs, ρ => wg x ρ fun ρ2 => w { D with nx := wForL wg w D xs, ct := wForL wg w D xs, bk := D.nx } ρ2
def wFor (ww : WI) (wg : WG) (w : WS) : WS := fun D ρ => ww ρ fun xs => wForL wg w D xs ρ
theorem simS_for {is : List Nat} {wi : TI} {ww : WI} {g : TG} {wg : WG} {t : TS} {w : WS} (hi : SimI K d true ts wi ww) (hg : SimG K d is ts g wg ts1) (hb : SimS K d R ts ts ts1 t w ts2) (c : cv ts2 ts = true) : SimS K d R bt ct ts (tFor wi g t) (wFor ww wg w) ts := fun H0 F0 F H σ ρ D D' E hw n r b c' =>
  hi H0 F0 F H σ ρ _ _ E hw fun xs F1 H1 J s1 it hx => by
    obtain ⟨G, Y, wk, hG, item⟩ := it
    have stb : ∀ {H' : Hp}, keep true F1 H1 H' = Stb F1 H1 H' := rfl
    refine for_it wk (fun i σ' H' => ∃ F' ρ', EnvR K d ts H0 F0 F' H' σ' ρ' ∧ Gr F1 H1 F' H' ∧ wForL wg w D' (xs.drop i) ρ') ⟨F1, ρ, E.step s1, .refl, hx⟩ ?_ ?_ ?_
    · rintro i σ' H' _ ⟨F', ρ', _, g, _⟩
      exact hG H' g.2
    · rintro i v σ' H' H'' hlt ⟨F', ρ', E', g, hw'⟩ y
      obtain ⟨s2, z, hz, rz⟩ := item i H' F' v H'' g.2 g.1 g.2 E'.dm y hlt
      have dr : xs.drop i = z :: xs.drop (i + 1) := by
        obtain ⟨hl, e⟩ := List.getElem?_eq_some_iff.mp hz
        rw [List.drop_eq_getElem_cons hl, e]
      rw [dr] at hw'
      refine hg H0 F0 F' H'' σ' ρ' v z _ _ (E'.step s2) rz hw' fun σ2 ρ2 E2 _ _ h2 => ?_
      refine hb H0 F0 F' H'' σ2 ρ2 _ _ E2 h2 (fun F3 H3 σ3 ρ3 g3 E3 q => ?_) r (fun F3 H3 σ3 ρ3 g3 E3 q => n F3 H3 σ3 ρ3 ((Gr.of s1).trans ((g.trans (.of s2)).trans g3)) E3 q) fun F3 H3 σ3 ρ3 g3 E3 q => ⟨F3, ρ3, E3, (g.trans (.of s2)).trans g3, q⟩
      obtain ⟨F4, up4, E4⟩ := E3.conv c
      exact ⟨F4, ρ3, E4, ((g.trans (.of s2)).trans g3).trans (.up up4), q⟩
    · rintro σ' H' ⟨F', ρ', E', g, hw'⟩
      rw [List.drop_length] at hw'
      exact n F' H' σ' ρ' ((Gr.of s1).trans g) E' hw'
end
end Wx
namespace Wx
open PySem PySem.Spec PyProof.Rows L2 Evl Hn RZ
variable [TabC]
section
variable [XC]
variable {K : PySem.W.Frag} {d : Cn → Addr} {F F0 : Fz} {H H0 : Hp} {ts ts' bt ct : List Tag} {R : RR} {te : TE} {we : WE}
def wgSub (i : Nat) (wi : WE) : WG := fun y ρ P => wi ρ fun j => match ρ.getD i .non, j with
  | .lst xs, .int k => ∃ m, ixN xs.length k = some m ∧ P (ρ.set i (.lst (xs.set m y)))
  | _, _ => False
end
end Wx
namespace Wx
open PySem PySem.Spec PyProof.Rows L2 Evl Hn RZ
variable [TabC]
mutual
def fl : PV → Bool
  | .lst _ => false
  | .scr _ => false
  | .fnv _ _ => false
  | .ins _ _ => false
  | .dct _ _ => false
  | .idv _ _ => false
  | .tup xs => fls xs
  | _ => true
def fls : List PV → Bool
  | [] => true
  | x :: xs => fl x && fls xs
end
section
variable [XC]
variable {K : PySem.W.Frag} {d : Cn → Addr} {F F' F0 F1 : Fz} {H H' H0 : Hp} {ts : List Tag} {te : TE} {we : WE} {ta : TA} {wa : WA}
mutual
theorem Rv.free : ∀ {v : V} {x : PV}, Rv K d F H v x → fl x = true → Rv K d F' H v x
  | _, _, .non, _ => .non
  | _, _, .bl b, _ => .bl b
  | _, _, .int i, _ => .int i
  | _, _, .str x, _ => .str x
  | _, _, .ty n, _ => .ty n
  | _, _, .cls c, _ => .cls c
  | _, _, .lst _ _ _, e => by simp only [fl] at e; cases e
  | _, _, .tup h1 h2, e => .tup h1 (Rvs.free h2 (by simpa only [fl] using e))
  | _, _, .ins _ _, e => by simp only [fl] at e; cases e
  | _, _, .bag h, _ => .bag h
  | _, _, .scr _ _, e => by simp only [fl] at e; cases e
  | _, _, .fnv _ _, e => by simp only [fl] at e; cases e
  | _, _, .dct _ _, e => by simp only [fl] at e; cases e
  | _, _, .idv _, e => by simp only [fl] at e; cases e
theorem Rvs.free : ∀ {vs : List V} {xs : List PV}, Rvs K d F H vs xs → fls xs = true → Rvs K d F' H vs xs
  | _, _, .nil, _ => .nil
  | _, _, .cons a b, e => by
    simp only [fls, Bool.and_eq_true] at e
    exact .cons (Rv.free a e.1) (Rvs.free b e.2)
end
def flO (x : PV) : Prop := fl x = true ∨ ∃ ys, x = .lst ys ∧ fls ys = true
def wCallL (w : WF) (wa : WA) : WE := fun ρ P => wa ρ fun xs => w xs fun x => flO x ∧ P x
end
end Wx
namespace Wx
open PySem PySem.Spec PyProof.Rows L2 Evl Hn RZ
variable [TabC]
section
variable [XC]
variable {K : PySem.W.Frag} {d : Cn → Addr} {F F' F0 : Fz} {H H' H0 : Hp} {v u : V} {ts ts' : List Tag} {R : RR} {te ta tb tc : TE} {we wa wb wc : WE}
def flatP : PV → Option V
  | .non => some .non
  | .bl b => some (.bl b)
  | .int i => some (.int i)
  | .str s => some (.str s)
  | _ => none
def flatPs : List PV → Option (List V)
  | [] => some []
  | x :: xs => match flatP x, flatPs xs with
    | some a, some b => some (a :: b)
    | _, _ => none
theorem flatP_V {x : PV} {w : V} (h : flatP x = some w) : flatV w = true := by
  cases x <;> simp [flatP] at h <;> subst h <;> rfl
theorem Rv.flat {x : PV} {w : V} (r : Rv K d F H v x) (h : flatP x = some w) : v = w := by
  cases r <;> simp [flatP] at h <;> exact h
theorem Rw.flat {x : PV} {w : V} (r : Rw K d F H v x) (h : flatP x = some w) : v = w := by
  rcases r with r | ⟨p, vs, xs, rfl, rfl, _⟩
  · exact r.flat h
  · cases h
theorem Rvs.flat2 : ∀ {vs : List V} {xs : List PV} {ws : List V}, Rvs K d F H vs xs → flatPs xs = some ws → vs = ws ∧ ws.all flatV = true
  | _, _, _, .nil, h => by cases h; exact ⟨rfl, rfl⟩
  | _, _, ws, .cons (x := x) (xs := xs) a b, h => by
    simp only [flatPs] at h
    cases e1 : flatP x with
    | none => rw [e1] at h; cases h
    | some q =>
      cases e2 : flatPs xs with
      | none => rw [e1, e2] at h; cases h
      | some qs =>
        rw [e1, e2] at h
        cases h
        obtain ⟨h1, h2⟩ := b.flat2 e2
        rw [a.flat e1, h1]
        refine ⟨rfl, ?_⟩
        rw [List.all_cons, flatP_V e1, h2]
        rfl
def wEq : W2 := fun x y P => match x, y with
  | .int a, .int b => P (.bl (decide (a = b)))
  | .str a, .str b => P (.bl (decide (a = b)))
  | .bl a, .bl b => P (.bl (decide (a = b)))
  | x, y => wEqD false x y P
def wNe : W2 := fun x y P => match x, y with
  | .int a, .int b => P (.bl (!decide (a = b)))
  | .str a, .str b => P (.bl (!decide (a = b)))
  | .bl a, .bl b => P (.bl (!decide (a = b)))
  | x, y => wEqD true x y P
def rEqU (K : PySem.W.Frag) : R2 := orR rEq (rEqD K)
def rNeU (K : PySem.W.Frag) : R2 := orR rNe (rNeD K)
theorem u_eq {X : Cx} (h : X.K = K) (hu : X.A.units + 64 < cLine) : OpR X (compareOp .Eq) (rEqU K) := h ▸ op_or op_eq (op_eqD hu)
theorem u_ne {X : Cx} (h : X.K = K) (hu : X.A.units + 64 < cLine) : OpR X (compareOp .NotEq) (rNeU K) := h ▸ op_or op_ne (op_neD hu)
theorem ops_eq : OpS K d (rN K d) (rEqU K) wEq := fun F H v u x y Q P dm rx ry h k => by
  unfold wEq at h
  split at h
  · cases rx.intE; cases ry.intE
    exact .inl (r_eqI (fin_val dm (.bl _) h k))
  · cases rx.strE; cases ry.strE
    exact .inl (r_eqS (fin_val dm (.bl _) h k))
  · cases rx.blE; cases ry.blE
    exact .inl (r_eqB (fin_val dm (.bl _) h k))
  · exact .inr (ops_eqD F H v u x y Q P dm rx ry h k)
theorem ops_ne : OpS K d (rN K d) (rNeU K) wNe := fun F H v u x y Q P dm rx ry h k => by
  unfold wNe at h
  split at h
  · cases rx.intE; cases ry.intE
    exact .inl (r_neI (fin_val dm (.bl _) h k))
  · cases rx.strE; cases ry.strE
    exact .inl (r_neS (fin_val dm (.bl _) h k))
  · cases rx.blE; cases ry.blE
    exact .inl (r_neB (fin_val dm (.bl _) h k))
  · exact .inr (ops_neD F H v u x y Q P dm rx ry h k)
def wInT : W2 := fun x y P => match x, y with
  | .str i, .str j => P (.bl (!(Builtin.Str.occurrences j i 0 j.length 1).isEmpty))
  | _, _ => False
def wIsB : W2 := fun x y P => match x, y with
  | .bl a, .bl b => P (.bl (decide (a = b)))
  | _, _ => False
def wIsnB : W2 := fun x y P => match x, y with
  | .bl a, .bl b => P (.bl (!decide (a = b)))
  | _, _ => False
def wIndexP (ys zs : List PV) (P : PV → Prop) : Prop := ∃ (ws : List V) (w : V) (j : Nat) (z : V) (x : PV), zs = [x] ∧ flatPs ys = some ws ∧ flatP x = some w ∧ ws[j]? = some z ∧ eqV z w = true ∧ (∀ (m : Nat) (z' : V), m < j → ws[m]? = some z' → eqV z' w = false) ∧ P (.int (j : Nat))
def wIndex (wo : WE) (wa : WA) : WE := fun ρ P => wo ρ fun y => ∃ ys, y = .lst ys ∧ wa ρ fun zs => wIndexP ys zs P
theorem sim_index {T : String} {to : TE} {wo : WE} {ar : TA} {wr : WA} (hT : T = "list") (ho : Sim K d (rW K d) ts to wo) (ha : SimAW K d ts ar wr) : Sim K d (rN K d) ts (tBM K T (rIndex K) to ar) (wIndex wo wr) := fun H0 F0 F H σ ρ Q P E hw k =>
  ho H0 F0 F H σ ρ _ _ E hw fun y v F1 H1 s1 r1 ⟨ys, ey, h1⟩ => by
    subst hT
    subst ey
    obtain ⟨p, vs, rfl, g1, g2⟩ := Rw.lst r1
    refine ⟨ty_lst g1, ha H0 F0 F1 H1 σ ρ _ _ (E.step s1) h1 fun zs us F2 H2 s2 r2 ⟨ws, w, j, z, x, e2, h3, h4, h5, h6, h7, h8⟩ => ?_⟩
    subst e2
    obtain ⟨q, rfl, r3⟩ := r2.one
    obtain ⟨e, fl⟩ := g2.flat2 h3
    subst e
    have e3 := r3.flat h4
    subst e3
    exact ⟨p, vs, q, j, z, rfl, rfl, .inl (.inl (s2.ex.at g1)), flatP_V h4, fl, h5, h6, h7, k (.int _) _ F2 H2 (s1.trans s2) (.inl ⟨trivial, .int _⟩) h8⟩
def wLcB (wg : WG) (wt : WT) (we : WE) (ρ : List PV) : List PV → List PV → (List PV → Prop) → Prop
  | [], acc, P => P acc
  | x :: xs, acc, P => wg x ρ fun ρ2 => wt ρ2 fun b => if b = true then we ρ2 fun y => acc.length < 100000 ∧ wLcB wg wt we ρ xs (acc ++ [y]) P else wLcB wg wt we ρ xs acc P
def wLc2L (wg : WG) (wt : WT) (ww1 : WI) (wg1 : WG) (wt1 : WT) (we : WE) (ρ : List PV) : List PV → List PV → (List PV → Prop) → Prop
  | [], acc, P => P acc
  | x :: xs, acc, P => wg x ρ fun ρ2 => wt ρ2 fun b => if b = true then ww1 ρ2 fun ys => wLcB wg1 wt1 we ρ2 ys acc fun acc' => wLc2L wg wt ww1 wg1 wt1 we ρ xs acc' P else wLc2L wg wt ww1 wg1 wt1 we ρ xs acc P
def wLc2 (ww : WI) (wg : WG) (wt : WT) (ww1 : WI) (wg1 : WG) (wt1 : WT) (we : WE) : WE := fun ρ P => ww ρ fun xs => wLc2L wg wt ww1 wg1 wt1 we ρ xs [] fun ys => P (.lst ys)
def LcSt (K : PySem.W.Frag) (d : Cn → Addr) (D : Addr) (F1 : Fz) (H1 : Hp) (H' : Hp) (acc : List PV) : Prop := ∃ (F' : Fz) (as : List V), H' D = some (.lst as) ∧ ¬ F' D ∧ Rvs K d F' H' as acc ∧ Step F1 H1 F' H'
theorem LcSt.push {D : Addr} {F1 : Fz} {H1 H4 : Hp} {F4 : Fz} {as : List V} {acc : List PV} {q : PV} {u : V} (nD : H1 D = none) (aD4 : H4 D = some (.lst as)) (nf4 : ¬ F4 D) (r : Rvs K d F4 H4 as acc) (r4 : Rv K d F4 H4 u q) (s5 : Step F1 H1 F4 H4) : LcSt K d D F1 H1 (upd H4 D (.lst (as ++ [u]))) (acc ++ [q]) := by
  have sb : Stb F4 H4 (upd H4 D (.lst (as ++ [u]))) := Stb.set aD4 nf4
  refine ⟨F4, as ++ [u], upd_same, nf4, (r.mono sb fun _ h => h).append (.cons (r4.mono sb fun _ h => h) .nil), ⟨Xn.mut s5.ex nD, s5.up, s5.nw, s5.dm.set aD4⟩⟩
def wLstRg (we : WE) : WE := fun ρ P => we ρ fun x => match x with
  | .int n => RgOk 0 n ∧ P (.lst (rangeP 0 n.toNat))
  | _ => False
end
instance xc0 : XC := ⟨fun _ _ => True, 0, none, [], false⟩
section
variable {P : Program} {w : World} {K : PySem.W.Frag} {mg : Str → Option Value} {base : Heap} {d : Cn → Addr} {R : RR}
def wDef (n m : Nat) (ws : WS) : WF := fun xs P => xs.length = n ∧ ws { nx := fun _ => P .non, rt := P } (xs ++ List.replicate m .non)
def tags (n m : Nat) : List Tag := List.replicate n .sh ++ List.replicate m .no
def RNon (K : PySem.W.Frag) (d : Cn → Addr) (R : RR) : Prop := ∀ F0 H0 F H, R F0 H0 F H .non .non
theorem rnonS : RNon K d (rS K d) := fun _ _ _ _ => .non
theorem rnonN : RNon K d (rN K d) := fun _ _ _ _ => .inl ⟨trivial, .non⟩
theorem env_start [X : XC] {N : List Str} {F : Fz} {H : Hp} {vs : List V} {xs : List PV} {n m : Nat} (dm : Dom F H) (r : Rvs K d F H vs xs) (hn : xs.length = n) (hN : N.length = n + m) (hx : X.h F H) : EnvR K d (tags n m) H F F H (L2.start N vs) (xs ++ List.replicate m .non) := by
  have lv : vs.length = n := r.length.trans hn
  have e : N.length - vs.length = m := by omega
  refine ⟨Step.refl dm, ?_, ?_, fun i h => ?_, fun i h => ?_, fun i j a h => ?_, fun i h => ?_, fun i a h => ?_, hx, fun i h => ?_⟩
  rotate_right
  · unfold tags at h
    rcases Nat.lt_or_ge i n with z | z
    · rw [List.getElem?_append_left (by rw [List.length_replicate]; exact z), List.getElem?_replicate] at h
      split at h <;> cases h
    · rw [List.getElem?_append_right (by rw [List.length_replicate]; exact z), List.getElem?_replicate] at h
      split at h <;> cases h
  · unfold L2.start tags
    rw [List.length_append, List.length_map, List.length_replicate, List.length_append, List.length_replicate, List.length_replicate, e, lv]
  · unfold tags
    rw [List.length_append, List.length_replicate, List.length_append, List.length_replicate, List.length_replicate, hn]
  · have hi : i < n := by
      rcases Nat.lt_or_ge i n with z | z
      · exact z
      · unfold tags at h
        rw [List.getElem?_append_right (by rw [List.length_replicate]; exact z), List.getElem?_replicate] at h
        split at h <;> cases h
    obtain ⟨x, hx⟩ : ∃ x, xs[i]? = some x := ⟨xs[i], List.getElem?_eq_getElem (by omega)⟩
    obtain ⟨v, hv, rv⟩ := r.get hx
    refine ⟨v, x, ?_, ?_, rv⟩
    · unfold L2.start
      rw [List.getElem?_append_left (by rw [List.length_map]; omega), List.getElem?_map, hv]
      rfl
    · rw [List.getElem?_append_left (by omega), hx]
  · unfold tags at h
    rcases Nat.lt_or_ge i n with z | z
    · rw [List.getElem?_append_left (by rw [List.length_replicate]; exact z), List.getElem?_replicate] at h
      split at h <;> cases h
    · rw [List.getElem?_append_right (by rw [List.length_replicate]; exact z), List.getElem?_replicate] at h
      split at h <;> cases h
  · unfold tags at h
    rcases Nat.lt_or_ge i n with z | z
    · rw [List.getElem?_append_left (by rw [List.length_replicate]; exact z), List.getElem?_replicate] at h
      split at h <;> cases h
    · rw [List.getElem?_append_right (by rw [List.length_replicate]; exact z), List.getElem?_replicate] at h
      split at h <;> cases h
  · unfold tags at h
    rcases Nat.lt_or_ge i n with z | z
    · rw [List.getElem?_append_left (by rw [List.length_replicate]; exact z), List.getElem?_replicate] at h
      split at h <;> cases h
    · rw [List.getElem?_append_right (by rw [List.length_replicate]; exact z), List.getElem?_replicate] at h
      split at h <;> cases h
  · unfold tags at h
    rcases Nat.lt_or_ge i n with z | z
    · rw [List.getElem?_append_left (by rw [List.length_replicate]; exact z), List.getElem?_replicate] at h
      split at h <;> cases h
    · rw [List.getElem?_append_right (by rw [List.length_replicate]; exact z), List.getElem?_replicate] at h
      split at h <;> cases h
theorem run_w {N : List Str} {n m : Nat} {t : TS} {ws : WS} {ts' : List Tag} {H : Hp} {vs : List V} {Q : VK} {E : XK} (S : SimS K d R [] [] (tags n m) t ws ts') (hR : RNon K d R) (hN : N.length = n + m) (h : spW K d R (wDef n m ws) vs H Q E) : t { nx := fun _ H' => Q .non H', rt := Q } (L2.start N vs) H := by
  obtain ⟨F, xs, P, dm, r, ⟨hl, hw⟩, k⟩ := h
  exact S H F F H _ _ _ _ (env_start dm r hl hN trivial) hw (fun F' H' σ' ρ' g E' p => k .non .non F' H' E'.st (hR _ _ _ _) p) (fun x v F' H' s rr p => k x v F' H' s rr p) (fun _ _ _ _ _ _ q => q.elim) (fun _ _ _ _ _ _ q => q.elim)
theorem okw_of {x qual : Str} {st : Stmt} {f : Addr} {N ps : List Str} {k n m : Nat} {ws : WS} {ts' : List Tag} (Df' : Df K x qual st f ps) (S : FnScope N ps (defScope st)) (hn : ps.length = n) (hN : N.length = n + m) (hR : RNon K d R)
    (hbody : ∀ (cdv : Value) (A : Around) (outer : List Env) (s : Shared) (H : Hp) (E : XK), Room k (A.deeper (envOfC qual (defScope st) s.heap.objs.size f cdv)) →
      ∃ t, PSs (cxOf CX0 P w K mg base N qual (defScope st) f cdv A outer s H E).nox (defBody st) t ∧ SimS K d R [] [] (tags n m) t ws ts') : Okf P w K mg base (k + 1) f ps (spW K d R (wDef n m ws)) :=
  okf_of Df' S (fun vs H Q E h => by
    obtain ⟨F, xs, P, dm, r, ⟨hl, _⟩, _⟩ := h
    rw [r.length, hl, hn]) fun cdv A outer s H vs Q E hr h => by
    obtain ⟨t, D, sim⟩ := hbody cdv A outer s H E hr
    exact ⟨t, D, run_w sim hR hN h⟩
theorem okwG_of {x qual : Str} {st : Stmt} {f : Addr} {N ps : List Str} {k n m : Nat} {ws : WS} {ts' : List Tag} (Df' : Df K x qual st f ps) (S : FnScope N ps (defScope st)) (hn : ps.length = n) (hN : N.length = n + m) (hR : RNon K d R)
    (hbody : ∀ (cdv : Value) (A : Around) (outer : List Env) (s : Shared) (H : Hp) (E : XK), NoG A s → Room k (A.deeper (envOfC qual (defScope st) s.heap.objs.size f cdv)) →
      ∃ t, PSs (cxOf CX0 P w K mg base N qual (defScope st) f cdv A outer s H E).nox (defBody st) t ∧ SimS K d R [] [] (tags n m) t ws ts') : OkP NoG P w K mg base (k + 1) f ps (spW K d R (wDef n m ws)) :=
  okP_of Df' S (fun vs H Q E h => by
    obtain ⟨F, xs, P, dm, r, ⟨hl, _⟩, _⟩ := h
    rw [r.length, hl, hn]) fun cdv A outer s H vs Q E hg hr h => by
    obtain ⟨t, D, sim⟩ := hbody cdv A outer s H E hg hr
    exact ⟨t, D, run_w sim hR hN h⟩
def Tells (K : PySem.W.Frag) (d : Cn → Addr) (R : RR) (sp : Sp) (w : WF) : Prop := ∀ vs H Q E, spW K d R w vs H Q E → sp vs H Q E
theorem okw_imp {k : Nat} {f : Addr} {ps : List Str} {sp : Sp} {w' : WF} (F : Okf P w K mg base k f ps sp) (h : Tells K d R sp w') : Okf P w K mg base k f ps (spW K d R w') := F.imp h
end
end Wx
namespace Wx
open PySem PySem.Spec PyProof.Rows L2 Evl Hn RZ
variable [TabC]
abbrev iL (ns : List Int) : List PV := ns.map PV.int
def clkP (s : List Int) : PV := .ins .Clock [("kept_stays", .tup (iL s)), ("kept_widths", .tup (iL (wds s)))]
def ndP (s : List Int) : PV := .ins .Needs [("kept_row", .tup (iL s))]
def pnP (s : List Int) : PV := .ins .Plan [("kept_begins", .tup (iL s))]
section
variable {K : PySem.W.Frag} {d : Cn → Addr} {F F' F0 : Fz} {H H' H0 : Hp} {v u : V} {Q : VK} {P : PV → Prop} {s : List Int}
theorem Rvs.one {vs : List V} {x : PV} (h : Rvs K d F H vs [x]) : ∃ v, vs = [v] ∧ Rv K d F H v x := by
  cases h with
  | cons a b => cases b; exact ⟨_, rfl, a⟩
theorem Rvs.two {vs : List V} {x y : PV} (h : Rvs K d F H vs [x, y]) : ∃ v u, vs = [v, u] ∧ Rv K d F H v x ∧ Rv K d F H u y := by
  cases h with
  | cons a b =>
    obtain ⟨u, rfl, q⟩ := b.one
    exact ⟨_, u, rfl, a, q⟩
theorem Rv.intE {a : Int} (h : Rv K d F H v (.int a)) : v = .int a := by cases h; rfl
theorem Rv.strE {a : Str} (h : Rv K d F H v (.str a)) : v = .str a := by cases h; rfl
theorem Rv.bagE (h : Rv K d F H v .bag) : ∃ b, v = .ref b ∧ Bag H b := by
  cases h with
  | bag h => exact ⟨_, rfl, h⟩
theorem Rv.intsL {ns : List Int} (h : Rv K d F H v (.lst (iL ns))) : ∃ a, v = .ref a ∧ H a = some (.lst (ns.map V.int)) := by
  cases h with
  | lst h1 h2 h3 =>
    cases h3.ints
    exact ⟨_, rfl, h1⟩
theorem Rv.intsT {ns : List Int} (h : Rv K d F H v (.tup (iL ns))) : ∃ a, v = .ref a ∧ SqT K H a (ns.map V.int) := by
  cases h with
  | tup h1 h3 =>
    cases h3.ints
    exact ⟨_, rfl, h1⟩
def seqP (x : PV) (ns : List Int) : Prop := x = .lst (iL ns) ∨ x = .tup (iL ns)
theorem Rv.seq {x : PV} {ns : List Int} (h : Rv K d F H v x) (e : seqP x ns) : ∃ a, v = .ref a ∧ Sq K H a (ns.map V.int) := by
  rcases e with rfl | rfl
  · obtain ⟨a, rfl, q⟩ := h.intsL
    exact ⟨a, rfl, .inl (.inl (.inl q))⟩
  · obtain ⟨a, rfl, q⟩ := h.intsT
    exact ⟨a, rfl, .inr q⟩
theorem of_nd (h : Hn.Rw K (d .Needs) "kept_row" H v s) : Rv K d F H v (ndP s) := by
  obtain ⟨p, dx, a, rfl, h1, h2, g⟩ := h
  exact .ins h1 (.cons (.tup h2 (Rvs.of_ints _)) .nil)
theorem pn_of (h : Rv K d F H v (pnP s)) (g : GoodN s) : Hn.Rw K (d .Plan) "kept_begins" H v s := by
  obtain ⟨p, dx, gs, rfl, h1, h2⟩ := h.insE
  cases h2 with
  | cons a b =>
    cases b
    obtain ⟨q1, rfl, e1⟩ := a.intsT
    exact ⟨p, dx, q1, rfl, h1, e1, g⟩
theorem of_pn (h : Hn.Rw K (d .Plan) "kept_begins" H v s) : Rv K d F H v (pnP s) := by
  obtain ⟨p, dx, a, rfl, h1, h2, g⟩ := h
  exact .ins h1 (.cons (.tup h2 (Rvs.of_ints _)) .nil)
abbrev KN (K : PySem.W.Frag) (d : Cn → Addr) (F : Fz) (H : Hp) (P : PV → Prop) (Q : VK) : Prop := ∀ x v F' H', Step F H F' H' → rN K d F H F' H' v x → P x → Q v H'
theorem ret_int {i : Int} (dm : Dom F H) (k : KN K d F H P Q) (p : P (.int i)) (e : Ex H H') : Q (.int i) H' := k (.int i) _ F H' (Step.to dm e) (.inl ⟨trivial, .int i⟩) p
theorem ret_bl {i : Bool} (dm : Dom F H) (k : KN K d F H P Q) (p : P (.bl i)) (e : Ex H H') : Q (.bl i) H' := k (.bl i) _ F H' (Step.to dm e) (.inl ⟨trivial, .bl i⟩) p
theorem ret_ints {ns : List Int} (dm : Dom F H) (k : KN K d F H P Q) (p : P (.lst (iL ns))) : RetN (ns.map V.int) H Q := fun q H' nq e hq =>
  k (.lst (iL ns)) _ F H' (Step.to dm e) (.inr ⟨q, _, _, rfl, rfl, nq, hq, fun f => dm.at_ q f nq, Rvs.of_ints _⟩) p
def w_take : WF := fun xs P => ∃ u : Int, xs = [.bag, .int u] ∧ 0 < u ∧ u < 1000000000000000000000000000000000000000000000000000 ∧ ∀ n : Int, 0 ≤ n → n < u → P (.int n)
theorem tells_take : Tells K d (rN K d) spTake w_take := fun vs H Q E ⟨F, xs, P, dm, r, ⟨u, ex, u0, u1, p⟩, k⟩ => by
  subst ex
  obtain ⟨v1, v2, rfl, r1, r2⟩ := r.two
  obtain ⟨b, rfl, hb⟩ := r1.bagE
  cases r2.intE
  exact ⟨b, u, rfl, hb, u0, u1, fun n n0 n1 => ret_int dm k (p n n0 n1) (Ex.refl _)⟩
def w_bag : WF := fun xs P => ∃ ns : List Int, xs = [.scr ns] ∧ P .bag
theorem tells_bag : Tells K d (rN K d) (spBag K) w_bag := fun vs H Q E ⟨F, xs, P, dm, r, ⟨ns, ex, p⟩, k⟩ => by
  subst ex
  obtain ⟨v1, rfl, r1⟩ := r.one
  cases r1 with
  | scr h1 h4 => exact ⟨_, ns, rfl, h1.sq, h4, fun b H' e hb => k .bag _ F H' (Step.to dm e) (.inl ⟨trivial, .bag hb⟩) p⟩
def w_mkNeeds : WF := fun xs P => ∃ (x : PV) (s : List Int), xs = [x] ∧ seqP x s ∧ GoodN s ∧ P (ndP s)
theorem mk_Needs : MkS K d .Needs (spRwInit K (d .Needs) "kept_row") w_mkNeeds := fun F H vs xs Q P E dm r ⟨x, s, ex, sx, g, p⟩ k => by
  subst ex
  obtain ⟨v, rfl, r1⟩ := r.one
  obtain ⟨a, rfl, hS⟩ := r1.seq sx
  exact mkRw (Q := fun u H' => Q (.ref u) H') ⟨a, s, rfl, hS, g, fun u H' e c => k (ndP s) _ F H' (Step.to dm e) (of_nd c) trivial p⟩
def w_mkPlan : WF := fun xs P => ∃ (x : PV) (s : List Int), xs = [x] ∧ seqP x s ∧ GoodN s ∧ P (pnP s)
theorem mk_Plan : MkS K d .Plan (spRwInit K (d .Plan) "kept_begins") w_mkPlan := fun F H vs xs Q P E dm r ⟨x, s, ex, sx, g, p⟩ k => by
  subst ex
  obtain ⟨v, rfl, r1⟩ := r.one
  obtain ⟨a, rfl, hS⟩ := r1.seq sx
  exact mkRw (Q := fun u H' => Q (.ref u) H') ⟨a, s, rfl, hS, g, fun u H' e c => k (pnP s) _ F H' (Step.to dm e) (of_pn c) trivial p⟩
theorem law_tells {R : RR} {w : WF} (h : ∀ ns : List Int, ns.length ≤ 63 → w [.scr ns] fun x => x = .bl true) (hR : ∀ F H F' H' v, R F H F' H' v (.bl true) → v = .bl true) : ∀ vs H Q E, TabsR H → spLaw K vs H Q E → spW K d R w vs H Q E := fun vs H Q E tb ⟨a, ns, e, hS, hl, k⟩ => by
  subst e
  refine ⟨fun b => b = a ∧ H a ≠ none, [.scr ns], _, ⟨fun b f => by rw [f.1]; exact f.2, tb⟩, .cons (.scr ?_ hl) .nil, h ns hl, fun x v F' H' s r p => ?_⟩
  · rcases hS with (q | ⟨o, q⟩) | q
    · exact .inl ⟨q, rfl, by rw [q]; intro y; cases y⟩
    · exact .inr (.inl ⟨o, q⟩)
    · exact .inr (.inr fun H' => .inr q)
  · subst p
    rw [hR _ _ _ _ _ r]
    exact k H'
theorem bl_N : ∀ (F : Fz) (H : Hp) (F' : Fz) (H' : Hp) (v : V), rN K d F H F' H' v (.bl true) → v = .bl true := fun _ _ _ _ v h => by
  rcases h with h | ⟨_, _, _, _, e, _⟩
  · cases h.2; rfl
  · cases e
end
end Wx
namespace Wx
open PySem PySem.Spec PyProof.Rows L2 Evl Hn RZ
variable [TabC]
section
variable [XC]
variable {K : PySem.W.Frag} {d : Cn → Addr} {F F' F0 : Fz} {H H' H0 : Hp} {v u : V} {ts ts' : List Tag} {R : RR} {te ta tb tc : TE} {we wa wb wc : WE}
def wFldC (c : Cn) (we : WE) (f : Str) : WE := fun ρ P => wFld (fun ρ P => we ρ fun x => (∃ fs, x = .ins c fs) ∧ P x) f ρ P
theorem okP_imp {P : Program} {w : World} {mg : Str → Option Value} {base : Heap} {Pre : Around → Shared → Prop} {k : Nat} {f : Addr} {ps : List Str} {sp sp' : Sp} (G : OkP Pre P w K mg base k f ps sp) (h : ∀ vs H Q E, sp' vs H Q E → sp vs H Q E) : OkP Pre P w K mg base k f ps sp' := by
  obtain ⟨fd, b, l, run⟩ := G
  exact ⟨fd, b, fun vs H Q E q => l vs H Q E (h _ _ _ _ q), fun A out s H ag us vs Q E pre room env bnd rel q => run A out s H ag us vs Q E pre room env bnd rel (h _ _ _ _ q)⟩
def wgLst (n : Nat) (g : WGs) : WG := fun x ρ P => match x with
  | .lst xs => xs.length = n ∧ g xs ρ P
  | _ => False
def wListZip (wa : WA) : WE := fun ρ P => wa ρ fun zs => match zs with
  | [.lst xs, .lst ys] => xs.length = ys.length ∧ 1 ≤ xs.length ∧ P (.lst (zipP xs ys))
  | [.tup xs, .lst ys] => xs.length = ys.length ∧ 1 ≤ xs.length ∧ P (.lst (zipP xs ys))
  | [.lst xs, .tup ys] => xs.length = ys.length ∧ 1 ≤ xs.length ∧ P (.lst (zipP xs ys))
  | [.tup xs, .tup ys] => xs.length = ys.length ∧ 1 ≤ xs.length ∧ P (.lst (zipP xs ys))
  | _ => False
def sqP (x : PV) (xs : List PV) : Prop := x = .lst xs ∨ x = .tup xs
theorem Rv.sqE {x : PV} {xs : List PV} (h : Rv K d F H v x) (e : sqP x xs) : ∃ a vs, v = .ref a ∧ Sq K H a vs ∧ Rvs K d F H vs xs := by
  rcases e with rfl | rfl
  · cases h with
    | lst h1 h2 h3 => exact ⟨_, _, rfl, .inl (.inl (.inl h1)), h3⟩
  · obtain ⟨p, vs, rfl, h1, h2⟩ := h.tupE
    exact ⟨p, vs, rfl, .inr h1, h2⟩
theorem rvs_by {vs : List V} {xs : List PV} (hl : vs.length = xs.length) (h : ∀ (i : Nat) (v : V) (x : PV), vs[i]? = some v → xs[i]? = some x → Rv K d F H v x) : Rvs K d F H vs xs := by
  induction vs generalizing xs with
  | nil =>
    cases xs with
    | nil => exact .nil
    | cons _ _ => cases hl
  | cons v vs ih =>
    cases xs with
    | nil => cases hl
    | cons x xs => exact .cons (h 0 v x rfl rfl) (ih (by simpa using hl) fun i a b h1 h2 => h (i + 1) a b (by simpa using h1) (by simpa using h2))
theorem zip_run {xs ys : List PV} {x y : PV} {Q : VK} {P : PV → Prop} (dm : Dom F H) (rx : Rv K d F H v x) (ry : Rv K d F H u y) (ex : sqP x xs) (ey : sqP y ys) (hl : xs.length = ys.length) (h1 : 1 ≤ xs.length) (p : P (.lst (zipP xs ys)))
    (k : ∀ z v' F' H', Step F H F' H' → rN K d F H F' H' v' z → P z → Q v' H') : rListZip K [v, u] H Q := by
  obtain ⟨a, vs, rfl, g1, g2⟩ := rx.sqE ex
  obtain ⟨b, us, rfl, g3, g4⟩ := ry.sqE ey
  refine ⟨a, b, vs, us, rfl, g1, g3, by rw [g2.length, g4.length, hl], by rw [g2.length]; exact h1, fun H' q ts e nq nt hq hq2 hl2 ht => ?_⟩
  have s := Step.to dm e
  refine k (.lst (zipP xs ys)) (.ref q) F H' s (.inr ⟨q, _, _, rfl, rfl, nq, hq2, fun f => dm.at_ q f nq, rvs_by ?_ fun i v' x' hv hx => ?_⟩) p
  · unfold zipP
    rw [List.length_map, List.length_map, List.length_range, hl2, g2.length, ← hl, Nat.min_self]
  · rw [List.getElem?_map] at hv
    cases e1 : ts[i]? with
    | none => rw [e1] at hv; cases hv
    | some t =>
      rw [e1] at hv
      cases hv
      have hi : i < ts.length := (List.getElem?_eq_some_iff.mp e1).1
      have hix : i < xs.length := by rw [← g2.length, ← hl2]; exact hi
      have hiy : i < ys.length := by rw [← hl]; exact hix
      obtain ⟨v1, e2, r1⟩ := g2.get (List.getElem?_eq_getElem hix)
      obtain ⟨v2, e3, r2⟩ := g4.get (List.getElem?_eq_getElem hiy)
      unfold zipP at hx
      rw [List.getElem?_map, List.getElem?_range (by omega)] at hx
      cases hx
      have g := ht i t v1 v2 e1 e2 e3
      show Rv K d F H' (.ref t) (.tup [xs.getD i .non, ys.getD i .non])
      rw [getD_of (List.getElem?_eq_getElem hix), getD_of (List.getElem?_eq_getElem hiy)]
      exact .tup (.inl (.inl g)) (.cons (r1.step s) (.cons (r2.step s) .nil))
theorem sim_listZip {ar : TA} {wr : WA} (ha : SimA K d ts ar wr) : Sim K d (rN K d) ts (tListZip K ar) (wListZip wr) := fun H0 F0 F H σ ρ Q P E hw k => ha H0 F0 F H σ ρ _ _ E hw fun zs us F1 H1 s1 r1 h1 => by
  have go : ∀ {x y : PV} {xs ys : List PV}, zs = [x, y] → sqP x xs → sqP y ys → xs.length = ys.length → 1 ≤ xs.length → P (.lst (zipP xs ys)) → rListZip K us H1 Q := fun {x y xs ys} e ex ey hl hm p => by
    subst e
    obtain ⟨v, u, rfl, ra, rb⟩ := r1.two
    exact zip_run s1.dm ra rb ex ey hl hm p fun z v' F' H' s r q => k z v' F' H' (s1.trans s) (okN.back s1 r) q
  split at h1
  · exact go rfl (.inl rfl) (.inl rfl) h1.1 h1.2.1 h1.2.2
  · exact go rfl (.inr rfl) (.inl rfl) h1.1 h1.2.1 h1.2.2
  · exact go rfl (.inl rfl) (.inr rfl) h1.1 h1.2.1 h1.2.2
  · exact go rfl (.inr rfl) (.inr rfl) h1.1 h1.2.1 h1.2.2
  · exact h1.elim
inductive NL (K : PySem.W.Frag) (d : Cn → Addr) (F : Fz) (H : Hp) : Hp → List Bool → List V → List PV → Prop
  | nil {Hb : Hp} : NL K d F H Hb [] [] []
  | cons {Hb Hm : Hp} {k : Bool} {v : V} {x : PV} {ks : List Bool} {vs : List V} {xs : List PV} : New K d Hb F H k v x → Xn Hb Hm → Xn Hm H → (k = true → ∃ p, v = .ref p ∧ Hm p ≠ none) → NL K d F H Hm ks vs xs → NL K d F H Hb (k :: ks) (v :: vs) (x :: xs)
theorem NL.step {Hb : Hp} {ks : List Bool} {vs : List V} {xs : List PV} (h : NL K d F H Hb ks vs xs) (s : Step F H F' H') : NL K d F' H' Hb ks vs xs := by
  induction h with
  | nil => exact .nil
  | cons a b e c _ ih => exact .cons (a.step s) b (e.trans s.ex) c ih
def SimP (K : PySem.W.Frag) (d : Cn → Addr) (ks : List Bool) (ts : List Tag) (ta : TA) (wa : WA) : Prop := ∀ (H0 : Hp) (F0 F : Fz) (H : Hp) (σ : L2.St) (ρ : List PV) (Q : List V → Hp → Prop) (P : List PV → Prop), EnvR K d ts H0 F0 F H σ ρ → wa ρ P →
  (∀ xs vs F' H', Step F H F' H' → (isLs ks xs → NL K d F' H' H ks vs xs) → xs.length = ks.length → vs.length = ks.length → P xs → Q vs H') → ta σ H Q
where isLs : List Bool → List PV → Prop
  | k :: ks, x :: xs => isL k x ∧ isLs ks xs
  | _, _ => True
def putR (ρ : List PV) : List Nat → List PV → List PV
  | i :: is, x :: xs => putR (ρ.set i x) is xs
  | _, _ => ρ
def wTupO (is : List Nat) (ks : List Bool) (wa : WA) : WS := fun D ρ => wa ρ fun xs => SimP.isLs ks xs ∧ D.nx (putR ρ is xs)
def wDict3 (k1 k2 k3 : Str) (w1 w2 w3 wy : WE) : WE := fun ρ P => w1 ρ fun x1 => w2 ρ fun x2 => w3 ρ fun x3 => wy ρ fun y => ∃ k, y = .str k ∧ ((k = k1 ∧ P x1) ∨ (k = k2 ∧ P x2) ∨ (k = k3 ∧ P x3))
def wMakeK (n m : Nat) (w : WF) (wa wk : WA) : WE := fun ρ P => wa ρ fun xs => wk ρ fun zs => xs.length = n ∧ zs.length = m ∧ w (xs ++ zs) P
def oP : Option Int → PV
  | none => .non
  | some i => .int i
abbrev oL (rs : List (Option Int)) : List PV := rs.map oP
def hsP (s ns : List Int) (rs : List (Option Int)) (ks : List Int) (ds : List (Option Int)) : PV := .ins .House [("own_clock", clkP s), ("own_needs", ndP ns), ("own_rooms", .tup (oL rs)), ("own_kept", .tup (iL ks)), ("own_doors", .tup (oL ds))]
end
end Wx
namespace Wx
open PySem PySem.Spec PyProof.Rows L2 Evl Hn RZ
variable [TabC]
section
variable [XC]
variable {K : PySem.W.Frag} {d : Cn → Addr} {F F' F0 F1 : Fz} {H H' H0 H1 Hs : Hp} {ts bt ct : List Tag} {R : RR} {te : TE} {we : WE} {v : V} {x : PV}
theorem Sc.nl {w : V} {ys : List PV} (h : Sc K d w (.lst ys)) : False := by
  have r := h.2 (fun _ => False) (fun _ => none)
  cases r with
  | lst h1 => cases h1
theorem OdL.item {m : Nat} {ws : List V} {zs ys : List PV} (h : ∀ (k : Nat) (w : V) (z : PV), ws[k]? = some w → zs[k]? = some z → OdI K d H0 F H w z) (l : ws.length = zs.length) (hm : zs[m]? = some (.lst ys)) : ∃ b us, ws[m]? = some (.ref b) ∧ H b = some (.lst us) ∧ ¬ F b ∧ H0 b = none ∧ Rvs K d F H us ys := by
  have lm := (List.getElem?_eq_some_iff.mp hm).1
  have hw : ws[m]? = some ws[m] := List.getElem?_eq_getElem (by omega)
  rcases h m _ _ hw hm with ⟨b, us, ys', e1, e2, u1, u2, u3, u4⟩ | s
  · cases e2
    exact ⟨b, us, by rw [hw, e1], u1, u2, u3, u4⟩
  · exact s.nl.elim
def LdSt (K : PySem.W.Frag) (d : Cn → Addr) (D : Addr) (F1 : Fz) (H1 : Hp) (F' : Fz) (H' : Hp) (acc : List PV) : Prop := ∃ (bs : List Addr) (yss : List (List PV)), acc = yss.map .lst ∧ H' D = some (.lst (bs.map .ref)) ∧ ¬ F' D ∧ D ∉ bs ∧ bs.Nodup ∧ bs.length = yss.length ∧ (∀ b ∈ bs, H1 b = none) ∧ Step F1 H1 F' H' ∧
  ∀ (k : Nat) (b : Addr) (ys : List PV), bs[k]? = some b → yss[k]? = some ys → ∃ us, H' b = some (.lst us) ∧ ¬ F' b ∧ Rvs K d F' H' us ys
theorem LdSt.step {D : Addr} {acc : List PV} (h : LdSt K d D F1 H1 F H acc) (s : Step F H F' H') : LdSt K d D F1 H1 F' H' acc := by
  obtain ⟨bs, yss, h1, h2, h3, h4, h5, h6, h7, h8, h9⟩ := h
  have nf : ∀ {a : Addr} {o : HO}, H a = some o → ¬ F a → ¬ F' a := fun {a o} q n z => (s.nw a z).elim n fun e => by rw [q] at e; cases e
  refine ⟨bs, yss, h1, s.ex.at h2, nf h2 h3, h4, h5, h6, h7, h8.trans s, fun k b ys k1 k2 => ?_⟩
  obtain ⟨us, u1, u2, u3⟩ := h9 k b ys k1 k2
  exact ⟨us, s.ex.at u1, nf u1 u2, u3.step s⟩
theorem LdSt.push {D p : Addr} {acc ys : List PV} {us : List V} {Hm : Hp} (nD : H1 D = none) (e1 : Xn H1 Hm) (hD : Hm D ≠ none) (h : LdSt K d D F1 H1 F H acc) (n1 : Hm p = none) (n2 : H p = some (.lst us)) (n3 : ¬ F p) (n4 : Rvs K d F H us ys) (old : ∀ bs : List Addr, Hm D = some (.lst (bs.map .ref)) → ∀ b ∈ bs, Hm b ≠ none) (same : H D = Hm D) :
    ∃ as, H D = some (.lst as) ∧ as.length = acc.length ∧ LdSt K d D F1 H1 F (upd H D (.lst (as ++ [.ref p]))) (acc ++ [.lst ys]) := by
  obtain ⟨bs, yss, rfl, h2, h3, h4, h5, h6, h7, h8, h9⟩ := h
  refine ⟨_, h2, by rw [List.length_map, List.length_map, h6], ?_⟩
  have pD : p ≠ D := fun e => hD (e ▸ n1)
  have pb : p ∉ bs := fun q => old bs (by rw [← same]; exact h2) p q n1
  have sb : Stb F H (upd H D (.lst (bs.map .ref ++ [.ref p]))) := Stb.set h2 h3
  refine ⟨bs ++ [p], yss ++ [ys], by rw [List.map_append]; rfl, by rw [upd_same, List.map_append]; rfl, h3, ?_, ?_, by rw [List.length_append, List.length_append, h6]; rfl, fun b hb => ?_, ⟨Xn.mut h8.ex nD, h8.up, h8.nw, h8.dm.set h2⟩, fun k b ys' k1 k2 => ?_⟩
  · rw [List.mem_append, List.mem_singleton]
    exact fun q => q.elim h4 fun e => pD e.symm
  · refine List.nodup_append.mpr ⟨h5, List.pairwise_singleton _ _, fun a ha b hb e => ?_⟩
    rw [List.mem_singleton.mp hb] at e
    exact pb (e ▸ ha)
  · rcases List.mem_append.mp hb with q | q
    · exact h7 b q
    · rw [List.mem_singleton.mp q]
      exact back_x e1 n1
  · by_cases hk : k < bs.length
    · rw [List.getElem?_append_left hk] at k1
      rw [List.getElem?_append_left (by omega)] at k2
      obtain ⟨us', u1, u2, u3⟩ := h9 k b ys' k1 k2
      have bD : b ≠ D := fun e => h4 (e ▸ List.mem_of_getElem? k1)
      exact ⟨us', by rw [upd_ne bD]; exact u1, u2, u3.mono sb fun _ z => z⟩
    · have e : k = bs.length := by
        have := (List.getElem?_eq_some_iff.mp k1).1
        rw [List.length_append, List.length_singleton] at this
        omega
      subst e
      rw [List.getElem?_append_right (Nat.le_refl _), Nat.sub_self] at k1
      rw [List.getElem?_append_right (by omega), h6, Nat.sub_self] at k2
      cases k1
      cases k2
      exact ⟨us, by rw [upd_ne pD]; exact n2, n3, n4.mono sb fun _ z => z⟩
end
end Wx
namespace Hn
open PySem PySem.Spec PyProof.Rows L2 Evl RZ
def Ik (κ : Bool) (h : Heap) (it a : Addr) (i : Nat) : Prop := if κ = true then h.IsListIter it a i else h.IsTupleIter it a i
def Ok (κ : Bool) (a : Addr) : Obj := if κ = true then { cls := .type "list_iterator", data := .fields #[.ref a, .int 0 0] } else { cls := .type "tuple_iterator", data := .fields #[.ref a, .int 0 0] }
theorem Ik.at {κ : Bool} {h h' : Heap} {it a : Addr} {i : Nat} (x : Ik κ h it a i) (k : ∀ o, h.get? it = some o → h'.get? it = some o) : Ik κ h' it a i := by
  cases κ with
  | true => exact Heap.IsListIter.at x k
  | false => exact Heap.IsTupleIter.at x k
theorem Ik.obj {κ : Bool} {h : Heap} {it a : Addr} {i : Nat} (x : Ik κ h it a i) : ∃ o, h.get? it = some o ∧ ∀ v, o.data = .cell v → False := by
  cases κ with
  | true =>
    obtain ⟨o, e, _, d⟩ := (show h.IsListIter it a i from x)
    exact ⟨o, e, fun v q => by rw [d] at q; cases q⟩
  | false =>
    obtain ⟨o, e, _, d⟩ := (show h.IsTupleIter it a i from x)
    exact ⟨o, e, fun v q => by rw [d] at q; cases q⟩
theorem Ik.new {κ : Bool} {h : Heap} {it a : Addr} (e : h.get? it = some (Ok κ a)) : Ik κ h it a 0 := by
  cases κ with
  | true => exact ⟨_, e, rfl, rfl⟩
  | false => exact ⟨_, e, rfl, rfl⟩
end Hn
namespace Wx
open PySem PySem.Spec PyProof.Rows L2 Evl Hn RZ
variable [TabC]
section
variable [XC]
variable {K : PySem.W.Frag} {d : Cn → Addr} {F F0 F1 : Fz} {H H0 H1 : Hp} {ts : List Tag} {v : V} {x : PV}
end
end Wx
namespace Hn
open PySem PySem.Spec PyProof.Rows L2 Evl
end Hn
namespace Wx
open PySem PySem.Spec PyProof.Rows L2 Evl Hn RZ
variable [TabC]
section
variable [XC]
variable {K : PySem.W.Frag} {d : Cn → Addr} {F : Fz} {H : Hp} {ts : List Tag}
def wMakeKg (n m : Nat) (hP : List PV → List PV) (w : WF) (wa wk : WA) : WE := fun ρ P => wa ρ fun xs => wk ρ fun zs => xs.length = n ∧ zs.length = m ∧ w (xs ++ hP zs) P
end
end Wx
namespace Wx
open PySem PySem.Spec PyProof.Rows L2 Evl Hn RZ
variable [TabC]
section
variable {wg : WG} {wt : WT} {we : WE} {ρ : List PV} {P : List PV → Prop} {α : Type}
theorem lcl {ys : List α} {g : α → PV} {acc : List PV} (p : α → Bool) (F : α → PV)
    (h : ∀ y ∈ ys, ∀ (Kt : PV → Prop) (Kf : Prop), (p y = true → Kt (F y)) → (p y = false → Kf) → wg (g y) ρ fun ρ2 => wt ρ2 fun b => if b = true then we ρ2 Kt else Kf)
    (q : P (acc ++ (ys.filter p).map F)) : wLcL wg wt we ρ (ys.map g) acc P := by
  induction ys generalizing acc with
  | nil =>
    rw [List.filter_nil, List.map_nil, List.append_nil] at q
    exact q
  | cons y ys ih =>
    have ih' := fun acc q => ih (acc := acc) (fun z hz => h z (List.mem_cons_of_mem _ hz)) q
    refine h y List.mem_cons_self _ _ (fun py => ih' _ ?_) fun py => ih' _ ?_
    · rw [List.filter_cons, if_pos py, List.map_cons] at q
      rw [List.append_assoc]
      exact q
    · rw [List.filter_cons, if_neg (by rw [py]; exact Bool.false_ne_true)] at q
      exact q
theorem lcm {ys : List α} {g : α → PV} {acc : List PV} (F : α → PV)
    (h : ∀ y ∈ ys, ∀ (Kt : PV → Prop), Kt (F y) → wg (g y) ρ fun ρ2 => we ρ2 Kt) (q : P (acc ++ ys.map F)) : wLcL wg wTyes we ρ (ys.map g) acc P :=
  lcl (p := fun _ => true) F (fun y hy Kt Kf h1 _ => h y hy Kt (h1 rfl)) (by rw [List.filter_eq_self.mpr fun _ _ => rfl]; exact q)
theorem lca {xs : List PV} {acc : List PV} (R : PV → Prop)
    (h : ∀ x ∈ xs, ∀ (Kt : PV → Prop), (∀ z, R z → Kt z) → wg x ρ fun ρ2 => we ρ2 Kt) (q : ∀ zs : List PV, zs.length = xs.length → (∀ z ∈ zs, R z) → P (acc ++ zs)) : wLcL wg wTyes we ρ xs acc P := by
  induction xs generalizing acc with
  | nil =>
    have := q [] rfl (by simp)
    rw [List.append_nil] at this
    exact this
  | cons x xs ih =>
    refine h x List.mem_cons_self _ fun z hz => ih (fun y hy => h y (List.mem_cons_of_mem _ hy)) fun zs hl hr => ?_
    rw [List.append_assoc]
    refine q (z :: zs) (by rw [List.length_cons, List.length_cons, hl]) fun y hy => ?_
    rcases List.mem_cons.mp hy with rfl | hy
    · exact hz
    · exact hr y hy
theorem ints_pv {zs : List PV} {R : Int → Prop} (h : ∀ z ∈ zs, ∃ i, R i ∧ z = .int i) : ∃ ns : List Int, zs = iL ns ∧ ∀ i ∈ ns, R i := by
  induction zs with
  | nil => exact ⟨[], rfl, by simp⟩
  | cons z zs ih =>
    obtain ⟨ns, e, hr⟩ := ih fun y hy => h y (List.mem_cons_of_mem _ hy)
    obtain ⟨i, hi, rfl⟩ := h z List.mem_cons_self
    refine ⟨i :: ns, by rw [e]; rfl, fun j hj => ?_⟩
    rcases List.mem_cons.mp hj with rfl | hj
    · exact hi
    · exact hr j hj
theorem lci {xs : List PV} {acc : List PV} (R : Int → Prop)
    (h : ∀ x ∈ xs, ∀ (Kt : PV → Prop), (∀ i : Int, R i → Kt (.int i)) → wg x ρ fun ρ2 => we ρ2 Kt) (q : ∀ ns : List Int, ns.length = xs.length → (∀ i ∈ ns, R i) → P (acc ++ iL ns)) : wLcL wg wTyes we ρ xs acc P :=
  lca (fun z => ∃ i, R i ∧ z = .int i) (fun x hx Kt hk => h x hx Kt fun i hi => hk _ ⟨i, hi, rfl⟩) fun zs hl hr => by
    obtain ⟨ns, rfl, h2⟩ := ints_pv hr
    exact q ns (by rw [← hl, List.length_map]) h2
end
theorem forl {α : Type} {wg : WG} {w : WS} {D : WEnds} {ρ : List PV} {ys : List α} {g : α → PV} (I : Nat → List PV → Prop) (h0 : I 0 ρ)
    (hs : ∀ (i : Nat) (y : α) (ρ : List PV) (N : List PV → Prop), ys[i]? = some y → I i ρ → (∀ ρ', I (i + 1) ρ' → N ρ') → wg (g y) ρ fun ρ2 => w { D with nx := N, ct := N, bk := D.nx } ρ2)
    (hd : ∀ ρ, I ys.length ρ → D.nx ρ) : wForL wg w D (ys.map g) ρ := by
  have go : ∀ (zs : List α) (i : Nat) (ρ : List PV), ys.drop i = zs → i ≤ ys.length → I i ρ → wForL wg w D (zs.map g) ρ := by
    intro zs
    induction zs with
    | nil =>
      intro i ρ e hi h
      have : i = ys.length := by
        have := congrArg List.length e
        rw [List.length_drop, List.length_nil] at this
        omega
      subst this
      exact hd ρ h
    | cons z zs ih =>
      intro i ρ e hi h
      have hi2 : i < ys.length := by
        have := congrArg List.length e
        rw [List.length_drop, List.length_cons] at this
        omega
      rw [List.drop_eq_getElem_cons hi2] at e
      have ez : ys[i] = z := (List.cons.inj e).1
      have ezs := (List.cons.inj e).2
      refine hs i z ρ _ (by rw [List.getElem?_eq_getElem hi2, ez]) h fun ρ' h' => ih (i + 1) ρ' ezs hi2 h'
  exact go ys 0 ρ rfl (Nat.zero_le _) h0
theorem forv {wg : WG} {w : WS} {D : WEnds} {ρ : List PV} {xs : List PV} (I : Nat → List PV → Prop) (h0 : I 0 ρ)
    (hs : ∀ (i : Nat) (x : PV) (ρ : List PV) (N : List PV → Prop), xs[i]? = some x → I i ρ → (∀ ρ', I (i + 1) ρ' → N ρ') → wg x ρ fun ρ2 => w { D with nx := N, ct := N, bk := D.nx } ρ2)
    (hd : ∀ ρ, I xs.length ρ → D.nx ρ) : wForL wg w D xs ρ := by
  have := forl (g := id) (ys := xs) I h0 hs hd
  rw [List.map_id] at this
  exact this
theorem rangeP0 (n : Nat) : rangeP 0 n = (List.range n).map fun (i : Nat) => PV.int (i : Int) := by
  unfold rangeP
  refine List.map_congr_left fun i _ => ?_
  rw [Int.zero_add]
theorem forr {wg : WG} {w : WS} {D : WEnds} {ρ : List PV} {n : Nat} (I : Nat → List PV → Prop) (h0 : I 0 ρ)
    (hs : ∀ (i : Nat) (ρ : List PV) (N : List PV → Prop), i < n → I i ρ → (∀ ρ', I (i + 1) ρ' → N ρ') → wg (.int (i : Int)) ρ fun ρ2 => w { D with nx := N, ct := N, bk := D.nx } ρ2)
    (hd : ∀ ρ, I n ρ → D.nx ρ) : wForL wg w D (rangeP 0 n) ρ := by
  rw [rangeP0]
  refine forl I h0 (fun i y ρ N hy hI hN => ?_) fun ρ h => hd ρ (by rw [List.length_range] at h; exact h)
  obtain ⟨hi, e⟩ := List.getElem?_eq_some_iff.mp hy
  rw [List.length_range] at hi
  rw [List.getElem_range] at e
  subst e
  exact hs i ρ N hi hI hN
theorem at_iL {ns : List Int} {i : Int} (h0 : 0 ≤ i) (h1 : i < (ns.length : Int)) : L2.atI (iL ns) i = some (.int (ns.getD i.toNat 0)) := by
  obtain ⟨j, rfl⟩ : ∃ j : Nat, i = (j : Int) := ⟨i.toNat, by omega⟩
  have hj : j < ns.length := by omega
  refine atI_nat ?_
  rw [List.getElem?_map, List.getElem?_eq_getElem hj, Int.toNat_natCast, List.getD_eq_getElem?_getD, List.getElem?_eq_getElem hj]
  rfl
theorem ix_iL {ns : List Int} {i : Int} {P : PV → Prop} (h0 : 0 ≤ i) (h1 : i < (ns.length : Int)) (p : P (.int (ns.getD i.toNat 0))) : ∃ z, L2.atI (iL ns) i = some z ∧ P z := ⟨_, at_iL h0 h1, p⟩
theorem at_any {xs : List PV} {i : Int} (h0 : 0 ≤ i) (h1 : i < (xs.length : Int)) : L2.atI xs i = some (xs.getD i.toNat .non) := by
  obtain ⟨j, rfl⟩ : ∃ j : Nat, i = (j : Int) := ⟨i.toNat, by omega⟩
  have hj : j < xs.length := by omega
  refine atI_nat ?_
  rw [Int.toNat_natCast, List.getD_eq_getElem?_getD, List.getElem?_eq_getElem hj]
  rfl
def PvD (x : PV) (w k : Nat) : Prop := ∃ e, toD x = some e ∧ Fine e w ∧ e.canLay0 = true ∧ e.depth ≤ k
theorem PvD.mono {x : PV} {w k w' k' : Nat} (h : PvD x w k) (hw : w ≤ w') (hk : k ≤ k') : PvD x w' k' :=
  let ⟨e, h1, h2, h3, h4⟩ := h
  ⟨e, h1, h2.mono hw, h3, Nat.le_trans h4 hk⟩
theorem pd_bl (b : Bool) : PvD (.bl b) 0 0 := ⟨.bool b, by simp only [toD], fine_bool b, rfl, Nat.le_refl _⟩
theorem pd_non : PvD .non 0 0 := ⟨.none, by simp only [toD], fine_none, rfl, Nat.le_refl _⟩
theorem pd_str {x : Str} {n : Nat} (h : Sml x n) : PvD (.str x) n 0 := ⟨.str x, by simp only [toD], fine_txt h, by
  simp only [PyData.canLay0]
  unfold PyData.strOk
  rw [Array.all_eq_true]
  intro i hi
  exact decide_eq_true (h.2 _ (by rw [← Array.getElem_toList]; exact List.getElem_mem _)), Nat.le_refl _⟩
theorem PvD.shaped {x : PV} {w k : Nat} (h : PvD x w k) (hk : k ≤ 64) : ∃ e, toD x = some e ∧ SeqAt.shaped e = true ∧ Fine e w := by
  obtain ⟨e, h1, h2, h3, h4⟩ := h
  refine ⟨e, h1, ?_, h2⟩
  unfold SeqAt.shaped
  rw [h3, decide_eq_true (by omega : e.depth ≤ 64)]
  rfl
theorem at0 {α : Type} {x : α} {xs : List α} : L2.atI (x :: xs) 0 = some x := by
  refine atI_nat (j := 0) ?_
  rfl
theorem at1 {α : Type} {x y : α} {xs : List α} : L2.atI (x :: y :: xs) 1 = some y := by
  refine atI_nat (j := 1) ?_
  rfl
theorem at2 {α : Type} {x y z : α} {xs : List α} : L2.atI (x :: y :: z :: xs) 2 = some z := by
  refine atI_nat (j := 2) ?_
  rfl
theorem at3 {α : Type} {x y z u : α} {xs : List α} : L2.atI (x :: y :: z :: u :: xs) 3 = some u := by
  refine atI_nat (j := 3) ?_
  rfl
theorem at4 {α : Type} {x y z u v : α} {xs : List α} : L2.atI (x :: y :: z :: u :: v :: xs) 4 = some v := by
  refine atI_nat (j := 4) ?_
  rfl
theorem all_of {α : Type} {ys : List α} {f : α → Bool} {P : PV → Prop} (p : P (.bl (ys.all f))) : wAll [.lst (ys.map fun y => .bl (f y))] P := by
  refine ⟨ys.map f, by rw [List.map_map]; rfl, ?_⟩
  rw [List.all_map]
  exact p
def cyL {α : Type} (d : α) (xs : List α) (i : Int) : α := xs.getD (i % (xs.length : Int)).toNat d
theorem cyL_add {α : Type} {d : α} {xs : List α} {i : Int} : cyL d xs (i + (xs.length : Int)) = cyL d xs i := by
  unfold cyL
  rw [Int.add_emod_right]
theorem cyL_get {α : Type} {d : α} {xs : List α} {i : Nat} (h : i < xs.length) : cyL d xs (i : Int) = xs[i] := by
  unfold cyL
  rw [Int.emod_eq_of_lt (by omega) (by omega), Int.toNat_natCast, List.getD_eq_getElem?_getD, List.getElem?_eq_getElem h]
  rfl
theorem cyL_get? {α : Type} {d : α} {xs : List α} {i : Nat} (h : i < xs.length) : xs[i]? = some (cyL d xs (i : Int)) := by
  rw [cyL_get h, List.getElem?_eq_getElem h]
theorem cyL_mem {α : Type} {d : α} {xs : List α} (h : 1 ≤ xs.length) (i : Int) : cyL d xs i ∈ xs := by
  unfold cyL
  have := mod_bd h i
  rw [List.getD_eq_getElem?_getD, List.getElem?_eq_getElem (by omega)]
  exact List.getElem_mem _
theorem at_cyL {α : Type} {d : α} {f : α → PV} {xs : List α} {i : Int} (h0 : - (xs.length : Int) ≤ i) (h1 : i < (xs.length : Int)) : L2.atI (xs.map f) i = some (f (cyL d xs i)) := by
  have key : ∀ j : Nat, j < xs.length → (xs.map f)[j]? = some (f (cyL d xs (j : Int))) := fun j hj => by
    rw [List.getElem?_map, cyL_get? (d := d) hj]
    rfl
  rcases Int.lt_or_le i 0 with h | h
  · unfold L2.atI ixN
    rw [List.length_map, if_neg (by omega), if_pos h0]
    show (xs.map f)[(i + (xs.length : Int)).toNat]? = _
    rw [key _ (by omega), show ((i + (xs.length : Int)).toNat : Int) = i + (xs.length : Int) from by omega, cyL_add]
  · obtain ⟨j, rfl⟩ : ∃ j : Nat, i = (j : Int) := ⟨i.toNat, by omega⟩
    exact atI_nat (key j (by omega))
theorem cut_im1 {xs : List PV} (h : 1 ≤ xs.length) : cutP xs none (some (-1)) = xs.take (xs.length - 1) := by
  unfold cutP
  have e : HT.sIx xs.length xs.length (some (-1)) = xs.length - 1 := by
    unfold HT.sIx
    simp only
    rw [if_pos (by decide)]
    omega
  rw [HT.sIx_none, e, List.drop_zero, Nat.sub_zero]
end Wx
namespace Wx
open PySem PySem.Spec PyProof.Rows L2 Evl Hn RZ
variable [TabC]
inductive Wd where
  | need | room | keep | door
  deriving DecidableEq
def Wd.s : Wd → Str
  | .need => "need"
  | .room => "room"
  | .keep => "keep"
  | .door => "door"
def Wd.on : Wd → Bool
  | .need => true
  | .keep => true
  | _ => false
structure Hs where
  s : List Int
  ns : List Int
  rs : List (Option Int)
  ks : List Int
  ds : List (Option Int)
abbrev Hs.p (X : Hs) : PV := hsP X.s X.ns X.rs X.ks X.ds
abbrev Hs.w (X : Hs) : PV := .tup [.lst (iL X.s), .lst (iL X.ns), .lst (oL X.rs), .lst (iL X.ks), .lst (oL X.ds)]
abbrev Hs.ok (X : Hs) : Prop := GoodH X.s X.ns X.rs X.ks X.ds
abbrev Hs.n (X : Hs) : Int := (X.s.length : Int)
theorem Hs.ok.pos {X : Hs} (g : X.ok) : 0 < X.n := by have := g.cs.ne; show (0 : Int) < (X.s.length : Int); omega
theorem Hs.ok.le {X : Hs} (g : X.ok) : X.n ≤ 48 := by have := g.cs.le; show (X.s.length : Int) ≤ 48; omega
def cyo (rs : List (Option Int)) (i : Int) : Option Int := rs.getD (i % (rs.length : Int)).toNat none
def Hs.lim (X : Hs) : Wd → Int → Option Int
  | .need, h => some (cyc X.ns h)
  | .room, h => cyo X.rs h
  | .keep, h => some (cyc X.ks h)
  | .door, h => cyo X.ds h
def Hs.fst (X : Hs) (w : Wd) (h : Int) : Int := match w with
  | .keep => h
  | .door => h
  | _ => (h - wd X.s h + 1) % X.n
def Hs.len (X : Hs) (w : Wd) (h : Int) : Int := match w with
  | .keep => 1
  | .door => 1
  | _ => wd X.s h
abbrev Stp4 := Wd × Int
def Hs.a (X : Hs) (t : Stp4) : Int := if t.1.on = true then X.fst t.1 t.2 else (X.fst t.1 t.2 + X.len t.1 t.2) % X.n
def Hs.b (X : Hs) (t : Stp4) : Int := if t.1.on = true then (X.fst t.1 t.2 + X.len t.1 t.2) % X.n else X.fst t.1 t.2
def Hs.l (X : Hs) (t : Stp4) : Int := if t.1.on = true then X.len t.1 t.2 else - X.len t.1 t.2
def Hs.v (X : Hs) (t : Stp4) : Int := if t.1.on = true then (X.lim t.1 t.2).getD 0 else - (X.lim t.1 t.2).getD 0
def Hs.st (X : Hs) (t : Stp4) : Prop := 0 ≤ t.2 ∧ t.2 < X.n ∧ (X.lim t.1 t.2).isSome = true
def stP (t : Stp4) : PV := .tup [.str t.1.s, .int t.2]
abbrev cyS (ts : List Stp4) (i : Int) : Stp4 := cyL (.keep, 0) ts i
def Hs.Joins (X : Hs) (ts : List Stp4) : Prop := ∀ i : Int, X.b (cyS ts i) = X.a (cyS ts (i + 1))
noncomputable instance (X : Hs) (ts : List Stp4) : Decidable (X.Joins ts) := Classical.propDecidable _
noncomputable def Hs.joins (X : Hs) (ts : List Stp4) : Bool := decide (X.Joins ts)
def Hs.trn (X : Hs) (ts : List Stp4) : Int := (ts.map X.l).sum / X.n
def Hs.val (X : Hs) (ts : List Stp4) : Int := (ts.map X.v).sum
theorem fst_bd {X : Hs} (g : X.ok) {w : Wd} {h : Int} (h0 : 0 ≤ h) (h1 : h < X.n) : 0 ≤ X.fst w h ∧ X.fst w h < X.n := by
  have := mod_bd g.cs.ne (h - wd X.s h + 1)
  cases w <;> simp only [Hs.fst] <;> first | exact ⟨h0, h1⟩ | exact this
def Wd.kd : Wd → Bool
  | .keep => true
  | .door => true
  | _ => false
theorem b_need (X : Hs) (h : Int) : ((h - wd X.s h + 1) % X.n + wd X.s h) % X.n = (h + 1) % X.n := by
  rw [Int.emod_add_emod]
  congr 1
  omega
def Hs.run (X : Hs) : Int → List Stp4 → Int → Prop
  | a, [], z => a = z
  | a, t :: r, z => X.a t = a ∧ X.run (X.b t) r z
def Hs.seg (X : Hs) (p h : Int) : List Stp4 := ((List.range ((h - wd X.s h - p) % X.n).toNat).map fun (k : Nat) => (Wd.keep, (p + 1 + (k : Int)) % X.n)) ++ [(Wd.need, h)]
def Hs.segs (X : Hs) : Int → List Int → List Stp4
  | _, [] => []
  | p, h :: r => X.seg p h ++ X.segs h r
theorem st_keep {X : Hs} (h : Int) (h0 : 0 ≤ h) (h1 : h < X.n) : X.st (.keep, h) := ⟨h0, h1, rfl⟩
def Hs.ring (X : Hs) (r : List Int) : List Stp4 := X.segs (lastH 0 r) r
def Hs.rows (X : Hs) : List Stp4 :=
  (((List.range X.s.length).filter fun (i : Nat) => (cyo X.ds (i : Int)).isSome).map fun (i : Nat) => (Wd.door, (i : Int))) ++
  ((List.range X.s.length).map fun (i : Nat) => (Wd.keep, (i : Int))) ++
  ((List.range X.s.length).map fun (i : Nat) => (Wd.need, (i : Int))) ++
  (((List.range X.s.length).filter fun (i : Nat) => (cyo X.rs (i : Int)).isSome).map fun (i : Nat) => (Wd.room, (i : Int)))
theorem rows_mem {X : Hs} (t : Stp4) : t ∈ X.rows ↔ X.st t := by
  obtain ⟨w, h⟩ := t
  unfold Hs.rows Hs.st
  simp only [List.mem_append, List.mem_map, List.mem_filter, List.mem_range, Prod.mk.injEq]
  constructor
  · rintro (((⟨i, ⟨h1, h2⟩, rfl, rfl⟩ | ⟨i, h1, rfl, rfl⟩) | ⟨i, h1, rfl, rfl⟩) | ⟨i, ⟨h1, h2⟩, rfl, rfl⟩)
    · exact ⟨by omega, by show (i : Int) < (X.s.length : Int); omega, h2⟩
    · exact ⟨by omega, by show (i : Int) < (X.s.length : Int); omega, rfl⟩
    · exact ⟨by omega, by show (i : Int) < (X.s.length : Int); omega, rfl⟩
    · exact ⟨by omega, by show (i : Int) < (X.s.length : Int); omega, h2⟩
  · rintro ⟨h0, h1, h2⟩
    have h1 : h < (X.s.length : Int) := h1
    obtain ⟨i, rfl⟩ : ∃ i : Nat, h = (i : Int) := ⟨h.toNat, by omega⟩
    cases w with
    | need => exact .inl (.inr ⟨i, by omega, rfl, rfl⟩)
    | room => exact .inr ⟨i, ⟨by omega, h2⟩, rfl, rfl⟩
    | keep => exact .inl (.inl (.inr ⟨i, by omega, rfl, rfl⟩))
    | door => exact .inl (.inl (.inl ⟨i, ⟨by omega, h2⟩, rfl, rfl⟩))
theorem ix_cycZ {ns : List Int} {i : Int} {P : PV → Prop} (h0 : -(ns.length : Int) ≤ i) (h1 : i < (ns.length : Int)) (p : P (.int (cyc ns i))) : ∃ z, L2.atI (iL ns) i = some z ∧ P z := ⟨_, at_cyL (d := (0 : Int)) h0 h1, p⟩
structure SmC (ks : List Int) (n : Nat) (b : Int) : Prop where
  len : ks.length = n
  ok : ∀ z ∈ ks, 0 ≤ z ∧ z < b
structure SmO (rs : List (Option Int)) (n : Nat) (b : Int) : Prop where
  len : rs.length = n
  ok : ∀ z ∈ rs, ∀ i, z = some i → 0 ≤ i ∧ i < b
theorem SmC.set {ks : List Int} {n : Nat} {b z : Int} {i : Nat} (h : SmC ks n b) (h0 : 0 ≤ z) (h1 : z < b) : SmC (ks.set i z) n b :=
  ⟨by rw [List.length_set]; exact h.len, fun y hy => by
    rcases List.mem_or_eq_of_mem_set hy with hy | rfl
    · exact h.ok y hy
    · exact ⟨h0, h1⟩⟩
theorem SmO.set {rs : List (Option Int)} {n : Nat} {b z : Int} {i : Nat} (h : SmO rs n b) (h0 : 0 ≤ z) (h1 : z < b) : SmO (rs.set i (some z)) n b :=
  ⟨by rw [List.length_set]; exact h.len, fun y hy j hj => by
    rcases List.mem_or_eq_of_mem_set hy with hy | rfl
    · exact h.ok y hy j hj
    · cases hj
      exact ⟨h0, h1⟩⟩
theorem SmC.get {ks : List Int} {n : Nat} {b : Int} (h : SmC ks n b) (hn : 1 ≤ n) (i : Int) : 0 ≤ cyc ks i ∧ cyc ks i < b := h.ok _ (cyL_mem (d := (0 : Int)) (by rw [h.len]; exact hn) i)
theorem SmC.mono {ks : List Int} {n : Nat} {b c : Int} (h : SmC ks n b) (hb : b ≤ c) : SmC ks n c := ⟨h.len, fun z hz => ⟨(h.ok z hz).1, Int.lt_of_lt_of_le (h.ok z hz).2 hb⟩⟩
theorem SmC.zero (n : Nat) {b : Int} (hb : 0 < b) : SmC (List.replicate n 0) n b := ⟨List.length_replicate, fun z hz => by
  rw [List.eq_of_mem_replicate hz]
  exact ⟨Int.le_refl _, hb⟩⟩
theorem SmO.non (n : Nat) {b : Int} : SmO (List.replicate n none) n b := ⟨List.length_replicate, fun z hz i hi => by
  rw [List.eq_of_mem_replicate hz] at hi
  cases hi⟩
structure Hs.sm (X : Hs) : Prop where
  ns : SmC X.ns X.s.length (10 ^ 32)
  rs : SmO X.rs X.s.length (10 ^ 32)
  ks : SmC X.ks X.s.length (10 ^ 32)
  ds : SmO X.ds X.s.length (10 ^ 32)
theorem Hs.sm.ok {X : Hs} (h : X.sm) (g : Good X.s) : X.ok where
  cs := g
  cn := ⟨by rw [h.ns.len]; exact g.ne, by rw [h.ns.len]; exact g.le, fun i => (h.ns.get g.ne i).1⟩
  ln := h.ns.len
  lr := h.rs.len
  lk := h.ks.len
  ld := h.ds.len
  cr := fun r hr i hi => (h.rs.ok r hr i hi).1
  ck := fun z hz => (h.ks.ok z hz).1
  cd := fun r hr i hi => (h.ds.ok r hr i hi).1
theorem Hs.sm.lim {X : Hs} (h : X.sm) (g : Good X.s) {w : Wd} {i l : Int} (e : X.lim w i = some l) : 0 ≤ l ∧ l < 10 ^ 32 := by
  have key : ∀ {rs : List (Option Int)}, SmO rs X.s.length (10 ^ 32) → cyo rs i = some l → 0 ≤ l ∧ l < 10 ^ 32 := fun {rs} q e => q.ok (cyo rs i) (cyL_mem (d := (none : Option Int)) (by rw [q.len]; exact g.ne) i) l e
  cases w with
  | need => cases e; exact h.ns.get g.ne i
  | room => exact key h.rs e
  | keep => cases e; exact h.ks.get g.ne i
  | door => exact key h.ds e
theorem rep1 {x : PV} {n : Nat} : (List.replicate n [x]).flatten = List.replicate n x := by
  rw [List.flatten_replicate_singleton]
theorem ixN_in {n i : Nat} (h : i < n) : ixN n (i : Int) = some i := by
  unfold ixN
  rw [if_pos (by omega), if_pos (by omega), Int.toNat_natCast]
theorem tk {u : Int} {P : PV → Prop} (h0 : 0 < u) (h1 : u < 1000000000000000000000000000000000000000000000000000) (h : ∀ n : Int, 0 ≤ n → n < u → P (.int n)) : w_take [.bag, .int u] P := ⟨u, rfl, h0, h1, h⟩
end Wx
namespace Hn
open PySem PySem.W PySem.Calls PyProof.Rows PySem.HandSPX
def eA (fld : Str) (p1 p2 : Pos) : Arguments := { posonlyargs := [], args := [{ arg := "self", annotation := none, pos := p1 }, { arg := fld, annotation := none, pos := p2 }], vararg := none, kwonlyargs := [], kw_defaults := [], kwarg := none, defaults := [] }
def eB (fld : Str) (p0 p1 p2 p3 p4 p5 q1 q2 q3 q4 : Pos) : List Stmt := [.Expr (.Call (.Attribute (.Call (.Name "super" p0) [] [] p1) "__init__" p2) [.Name fld p3] [] p4) p5, .Assign [.Attribute (.Name "self" q1) fld q2] (.Name fld q3) q4]
abbrev eS (names : List (Str × NameKind)) : Scope := { kind := .function, names := names, isGenerator := false, isCoroutine := false, more := [] }
def CallEq (fld : Str) (a0 a1 a2 a3 a4 : Pos) (env : Env) : Prop := ∃ pl : Sem Bool, eval (.Call (.Attribute (.Call (.Name "super" a0) [] [] a1) "__init__" a2) [.Name fld a3] [] a4) env = (do
  let ov ← attributeBase (.Call (.Name "super" a0) [] [] a1) "__init__" env (eval (.Call (.Name "super" a0) [] [] a1) env)
  standAt a2.atName
  let (f, first) ← holding [ov] (getMethod ov "__init__" pl)
  callWith a4 f first (backTo a4 (starEach [.Name fld a3] env)) [])
structure ErrC (P : Program) (K : Frag) (mg : Str → Option Value) (x fld : Str) (C fI : Addr) : Prop where
  gC : mg x = some (.ref C)
  cls : ∃ nm q N bs bm sn sub ab col dd k0 k1 k2 k3 k5, K.lookup C = some (excClassObj nm q C N bs bm true sn sub ab col dd k0 k1 k2 k3 k5 "ValueError.__new__") ∧ refsVE bm = true
  sa : findIn K (.ref C) "__setattr__" = some (some (.builtin "object.__setattr__"))
  ga : findIn K (.ref C) "__getattribute__" = some (some (.builtin "BaseException.__getattribute__"))
  gg : findIn K (.ref C) "__getattr__" = some none
  noN : findIn K (.ref C) fld = some none
  iC : findIn K (.ref C) "__init__" = some (some (.ref fI))
  tC : typeIn K (.ref fI) = some (.type "function")
  kC : keepIn K (.ref C) = true
  exC : subIn K (.ref C) (.type "BaseException") = some true
  vB : subIn K (.ref C) (.type "ValueError") = some true
  tyC : typeIn K (.ref C) = some (.type "type")
  hdC : hasDictIn K C = true
  mr : mroIn K C (.ref C) = some true
  sup : ks_superIn K C C "__init__" = some (some (.builtin "ValueError.__init__"))
  noT : nsIn K cStatics "thirdparty.any" = some none
  noS : mg "super" = none
  sf : (fld == ("self" : Str)) = false
  db : (fld == ("__debug__" : Str)) = false
  fn : ∃ (qual : Str) (names : List (Str × NameKind)) (oc : Value) (od : Option Addr) (doc pm : Value) (an : Option Addr) (cda cc : Addr) (ct : Value) (osl : Array (Option Value)) (p1 p2 a0 a1 a2 a3 a4 a5 q1 q2 q3 q4 : Pos) (ccl cl : Value) (cdd cld : Option Addr) (vs : Array Value) (ccs csl : Array (Option Value)) (file : Str) (tf : Tok),
    K.lookup fI = some ⟨oc, od, .func (ksFn "__init__" qual (eA fld p1 p2) (eB fld a0 a1 a2 a3 a4 a5 q1 q2 q3 q4) (eS names) .none .none doc pm an (.ref cda) ct cc), osl⟩ ∧ codeIn K (.ref cda) qual = true ∧ K.lookup cda = some ⟨ccl, cdd, .fields vs, ccs⟩ ∧ vs[2]? = some (.str file tf) ∧ ((P.main.file : Str) == file) = true ∧
    K.lookup cc = some ⟨cl, cld, .cell (some (.ref C)), csl⟩ ∧ names.lookup ("super" : Str) = some .globalImplicit ∧ names.lookup ("__class__" : Str) = some .free ∧ names.lookup ("self" : Str) = some .local ∧ names.lookup fld = some .local ∧ (∀ x ∈ names, x.2 ≠ .cell) ∧
    (P.main.scope.names.lookup ("super" : Str)).isSome = false ∧ (∀ L, CallEq fld a0 a1 a2 a3 a4 (ksEnv qual (eS names) L fI (.ref cda) cc)) ∧
    (∀ (s : Shared) (e v : Value), BindsTo s (ksFn "__init__" qual (eA fld p1 p2) (eB fld a0 a1 a2 a3 a4 a5 q1 q2 q3 q4) (eS names) .none .none doc pm an (.ref cda) ct cc) ⟨[e, v], []⟩ [("self", e), (fld, v)])
structure InitE (h h' : Heap) (x C dx t1 : Addr) (fld : Str) (v : Value) : Prop where
  keep : ∀ b o, b ≠ x → h.get? b = some o → h'.get? b = some o
  obj : h'.get? x = some { cls := .ref C, dict := some dx, data := .fields #[.ref t1, .none, .none, .none, .bool false, .none] }
  dbig : h.objs.size ≤ dx
  dne : dx ≠ x
  ns : h'.Ns1 dx (fun y => if y = fld then some v else none)
section
variable {P : Program} {w : World} {A : Around} {E : Value → Shared → Prop} {R : Result → Shared → Prop} {s : Shared} {K : Frag} {mg mb : Str → Option Value} {x fld : Str} {C fI : Addr}
theorem err_init (T : ErrC P K mg x fld C fI) {e t0 : Addr} {v : Value} (X : K.In s.heap) (G : s.heap.Ns mainGlobals mg) (Bt : s.heap.Ns builtinsNs mb) (hb : mb "super" = some (.type "super")) (hlim : s.heap.NoLimit) (hx : s.heap.get? e = some (excO C t0)) (hKe : K.lookup e = none) (hroom : A.depth < recursionLimit)
    (hq : ∀ h' tk dx t1, InitE s.heap h' e C dx t1 fld v → R (.ok (.ret .none)) { s with heap := h', toks := tk }) :
    codeAny (model P w) A (.call (.ref fI) ⟨[.ref e, v], []⟩) R s := by
  obtain ⟨qual, names, oc, od, doc, pm, an, cda, cc, ct, osl, p1, p2, a0, a1, a2, a3, a4, a5, q1, q2, q3, q4, ccl, cl, cdd, cld, vs, ccs, csl, file, tf, ho, hcd, hcda, hvs, hfile, hcell, hks, hkc, hksf, hkf, hnc, htop, hceq, hbd⟩ := T.fn
  obtain ⟨nm, q, N, bs, bm, sn, sub, ab, col, dd, k0, k1, k2, k3, k5, hC, hbm⟩ := T.cls
  have hcl : clsIn K C = some { name := nm, bases := bs, mro := .ref C :: bm, ns := N, qualname := q, hasDict := true, slotNames := sn, subclasses := sub, abstract := ab, collection := col, hasDel := false } := by unfold clsIn; rw [hC] <;> rfl
  refine ks_codeAny_call_defAt (fd := ksFn "__init__" qual (eA fld p1 p2) (eB fld a0 a1 a2 a3 a4 a5 q1 q2 q3 q4) (eS names) .none .none doc pm an (.ref cda) ct cc) (body := eB fld a0 a1 a2 a3 a4 a5 q1 q2 q3 q4) (binds := [("self", .ref e), (fld, v)]) hroom (X _ _ ho) rfl hlim (codeRec_of X hcd) rfl ?_ hnc ?_ (fun h₁ hn k => ?_) rfl rfl rfl
  · exact hbd _ _ _
  · intro y hy
    simp only [List.mem_cons, List.not_mem_nil, or_false] at hy
    rcases hy with rfl | rfl
    · exact hksf
    · exact hkf
  have X₁ : K.In h₁ := X.keeps k
  have hx₁ := k _ _ hx
  have hCe : e ≠ C := ks_ne (ox := excO C t0) (odx := none) X ⟨hx, rfl, rfl, trivial⟩ hcl
  have hself : (fun y => ([("self", Value.ref e), (fld, v)] : List (Str × Value)).reverse.lookup y) "self" = some (.ref e) := by
    show List.lookup ("self" : Str) [(fld, v), ("self", Value.ref e)] = _
    have z : (("self" : Str) == fld) = false := by
      have := T.sf
      rw [beq_eq_false_iff_ne] at this ⊢
      exact fun z => this z.symm
    simp only [List.lookup, z]
    rfl
  have hfld : (fun y => ([("self", Value.ref e), (fld, v)] : List (Str × Value)).reverse.lookup y) fld = some v := by
    show List.lookup fld [(fld, v), ("self", Value.ref e)] = _
    simp only [List.lookup, beq_self_eq_true]
  have hI : ∀ h', (∀ b o, h₁.get? b = some o → h'.get? b = some o) → Looks (model P w) h' (isInstance (.ref e) (.type "ValueError")) true := fun h' k' =>
    (InstAt.type (od := none) (ox := excO C t0) ⟨k' _ _ hx₁, rfl, rfl, trivial⟩).andThen (looks_subIn (X₁.keeps k') T.vB)
  obtain ⟨oD, hD1, hD2⟩ : ∃ oD, h₁.get? C = some oD ∧ oD.data = .cls _ := ⟨_, X₁ _ _ hC, rfl⟩
  have hsup := T.sup
  unfold ks_superIn at hsup
  rw [hcl] at hsup
  obtain ⟨sh, sg, sd, st, sos⟩ := s
  obtain ⟨pl, hpl⟩ := hceq sh.objs.size
  refine ks_wpAt_execs_cons (ks_wpAt_Expr_any (ks_wpAt_MethodCall (pl := pl) ?_ hpl))
  refine ks_wpAt_super_base (env := ksEnv qual (eS names) _ fI (.ref cda) cc) hks hkc rfl rfl (X₁ _ _ ho) rfl rfl rfl (X₁ _ _ hcda) rfl hvs hfile htop ?_
  refine ks_loadName_global rfl hks (loadGlobal_builtin (env := ksEnv qual (eS names) _ fI (.ref cda) cc) (G.keeps k) T.noS (Bt.keeps k) hb ⟨rfl, ?_⟩)
  refine wpAny_loadName_free rfl hkc rfl ⟨_, X₁ _ _ hcell, rfl⟩ ?_
  refine wpAny_loadName_local rfl hksf hn hself ?_
  refine ks_wpAny_isType_cls hD1 hD2 ⟨rfl, ?_⟩
  refine ks_wpAny_call_super hD1 hD2 hx₁ rfl (fun c z => nomatch z) (looks_mroIn X₁ T.mr) (fun h₂ hso k₂ => ?_)
  have X₂ : K.In h₂ := X₁.keeps k₂
  refine kxs_getMethod kxs_ValueError hso (looks_opaque X₂ T.noT) (l₀ := .ref C :: bm) (fun A Q E s kk q => wpAny_bind ((looks_clsIn X₂ hcl) A _ E s kk (wpAny_pure q))) rfl X₂ hsup (hI h₂ k₂) hCe rfl ?_
  have k₃ : ∀ b o, h₁.get? b = some o → (h₂.push (kxs_mw "ValueError.__init__" e)).get? b = some o := fun b o z => Heap.get?_push_of_some _ (k₂ b o z)
  have hu : (h₂.push (kxs_mw "ValueError.__init__" e)).get? h₂.objs.size = some (kxs_mw "ValueError.__init__" e) := Heap.get?_push_at rfl rfl
  show wpAny _ _ (callWith a4 (.ref h₂.objs.size) [] (backTo a4 (starEach [.Name fld a3] (ksEnv qual (eS names) sh.objs.size fI (.ref cda) cc))) []) _ _ _
  refine kxs_callWith (i := "ValueError.__init__") (x := e) rfl (evalArgs_plain ?_)
  refine args_cons (wpAny_Name (wpAny_loadName_local (env := ksEnv qual (eS names) sh.objs.size fI (.ref cda) cc) rfl hkf (hn.keeps k₃) hfld ?_) T.db) rfl
  refine args_nil ⟨hu, ?_⟩
  refine wpAny_call (codeAny_of_tree ?_)
  show wpAny _ _ (callAny (.ref h₂.objs.size) ⟨[v], []⟩) _ _ _
  simp only [callAny]
  refine wpAny_bind (wpAny_load hu ?_)
  simp only [kxs_mw, show (Value.type "method-wrapper" == Value.type "method" || Value.type "method-wrapper" == Value.type "builtin_function_or_method" || Value.type "method-wrapper" == Value.type "method-wrapper") = true by decide, if_true]
  refine KFB.if_so (by decide) ?_
  refine wpAny_bind (check_bound_init F.excBase_ValueError.toExcCallFacts (k₃ _ _ (X₁ _ _ hC)) (k₃ _ _ hx₁) rfl ?_)
  refine wpAny_bind (wpAny_pure (wpAny_pure ?_))
  refine ⟨plainId_quiet F.excBase_ValueError.init.plain _, codeAny_builtin F.excBase_ValueError.initEntry ?_⟩
  refine exc_init_tree (cls := .ref C) (t0 := t0) (dv := none) (c2 := .none) (c3 := .none) (b4 := .bool false) (k₃ _ _ hx₁) (by rw [sizeLine_eq]; exact (by decide : 1 ≤ 16777216)) fun h₄ k₄ e₄ t₄ => ?_
  have k₅ : ∀ b o, b ≠ e → h₁.get? b = some o → h₄.get? b = some o := fun b o hb z => k₄ b o hb (k₃ b o z)
  have X₄ : K.In h₄ := fun a o z => k₅ a o (fun y => by rw [y, hKe] at z; cases z) (X₁ a o z)
  have hn₄ : h₄.Ns sh.objs.size (fun y => ([("self", Value.ref e), (fld, v)] : List (Str × Value)).reverse.lookup y) := hn.at fun o z => k₅ _ _ (Nat.ne_of_gt (Heap.lt_size hx)) z
  show PySem.wpAt _ _ _ (execs _ _) _ _ _
  refine ks_wpAt_execs_cons (ks_wpAt_Assign_Attr (wpAt_of_wpAny (wpAny_Name (wpAny_loadName_local (env := ksEnv qual (eS names) sh.objs.size fI (.ref cda) cc) rfl hkf hn₄ hfld (wpAny_Name (wpAny_loadName_local (env := ksEnv qual (eS names) sh.objs.size fI (.ref cda) cc) rfl hksf hn₄ hself ?_)))  T.db)))
  refine set_plain X₄ (ox := excO C (h₂.push (kxs_mw "ValueError.__init__" e)).objs.size) (od := none) ⟨e₄, rfl, rfl, trivial⟩ T.sa ?_
  refine exc_osa X₄ e₄ hcl (show refsVE (.ref C :: bm) = true from hbm) rfl T.noN (fun h₅ tk₅ dx k₆ dn dne hx₅ hn₅ => ?_)
  show PySem.wpAt _ _ _ (execs _ _) _ _ _
  refine wpAt_of_wpAny (wpAny_execs_nil (hq h₅ tk₅ dx _ ⟨fun b o hb z => k₆ b o hb (k₅ b o hb (k b o z)), hx₅, Nat.le_trans (Nat.le_of_lt hn₄.lt) dn, dne, hn₅⟩))
structure ErrMade (h h' : Heap) (e C d : Addr) (fld : Str) (v : Value) : Prop where
  keep : ∀ b o, h.get? b = some o → h'.get? b = some o
  new : h.objs.size ≤ e
  obj : ∃ oe vs, h'.get? e = some oe ∧ oe.cls = .ref C ∧ oe.dict = some d ∧ oe.data = .fields vs ∧ vs[1]? = some .none
  dbig : h.objs.size ≤ d
  dne : d ≠ e
  ns : h'.Ns1 d (fun y => if y = fld then some v else none)
theorem one_sz (v : Value) : [v].length ≤ sizeLine := by
  rw [sizeLine_eq]
  exact (by decide : 1 ≤ 16777216)
theorem err_made (T : ErrC P K mg x fld C fI) {v : Value} (X : K.In s.heap) (G : s.heap.Ns mainGlobals mg) (Bt : s.heap.Ns builtinsNs mb) (hb : mb "super" = some (.type "super")) (hlim : s.heap.NoLimit) (hroom : A.depth + 1 < recursionLimit)
    (hq : ∀ h' tk e d, ErrMade s.heap h' e C d fld v → R (.ok (.ret (.ref e))) { s with heap := h', toks := tk }) :
    codeAny (model P w) A (.call (.ref C) ⟨[v], []⟩) R s := by
  obtain ⟨nm, q, N, bs, bm, sn, sub, ab, col, dd, k0, k1, k2, k3, k5, hC, hbm⟩ := T.cls
  obtain ⟨hp, g, dr, tk, os⟩ := s
  have k : ∀ b o, hp.get? b = some o → ((hp.push (kdv_tup [v])).push (excO C hp.objs.size)).get? b = some o := fun b o e => Heap.get?_push_of_some _ (Heap.get?_push_of_some _ e)
  have hget : ((hp.push (kdv_tup [v])).push (excO C hp.objs.size)).get? (hp.objs.size + 1) = some (excO C hp.objs.size) := by heap_get
  have hnx : K.lookup (hp.objs.size + 1) = none := by
    cases e : K.lookup (hp.objs.size + 1) with
    | none => rfl
    | some o =>
      have z : hp.get? (hp.objs.size + 1) = some o := X _ _ e
      exact absurd (Nat.lt_of_succ_lt (Heap.lt_size z)) (Nat.lt_irrefl _)
  refine call_own F.excBase_ValueError (fun X => refsVE_contains X bm hbm) (X _ _ hC) (looks_findIn X T.iC) (fun self => bind_fn X self T.tC) (one_sz v) ?_
  refine err_init (s := ⟨(hp.push (kdv_tup [v])).push (excO C hp.objs.size), g, dr, tk, os⟩) T (X.keeps k) (G.keeps k) (Bt.keeps k) hb (hlim.keeps k) hget hnx ?_ fun h' tk' dx t1 ⟨k', hx, dn, dne, hns⟩ => ?_
  · show A.depth + 1 < recursionLimit
    exact hroom
  · have old : ∀ b o, hp.get? b = some o → h'.get? b = some o := fun b o e => k' b o (Nat.ne_of_lt (Nat.lt_succ_of_lt (Heap.lt_size e))) (k b o e)
    have z : hp.objs.size + 1 + 1 ≤ dx := by
      first
        | (simpa only [Heap.size_push] using dn)
        | exact dn
        | (have q := dn; rw [Heap.size_push, Heap.size_push] at q; exact q)
    exact ⟨rfl, hq h' tk' (hp.objs.size + 1) dx ⟨old, Nat.le_succ _, ⟨_, _, hx, rfl, rfl, rfl, rfl⟩, Nat.le_trans (Nat.le_trans (Nat.le_succ _) (Nat.le_succ _)) z, dne, hns⟩⟩
end
end Hn
namespace Hn
open PySem PySem.Spec PyProof.Rows L2
theorem relO_err {v : V} {v' : Value} (r : RelV v v') (fld f : Str) : RelO (List.lookup f [(fld, v)]) (if f = fld then some v' else none) := by
  by_cases hw : f = fld
  · subst hw
    rw [if_pos rfl]
    have q : List.lookup f [(f, v)] = some v := by simp [List.lookup]
    rw [q]
    exact r
  · rw [if_neg hw]
    have qw : (f == fld) = false := by simpa using hw
    have q2 : List.lookup f [(fld, v)] = none := by simp [List.lookup, qw]
    rw [q2]
    trivial
section
variable {X : Cx} {C fI : Addr} {x fld : Str}
def tMkE (C : Addr) (fld : Str) (ta : TA) : L2.St → Hp → XK → Prop := fun σ H Q => ta σ H fun vs H1 => ∃ v, vs = [v] ∧ ∀ d, H1 d = none → Q (.ref C) (some d) (upd H1 d (.xd [(fld, v)]))
theorem pmk_err {a : Expr} {ta : TA} {p pos : Pos} {k : Nat} (T : ErrC X.prog X.K X.mg x fld C fI) (hr : Room k X.A) (ha : PA X [a] ta) (hg : Gl X x)
    (hxd : (x == ("__debug__" : Str)) = false := by decide) (he : starEach (a :: []) X.env = (false, eval a X.env) :: starEach [] X.env := by rfl) (hpl : (backTo pos (starEach [] X.env)).any (·.1) = false := by rfl) :
    PMk X (.Call (.Name x p) [a] [] pos) (tMkE C fld ta) := by
  intro pins s σ H Q I h
  refine wpAny_Call_Name_kw (ld_glob I hg T.gC ?_ hxd)
  refine PySem.W.callWith_K (h₀ := X.base) I.ok.mod.kin T.kC (thn (ha.run pos pins s σ H _ I h) fun us s1 hh => ?_) he hpl
  obtain ⟨vs, H1, I1, r1, v, ev, q1⟩ := hh
  subst ev
  refine ⟨I1.kIn, ?_⟩
  cases r1 with
  | cons rv rn =>
    rename_i v' us'
    cases rn
    show wpAny _ _ (call (.ref C) [v']) _ _ _
    have hlim := I1.nolimit
    obtain ⟨mb, b1, b2⟩ := I1.mod.blt
    have G1 := I1.mod.glob.keeps I1.bk
    have B1 := b1.keeps I1.bk
    have hb : mb "super" = some (.type "super") := (b2 "super" (by decide)).trans rfl
    obtain ⟨hp, g, dr, tk, os⟩ := s1
    refine wpAny_call (err_made T I1.kIn G1 B1 hb hlim (by have := hr.dp; omega) fun h' tk' e d M => ?_)
    show MkP X pins σ Q (.ref e) ⟨h', g, dr, tk', os⟩
    obtain ⟨oe, fv, hoe, hc, hd, hdat, h1⟩ := M.obj
    have hns := M.ns
    obtain ⟨G', g1, g2⟩ := restrict h' fun b => decide (b ≠ e)
    have gk : ∀ b, b ≠ e → G'.get? b = h'.get? b := fun b hb => g1 b (decide_eq_true hb)
    have ge : G'.get? e = none := g2 e (by simp)
    have old : ∀ b o, hp.get? b = some o → G'.get? b = some o := fun b o q => (gk b (Nat.ne_of_lt (Nat.lt_of_lt_of_le (Heap.lt_size q) M.new))).trans (M.keep b o q)
    have ob : ObjOk X.prog X.w (upd H1 d (.xd [(fld, v)])) G' d (.xd [(fld, v)]) :=
      ⟨_, hns.at (fun o q => (gk d M.dne).trans q), fun f => relO_err rv fld f⟩
    have J : L2.Inv X pins σ (upd H1 d (.xd [(fld, v)])) ⟨G', g, dr, tk', os⟩ := I1.laid (t' := tk') old M.dbig ob
    refine ⟨e, oe, fv, ⟨G', g, dr, tk', os⟩, _, .ref C, some d, rfl, J, fun b o q => ?_, ge, hoe, ⟨hc, hd⟩, hdat, h1, ?_, rfl, I1.bare, raises_own T.exC T.tyC, q1 d (I1.hok.fresh M.dbig)⟩
    · by_cases hb : b = e
      · have q' : G'.get? b = some o := q
        rw [hb, ge] at q'; cases q'
      · exact (gk b hb).symm.trans q
    · rw [upd_ne (Ne.symm M.dne)]
      exact I1.hok.fresh M.new
def rIsX (K : PySem.W.Frag) (a : Addr) (cls : Value) (d : Option Addr) : List V → Hp → VK → Prop := fun xs H Q => ∃ (D : Addr) (c : V) (cv : Value) (b : Bool), xs = [.ref a, c] ∧ cls = .ref D ∧ ExcC K D ∧ (d = none ∨ ∃ dd fs, d = some dd ∧ H dd = some (.xd fs)) ∧ (∀ u, RelV c u → u = cv) ∧ PySem.W.kitOne K (.ref D) cv = some b ∧ Q (.bl b) H
theorem call_isX {a : Addr} {oe : Obj} {cls : Value} {d : Option Addr} {pn : List (Addr × Obj)} (hz : Zc cls d oe) (hf : ∃ vs, oe.data = .fields vs) : CallR (X.suite a ((a, oe) :: pn)) (.builtin "isinstance") (rIsX X.K a cls d) := by
  intro pins s σ H xs us Q I r h
  obtain ⟨D, c, cv, b, rfl, rfl, C, hd, hcv, e, q⟩ := h
  cases r with
  | cons rx rr =>
    cases rr with
    | cons rt rr =>
      cases rr
      cases rx
      have ec := hcv _ rt
      subst ec
      obtain ⟨hget, _⟩ := I.pin (a, oe) (List.mem_append.mpr (.inl List.mem_cons_self))
      obtain ⟨vs, hv⟩ := hf
      obtain ⟨od, J⟩ : ∃ od, PySem.W.InstAt s.heap a oe D od := by
        rcases hd with rfl | ⟨dd, fs, rfl, ea⟩
        · exact ⟨none, hget, hz.1, by unfold PySem.W.notCls; rw [hv] <;> rfl, by rw [hz.2]; trivial⟩
        · have hx : ObjOk X.prog X.w H s.heap dd (.xd fs) := I.hok dd _ ea
          obtain ⟨mA, hns, hr⟩ := hx
          obtain ⟨od, ho, hl⟩ := lookIn_ns hns
          exact ⟨some od, hget, hz.1, by unfold PySem.W.notCls; rw [hv] <;> rfl, by rw [hz.2]; exact ho⟩
      obtain ⟨cd, hc, _⟩ := PySem.W.any_some C.hd
      exact PySem.W.kia_one (PySem.W.kitx_exc (by rw [hc]; rfl) C.hg C.hk C.hs C.ha C.hn C.ht C.hm) I.kIn J e (fun z => nomatch z) fun tk => ⟨.bl b, H, I.kept (t' := tk) fun _ _ z => z, rfl, q⟩
structure ExF (K : PySem.W.Frag) (D : Addr) (fld : Str) : Prop where
  ga : PySem.W.findIn K (.ref D) "__getattribute__" = some (some (.builtin "BaseException.__getattribute__"))
  gg : PySem.W.findIn K (.ref D) "__getattr__" = some none
  ex : PySem.W.subIn K (.ref D) (.type "BaseException") = some true
  hd : PySem.W.hasDictIn K D = true
  no : PySem.W.findIn K (.ref D) fld = some none
theorem ErrC.exF {P : Program} {K : PySem.W.Frag} {mg : Str → Option Value} (T : ErrC P K mg x fld C fI) : ExF K C fld := ⟨T.ga, T.gg, T.exC, T.hdC, T.noN⟩
def tExF (K : PySem.W.Frag) (a : Addr) (cls : Value) (d : Option Addr) (fld : Str) (te : TE) : TE := fun σ H Q => te σ H fun x H1 => ∃ (D dd : Addr) (v : V), x = .ref a ∧ cls = .ref D ∧ ExF K D fld ∧ d = some dd ∧ H1 dd = some (.xd [(fld, v)]) ∧ Q v H1
theorem pe_exF {a : Addr} {oe : Obj} {cls : Value} {d : Option Addr} {pn : List (Addr × Obj)} {e : Expr} {te : TE} {pos : Pos} (hz : Zc cls d oe) (hf : ∃ vs, oe.data = .fields vs) (he : PE (X.suite a ((a, oe) :: pn)) e te)
    (hb : attributeBase e fld X.env (eval e X.env) = eval e X.env := by rfl) :
    PE (X.suite a ((a, oe) :: pn)) (.Attribute e fld pos) (tExF X.K a cls d fld te) := by
  refine ⟨fun pins s σ H Q I h => ?_⟩
  refine attr_of hb (thn (he.run pins s σ H _ I h) fun u s1 hh => ?_)
  obtain ⟨x, H1, I1, rx, D, dd, v, ex, ec, T, ed, ea, q⟩ := hh
  subst ex
  obtain rfl : u = Value.ref a := rx
  subst ec
  subst ed
  obtain ⟨ha, _⟩ := I1.pin (a, oe) (List.mem_append_left _ List.mem_cons_self)
  obtain ⟨vs, hd⟩ := hf
  have hx : ObjOk X.prog X.w H1 s1.heap dd (.xd [(fld, v)]) := I1.hok dd _ ea
  obtain ⟨mA, hns, hr⟩ := hx
  obtain ⟨od, ho, hl⟩ := lookIn_ns hns
  have l : List.lookup fld [(fld, v)] = some v := by simp [List.lookup]
  obtain ⟨u, hu, ru⟩ := RelO.some_of (v := v) (o := mA fld) (by rw [← l]; exact hr fld)
  have J : PySem.W.InstAt s1.heap a oe D (some od) := ⟨ha, hz.1, by unfold PySem.W.notCls; rw [hd] <;> rfl, by rw [hz.2]; exact ho⟩
  exact HandSPX.exc_get I1.kIn J T.ga T.gg T.ex (PySem.W.findObj_own T.hd T.no rfl (by rw [hl, hu])) (handed_of ru) ⟨v, H1, I1.tok _, ru, q⟩
end
section
variable {P : Program} {w : World} {K : PySem.W.Frag} {mg : Str → Option Value} {base : Heap}
theorem okx_of {x qual : Str} {st : Stmt} {f : Addr} {N ps : List Str} {k : Nat} {sp : Sp} (F : Df K x qual st f ps) (S : FnScope N ps (defScope st)) (len : ∀ vs H Q E, sp vs H Q E → vs.length = ps.length)
    (hbody : ∀ (cdv : Value) (A : Around) (outer : List Env) (s : Shared) (H : Hp) (vs : List V) (Q : VK) (E : XK), Room k (A.deeper (envOfC qual (defScope st) s.heap.objs.size f cdv)) → sp vs H Q E →
      ∃ t, PSs (cxOf (L2.CX P w) P w K mg base N qual (defScope st) f cdv A outer s H E) (defBody st) t ∧ t { nx := fun _ H' => Q .non H', rt := Q } (start N vs) H) : Okf P w K mg base (k + 1) f ps sp :=
  let ⟨fd, a, b⟩ := F
  ⟨fd, a.okX S len hbody, b⟩
end
section
variable {X : Cx} {k : Nat} {f C : Addr} {ps : List Str} {sp : Sp} {x m : Str} {p pos apos : Pos} {e o : Expr} {es : List Expr} {ta : TE} {t : TA} {E : XK}
end
section
variable {X : Cx} {k : Nat} {f C : Addr} {ps : List Str} {sp : Sp} {x m : Str} {p pos apos : Pos} {e o : Expr} {es : List Expr} {ta : TE} {t : TA} {E : L2.St → XK}
def tCallY (sp : Sp) (E : L2.St → XK) (t : TA) : TE := fun σ H Q => t σ H fun vs H1 => sp vs H1 Q (E σ)
def tMakeY (C : Addr) (sp : Sp) (E : L2.St → XK) (t : TA) : TE := fun σ H Q => t σ H fun vs H1 => ∀ x dx, H1 x = none → H1 dx = none → dx ≠ x → sp (.ref x :: (vs ++ [])) (upd (upd H1 dx (.own x)) x (.ins C dx [])) (fun v H2 => v = .non ∧ Q (.ref x) H2) (E σ)
def tMethY (C : Addr) (m : Str) (sp : Sp) (E : L2.St → XK) (ta : TE) (t : TA) : TE := fun σ H Q => ta σ H fun x H1 => ∃ a dx fs, x = .ref a ∧ H1 a = some (.ins C dx fs) ∧ fs.lookup m = none ∧ t σ H1 fun vs H2 => sp (.ref a :: vs) H2 Q (E σ)
theorem pf_callS (G : Okf X.prog X.w X.K X.mg X.base k f ps sp) (hr : Room k X.A) (hg : Gl X x) (hm : X.mg x = some (.ref f)) (hk : PySem.W.keepIn X.K (.ref f) = true) (hx : ∀ σ, PassesAt (L2.CX X.prog X.w) X σ (E σ))
    (ha : PA X (e :: es) t) (hdb : (x == ("__debug__" : Str)) = false := by decide) (he : starEach (e :: es) X.env = (false, eval e X.env) :: starEach es X.env := by rfl) (hpl : (backTo pos (starEach es X.env)).any (·.1) = false := by rfl) :
    PE X (.Call (.Name x p) (e :: es) [] pos) (tCallY sp E t) := by
  obtain ⟨_, F, hb⟩ := G
  refine ⟨fun pins s σ H Q I h => ?_⟩
  refine wpAny_Call_Name_kw (ld_glob I hg hm ?_ hdb)
  refine PySem.W.callWith_K (h₀ := X.base) I.ok.mod.kin hk (thn (ha.run pos pins s σ H _ I h) fun us s1 ⟨vs, H1, I1, r, q⟩ => ⟨I1.kIn, ?_⟩) he hpl
  exact run_fnS F hr hb (hx σ) I1 r q
theorem pf_makeS (G : Okf X.prog X.w X.K X.mg X.base k f ps sp) (hr : Room (k + 1) X.A) (M : Mk X.K C f) (hg : Gl X x) (hm : X.mg x = some (.ref C)) (hx : ∀ σ, PassesAt (L2.CX X.prog X.w) X σ (E σ))
    (ha : PA X (e :: es) t) (hdb : (x == ("__debug__" : Str)) = false := by decide) (he : starEach (e :: es) X.env = (false, eval e X.env) :: starEach es X.env := by rfl) (hpl : (backTo pos (starEach es X.env)).any (·.1) = false := by rfl) :
    PE X (.Call (.Name x p) (e :: es) [] pos) (tMakeY C sp E t) := by
  obtain ⟨fd, F, hb⟩ := G
  refine ⟨fun pins s σ H Q I h => ?_⟩
  refine wpAny_Call_Name_kw (ld_glob I hg hm ?_ hdb)
  refine PySem.W.callWith_K (h₀ := X.base) I.ok.mod.kin M.kp (thn (ha.run pos pins s σ H _ I h) fun us s1 ⟨vs, H1, I1, r, q⟩ => ⟨I1.kIn, ?_⟩) he hpl
  have hq := q (s1.heap.objs.size + 1) s1.heap.objs.size (I1.hok.fresh (Nat.le_succ _)) (I1.hok.fresh (Nat.le_refl _)) (Nat.ne_of_lt (Nat.lt_succ_self _))
  have I2 := L2.Inv.made (C := C) I1
  have r2 : Vals (V.ref (s1.heap.objs.size + 1) :: (vs ++ [])) ((Value.ref (s1.heap.objs.size + 1) :: us) ++ []) := .cons rfl (r.append .nil)
  have hl : (Value.ref (s1.heap.objs.size + 1) :: us ++ []).length = ps.length := by
    have e := r2.length
    rw [F.len _ _ _ _ hq] at e
    exact e.symm
  refine wpAny_call (make_map (f := f) I1.kIn M.makes M.init (beq_iff_eq.mp M.fn) (codeAny_mono (F.run _ X.stack _ _ ⟨Value.ref (s1.heap.objs.size + 1) :: us, []⟩ ((Value.ref (s1.heap.objs.size + 1) :: us) ++ []) _ _ (E σ) (hr.make C us [])
    (I2.env0.make C us []) (hb _ (Value.ref (s1.heap.objs.size + 1) :: us) I2.kIn hl) r2 hq) fun r s' hq' => ?_))
  cases r with
  | error e => exact hx σ pins _ _ e s' I2 hq'
  | ok fl =>
    cases fl with
    | ret u =>
      obtain ⟨v, H', I3, rv, ev, q3⟩ := I2.after hq'
      subst ev
      exact ⟨rv, ⟨V.ref (s1.heap.objs.size + 1), H', I3, rfl, q3⟩⟩
    | next => exact False.elim hq'
    | brk => exact False.elim hq'
    | cont => exact False.elim hq'
theorem pf_methS {pl : Sem Bool} (G : Okf X.prog X.w X.K X.mg X.base k f ps sp) (hr : Room k X.A) (c : Cls X.K C) (hm : Meth X.K C m f) (hx : ∀ σ, PassesAt (L2.CX X.prog X.w) X σ (E σ)) (he : PE X o ta) (ha : PA X (e :: es) t)
    (hst : starEach (e :: es) X.env = (false, eval e X.env) :: starEach es X.env := by rfl) (hpl : (backTo pos (starEach es X.env)).any (·.1) = false := by rfl)
    (ht : eval (.Call (.Attribute o m apos) (e :: es) [] pos) X.env = (do
      let ov ← eval o X.env
      standAt apos.atName
      let (f, first) ← holding [ov] (getMethod ov m pl)
      callWith pos f first (backTo pos (starEach (e :: es) X.env)) (backToKw pos (keywordEach [] X.env))) := by rfl) :
    PE X (.Call (.Attribute o m apos) (e :: es) [] pos) (tMethY C m sp E ta t) := by
  obtain ⟨fd, F, hb⟩ := G
  refine ⟨fun pins s σ H Q I h => ?_⟩
  refine PySem.W.methodCall_KW (pl := pl) (thn (he.run pins s σ H _ I h) fun u s1 ⟨x, H1, I1, rx, a, dx, fs, ex, ea, l, q⟩ => ?_) ht
  subst ex
  obtain rfl : u = Value.ref a := rx
  refine getmeth_ok I1 ea c hm l ?_
  refine PySem.W.callWith_K (first := [.ref a]) (h₀ := X.base) I.ok.mod.kin hm.kp (thn (ha.run pos pins s1 σ H1 _ I1 q) fun us s2 ⟨vs, H2, I2, r, q2⟩ => ⟨I2.kIn, ?_⟩) hst hpl
  exact run_fnS (us := .ref a :: us) (vs := .ref a :: vs) F hr hb (hx σ) I2 (.cons rfl r) q2
end
section
variable {X : Cx} {C fI : Addr} {x fld : Str}
def tRaiseE (C : Addr) (fld : Str) (W : WX) (ta : TA) : TS := fun _ σ H => tMkE C fld ta σ H fun cls d H' => W cls d σ H'
theorem ps_raiseE {a : Expr} {ta : TA} {W : WX} {p pos pos2 : Pos} {k : Nat} (hc : X.calm = true) (T : ErrC X.prog X.K X.mg x fld C fI) (hr : Room k X.A) (tk : Takes X W) (ha : PA X [a] ta) (hg : Gl X x)
    (hxd : (x == ("__debug__" : Str)) = false := by decide) (he : starEach (a :: []) X.env = (false, eval a X.env) :: starEach [] X.env := by rfl) (hpl : (backTo pos (starEach [] X.env)).any (·.1) = false := by rfl) :
    PS X (.Raise (some (.Call (.Name x p) [a] [] pos)) none pos2) (tRaiseE C fld W ta) := ps_raise hc tk (pmk_err T hr ha hg hxd he hpl)
theorem r_raiseE {W : WX} {ta : TA} {D : Ends} {σ : L2.St} {H : Hp} (h : ta σ H fun vs H1 => ∃ v, vs = [v] ∧ ∀ d, H1 d = none → W (.ref C) (some d) σ (upd H1 d (.xd [(fld, v)]))) : tRaiseE C fld W ta D σ H := h
theorem r_callY {sp : Sp} {E : L2.St → XK} {t : TA} {σ : L2.St} {H : Hp} {Q : VK} (h : t σ H fun vs H1 => sp vs H1 Q (E σ)) : tCallY sp E t σ H Q := h
theorem r_makeY {sp : Sp} {E : L2.St → XK} {t : TA} {σ : L2.St} {H : Hp} {Q : VK} (h : t σ H fun vs H1 => ∀ x dx, H1 x = none → H1 dx = none → dx ≠ x → sp (.ref x :: (vs ++ [])) (upd (upd H1 dx (.own x)) x (.ins C dx [])) (fun v H2 => v = .non ∧ Q (.ref x) H2) (E σ)) : tMakeY C sp E t σ H Q := h
theorem r_methY {m : Str} {sp : Sp} {E : L2.St → XK} {ta : TE} {t : TA} {σ : L2.St} {H : Hp} {Q : VK} (h : ta σ H fun x H1 => ∃ a dx fs, x = .ref a ∧ H1 a = some (.ins C dx fs) ∧ fs.lookup m = none ∧ t σ H1 fun vs H2 => sp (.ref a :: vs) H2 Q (E σ)) : tMethY C m sp E ta t σ H Q := h
theorem r_exF {K : PySem.W.Frag} {a : Addr} {cls : Value} {d : Option Addr} {te : TE} {σ : L2.St} {H : Hp} {Q : VK} (h : te σ H fun x H1 => ∃ (D dd : Addr) (v : V), x = .ref a ∧ cls = .ref D ∧ ExF K D fld ∧ d = some dd ∧ H1 dd = some (.xd [(fld, v)]) ∧ Q v H1) : tExF K a cls d fld te σ H Q := h
end
end Hn
namespace Hn
open PySem L2
def over (s : List Int) (j : Nat) : Prop := s.getD j 0 > 1 + cyc s ((j : Int) + 1)
end Hn
namespace Hn
open PySem PySem.Spec PyProof.Rows L2 Srt SrtO
section
variable {prog : Program} {w : World} {A : Around} {s : Shared}
end
section
variable {X : Cx}
end
end Hn
namespace Hn
open PySem PySem.Spec PyProof.Rows L2 Srt SrtO
def wrk (s : Str) : Int := if s = "door" then 0 else if s = "keep" then 1 else if s = "need" then 2 else 3
def Wrd (s : Str) : Prop := s = "door" ∨ s = "keep" ∨ s = "need" ∨ s = "room"
def IsPairW (h : Heap) (v : Value) (r y : Int) : Prop := ∃ (s : Str) (a : Addr) (o : Obj) (t u : Tok) (n : Nat), Wrd s ∧ wrk s = r ∧ v = .ref a ∧ h.get? a = some o ∧ o.cls = .type "tuple" ∧ o.data = .seq #[.str s t, .int y u] n
theorem IsPairW.keeps {h h' : Heap} {v : Value} {x y : Int} (p : IsPairW h v x y) (k : ∀ b o, h.get? b = some o → o.cls = .type "tuple" → h'.get? b = some o) : IsPairW h' v x y := by
  obtain ⟨s, a, o, t, u, n, w, e0, e, ho, hc, hd⟩ := p
  exact ⟨s, a, o, t, u, n, w, e0, e, k _ _ ho hc, hc, hd⟩
section
variable {prog : Program} {w : World} {A : Around} {s : Shared} {E : Value → Shared → Prop}
end
noncomputable def kV (h : Heap) (v : Value) : Int × Int := @dite _ (∃ p : Int × Int, IsPairW h v p.1 p.2) (Classical.propDecidable _) (fun e => e.choose) fun _ => (0, 0)
def Wd.r : Wx.Wd → Int
  | .door => 0
  | .keep => 1
  | .need => 2
  | .room => 3
section
variable {X : Cx}
end
end Hn
namespace Wx
open PySem PySem.Spec PyProof.Rows L2 Evl Hn RZ
variable [TabC]
section
variable [XC]
variable {K : PySem.W.Frag} {d : Cn → Addr} {F : Fz} {H : Hp}
end
end Wx
namespace Wx
open PySem PySem.Spec PyProof.Rows L2 Evl Hn RZ
variable [TabC]
section
variable [XC]
variable {K : PySem.W.Frag} {d : Cn → Addr} {F F' : Fz} {H H' : Hp} {v : V} {P : PV → Prop} {Q : VK}
end
def Hs.ed (X : Hs) (t : Stp4) : Ed Stp := ⟨(X.a t).toNat, (X.b t).toNat, (X.a t + X.l t) / X.n, X.v t, some (t.1.s, t.2)⟩
section
variable [XC]
variable {K : PySem.W.Frag} {d : Cn → Addr} {ts bt ct : List Tag} {R : RR} {te : TE} {we : WE}
def wSubN (i j : Nat) (we wi : WE) : WS := fun D ρ => we ρ fun z => match z with
  | .tup [y, y2] => wi ρ fun q => match ρ.getD i .non, q with
    | .lst xs, .int k => ∃ m, ixN xs.length k = some m ∧ D.nx ((ρ.set i (.lst (xs.set m y))).set j y2)
    | _, _ => False
  | _ => False
end
section
variable [XC]
variable {K : PySem.W.Frag} {d : Cn → Addr} {ts : List Tag} {te : TE} {we : WE} {ta : TA} {wa : WA}
end
end Wx
namespace L2
open PySem PySem.Spec PyProof.Rows
section
variable {X : Cx} {ta tb tc td : TE} {a b c d : Expr} {pos : Pos}
end
end L2
namespace Wx
open PySem PySem.Spec PyProof.Rows L2 Evl Hn RZ
variable [TabC]
section
variable [XC]
variable {K : PySem.W.Frag} {d : Cn → Addr} {ts : List Tag} {ta tb tc td : TE} {wa wb wc wd : WE}
def wChain3 (w w' w'' : W2) (wa wb wc wd : WE) : WE := fun ρ P => wa ρ fun x => wb ρ fun y => w x y fun z => match z with
  | .bl c => if c = true then wc ρ fun u => w' y u fun z => match z with
    | .bl c => if c = true then wd ρ fun t => w'' u t P else P (.bl false)
    | _ => False
    else P (.bl false)
  | _ => False
end
end Wx
namespace Wx
open PySem PySem.Spec PyProof.Rows L2 Evl Hn RZ
variable [TabC]
inductive En where
  | Wrong | Overtaken | NoHour | Unlike | NoBegin | TooFew | NoStep | Stuck | Impossible | OutOf | NoNumber | Unfit | Never | TooLong | NoDays | NoPace | NoText | NoDeed | Full | Refused | Nothing | NoEntry | NoCommand
  deriving DecidableEq
def En.fld : En → Option Str
  | .Wrong => some "place"
  | .Overtaken => some "hour"
  | .NoHour => some "hour"
  | .NoBegin => some "hour"
  | .TooFew => some "ring"
  | .NoStep => some "step"
  | .Stuck => some "ways"
  | .Impossible => some "way"
  | .NoNumber => some "index"
  | .Never => some "ways"
  | .TooLong => some "most"
  | .NoDays => some "days"
  | .NoPace => some "fraction"
  | .Full => some "limit"
  | .Refused => some "deed"
  | .NoEntry => some "many"
  | _ => none
def En.nw : En → Bool
  | .TooFew => true
  | .Impossible => true
  | _ => false
abbrev Fs := List (Str × PV)
abbrev WFX := List PV → (PV → Prop) → (En → Fs → Prop) → Prop
def XdOk (K : PySem.W.Frag) (d : Cn → Addr) (H0 : Hp) (n : En) (F : Fz) (H : Hp) (o : Option Addr) (fs : Fs) : Prop := (o = none ∧ fs = []) ∨ ∃ dd gs, o = some dd ∧ H dd = some (.xd gs) ∧ Rvf K d F H gs fs ∧ (n.nw = true → XdN H0 gs fs)
section
variable (K : PySem.W.Frag) (d : Cn → Addr) (ea : En → Option Addr)
def spWX (R : RR) (w : WFX) : Sp := fun vs H Q E => ∃ (F : Fz) (xs : List PV) (P : PV → Prop) (EX : En → Fs → Prop), Dom F H ∧ Rvs K d F H vs xs ∧ w xs P EX ∧ (∀ x v F' H', Step F H F' H' → R F H F' H' v x → P x → Q v H') ∧
  ∀ n C fs o F' H', ea n = some C → Step F H F' H' → XdOk K d H n F' H' o fs → EX n fs → E (.ref C) o H'
@[reducible] def xcOf (W : WX) (EX : List PV → En → Fs → Prop) (tx : List Tag) : XC where
  h := fun F0 H0 => ∀ n C fs o F' H' σ' ρ', ea n = some C → @EnvR _ xc0 K d tx H0 F0 F' H' σ' ρ' → XdOk K d H0 n F' H' o fs → EX ρ' n fs → W (.ref C) o σ' H'
  a := 0
  o := none
  fs := []
  nw := false
end
@[reducible] def xcS (a : Addr) (o : Option Addr) (fs : Fs) (n : En) : XC := ⟨fun _ _ => True, a, o, fs, n.nw⟩
section
variable {K : PySem.W.Frag} {d : Cn → Addr} {ea : En → Option Addr} {F F' F0 F1 F2 : Fz} {H H' H0 H1 H2 : Hp} {v u : V} {ts ts' ts1 ts2 bt ct tx : List Tag} {R : RR} {te : TE} {we : WE} {σ : L2.St} {ρ : List PV} {W : WX} {EX : List PV → En → Fs → Prop}
theorem XdOk.mono {n : En} {o : Option Addr} {fs : Fs} (e : Stb F H H') (f : ∀ a, F a → F' a) (h : XdOk K d H0 n F H o fs) : XdOk K d H0 n F' H' o fs := by
  rcases h with h | ⟨dd, gs, h1, h2, h3, h4⟩
  · exact .inl h
  · exact .inr ⟨dd, gs, h1, e _ _ h2 (.inl rfl), h3.mono e f, h4⟩
theorem XdOk.back {n : En} {o : Option Addr} {fs : Fs} (e : Xn H0 H1) (h : XdOk K d H1 n F H o fs) : XdOk K d H0 n F H o fs := by
  rcases h with h | ⟨dd, gs, h1, h2, h3, h4⟩
  · exact .inl h
  · refine .inr ⟨dd, gs, h1, h2, h3, fun q k f v ys k1 k2 => ?_⟩
    obtain ⟨p, e1, e2⟩ := h4 q k f v ys k1 k2
    exact ⟨p, e1, back_x e e2⟩
def noX (ts : List Tag) : Bool := ts.all fun t => !decide (t = .ex)
theorem noX_get (h : noX ts = true) {i : Nat} (q : ts[i]? = some .ex) : False := by
  have := List.all_eq_true.mp h _ (List.mem_of_getElem? q)
  simp at this
structure EnvB (K : PySem.W.Frag) (d : Cn → Addr) (ts : List Tag) (H0 : Hp) (F0 F : Fz) (H : Hp) (σ : L2.St) (ρ : List PV) : Prop where
  st : Step F0 H0 F H
  ls : σ.length = ts.length
  lr : ρ.length = ts.length
  sh : ∀ i : Nat, ts[i]? = some .sh → ∃ v x, σ[i]? = some (some v) ∧ ρ[i]? = some x ∧ Rv K d F H v x
  ow : ∀ i : Nat, ts[i]? = some .ow → ∃ a vs xs, σ[i]? = some (some (.ref a)) ∧ ρ[i]? = some (.lst xs) ∧ H a = some (.lst vs) ∧ ¬ F a ∧ H0 a = none ∧ Rvs K d F H vs xs
  ap : ∀ (i j : Nat) (a : Addr), ts[i]? = some .ow → ts[j]? = some .ow → σ[i]? = some (some (.ref a)) → σ[j]? = some (some (.ref a)) → i = j
  od : ∀ i : Nat, ts[i]? = some .od → ∃ v x, σ[i]? = some (some v) ∧ ρ[i]? = some x ∧ OdL K d H0 F H v x
  ad : ∀ (i : Nat) (a : Addr), ts[i]? = some .od → Dpl H σ i a → (∀ j : Nat, ts[j]? = some .ow → σ[j]? ≠ some (some (.ref a))) ∧ ∀ j : Nat, ts[j]? = some .od → Dpl H σ j a → i = j
theorem EnvR.base {X : XC} (E : @EnvR _ X K d ts H0 F0 F H σ ρ) : EnvB K d ts H0 F0 F H σ ρ := ⟨E.st, E.ls, E.lr, E.sh, E.ow, E.ap, E.od, E.ad⟩
theorem EnvR.xc_ {X : XC} (E : @EnvR _ X K d ts H0 F0 F H σ ρ) : X.h F0 H0 := E.xc
theorem EnvR.ex_ {X : XC} (E : @EnvR _ X K d ts H0 F0 F H σ ρ) : @Exv X K d ts H0 F H σ := E.ex
theorem EnvR.step_ {X : XC} (E : @EnvR _ X K d ts H0 F0 F H σ ρ) (s : Step F H F' H') : @EnvR _ X K d ts H0 F0 F' H' σ ρ := E.step s
theorem EnvR.conv_ {X : XC} (E : @EnvR _ X K d ts H0 F0 F H σ ρ) (c : cv ts ts' = true) : ∃ F', (∀ a, F a → F' a) ∧ @EnvR _ X K d ts' H0 F0 F' H σ ρ := E.conv c
theorem EnvR.drop_ {X : XC} {i : Nat} {o : Option V} (E : @EnvR _ X K d ts H0 F0 F H σ ρ) : @EnvR _ X K d (ts.set i .no) H0 F0 F H (σ.set i o) ρ := E.drop1
theorem EnvB.to {X : XC} (B : EnvB K d ts H0 F0 F H σ ρ) (hx : X.h F0 H0) (n : noX ts = true) : @EnvR _ X K d ts H0 F0 F H σ ρ := ⟨B.st, B.ls, B.lr, B.sh, B.ow, B.ap, B.od, B.ad, hx, fun i h => (noX_get n h).elim⟩
theorem EnvR.swap {X Y : XC} (E : @EnvR _ X K d ts H0 F0 F H σ ρ) (n : noX ts = true) (hx : Y.h F0 H0) : @EnvR _ Y K d ts H0 F0 F H σ ρ := E.base.to hx n
theorem EnvR.to0 {X : XC} (E : @EnvR _ X K d ts H0 F0 F H σ ρ) (c : cv ts tx = true) (n : noX tx = true) : ∃ F', (∀ a, F a → F' a) ∧ @EnvR _ xc0 K d tx H0 F0 F' H σ ρ := by
  obtain ⟨F', up, E1⟩ := E.conv_ c
  exact ⟨F', up, E1.swap n trivial⟩
theorem xc_goes (E : @EnvR _ (xcOf K d ea W EX tx) K d ts H0 F0 F H σ ρ) (c : cv ts tx = true) (nx : noX tx = true) {n : En} {C : Addr} {fs : Fs} {o : Option Addr} (hn : ea n = some C) (xd : XdOk K d H0 n F H o fs) (ex : EX ρ n fs) : W (.ref C) o σ H := by
  obtain ⟨F2, up, E2⟩ := E.to0 c nx
  exact E.xc_ n C fs o F2 H σ ρ hn E2 (xd.mono .refl up) ex
def wCallX (EX : List PV → En → Fs → Prop) (w : WFX) (wa : WA) : WE := fun ρ P => wa ρ fun xs => w xs P (EX ρ)
theorem sim_callX {w : WFX} {ar : TA} {wr : WA} (o : ROk R) (c : cv ts tx = true) (nx : noX tx = true) (ha : @SimA _ (xcOf K d ea W EX tx) K d ts ar wr) : @Sim _ (xcOf K d ea W EX tx) K d R ts (tCallY (spWX K d ea R w) (fun σ c o H => W c o σ H) ar) (wCallX EX w wr) := fun H0 F0 F H σ ρ Q P E hw k =>
  ha H0 F0 F H σ ρ _ _ E hw fun xs vs F1 H1 s1 r1 h1 => ⟨F1, xs, P, EX ρ, s1.dm, r1, h1, fun x v F' H' s r p => k x v F' H' (s1.trans s) (o.back s1 r) p, fun n C fs oo F' H' hn s xd ex => xc_goes ((E.step_ s1).step_ s) c nx hn (xd.back (E.step_ s1).base.st.ex) ex⟩
def wMethX (EX : List PV → En → Fs → Prop) (c : Cn) (m : Str) (w : WFX) (wo : WE) (wa : WA) : WE := fun ρ P => wo ρ fun x => (∃ fs, x = .ins c fs ∧ fs.lookup m = none) ∧ wa ρ fun xs => w (x :: xs) P (EX ρ)
theorem sim_methX {w : WFX} {m : Str} {to : TE} {wo : WE} {ar : TA} {wr : WA} {C : Addr} (cn : Cn) (o : ROk R) (c : cv ts tx = true) (nx : noX tx = true) (ho : @Sim _ (xcOf K d ea W EX tx) K d (rS K d) ts to wo) (ha : @SimA _ (xcOf K d ea W EX tx) K d ts ar wr) (hC : d cn = C := by rfl) : @Sim _ (xcOf K d ea W EX tx) K d R ts (tMethY C m (spWX K d ea R w) (fun σ c o H => W c o σ H) to ar) (wMethX EX cn m w wo wr) := fun H0 F0 F H σ ρ Q P E hw k =>
  ho H0 F0 F H σ ρ _ _ E hw fun x v F1 H1 s1 r1 ⟨⟨fs, ex, lk⟩, h1⟩ => by
    subst hC
    subst ex
    obtain ⟨p, dx, gs, rfl, h2, h3⟩ := Rv.insE r1
    refine ⟨p, dx, gs, rfl, h2, h3.none lk, ha H0 F0 F1 H1 σ ρ _ _ (E.step_ s1) h1 fun xs vs F2 H2 s2 r2 h4 => ⟨F2, .ins cn fs :: xs, P, EX ρ, s2.dm, .cons (Rv.step s2 r1) r2, h4, fun x v F' H' s r q => k x v F' H' ((s1.trans s2).trans s) (o.back (s1.trans s2) r) q, fun n C fs oo F' H' hn s xd ex => xc_goes (((E.step_ s1).step_ s2).step_ s) c nx hn (xd.back ((E.step_ s1).step_ s2).base.st.ex) ex⟩⟩
def MkSX (K : PySem.W.Frag) (d : Cn → Addr) (ea : En → Option Addr) (c : Cn) (sp : Sp) (w : WFX) : Prop := ∀ (F : Fz) (H : Hp) (vs : List V) (xs : List PV) (Q : V → Hp → Prop) (P : PV → Prop) (EX : En → Fs → Prop) (E : XK), Dom F H → Rvs K d F H vs xs → w xs P EX →
  (∀ x v F' H', Step F H F' H' → Rv K d F' H' v x → notL x → P x → Q v H') → (∀ n C fs o F' H', ea n = some C → Step F H F' H' → XdOk K d H n F' H' o fs → EX n fs → E (.ref C) o H') →
  ∀ y dx, H y = none → H dx = none → dx ≠ y → sp (.ref y :: (vs ++ [])) (upd (upd H dx (.own y)) y (.ins (d c) dx [])) (fun v H2 => v = .non ∧ Q (.ref y) H2) E
theorem sim_makeX {w : WFX} {sp : Sp} {ar : TA} {wr : WA} {C : Addr} {cn : Cn} (m : MkSX K d ea cn sp w) (c : cv ts tx = true) (nx : noX tx = true) (ha : @SimA _ (xcOf K d ea W EX tx) K d ts ar wr) (hC : d cn = C := by rfl) : @Sim _ (xcOf K d ea W EX tx) K d (rN K d) ts (tMakeY C sp (fun σ c o H => W c o σ H) ar) (wCallX EX w wr) := fun H0 F0 F H σ ρ Q P E hw k =>
  ha H0 F0 F H σ ρ _ _ E hw fun xs vs F1 H1 s1 r1 h1 y dx ny nd ne => by
    subst hC
    exact m F1 H1 vs xs Q P (EX ρ) _ s1.dm r1 h1 (fun x v F' H' s r nl p => k x v F' H' (s1.trans s) (.inl ⟨nl, r⟩) p) (fun n C fs oo F' H' hn s xd ex => xc_goes ((E.step_ s1).step_ s) c nx hn (xd.back (E.step_ s1).base.st.ex) ex) y dx ny nd ne
def noEX : List PV → En → Fs → Prop := fun _ _ _ => False
theorem opt_or (o : Option Addr) : o = none ∨ ∃ dd, o = some dd := by
  cases o with
  | none => exact .inl rfl
  | some d => exact .inr ⟨d, rfl⟩
def wRaise (EX : List PV → En → Fs → Prop) (n : En) (f : Str) (we : WE) : WS := fun _ ρ => we ρ fun x => EX ρ n [(f, x)]
theorem simS_raise {n : En} {C : Addr} {f : Str} (hw0 : n.nw = false) (hn : ea n = some C) (c : cv ts tx = true) (nx : noX tx = true) (h : @Sim _ (xcOf K d ea W EX tx) K d (rS K d) ts te we) : @SimS _ (xcOf K d ea W EX tx) K d R bt ct ts (tRaiseE C f W (tCons te tNil)) (wRaise EX n f we) ts := fun H0 F0 F H σ ρ D D' E hw _ _ _ _ =>
  h H0 F0 F H σ ρ _ _ E hw fun x v F1 H1 s1 r1 p1 => ⟨v, rfl, fun dd nd => by
    have s2 := Step.new (o := .xd [(f, v)]) s1.dm nd
    exact xc_goes ((E.step_ s1).step_ s2) c nx hn (.inr ⟨dd, _, rfl, upd_same, .cons (Rv.step s2 r1) .nil, fun q => by rw [hw0] at q; cases q⟩) p1⟩
def wTry (wb : (List PV → En → Fs → Prop) → WS) (wu : En → Fs → WS) : WS := fun D ρ => wb (fun ρ' n fs => wu n fs { nx := D.nx, rt := D.rt } ρ') { nx := D.nx, rt := D.rt } ρ
def nos (ts : List Tag) : List Tag := ts.map fun t => match t with | .sh => .sh | _ => .no
def shno (ts : List Tag) : Bool := ts.all fun t => decide (t = .sh) || decide (t = .no)
theorem shno_get (h : shno ts = true) {i : Nat} {t : Tag} (q : ts[i]? = some t) : t = .sh ∨ t = .no := by
  have := List.all_eq_true.mp h _ (List.mem_of_getElem? q)
  simpa using this
theorem shno_noX (h : shno ts = true) : noX ts = true := List.all_eq_true.mpr fun t ht => by
  have := List.all_eq_true.mp h t ht
  cases t <;> simp_all
theorem nos_get {i : Nat} {t : Tag} (q : (nos ts)[i]? = some t) : (t = .sh ∧ ts[i]? = some .sh) ∨ t = .no := by
  unfold nos at q
  rw [List.getElem?_map] at q
  cases e : ts[i]? with
  | none => rw [e] at q; cases q
  | some u =>
    rw [e] at q
    cases q
    cases u
    · exact .inl ⟨rfl, rfl⟩
    all_goals exact .inr rfl
theorem EnvB.under (E : EnvB K d ts H F F' H' σ ρ) (s : Step F0 H0 F H) : EnvB K d ts H0 F0 F' H' σ ρ where
  st := s.trans E.st
  ls := E.ls
  lr := E.lr
  sh := E.sh
  ow := fun i h => let ⟨a, vs, xs, h1, h2, h3, h4, h5, h6⟩ := E.ow i h; ⟨a, vs, xs, h1, h2, h3, h4, back_x s.ex h5, h6⟩
  ap := E.ap
  od := fun i h => by
    obtain ⟨v, x, h1, h2, c, bs, yss, e1, e2, h3, h4, h5, h6, h7, h8, h9⟩ := E.od i h
    refine ⟨v, x, h1, h2, c, bs, yss, e1, e2, h3, h4, back_x s.ex h5, h6, h7, h8, fun k w z q1 q2 => ?_⟩
    rcases h9 k w z q1 q2 with ⟨b, us, ys, rfl, rfl, u1, u2, u3, u4⟩ | t
    · exact .inl ⟨b, us, ys, rfl, rfl, u1, u2, back_x s.ex u3, u4⟩
    · exact .inr t
  ad := E.ad
theorem EnvR.under {X Y : XC} (E : @EnvR _ X K d ts H F F' H' σ ρ) (s : Step F0 H0 F H) (hx : Y.h F0 H0) (n : noX ts = true) : @EnvR _ Y K d ts H0 F0 F' H' σ ρ := (E.base.under s).to hx n
theorem EnvB.nos_ (E : EnvB K d ts H0 F0 F H σ ρ) : EnvB K d (nos ts) H F F H σ ρ where
  st := Step.refl E.st.dm
  ls := by rw [E.ls]; unfold nos; rw [List.length_map]
  lr := by rw [E.lr]; unfold nos; rw [List.length_map]
  sh := fun i h => by
    rcases nos_get h with ⟨_, q⟩ | q
    · exact E.sh i q
    · cases q
  ow := fun i h => by rcases nos_get h with ⟨q, _⟩ | q <;> cases q
  ap := fun i j a h => by rcases nos_get h with ⟨q, _⟩ | q <;> cases q
  od := fun i h => by rcases nos_get h with ⟨q, _⟩ | q <;> cases q
  ad := fun i a h => by rcases nos_get h with ⟨q, _⟩ | q <;> cases q
theorem nos_noX : noX (nos ts) = true := List.all_eq_true.mpr fun t ht => by
  unfold nos at ht
  obtain ⟨u, _, rfl⟩ := List.mem_map.mp ht
  cases u <;> rfl
theorem EnvR.nos_ {X Y : XC} (E : @EnvR _ X K d ts H0 F0 F H σ ρ) (hx : Y.h F H) : @EnvR _ Y K d (nos ts) H F F H σ ρ := E.base.nos_.to hx nos_noX
theorem EnvR.suite {i : Nat} {a : Addr} {n : En} {o : Option Addr} {fs : Fs} (E : @EnvR _ xc0 K d tx H0 F0 F H σ ρ) (s : shno tx = true) (hi : i < tx.length) (xd : XdOk K d H0 n F H o fs) : @EnvR _ (xcS a o fs n) K d (tx.set i .ex) H0 F0 F H (σ.set i (some (.ref a))) ρ := by
  have ne : ∀ {j : Nat} {t : Tag}, t ≠ .ex → (tx.set i .ex)[j]? = some t → i ≠ j ∧ tx[j]? = some t := fun {j t} ht h => by
    rw [List.getElem?_set] at h
    by_cases e : i = j
    · subst e
      rw [if_pos rfl, if_pos hi] at h
      cases h
      exact absurd rfl ht
    · rw [if_neg e] at h
      exact ⟨e, h⟩
  have no : ∀ {j : Nat} {t : Tag}, t ≠ .sh → t ≠ .no → t ≠ .ex → (tx.set i .ex)[j]? = some t → False := fun {j t} h1 h2 h3 h => by
    rcases shno_get s (ne h3 h).2 with e | e
    · exact h1 e
    · exact h2 e
  have B := E.base
  have l1 : (σ.set i (some (V.ref a))).length = (tx.set i Tag.ex).length := by rw [List.length_set, List.length_set, B.ls]
  have l2 : ρ.length = (tx.set i Tag.ex).length := by rw [List.length_set, B.lr]
  refine @EnvR.mk _ (xcS a o fs n) K d (tx.set i .ex) H0 F0 F H _ _ B.st l1 l2 (fun j h => ?_) (fun j h => (no (by decide) (by decide) (by decide) h).elim) (fun j l b h => (no (by decide) (by decide) (by decide) h).elim) (fun j h => (no (by decide) (by decide) (by decide) h).elim) (fun j b h => (no (by decide) (by decide) (by decide) h).elim) trivial (fun j h => ?_)
  · obtain ⟨e, h⟩ := ne (by decide) h
    obtain ⟨w, y, g1, g2, g3⟩ := B.sh j h
    exact ⟨w, y, by rw [List.getElem?_set_ne e]; exact g1, g2, g3⟩
  · have e : i = j := by
      rw [List.getElem?_set] at h
      split at h
      · next e => exact e
      · exact (noX_get (shno_noX s) h).elim
    subst e
    refine ⟨(List.getElem?_set_self (by rw [B.ls]; exact hi)).trans rfl, fun dd hd => ?_⟩
    rcases xd with ⟨e, _⟩ | ⟨d2, gs, e, h2, h3, h4⟩
    · rw [show o = some dd from hd] at e; cases e
    · rw [show o = some dd from hd] at e
      cases e
      exact ⟨gs, h2, h3, h4⟩
theorem simS_try {X : XC} {i : Nat} {c : Value} {tb : WX → TS} {tu : Addr → Value → Option Addr → TS} {wb : (List PV → En → Fs → Prop) → WS} {wu : En → Fs → WS} (o : ROk R)
    (hb : ∀ (W : WX) (EX : List PV → En → Fs → Prop), @SimS _ (xcOf K d ea W EX tx) K d R [] [] (nos ts) (tb W) (wb EX) ts1)
    (hu : ∀ (a : Addr) (n : En) (C : Addr) (o : Option Addr) (fs : Fs), ea n = some C → (o = none → fs = []) → @SimS _ (xcS a o fs n) K d R [] [] (tx.set i .ex) (tu a (.ref C) o) (wu n fs) ts2)
    (hc : ∀ n C, ea n = some C → PySem.W.exmOne K (.ref C) c = some true)
    (s : shno tx = true) (hi : decide (i < tx.length) = true) (n1 : noX ts1 = true) (n2 : noX (ts2.set i .no) = true) (c1 : cv ts1 ts' = true) (c2 : cv (ts2.set i .no) ts' = true)
    {t : TS} (ht : t = fun D σ H => tb (wAs K c i tu (fun _ _ _ _ => False) D) D σ H) : @SimS _ X K d R bt ct ts t (wTry wb wu) ts' := fun H0 F0 F H σ ρ D D' E hw n r b c' => by
  subst ht
  have hx : (xcOf K d ea (wAs K c i tu (fun _ _ _ _ => False) D) (fun ρ' n fs => wu n fs { nx := D'.nx, rt := D'.rt } ρ') tx).h F H := by
    intro m C fs oo F1 H1 σ1 ρ1 hm E1 xd hex
    refine ⟨true, hc m C hm, fun _ a na => ?_, fun q => nomatch q⟩
    have hz : oo = none → fs = [] := fun e => by
      rcases xd with ⟨_, q⟩ | ⟨dd, _, q, _⟩
      · exact q
      · rw [e] at q; cases q
    refine hu a m C oo fs hm hz H F F1 H1 (σ1.set i (some (.ref a))) ρ1 _ _ (E1.suite s (of_decide_eq_true hi) xd) hex (fun F2 H2 σ2 ρ2 g2 E2 p => ?_) (fun x v F2 H2 st rr p => r x v F2 H2 (E.base.st.trans st) (o.back E.base.st rr) p) (fun _ _ _ _ _ _ q => q.elim) (fun _ _ _ _ _ _ q => q.elim)
    obtain ⟨F3, up, E3⟩ := (EnvR.under (Y := X) (EnvR.drop_ (i := i) (o := none) E2) E.base.st E.xc_ n2).conv_ c2
    exact n F3 H2 _ _ ⟨fun z h => up z (E2.base.st.up z h), .of E2.base.st.ex⟩ E3 p
  refine hb _ _ H F F H σ ρ D { nx := D'.nx, rt := D'.rt } (E.nos_ hx) hw (fun F2 H2 σ2 ρ2 g2 E2 p => ?_) (fun x v F2 H2 st rr p => r x v F2 H2 (E.base.st.trans st) (o.back E.base.st rr) p) (fun _ _ _ _ _ _ q => q.elim) (fun _ _ _ _ _ _ q => q.elim)
  obtain ⟨F3, up, E3⟩ := (EnvR.under (Y := X) E2 E.base.st E.xc_ n1).conv_ c1
  exact n F3 H2 _ _ ⟨fun z h => up z (E2.base.st.up z h), .of E2.base.st.ex⟩ E3 p
def wTryC (cat : En → Bool) (EXo : List PV → En → Fs → Prop) (wb : (List PV → En → Fs → Prop) → WS) (wu : En → Fs → WS) : WS := fun D ρ => wb (fun ρ' n fs => if cat n = true then wu n fs { nx := D.nx, rt := D.rt } ρ' else EXo ρ' n fs) { nx := D.nx, rt := D.rt } ρ
def wIsX (n m : En) : WE := fun _ P => P (.bl (decide (n = m)))
theorem sim_isX {a C C2 : Addr} {o : Option Addr} {fs : Fs} {i : Nat} {n m : En} (hi : ts[i]? = some .ex) (hn : ea n = some C) (hm : ea m = some C2) (hk : ∀ n m C C2, ea n = some C → ea m = some C2 → PySem.W.kitOne K (.ref C) (.ref C2) = some (decide (n = m))) (hx : ∀ n C, ea n = some C → ExcC K C) (ho : o = none ∨ ∃ dd, o = some dd) :
    @Sim _ (xcS a o fs n) K d (rN K d) ts (tCB (rIsX K a (.ref C) o) (tCons (tVar i) (tCons (tC (.ref C2)) tNil))) (wIsX n m) := fun H0 F0 F H σ ρ Q P E hw k => by
  obtain ⟨h1, h2⟩ := E.ex_ i hi
  refine ⟨_, h1, C, .ref C2, .ref C2, decide (n = m), rfl, rfl, hx n C hn, ?_, fun u r => r, hk n m C C2 hn hm, fin_val E.base.st.dm (.bl _) hw k⟩
  rcases ho with h | ⟨dd, h⟩
  · exact .inl h
  · obtain ⟨gs, g1, _⟩ := h2 dd h
    exact .inr ⟨dd, gs, h, g1⟩
def wExF (n : En) (f : Str) (fs : Fs) : WE := fun _ P => n.fld = some f ∧ ∃ x, fs = [(f, x)] ∧ P x
theorem sim_exF {a C : Addr} {o : Option Addr} {fs : Fs} {i : Nat} {n : En} {f : Str} (hi : ts[i]? = some .ex) (hn : ea n = some C) (hf : ∀ n C f, ea n = some C → n.fld = some f → ExF K C f) (ho : o = none ∨ ∃ dd, o = some dd) (hn0 : o = none → fs = []) :
    @Sim _ (xcS a o fs n) K d (rS K d) ts (tExF K a (.ref C) o f (tVar i)) (wExF n f fs) := fun H0 F0 F H σ ρ Q P E ⟨hf1, x, e, hw⟩ k => by
  obtain ⟨h1, h2⟩ := E.ex_ i hi
  rcases ho with h | ⟨dd, h⟩
  · rw [hn0 h] at e; cases e
  · obtain ⟨gs, g1, g2, _⟩ := h2 dd h
    rw [show (xcS a o fs n).fs = [(f, x)] from e] at g2
    cases g2 with
    | cons rv rn =>
      cases rn
      exact ⟨_, h1, C, dd, _, rfl, rfl, hf n C f hn hf1, h, g1, k _ _ F H (Step.refl E.base.st.dm) rv hw⟩
end
section
variable {P : Program} {w : World} {K : PySem.W.Frag} {mg : Str → Option Value} {base : Heap} {d : Cn → Addr} {ea : En → Option Addr} {R : RR}
def wDefX (n m : Nat) (ws : (List PV → En → Fs → Prop) → WS) : WFX := fun xs P EX => xs.length = n ∧ ws (fun _ => EX) { nx := fun _ => P .non, rt := P } (xs ++ List.replicate m .non)
theorem okwX_of {x qual : Str} {st : Stmt} {f : Addr} {N ps : List Str} {k n m : Nat} {ws : (List PV → En → Fs → Prop) → WS} {tx ts' : List Tag} (Df' : Df K x qual st f ps) (S : FnScope N ps (defScope st)) (hn : ps.length = n) (hN : N.length = n + m) (hR : RNon K d R)
    (hbody : ∀ (cdv : Value) (A : Around) (outer : List Env) (s : Shared) (H : Hp) (E : XK), Room k (A.deeper (envOfC qual (defScope st) s.heap.objs.size f cdv)) →
      ∃ t, PSs (cxOf (L2.CX P w) P w K mg base N qual (defScope st) f cdv A outer s H E) (defBody st) t ∧ ∀ EX, @SimS _ (xcOf K d ea (fun c o _ H' => E c o H') EX tx) K d R [] [] (tags n m) t (ws EX) ts') : Okf P w K mg base (k + 1) f ps (spWX K d ea R (wDefX n m ws)) :=
  okx_of Df' S (fun vs H Q E h => by
    obtain ⟨F, xs, P, EX, dm, r, ⟨hl, _⟩, _⟩ := h
    rw [r.length, hl, hn]) fun cdv A outer s H vs Q E hr h => by
    obtain ⟨t, D, sim⟩ := hbody cdv A outer s H E hr
    obtain ⟨F, xs, P, EX, dm, r, ⟨hl, hw⟩, k, kE⟩ := h
    refine ⟨t, D, sim (fun _ => EX) H F F H _ _ _ _ (env_start (X := xcOf K d ea (fun c o _ H' => E c o H') (fun _ => EX) tx) dm r hl hN fun n C fs o F' H' σ' ρ' hn E1 xd ex => kE n C fs o F' H' hn E1.base.st xd ex) hw (fun F' H' σ' ρ' g E' p => k .non .non F' H' E'.base.st (hR _ _ _ _) p) (fun x v F' H' s rr p => k x v F' H' s rr p) (fun _ _ _ _ _ _ q => q.elim) (fun _ _ _ _ _ _ q => q.elim)⟩
end
end Wx
namespace Hn
open PySem PySem.Spec PyProof.Rows L2 Evl
def tSMethY (C : Addr) (sp : Sp) (E : L2.St → XK) (ta : TE) (t : TA) : TE := fun σ H Q => ta σ H fun x H1 => x = .ref C ∧ t σ H1 fun vs H2 => sp vs H2 Q (E σ)
section
variable {X : Cx} {k : Nat} {C p g : Addr} {mc : Value} {ps : List Str} {sp : Sp} {o e : Expr} {es : List Expr} {m : Str} {pos apos : Pos} {ta : TE} {t : TA} {pl : Sem Bool} {E : L2.St → XK}
theorem pf_staticS (he : PE X o ta) (c : SMet X.K C mc m p g) (hk : PySem.W.keepIn X.K (.ref g) = true) (G : Okf X.prog X.w X.K X.mg X.base k g ps sp) (hr : Room k X.A) (hx : ∀ σ, PassesAt (L2.CX X.prog X.w) X σ (E σ)) (ha : PA X (e :: es) t)
    (hst : starEach (e :: es) X.env = (false, eval e X.env) :: starEach es X.env := by rfl) (hpl : (backTo pos (starEach es X.env)).any (·.1) = false := by rfl)
    (ht : eval (.Call (.Attribute o m apos) (e :: es) [] pos) X.env = (do
      let ov ← eval o X.env
      standAt apos.atName
      let (f, first) ← holding [ov] (getMethod ov m pl)
      callWith pos f first (backTo pos (starEach (e :: es) X.env)) (backToKw pos (keywordEach [] X.env))) := by rfl) :
    PE X (.Call (.Attribute o m apos) (e :: es) [] pos) (tSMethY C sp E ta t) := by
  obtain ⟨fd, F, hb⟩ := G
  refine ⟨fun pins s σ H Q I h => ?_⟩
  refine PySem.W.methodCall_KW (pl := pl) (thn (he.run pins s σ H _ I h) fun u s1 ⟨x, H1, I1, rx, ex, q⟩ => ?_) ht
  subst ex
  obtain rfl : u = Value.ref C := rx
  obtain ⟨rest, hp⟩ := c.rc
  refine PySem.W.method_cls I1.kIn c.ga (PySem.W.cls_bind I1.kIn c.rd c.at_ (wpAny_call (PySem.W.sm_get (s := { s1 with toks := s1.toks + 1 }) I1.kIn hp (PySem.W.handed_on rfl ?_))))
  have I2 : L2.Inv X pins σ H1 { s1 with toks := s1.toks + 1 } := I1.tok _
  refine PySem.W.callWith_K (h₀ := X.base) I2.ok.mod.kin hk (thn (ha.run pos pins _ σ H1 _ I2 q) fun us s3 ⟨vs, H2, I3, rv, q2⟩ => ⟨I3.kIn, ?_⟩) hst hpl
  exact run_fnS F hr hb (hx σ) I3 rv q2
end
end Hn
namespace Wx
open PySem PySem.Spec PyProof.Rows L2 Evl Hn
section
variable [TabC] {K : PySem.W.Frag} {d : Cn → Addr} {ea : En → Option Addr} {W : WX} {EX : List PV → En → Fs → Prop} {R : RR} {ts tx : List Tag}
def wStatX (EX : List PV → En → Fs → Prop) (w : WFX) (wo : WE) (wa : WA) (c : Cn) : WE := fun ρ P => wo ρ fun x => x = .cls c ∧ wa ρ fun xs => w xs P (EX ρ)
theorem sim_statX {w : WFX} {to : TE} {wo : WE} {ar : TA} {wr : WA} {C : Addr} (cn : Cn) (o : ROk R) (c : cv ts tx = true) (nx : noX tx = true) (ho : @Sim _ (xcOf K d ea W EX tx) K d (rS K d) ts to wo) (ha : @SimA _ (xcOf K d ea W EX tx) K d ts ar wr) (hC : d cn = C := by rfl) : @Sim _ (xcOf K d ea W EX tx) K d R ts (tSMethY C (spWX K d ea R w) (fun σ c o H => W c o σ H) to ar) (wStatX EX w wo wr cn) := fun H0 F0 F H σ ρ Q P E hw k =>
  ho H0 F0 F H σ ρ _ _ E hw fun x v F1 H1 s1 r1 ⟨ex, h1⟩ => by
    subst hC
    subst ex
    cases r1
    refine ⟨rfl, ha H0 F0 F1 H1 σ ρ _ _ (E.step_ s1) h1 fun xs vs F2 H2 s2 r2 h4 => ⟨F2, xs, P, EX ρ, s2.dm, r2, h4, fun x v F' H' s r q => k x v F' H' ((s1.trans s2).trans s) (o.back (s1.trans s2) r) q, fun n C fs oo F' H' hn s xd ex => xc_goes (((E.step_ s1).step_ s2).step_ s) c nx hn (xd.back ((E.step_ s1).step_ s2).base.st.ex) ex⟩⟩
theorem sim_stat0 [XC] {w : WFX} {to : TE} {wo : WE} {ar : TA} {wr : WA} {C : Addr} (cn : Cn) (o : ROk R) (ho : Sim K d (rS K d) ts to wo) (ha : SimA K d ts ar wr) (hC : d cn = C := by rfl) : Sim K d R ts (tSMeth C (spWX K d ea R w) to ar) (wStatX noEX w wo wr cn) := fun H0 F0 F H σ ρ Q P E hw k =>
  ho H0 F0 F H σ ρ _ _ E hw fun x v F1 H1 s1 r1 ⟨ex, h1⟩ => by
    subst hC
    subst ex
    cases r1
    exact ⟨rfl, ha H0 F0 F1 H1 σ ρ _ _ (E.step s1) h1 fun xs vs F2 H2 s2 r2 h4 => ⟨F2, xs, P, _, s2.dm, r2, h4, fun x v F' H' s r q => k x v F' H' ((s1.trans s2).trans s) (o.back (s1.trans s2) r) q, fun _ _ _ _ _ _ _ _ _ q => q.elim⟩⟩
end
end Wx
namespace Lmy
open PySem PySem.Spec PyProof.Rows L2 LamX Hn
def entry (pos : Pos) (c : Addr) : Array Value := #[rawInt pos.line, rawInt pos.col, .ref c]
theorem among_new {pos p : Pos} {c v : Value} : ∀ {l : List Value}, TriplesOk l → codeAmong p (l ++ [rawInt pos.line, rawInt pos.col, c]) = some v → codeAmong p l = some v ∨ v = c := fun {l} h e => among_app l h e
section
variable {X : Cx} {pins : List (Addr × Obj)} {σ : L2.St} {H : Hp} {s : Shared}
abbrev lq (X : Cx) : Str := X.env.qual ++ "<lambda>"
abbrev lcl (X : Cx) (sc : Scope) : List (Str × Addr) := cloFrom X.env.cells sc.names []
theorem lam_mk {T : List (Addr × Str)} {c P : Addr} {ar : Arguments} {bd : Expr} {sc : Scope} {pos : Pos} {E Q : Value → Shared → Prop} (I : Inv X pins σ H s) (B : TabB X.base X.mg c P) (hc : X.env.code = .ref c)
    (m : (P, lq X) ∈ T) (u : ∀ p ∈ T, p.1 = P → p.2 = lq X) (tt : Tabs T H) (df : defaultsOf ar X.env = ([], [])) (fr : ∀ y ∈ sc.names, y.2 = .free → ∃ c, X.env.cells.lookup y.1 = some c)
    (k : ∀ (f d : Addr) (pm ct : Value) (H1 : Hp) (s1 : Shared), Inv X pins σ H1 s1 → ExtN H H1 → (∀ b, H b ≠ none → H1 b ≠ none) → Tabs T H1 →
      s1.heap.get? f = some (PySem.W.kla_obj "<lambda>" (lq X) ar bd sc (lcl X sc) pm d ct) → H1 f = none → f ∉ frs X.stack → H1 d = some (CodeO d (lq X)) → Q (.ref f) s1) :
    wpAny (model X.prog X.w) X.A (eval (.Lambda ar bd sc pos) X.env) Q E s := by
  obtain ⟨es, e1, e2, e3⟩ := tt _ m
  refine PySem.W.kla_eval df ?_
  have b1 : s.heap.BuiltinsAt X.mg P := B.bm.keeps I.bk
  have b2 : s.heap.get? P = some { cls := .none, data := .fields es } := I.hok P _ e1
  have nf : ∀ f, s.heap.objs.size ≤ f → f ∉ frs X.stack := fun f hf z => by
    rcases List.mem_cons.mp (I.stkSub _ z) with e | e
    · have z1 := I.lt
      rw [← e] at z1
      exact Nat.lt_irrefl _ (Nat.lt_of_lt_of_le z1 hf)
    · exact I.nofs hf e
  cases q : codeAmong pos es.toList with
  | some v =>
    obtain ⟨d, rfl, hd⟩ := e3 pos v q
    refine PySem.W.kla_makeFunctionHit (mg := X.mg) (c := c) (P := P) (ps := es) (closure_ok fr) I.ok.glob (I.mod.glob.keeps I.bk) hc (B.code.keeps I.bk) b2 e2 q b1 fun ct h tk hx hz => ?_
    exact k h.objs.size d ((X.mg "__name__").getD .none) ct H _ (I.kept fun b o e => Heap.get?_push_of_some _ (hx b o e)) (ExtN.refl H) (fun _ z => z) tt (Heap.get?_push_size _ rfl) (I.hok.fresh hz) (nf _ hz) hd
  | none =>
    refine PySem.W.kla_makeFunction (mg := X.mg) (c := c) (P := P) (ps := es) (closure_ok fr) I.ok.glob (I.mod.glob.keeps I.bk) hc (B.code.keeps I.bk) b2 e2 q B.gP b1 fun d ct h tk hx ge lt rec tb => ?_
    obtain ⟨_, oc, vs, t, e0, o1, o2, o3⟩ := rec
    cases e0
    have z1 : s.heap.objs.size ≤ h.objs.size := Nat.le_trans ge (Nat.le_of_lt lt)
    have n1 : H d = none := I.hok.fresh ge
    have n2 : P ≠ d := ne_of_none e1 n1
    have J := inv_table (t' := tk) (more := entry pos d) (h' := h.push (PySem.W.kla_obj "<lambda>" (lq X) ar bd sc (lcl X sc) ((X.mg "__name__").getD .none) d ct)) I e1
      (fun b o hb e => Heap.get?_push_of_some _ (hx b o hb e)) (Heap.get?_push_of_some _ tb) ge ⟨oc, vs, t, Heap.get?_push_of_some _ o1, o2, o3⟩
    have ext : ExtN H (upd (upd H P (.tbl (es ++ entry pos d))) d (CodeO d (lq X))) := fun b o e n => by
      have a1 : b ≠ d := ne_of_none e n1
      have a2 : b ≠ P := fun z => by
        subst z
        rw [e1] at e
        exact n es (Option.some.inj e).symm
      rw [upd_ne a1, upd_ne a2, e]
    have el : (es ++ entry pos d).toList = es.toList ++ [rawInt pos.line, rawInt pos.col, .ref d] := by unfold entry; simp
    refine k h.objs.size d ((X.mg "__name__").getD .none) ct _ _ J ext (fun b hb => ?_) (fun p hp => ?_) (Heap.get?_push_size _ rfl) ?_ (nf _ z1) upd_same
    · by_cases a1 : b = d
      · rw [a1, upd_same]; intro z; cases z
      · rw [upd_ne a1]
        by_cases a2 : b = P
        · rw [a2, upd_same]; intro z; cases z
        · rw [upd_ne a2]; exact hb
    · by_cases hb : p.1 = P
      · rw [u p hp hb, hb]
        refine ⟨es ++ entry pos d, by rw [upd_ne n2, upd_same], by rw [el]; exact TriplesOk_snoc _ _ _ _ e2, fun p' v hv => ?_⟩
        rw [el] at hv
        rcases among_new e2 hv with z | z
        · obtain ⟨d0, w1, w2⟩ := e3 p' v z
          exact ⟨d0, w1, ext _ _ w2 codeO_ne⟩
        · exact ⟨d, z, upd_same⟩
      · obtain ⟨es', a1, a2, a3⟩ := tt p hp
        refine ⟨es', by rw [upd_ne (ne_of_none a1 n1), upd_ne hb]; exact a1, a2, fun p' v hv => ?_⟩
        obtain ⟨d0, w1, w2⟩ := a3 p' v hv
        exact ⟨d0, w1, ext _ _ w2 codeO_ne⟩
    · have a1 : h.objs.size ≠ d := Nat.ne_of_gt lt
      have a2 : h.objs.size ≠ P := Nat.ne_of_gt (Nat.lt_of_lt_of_le (Heap.lt_size b2) z1)
      rw [upd_ne a1, upd_ne a2]
      exact I.hok.fresh z1
end
structure LamP (so sc : Scope) (N ps : List Str) : Prop where
  kind : sc.kind = .function
  co : sc.isCoroutine = false
  gen : sc.isGenerator = false
  nocell : ∀ y ∈ sc.names, y.2 ≠ .cell
  own : ∀ y ∈ sc.names, y.2 = .local → y.1 ∈ ps
  par : ∀ x ∈ ps, sc.names.lookup x = some .local
  nd : ps.Nodup
  dis : ∀ x ∈ ps, x ∉ N
  free : ∀ y ∈ sc.names, y.2 = .free → so.names.lookup y.1 = some .cell ∨ so.names.lookup y.1 = some .free
def lamPB (so sc : Scope) (N ps : List Str) : Bool :=
  decide (sc.kind = .function) && !sc.isCoroutine && !sc.isGenerator && (sc.names.all fun y => !decide (y.2 = .cell) && (!decide (y.2 = .local) || decide (y.1 ∈ ps)) && (!decide (y.2 = .free) || decide (so.names.lookup y.1 = some .cell) || decide (so.names.lookup y.1 = some .free))) &&
    (ps.all fun x => decide (sc.names.lookup x = some .local) && decide (x ∉ N)) && decide ps.Nodup
theorem lamP_by {so sc : Scope} {N ps : List Str} (h : lamPB so sc N ps = true) : LamP so sc N ps := by
  unfold lamPB at h
  simp only [Bool.and_eq_true, Bool.or_eq_true, Bool.not_eq_true', decide_eq_true_eq, decide_eq_false_iff_not, List.all_eq_true] at h
  obtain ⟨⟨⟨⟨⟨h1, h2⟩, h3⟩, h4⟩, h5⟩, h6⟩ := h
  refine ⟨h1, h2, h3, fun y hy => (h4 y hy).1.1, fun y hy e => ?_, fun x hx => (h5 x hx).1, h6, fun x hx => (h5 x hx).2, fun y hy e => ?_⟩
  · exact (h4 y hy).1.2.elim (fun z => absurd e z) id
  · rcases (h4 y hy).2 with (z | z) | z
    · exact absurd e z
    · exact .inl z
    · exact .inr z
theorem LamP.has {X : Cx} {sc : Scope} {N ps : List Str} (L : LamP X.env.scope sc N ps) (ok : X.Ok) : ∀ y ∈ sc.names, y.2 = .free → ∃ c, X.env.cells.lookup y.1 = some c := fun y hy e => by
  rcases L.free y hy e with k | k
  · exact ok.has _ (.inl k)
  · exact ok.has _ (.inr k)
def lcx (X : Cx) (ps : List Str) (A : Around) (out : List Env) (s : Shared) (H : Hp) (E : XK) (sc : Scope) (f d : Addr) : Cx := { lamCx X A out s H E sc f d with N := X.N ++ ps }
section
variable {X : Cx} {pins : List (Addr × Obj)} {σ : L2.St} {H HZ : Hp} {s s1 : Shared}
theorem lam_begin {A : Around} {out : List Env} {E : XK} {sc : Scope} {f d : Addr} {h1 : Heap} {tk : Nat} {ps : List Str} {us : List Value} {vs : List V} (I : Inv X pins σ H s) (L : LamP X.env.scope sc X.N ps) (e0 : Env0 X.prog X.w X.K X.mg X.base A out s1 HZ) (hd : A.handled = none)
    (un : Un (frs X.stack) [] H HZ s.heap s1.heap) (r : Vals vs us) (hl : vs.length = ps.length) (hns : h1.Ns s1.heap.objs.size fun y => (ps.zip us).reverse.lookup y) (kp : ∀ b o, s1.heap.get? b = some o → h1.get? b = some o) :
    Inv (lcx X ps A out s1 HZ E sc f d) [] (σ ++ vs.map some) HZ { s1 with heap := h1, toks := tk } := by
  have fr := L.has I.ok
  have cm : ∀ {y c}, (lcl X sc).lookup y = some c → X.env.cells.lookup y = some c := fun {y c} e => by
    rcases cloFrom_mem (mem_of_lookup e) with hm | ⟨g1, g2⟩
    · cases hm
    · obtain ⟨c1, hc⟩ := fr _ g1 rfl
      have hc : X.env.cells.lookup y = some c1 := hc
      obtain rfl : c = c1 := by rw [g2, hc] <;> rfl
      exact hc
  have look : ∀ {y}, sc.names.lookup y = some .free → ∃ c, (lcl X sc).lookup y = some c := fun {y} hy => mem_lookup (cloFrom_has (cells := X.env.cells) (acc := []) (mem_of_lookup hy))
  have keepC : ∀ {c : Addr} {v : Option Value}, H c = none → s.heap.IsCell c v → h1.IsCell c v := fun {c v} n ⟨o, ho, hd⟩ => by
    obtain ⟨sl, q⟩ := un.any ho n (by simp)
    exact ⟨_, kp _ _ q, hd⟩
  have noA : ∀ b : Addr, b ∉ (lcx X ps A out s1 HZ E sc f d).ex := fun b z => nomatch (show b ∈ ([] : List Addr) from z)
  have lenσ : σ.length = X.N.length := I.len
  refine ⟨⟨e0.mod, L.kind, rfl, rfl, Nat.le_refl _, fun y z c g1 g2 => I.ok.inj y z c (cm g1) (cm g2), fun y hy => ?_, fun y c z _ => ?_, fun _ => hd, Around.frames_deeper e0.frames, .inr ⟨rfl, rfl⟩, fun b z => absurd z (noA b), e0.bs, e0.bsz, fun b _ _ => noA b,
      fun b z => absurd z (noA b), e0.funs, e0.frf⟩,
    rfl, e0.bare, Un.kept kp, ⟨_, hns, fun i y v g1 g2 g3 => ?_⟩, fun y c e => ?_, e0.hok.fresh (Nat.le_refl _), fun y c e => ?_, fun q hq => (nomatch (show q ∈ ([] : List (Addr × Obj)) ++ [] from hq)), e0.hok.kept kp, ?_⟩
  · have hy : sc.names.lookup y = some .cell ∨ sc.names.lookup y = some .free := hy
    rcases hy with hy | hy
    · exact absurd rfl (L.nocell _ (mem_of_lookup hy))
    · exact look hy
  · have z : false = true := z
    cases z
  · have g1 : (X.N ++ ps)[i]? = some y := g1
    have g3 : Vis sc y := g3
    by_cases hi : i < X.N.length
    · rw [List.getElem?_append_left hi] at g1
      rw [List.getElem?_append_left (by omega)] at g2
      rcases g3 with k | k | k
      · exact absurd (List.mem_of_getElem? g1) (L.dis _ (L.own _ (mem_of_lookup k) rfl))
      · exact absurd rfl (L.nocell _ (mem_of_lookup k))
      · obtain ⟨m, hn, hl'⟩ := I.loc
        have kk := L.free _ (mem_of_lookup k) rfl
        obtain ⟨w', rr, q⟩ := hl' i y v g1 g2 (kk.elim (fun z => .inr (.inl z)) fun z => .inr (.inr z))
        obtain ⟨c2, h2⟩ := look k
        refine ⟨w', rr, .inr ⟨.inr k, c2, h2, ?_⟩⟩
        have c1 := cm h2
        rcases q with ⟨k', _⟩ | ⟨_, c3, e', z⟩
        · have k' : X.env.scope.names.lookup y = some .local := k'
          rcases kk with k2 | k2 <;> rw [show X.env.scope.names.lookup y = _ from k2] at k' <;> cases k'
        · rw [c1] at e'
          cases e'
          exact keepC (I.freeC y _ c1) z
    · rw [List.getElem?_append_right (by omega)] at g1
      rw [List.getElem?_append_right (by omega), lenσ, List.getElem?_map] at g2
      obtain ⟨w, hw, e⟩ := Option.map_eq_some_iff.mp g2
      cases e
      obtain ⟨u, hu, ru⟩ := r.get hw
      exact ⟨u, ru, .inl ⟨L.par y (List.mem_of_getElem? g1), NdefX.zip_look L.nd g1 hu⟩⟩
  · obtain ⟨w', z⟩ := I.cell y c (cm e)
    exact ⟨w', keepC (I.freeC y c (cm e)) z⟩
  · obtain ⟨v, o, ho, hd⟩ := I.cell y c (cm e)
    exact un.free c o ho (I.freeC y c (cm e)) (by simp)
  · show (σ ++ vs.map some).length = (X.N ++ ps).length
    rw [List.length_append, List.length_append, List.length_map, hl, lenσ]
theorem act_core {CXg : CXT} {Eg : XK} {Ng : List Str} {qg : Str} {sg : Scope} {g f d : Addr} {cdg pm ct : Value} {ar : Arguments} {bd : Expr} {sc : Scope} {k : Nat} {ps : List Str} {pn : List (Addr × Obj)} {xe : Value → Shared → Prop} {E : XK} {tb : TE}
    (I : Inv X pins σ H s) (L : LamP X.env.scope sc X.N ps) (hf : s.heap.get? f = some (PySem.W.kla_obj "<lambda>" (lq X) ar bd sc (lcl X sc) pm d ct)) (hfn : H f = none) (hfr : f ∉ frs X.stack)
    (hb : ∀ us : List Value, us.length = ps.length → bindArgs (PySem.W.kla_fn "<lambda>" (lq X) ar bd sc (lcl X sc) pm (.ref d) ct) ⟨us, []⟩ = pure (ps.zip us))
    (hr : Room (k + 1) (X.A.deeper (envOfC qg sg s.heap.objs.size g cdg)))
    (body : ∀ (A : Around) (out : List Env) (s : Shared) (H : Hp), Room k (A.deeper (lamEnv X sc s.heap.objs.size f d)) → PE (lcx X ps A out s H E sc f d) bd tb)
    {pz : List (Addr × Obj)} {σZ : L2.St} (hx : PassesAt (L2.CX X.prog X.w) ((cxOf CXg X.prog X.w X.K X.mg X.base Ng qg sg g cdg X.A X.stack s H Eg).tr pn xe) σZ E) {sZ : Shared} {us : List Value} {vs : List V} {Q : VK} (IZ : Inv ((cxOf CXg X.prog X.w X.K X.mg X.base Ng qg sg g cdg X.A X.stack s H Eg).tr pn xe) pz σZ HZ sZ) (r : Vals vs us) (hl : vs.length = ps.length)
    (hc : HZ d = some (CodeO d (lq X))) (ht : tb (σ ++ vs.map some) HZ Q) :
    wpAny (model X.prog X.w) (X.A.deeper (envOfC qg sg s.heap.objs.size g cdg)) (call (.ref f) us) (EP ((cxOf CXg X.prog X.w X.K X.mg X.base Ng qg sg g cdg X.A X.stack s H Eg).tr pn xe) pz σZ Q) xe sZ := by
  have of1 : sZ.heap.get? f = some (PySem.W.kla_obj "<lambda>" (lq X) ar bd sc (lcl X sc) pm d ct) := IZ.base.keep f _ hf hfn hfr (fun z => nomatch (show f ∈ ([] : List Addr) from z))
  have un : Un (frs X.stack) [] H HZ s.heap sZ.heap := IZ.base
  obtain ⟨⟨oc, cv, t, c1, c2, c3⟩, _, _⟩ := IZ.hok d _ hc
  have rc : codeAny (model X.prog X.w) (X.A.deeper (envOfC qg sg s.heap.objs.size g cdg)) (.call (.ref f) ⟨us, []⟩) (CR (L2.CX X.prog X.w) (envOfC qg sg s.heap.objs.size g cdg :: X.stack) X.prog X.w HZ sZ Q E) sZ := by
    refine PySem.W.kla_callFunE hr.depth of1 rfl L.co L.gen rfl ⟨d, oc, cv, t, rfl, c1, c2, c3⟩ ?_
    rw [hb us (by rw [← r.length]; exact hl)]
    refine wpAny_pure (wpAny_newFunctionEnv L.nocell (fun ⟨n, _⟩ hy => L.par n (List.of_mem_zip hy).1) (fun h1 hns hsb => ⟨IZ.nolimit.fresh _ hsb, ?_⟩) L.kind)
    show codeAny _ _ (.expr bd (lamEnv X sc sZ.heap.objs.size f d)) _ _
    have kp : ∀ b o, sZ.heap.get? b = some o → h1.get? b = some o := fun b o e => hsb.extBut b o (Nat.ne_of_lt (Heap.lt_size e)) (Heap.get?_push_of_some _ e)
    have J : Inv (lcx X ps (X.A.deeper (envOfC qg sg s.heap.objs.size g cdg)) (envOfC qg sg s.heap.objs.size g cdg :: X.stack) sZ HZ E sc f d) [] (σ ++ vs.map some) HZ { sZ with heap := h1, toks := sZ.toks + (ps.zip us).length } :=
      lam_begin I L IZ.env0 hr.hd un r hl hns kp
    refine PySem.W.kla_codeExpr (wpAny_mono ((body _ _ sZ HZ (hr.deeper _)).run [] _ _ HZ Q J ht) (fun v s' hq => ?_) fun e s' hq => hq)
    obtain ⟨w', H', J', rv, q⟩ := hq
    exact ⟨w', H', J'.os, J'.bare, J'.base, J'.hok, rv, q⟩
  refine wpAny_call (codeAny_mono rc fun rr s' hq => ?_)
  cases rr with
  | error e => exact hx pz HZ sZ e s' IZ hq
  | ok fl =>
    cases fl with
    | ret u => exact IZ.after hq
    | next => exact hq.elim
    | brk => exact hq.elim
    | cont => exact hq.elim
end
def tAct (f d : Addr) (q : Str) (n i : Nat) (tl : XK → List V → Hp → VK → Prop) (E : L2.St → XK) (ta : TA) : TE := fun σ H Q => σ[i]? = some (some (.ref f)) ∧ ta σ H fun vs H1 => vs.length = n ∧ H1 d = some (CodeO d q) ∧ tl (E σ) vs H1 Q
structure ActR (Z : Cx) (n : Nat) (f d : Addr) (q : Str) (tl : XK → List V → Hp → VK → Prop) : Prop where
  a0 : n = 0 → ∀ (pn : List (Addr × Obj)) (xe : Value → Shared → Prop) (E : L2.St → XK) (a : Str) (i : Nat) (p1 p2 : Pos), (∀ σ, PassesAt (L2.CX Z.prog Z.w) (Z.tr pn xe) σ (E σ)) → Z.N[i]? = some a → Vis Z.env.scope a →
    (a == ("__debug__" : Str)) = false → (a == ("__classdict__" : Str)) = false → PE (Z.tr pn xe) (.Call (.Name a p1) [] [] p2) (tAct f d q n i tl E tNil)
  a1 : ∀ (pn : List (Addr × Obj)) (xe : Value → Shared → Prop) (E : L2.St → XK) (a : Str) (i : Nat) (e : Expr) (es : List Expr) (ta : TA) (p1 p2 : Pos), (∀ σ, PassesAt (L2.CX Z.prog Z.w) (Z.tr pn xe) σ (E σ)) → Z.N[i]? = some a → Vis Z.env.scope a →
    (a == ("__debug__" : Str)) = false → (a == ("__classdict__" : Str)) = false → PA (Z.tr pn xe) (e :: es) ta → starEach (e :: es) Z.env = (false, eval e Z.env) :: starEach es Z.env → (backTo p2 (starEach es Z.env)).any (·.1) = false →
    PE (Z.tr pn xe) (.Call (.Name a p1) (e :: es) [] p2) (tAct f d q n i tl E ta)
section
variable {X : Cx} {pins : List (Addr × Obj)} {σ : L2.St} {H : Hp} {s : Shared}
theorem actR_of {CXg : CXT} {Eg : XK} {Ng : List Str} {qg : Str} {sg : Scope} {g f d : Addr} {cdg pm ct : Value} {ar : Arguments} {bd : Expr} {sc : Scope} {k : Nat} {ps : List Str} {t : XK → TE}
    (I : Inv X pins σ H s) (L : LamP X.env.scope sc X.N ps) (hf : s.heap.get? f = some (PySem.W.kla_obj "<lambda>" (lq X) ar bd sc (lcl X sc) pm d ct)) (hfn : H f = none) (hfr : f ∉ frs X.stack)
    (hb : ∀ us : List Value, us.length = ps.length → bindArgs (PySem.W.kla_fn "<lambda>" (lq X) ar bd sc (lcl X sc) pm (.ref d) ct) ⟨us, []⟩ = pure (ps.zip us)) (hr : Room (k + 1) (X.A.deeper (envOfC qg sg s.heap.objs.size g cdg)))
    (body : ∀ (A : Around) (out : List Env) (s : Shared) (H : Hp) (E : XK) (f d : Addr), Room k (A.deeper (lamEnv X sc s.heap.objs.size f d)) → PE (lcx X ps A out s H E sc f d) bd (t E)) :
    ActR (cxOf CXg X.prog X.w X.K X.mg X.base Ng qg sg g cdg X.A X.stack s H Eg) ps.length f d (lq X) (fun E vs H' Q => t E (σ ++ vs.map some) H' Q) where
  a0 := fun hn pn xe E a i p1 p2 hx hN hv hd hcd => by
    refine ⟨fun pz sZ σZ HZ Q IZ h => ?_⟩
    obtain ⟨hs, hl, hc, ht⟩ := h
    refine wpAny_Call_Name_kw (thn ((pe_var (X := (cxOf CXg X.prog X.w X.K X.mg X.base Ng qg sg g cdg X.A X.stack s H Eg).tr pn xe) (pos := p1) (i := i) hN hv hd hcd).run pz sZ σZ HZ (fun v H1 => v = .ref f ∧ H1 = HZ) IZ ⟨.ref f, hs, rfl, rfl⟩) fun u s1 ⟨v, H1, I1, r1, ev, eH⟩ => ?_)
    subst ev
    rw [eH] at I1
    obtain rfl : u = Value.ref f := r1
    have of1 : s1.heap.get? f = some (PySem.W.kla_obj "<lambda>" (lq X) ar bd sc (lcl X sc) pm d ct) := I1.base.keep f _ hf hfn hfr (fun z => nomatch (show f ∈ ([] : List Addr) from z))
    refine PySem.W.callWith_F0 (first := []) ⟨_, _, _, _, of1⟩ ?_
    exact act_core I L hf hfn hfr hb hr (fun A out s H r => body A out s H (E σZ) f d r) (hx σZ) I1 .nil hl hc ht
  a1 := fun pn xe E a i e es ta p1 p2 hx hN hv hd hcd ha he hpl => by
    refine ⟨fun pz sZ σZ HZ Q IZ h => ?_⟩
    obtain ⟨hs, h⟩ := h
    refine wpAny_Call_Name_kw (thn ((pe_var (X := (cxOf CXg X.prog X.w X.K X.mg X.base Ng qg sg g cdg X.A X.stack s H Eg).tr pn xe) (pos := p1) (i := i) hN hv hd hcd).run pz sZ σZ HZ (fun v H1 => v = .ref f ∧ H1 = HZ) IZ ⟨.ref f, hs, rfl, rfl⟩) fun u s1 ⟨v, H1, I1, r1, ev, eH⟩ => ?_)
    subst ev
    rw [eH] at I1
    obtain rfl : u = Value.ref f := r1
    have of1 : s1.heap.get? f = some (PySem.W.kla_obj "<lambda>" (lq X) ar bd sc (lcl X sc) pm d ct) := I1.base.keep f _ hf hfn hfr (fun z => nomatch (show f ∈ ([] : List Addr) from z))
    refine PySem.W.callWith_F (first := []) ⟨_, _, _, _, of1⟩ (thn (ha.run p2 pz s1 σZ HZ _ I1 h) fun us s2 ⟨vs, H2, I2, r, hl, hc, ht⟩ => ?_) he hpl
    have of2 : s2.heap.get? f = some (PySem.W.kla_obj "<lambda>" (lq X) ar bd sc (lcl X sc) pm d ct) := I2.base.keep f _ hf hfn hfr (fun z => nomatch (show f ∈ ([] : List Addr) from z))
    exact ⟨⟨_, _, _, _, of2⟩, act_core I L hf hfn hfr hb hr (fun A out s H r => body A out s H (E σZ) f d r) (hx σZ) I2 r hl hc ht⟩
end
structure DfC (K : PySem.W.Frag) (x qual : Str) (st : Stmt) (f : Addr) (ps : List Str) (c : Addr) : Prop where
  df : Df K x qual st f ps
  co : ∃ (oc : Value) (od : Option Addr) (fd : FuncData) (osl : Array (Option Value)), K.lookup f = some ⟨oc, od, .func fd, osl⟩ ∧ fd.code = .ref c
section
variable {P : Program} {w : World} {K : PySem.W.Frag} {mg : Str → Option Value} {base : Heap} {x qual : Str} {st : Stmt} {f c : Addr} {N ps : List Str} {k : Nat} {sp : Sp}
theorem DfC.kp (F : DfC K x qual st f ps c) : PySem.W.keepIn K (.ref f) = true := F.df.kp
theorem okPC_of {Pre : Around → Shared → Prop} (F : DfC K x qual st f ps c) (S : FnScope N ps (defScope st)) (len : ∀ vs H Q E, sp vs H Q E → vs.length = ps.length)
    (body : ∀ (A : Around) (out : List Env) (s : Shared) (H : Hp) (vs : List V) (Q : VK) (E : XK), Pre A s → Room k (A.deeper (envOfC qual (defScope st) s.heap.objs.size f (.ref c))) → sp vs H Q E →
      ∃ t, PSs (cxOf CX0 P w K mg base N qual (defScope st) f (.ref c) A out s H E).nox (defBody st) t ∧ t { nx := fun _ H' => Q .non H', rt := Q } (start N vs) H) : OkP Pre P w K mg base (k + 1) f ps sp := by
  obtain ⟨⟨fd, F1, bd⟩, oc', od', fd', osl', lk', hc⟩ := F
  obtain ⟨oc, od, kV, doc, pm, an, cdv, ct, osl, rfl, lk, hcd⟩ := F1.ex
  rw [lk] at lk'
  cases lk'
  obtain rfl : cdv = .ref c := hc
  exact ⟨_, bd, len, fun A out s H ag us vs Q E pre room env bnd rel hsp => run_ofS lk hcd S room env bnd rel (len _ _ _ _ hsp) fun hr => by
    obtain ⟨t, tt, q⟩ := body A out s H vs Q E pre hr hsp
    exact ⟨t, tt.nox, q⟩⟩
end
def LamAt (X : Cx) (ar : Arguments) (bd : Expr) (sc : Scope) (f d : Addr) (H : Hp) (s : Shared) : Prop := ∃ pm ct : Value, s.heap.get? f = some (PySem.W.kla_obj "<lambda>" (lq X) ar bd sc (lcl X sc) pm d ct) ∧ H f = none ∧ f ∉ frs X.stack ∧ H d = some (CodeO d (lq X))
abbrev LT := L2.St → Hp → (List V → Addr → Addr → Hp → Prop) → Prop
def tLast (T : List (Addr × Str)) (q : Str) : LT := fun _ H R => Tabs T H ∧ ∀ f d H2, ExtN H H2 → (∀ b, H b ≠ none → H2 b ≠ none) → Tabs T H2 → H2 d = some (CodeO d q) → R [.ref f] f d H2
structure PAL (X : Cx) (ar : Arguments) (bd : Expr) (sc : Scope) (es : List Expr) (t : LT) : Prop where
  run : ∀ (pos : Pos) (pins : List (Addr × Obj)) (s : Shared) (σ : L2.St) (H : Hp) (R : List V → Addr → Addr → Hp → Prop), Inv X pins σ H s → t σ H R →
    wpAny (model X.prog X.w) X.A (spliced (backTo pos (starEach es X.env))) (fun us s' => ∃ vs f d H', Inv X pins σ H' s' ∧ Vals vs us ∧ LamAt X ar bd sc f d H' s' ∧ R vs f d H') X.xe s
section
variable {X : Cx} {ar : Arguments} {bd : Expr} {sc : Scope}
theorem pal_last {T : List (Addr × Str)} {c P : Addr} {lp : Pos} (B : TabB X.base X.mg c P) (hc : X.env.code = .ref c) (m : (P, lq X) ∈ T) (u : ∀ p ∈ T, p.1 = P → p.2 = lq X) {N ps : List Str} (L : LamP X.env.scope sc N ps) (df : defaultsOf ar X.env = ([], []) := by rfl)
    (hs : starEach [.Lambda ar bd sc lp] X.env = [(false, eval (.Lambda ar bd sc lp) X.env)] := by rfl) : PAL X ar bd sc [.Lambda ar bd sc lp] (tLast T (lq X)) := by
  refine ⟨fun pos pins s σ H R I h => ?_⟩
  obtain ⟨tt, h⟩ := h
  rw [hs]
  show wpAny _ _ (spliced ((false, eval (.Lambda ar bd sc lp) X.env) :: backTo pos (starEach [] X.env))) _ _ s
  refine Calls.spliced_cons (lam_mk I B hc m u tt df (L.has I.ok) fun f d pm ct H1 s1 I1 e1 e2 t1 o1 o2 o3 o4 => ?_)
  exact Calls.spliced_nil ⟨[.ref f], f, d, H1, I1, .cons rfl .nil, ⟨pm, ct, o1, o2, o3, o4⟩, h f d H1 e1 e2 t1 o4⟩
end
def Giv (P : Program) (w : World) (K : PySem.W.Frag) (mg : Str → Option Value) (base : Heap) (k : Nat) (g : Addr) (ps : List Str) (n : Nat) (spg : Addr → Addr → Str → (XK → List V → Hp → VK → Prop) → Sp) : Prop :=
  ∃ (x qual : Str) (st : Stmt) (N : List Str), Df K x qual st g ps ∧ FnScope N ps (defScope st) ∧ (∀ fa d q tl vs H Q E, spg fa d q tl vs H Q E → vs.length = ps.length) ∧
    ∀ (cdv : Value) (A : Around) (out : List Env) (s : Shared) (H : Hp) (vs : List V) (Q : VK) (E : XK) (fa d : Addr) (q : Str) (tl : XK → List V → Hp → VK → Prop), Room k (A.deeper (envOfC qual (defScope st) s.heap.objs.size g cdv)) →
      ActR (cxOf (L2.CX P w) P w K mg base N qual (defScope st) g cdv A out s H E) n fa d q tl → H d = some (CodeO d q) → spg fa d q tl vs H Q E →
      ∃ t, PSs (cxOf (L2.CX P w) P w K mg base N qual (defScope st) g cdv A out s H E) (defBody st) t ∧ t { nx := fun _ H' => Q .non H', rt := Q } (start N vs) H
def tLamC (lt : LT) (q : Str) (spg : Addr → Addr → Str → (XK → List V → Hp → VK → Prop) → Sp) (E : L2.St → XK) (t : XK → TE) : TE := fun σ H Q => lt σ H fun vs f d H2 => spg f d q (fun E' us H' Q' => t E' (σ ++ us.map some) H' Q') vs H2 Q (E σ)
section
variable {X : Cx} {ar : Arguments} {bd : Expr} {sc : Scope}
theorem pe_lam {k m : Nat} {x : Str} {g : Addr} {ps qs : List Str} {spg : Addr → Addr → Str → (XK → List V → Hp → VK → Prop) → Sp} {E : L2.St → XK} {t : XK → TE} {lt : LT} {e : Expr} {es : List Expr} {p pos : Pos} (G : Giv X.prog X.w X.K X.mg X.base m g qs ps.length spg) (hr : Room (k + 2) X.A) (hm' : m ≤ k + 1)
    (hg : Gl X x) (hm : X.mg x = some (.ref g)) (hk : PySem.W.keepIn X.K (.ref g) = true) (L : LamP X.env.scope sc X.N ps)
    (hb : ∀ (q : Str) (cl : List (Str × Addr)) (pm cv ct : Value) (us : List Value), us.length = ps.length → bindArgs (PySem.W.kla_fn "<lambda>" q ar bd sc cl pm cv ct) ⟨us, []⟩ = pure (ps.zip us))
    (body : ∀ (A : Around) (out : List Env) (s : Shared) (H : Hp) (E : XK) (f d : Addr), Room k (A.deeper (lamEnv X sc s.heap.objs.size f d)) → PE (lcx X ps A out s H E sc f d) bd (t E)) (hx : ∀ σ, PassesAt (L2.CX X.prog X.w) X σ (E σ)) (ha : PAL X ar bd sc (e :: es) lt)
    (hdb : (x == ("__debug__" : Str)) = false := by decide) (he : starEach (e :: es) X.env = (false, eval e X.env) :: starEach es X.env := by rfl) (hpl : (backTo pos (starEach es X.env)).any (·.1) = false := by rfl) :
    PE X (.Call (.Name x p) (e :: es) [] pos) (tLamC lt (lq X) spg E t) := by
  refine ⟨fun pins s σ H Q I h => ?_⟩
  refine wpAny_Call_Name_kw (ld_glob I hg hm ?_ hdb)
  refine PySem.W.callWith_K (h₀ := X.base) I.ok.mod.kin hk (thn (ha.run pos pins s σ H _ I h) fun us s2 ⟨vs, f, d, H2, I2, r, ⟨pm, ct, o1, o2, o3, o4⟩, q⟩ => ⟨I2.kIn, ?_⟩) he hpl
  obtain ⟨gx, qual, st, N, D, S, len, run⟩ := G
  obtain ⟨fd, F, bd'⟩ := D
  obtain ⟨oc, od, kV, doc, pm', an, cdv, ct', osl, rfl, lk, hcd⟩ := F.ex
  have hl := len _ _ _ _ _ _ _ _ q
  have rc : codeAny (model X.prog X.w) X.A (.call (.ref g) ⟨us, []⟩) (CR (L2.CX X.prog X.w) X.stack X.prog X.w H2 s2 Q (E σ)) s2 := by
    have hus : us.length = qs.length := by rw [← r.length]; exact hl
    refine run_ofS (N := N) (ps := qs) (us := us) (vs := vs) (k := k + 1) lk hcd S (hr.mono (Nat.le_refl _)) I2.env0 (by have := bd' s2 us I2.kIn (by simpa using hus); simpa using this) r hl fun hr' => ?_
    exact run cdv X.A X.stack s2 H2 vs Q (E σ) f d (lq X) _ (hr'.mono hm') (actR_of I2 L o1 o2 o3 (hb _ _ _ _ _) hr' body) o4 q
  refine wpAny_call (codeAny_mono rc fun rr s' hq => ?_)
  cases rr with
  | error e => exact hx σ pins H2 s2 e s' I2 hq
  | ok fl =>
    cases fl with
    | ret u => exact I2.after hq
    | next => exact hq.elim
    | brk => exact hq.elim
    | cont => exact hq.elim
end
theorem ActR.c0 {Z : Cx} {n : Nat} {f d : Addr} {q : Str} {tl : XK → List V → Hp → VK → Prop} (A : ActR Z n f d q tl) (hn : n = 0) {E : L2.St → XK} {a : Str} {i : Nat} {p1 p2 : Pos} (hx : ∀ σ, PassesAt (L2.CX Z.prog Z.w) Z σ (E σ)) (hN : Z.N[i]? = some a) (hv : Vis Z.env.scope a)
    (hd : (a == ("__debug__" : Str)) = false := by decide) (hcd : (a == ("__classdict__" : Str)) = false := by decide) : PE Z (.Call (.Name a p1) [] [] p2) (tAct f d q n i tl E tNil) := A.a0 hn Z.pn Z.xe E a i p1 p2 hx hN hv hd hcd
theorem ActR.c1 {Z : Cx} {n : Nat} {f d : Addr} {q : Str} {tl : XK → List V → Hp → VK → Prop} (A : ActR Z n f d q tl) {E : L2.St → XK} {a : Str} {i : Nat} {e : Expr} {es : List Expr} {ta : TA} {p1 p2 : Pos} (hx : ∀ σ, PassesAt (L2.CX Z.prog Z.w) Z σ (E σ)) (hN : Z.N[i]? = some a) (hv : Vis Z.env.scope a) (ha : PA Z (e :: es) ta)
    (hd : (a == ("__debug__" : Str)) = false := by decide) (hcd : (a == ("__classdict__" : Str)) = false := by decide) (he : starEach (e :: es) Z.env = (false, eval e Z.env) :: starEach es Z.env := by rfl) (hpl : (backTo p2 (starEach es Z.env)).any (·.1) = false := by rfl) :
    PE Z (.Call (.Name a p1) (e :: es) [] p2) (tAct f d q n i tl E ta) := A.a1 Z.pn Z.xe E a i e es ta p1 p2 hx hN hv hd hcd ha he hpl
theorem ActR.t0 {Z : Cx} {n : Nat} {f d : Addr} {q : Str} {tl : XK → List V → Hp → VK → Prop} (A : ActR Z n f d q tl) (hn : n = 0) {pn : List (Addr × Obj)} {xe : Value → Shared → Prop} {W : WX} (tk : Takes (Z.tr pn xe) W) {a : Str} {i : Nat} {p1 p2 : Pos} (hN : Z.N[i]? = some a) (hv : Vis Z.env.scope a)
    (hd : (a == ("__debug__" : Str)) = false := by decide) (hcd : (a == ("__classdict__" : Str)) = false := by decide) : PE (Z.tr pn xe) (.Call (.Name a p1) [] [] p2) (tAct f d q n i tl (fun σ c o H => W c o σ H) tNil) := A.a0 hn pn xe _ a i p1 p2 (fun σ => passAt tk σ) hN hv hd hcd
theorem passes_no {X : Cx} (σ : L2.St) : PassesAt (L2.CX X.prog X.w) X σ (fun _ _ _ => False) := fun _ _ _ _ _ _ x => by
  obtain ⟨_, _, _, _, _, _, _, _, _, _, _, _, z⟩ := x
  exact z.elim
end Lmy
namespace Wx
open PySem PySem.Spec PyProof.Rows L2 Evl Hn RZ Lmy LamX
variable [TabC]
abbrev WAc := List PV → (PV → Prop) → (En → Fs → Prop) → Prop
section
variable (K : PySem.W.Frag) (d : Cn → Addr) (ea : En → Option Addr)
def TlOk (cv : List V) (cx : List PV) (tl : XK → List V → Hp → VK → Prop) (wa : WAc) : Prop := ∀ (F : Fz) (H : Hp) (us : List V) (ys : List PV) (Q : VK) (P : PV → Prop) (EX : En → Fs → Prop) (E : XK), Dom F H → Rvs K d F H cv cx → Rvs K d F H us ys → wa ys P EX →
  (∀ x v F' H', Step F H F' H' → Rv K d F' H' v x → P x → Q v H') → (∀ n C fs o F' H', ea n = some C → Step F H F' H' → XdOk K d H n F' H' o fs → EX n fs → E (.ref C) o H') → tl E us H Q
def spG (R : RR) (w : PV → WAc → WFX) : Addr → Addr → Str → (XK → List V → Hp → VK → Prop) → Sp := fun fa dd q tl vs H Q E => ∃ (F : Fz) (xs : List PV) (P : PV → Prop) (EX : En → Fs → Prop) (wa : WAc) (cv : List V) (cx : List PV), Dom F H ∧ Rvs K d F H vs (xs ++ [.fnv ⟨fa, dd, q, cv⟩ cx]) ∧
  w (.fnv ⟨fa, dd, q, cv⟩ cx) wa (xs ++ [.fnv ⟨fa, dd, q, cv⟩ cx]) P EX ∧ TlOk K d ea cv cx tl wa ∧ (∀ x v F' H', Step F H F' H' → R F H F' H' v x → P x → Q v H') ∧
  ∀ n C fs o F' H', ea n = some C → Step F H F' H' → XdOk K d H n F' H' o fs → EX n fs → E (.ref C) o H'
end
section
variable {K : PySem.W.Frag} {d : Cn → Addr} {ea : En → Option Addr} {F F' F0 F1 F2 : Fz} {H H' H0 H1 H2 : Hp} {v u : V} {ts ts' ts1 ts2 bt ct tx : List Tag} {R : RR} {te : TE} {we : WE} {σ : L2.St} {ρ : List PV} {W : WX} {EX : List PV → En → Fs → Prop}
def wAct (EX : List PV → En → Fs → Prop) (i : Nat) (z : PV) (wa : WAc) (wr : WA) : WE := fun ρ P => ρ.getD i .non = z ∧ wr ρ fun ys => wa ys P (EX ρ)
theorem sim_act {fa dd : Addr} {q : Str} {n i : Nat} {tl : XK → List V → Hp → VK → Prop} {cv : List V} {cx : List PV} {wa : WAc} {ar : TA} {wr : WA} (hi : ts[i]? = some .sh) (c : Wx.cv ts tx = true) (nx : noX tx = true) (tk : TlOk K d ea cv cx tl wa) (hn : ∀ ys P E, wa ys P E → ys.length = n)
    (ha : @SimA _ (xcOf K d ea W EX tx) K d ts ar wr) : @Sim _ (xcOf K d ea W EX tx) K d (rS K d) ts (tAct fa dd q n i tl (fun σ c o H => W c o σ H) ar) (wAct EX i (.fnv ⟨fa, dd, q, cv⟩ cx) wa wr) := fun H0 F0 F H σ ρ Q P E ⟨hz, hw⟩ k => by
  obtain ⟨v, x, h1, h2, h3⟩ := E.base.sh i hi
  have ex : x = .fnv ⟨fa, dd, q, cv⟩ cx := by rw [← hz, List.getD_eq_getElem?_getD, h2]; rfl
  subst ex
  cases h3 with
  | fnv g1 g2 =>
    refine ⟨h1, ha H0 F0 F H σ ρ _ _ E hw fun xs vs F1 H1 s1 r1 p1 => ⟨?_, s1.ex.at g1, ?_⟩⟩
    · rw [r1.length]
      exact hn _ _ _ p1
    · exact tk F1 H1 vs xs Q P (EX ρ) _ s1.dm (g2.step s1) r1 p1 (fun x v F' H' s r p => k x v F' H' (s1.trans s) r p) fun n C fs oo F' H' hn s xd ex => xc_goes ((E.step_ s1).step_ s) c nx hn (xd.back (E.step_ s1).base.st.ex) ex
def SimL [XC] (K : PySem.W.Frag) (d : Cn → Addr) (ts : List Tag) (q : Str) (lt : LT) (wa : WA) : Prop := ∀ (H0 : Hp) (F0 F : Fz) (H : Hp) (σ : L2.St) (ρ : List PV) (R : List V → Addr → Addr → Hp → Prop) (P : List PV → Prop), EnvR K d ts H0 F0 F H σ ρ → wa ρ P →
  (∀ xs vs f dd F' H', Step F H F' H' → Rvs K d F' H' vs xs → H' dd = some (CodeO dd q) → P xs → R (vs ++ [.ref f]) f dd H') → lt σ H R
theorem simL_last [XC] {q : Str} : SimL K d ts q (tLast TabC.T q) wNil := fun H0 F0 F H σ ρ R P E hw k => ⟨E.dm.tb, fun f dd H2 en ed tb c => by
  have xn : Xn H H2 := ⟨fun a o h n => en a o h (fun ps e => by rw [e] at n; exact Bool.noConfusion n), ed⟩
  exact k [] [] f dd F H2 (Step.tox E.dm ⟨xn, tb⟩) .nil c hw⟩
def capV : List Tag → L2.St → List V
  | .sh :: ts, o :: σ => o.getD .non :: capV ts σ
  | _ :: ts, _ :: σ => .non :: capV ts σ
  | _, _ => []
def capP : List Tag → List PV → List PV
  | .sh :: ts, x :: ρ => x :: capP ts ρ
  | _ :: ts, _ :: ρ => .non :: capP ts ρ
  | _, _ => []
theorem cap_rvs : ∀ {ts : List Tag} {σ : L2.St} {ρ : List PV}, σ.length = ts.length → ρ.length = ts.length → (∀ i : Nat, ts[i]? = some .sh → ∃ v x, σ[i]? = some (some v) ∧ ρ[i]? = some x ∧ Rv K d F H v x) → Rvs K d F H (capV ts σ) (capP ts ρ)
  | [], [], [], _, _, _ => .nil
  | t :: ts, o :: σ, x :: ρ, h1, h2, h => by
    have ih := cap_rvs (ts := ts) (σ := σ) (ρ := ρ) (by simpa using h1) (by simpa using h2) fun i hi => h (i + 1) hi
    cases t with
    | sh =>
      obtain ⟨v, y, g1, g2, g3⟩ := h 0 rfl
      cases g1
      cases g2
      exact .cons g3 ih
    | _ => exact .cons .non ih
theorem cap_get : ∀ {ts : List Tag} {σ : L2.St} {ρ : List PV}, Rvs K d F H (capV ts σ) (capP ts ρ) → σ.length = ts.length → ρ.length = ts.length → (∀ i : Nat, ts[i]? = some .sh → ∃ v, σ[i]? = some (some v)) → ∀ i : Nat, ts[i]? = some .sh → ∃ v x, σ[i]? = some (some v) ∧ ρ[i]? = some x ∧ Rv K d F H v x
  | [], _, _, _, _, _, _, i, h => by cases h
  | t :: ts, o :: σ, x :: ρ, r, h1, h2, hv, i, h => by
    cases i with
    | zero =>
      cases h
      obtain ⟨v, e⟩ := hv 0 rfl
      cases e
      cases r with
      | cons a b => exact ⟨v, x, rfl, rfl, a⟩
    | succ i =>
      have rr : Rvs K d F H (capV ts σ) (capP ts ρ) := by
        cases t <;> cases r <;> assumption
      exact cap_get rr (by simpa using h1) (by simpa using h2) (fun i hi => hv (i + 1) hi) i h
def lamTs (ts : List Tag) (n : Nat) : List Tag := nos ts ++ List.replicate n .sh
theorem lamTs_get {n i : Nat} {t : Tag} (h : (lamTs ts n)[i]? = some t) : (i < ts.length ∧ ((t = .sh ∧ ts[i]? = some .sh) ∨ t = .no)) ∨ (ts.length ≤ i ∧ i < ts.length + n ∧ t = .sh) := by
  unfold lamTs at h
  have l : (nos ts).length = ts.length := by unfold nos; rw [List.length_map]
  by_cases hi : i < ts.length
  · rw [List.getElem?_append_left (by omega)] at h
    exact .inl ⟨hi, nos_get h⟩
  · rw [List.getElem?_append_right (by omega), List.getElem?_replicate, l] at h
    split at h
    · cases h
      exact .inr ⟨by omega, by omega, rfl⟩
    · cases h
def wLam (EX : List PV → En → Fs → Prop) (n : Nat) (w : PV → WAc → WFX) (wb : (List PV → En → Fs → Prop) → WE) (wr : WA) : WE := fun ρ P => wr ρ fun xs => ∀ z : PV, w z (fun ys P' EX' => ys.length = n ∧ wb (fun _ => EX') (ρ ++ ys) P') (xs ++ [z]) P (EX ρ)
theorem tl_of {n : Nat} {t : XK → TE} {wb : (List PV → En → Fs → Prop) → WE} {σ : L2.St} {ρ : List PV} (B : ∃ H0 F0 F H, EnvB K d ts H0 F0 F H σ ρ) (txl : noX tx = true)
    (hb : ∀ (E' : XK) (EX : List PV → En → Fs → Prop), @Sim _ (xcOf K d ea (fun c o _ H' => E' c o H') EX tx) K d (rS K d) (lamTs ts n) (t E') (wb EX)) : TlOk K d ea (capV ts σ) (capP ts ρ) (fun E' us H' Q' => t E' (σ ++ us.map some) H' Q') (fun ys P' EX' => ys.length = n ∧ wb (fun _ => EX') (ρ ++ ys) P') := by
  obtain ⟨H0, F0, F, H, B⟩ := B
  intro F1 H1 us ys Q P EX E dm rc ru ⟨hl, hw⟩ k kE
  have lu : us.length = n := by rw [ru.length]; exact hl
  have l : (lamTs ts n).length = ts.length + n := by unfold lamTs nos; rw [List.length_append, List.length_map, List.length_replicate]
  have get := cap_get rc B.ls B.lr fun i hi => by obtain ⟨v, _, h, _⟩ := B.sh i hi; exact ⟨v, h⟩
  have E1 : EnvB K d (lamTs ts n) H1 F1 F1 H1 (σ ++ us.map some) (ρ ++ ys) := by
    refine ⟨Step.refl dm, by rw [l, List.length_append, List.length_map, B.ls, lu], by rw [l, List.length_append, B.lr, hl], fun i h => ?_, fun i h => ?_, fun i j a h => ?_, fun i h => ?_, fun i a h => ?_⟩
    · rcases lamTs_get h with ⟨h1, h2⟩ | ⟨h1, h2, _⟩
      · rcases h2 with ⟨_, h2⟩ | h2
        · obtain ⟨v, x, g1, g2, g3⟩ := get i h2
          exact ⟨v, x, by rw [List.getElem?_append_left (by rw [B.ls]; exact h1)]; exact g1, by rw [List.getElem?_append_left (by rw [B.lr]; exact h1)]; exact g2, g3⟩
        · cases h2
      · obtain ⟨v, hv⟩ : ∃ v, us[i - ts.length]? = some v := ⟨_, List.getElem?_eq_getElem (by omega)⟩
        obtain ⟨x, hx, rx⟩ := ru.getV hv
        refine ⟨v, x, ?_, ?_, rx⟩
        · rw [List.getElem?_append_right (by rw [B.ls]; exact h1), B.ls, List.getElem?_map, hv]; rfl
        · rw [List.getElem?_append_right (by rw [B.lr]; exact h1), B.lr]; exact hx
    · rcases lamTs_get h with ⟨_, ⟨h2, _⟩ | h2⟩ | ⟨_, _, h2⟩ <;> cases h2
    · rcases lamTs_get h with ⟨_, ⟨h2, _⟩ | h2⟩ | ⟨_, _, h2⟩ <;> cases h2
    · rcases lamTs_get h with ⟨_, ⟨h2, _⟩ | h2⟩ | ⟨_, _, h2⟩ <;> cases h2
    · rcases lamTs_get h with ⟨_, ⟨h2, _⟩ | h2⟩ | ⟨_, _, h2⟩ <;> cases h2
  have nx : noX (lamTs ts n) = true := List.all_eq_true.mpr fun t ht => by
    obtain ⟨i, hi⟩ := List.mem_iff_getElem?.mp ht
    rcases lamTs_get hi with ⟨_, ⟨h2, _⟩ | h2⟩ | ⟨_, _, h2⟩ <;> subst h2 <;> rfl
  refine hb E (fun _ => EX) H1 F1 F1 H1 (σ ++ us.map some) (ρ ++ ys) Q P (E1.to ?_ nx) hw fun x v F' H' s r p => k x v F' H' s r p
  exact fun m C fs o F' H' σ' ρ' hm E2 xd ex => kE m C fs o F' H' hm E2.base.st xd ex
theorem sim_lam0 {X : XC} {q : Str} {n : Nat} {lt : LT} {t : XK → TE} {w : PV → WAc → WFX} {wb : (List PV → En → Fs → Prop) → WE} {wr : WA} {txb : List Tag} (o : ROk R) (ha : SimL K d ts q lt wr) (nb : noX txb = true)
    (hb : ∀ (E' : XK) (EX : List PV → En → Fs → Prop), @Sim _ (xcOf K d ea (fun c o _ H' => E' c o H') EX txb) K d (rS K d) (lamTs ts n) (t E') (wb EX)) :
    Sim K d R ts (tLamC lt q (spG K d ea R w) (fun _ _ _ _ => False) t) (wLam noEX n w wb wr) := fun H0 F0 F H σ ρ Q P E hw k =>
  ha H0 F0 F H σ ρ _ _ E hw fun xs vs f dd F1 H1 s1 r1 c1 p1 => by
    have E1 := E.step_ s1
    have rv : Rv K d F1 H1 (.ref f) (.fnv ⟨f, dd, q, capV ts σ⟩ (capP ts ρ)) := .fnv (z := ⟨f, dd, q, capV ts σ⟩) c1 (cap_rvs E1.base.ls E1.base.lr E1.base.sh)
    exact ⟨F1, xs, P, noEX ρ, _, _, _, s1.dm, r1.append (.cons rv .nil), p1 _, tl_of ⟨_, _, _, _, E1.base⟩ nb hb, fun x v F' H' s r p => k x v F' H' (s1.trans s) (o.back s1 r) p, fun _ _ _ _ _ _ _ _ _ q => q.elim⟩
end
section
variable {P : Program} {w : World} {K : PySem.W.Frag} {mg : Str → Option Value} {base : Heap} {d : Cn → Addr} {ea : En → Option Addr} {R : RR}
theorem giv_of {x qual : Str} {st : Stmt} {g : Addr} {N ps : List Str} {k n m na : Nat} {ws : PV → WAc → (List PV → En → Fs → Prop) → WS} {tx ts' : List Tag} (Df' : Df K x qual st g ps) (S : FnScope N ps (defScope st)) (hn : ps.length = n) (hN : N.length = n + m) (hR : RNon K d R)
    (hbody : ∀ (cdv : Value) (A : Around) (outer : List Env) (s : Shared) (H : Hp) (E : XK) (fa dd : Addr) (q : Str) (tl : XK → List V → Hp → VK → Prop), Room k (A.deeper (envOfC qual (defScope st) s.heap.objs.size g cdv)) → ActR (cxOf (L2.CX P w) P w K mg base N qual (defScope st) g cdv A outer s H E) na fa dd q tl →
      ∃ t, PSs (cxOf (L2.CX P w) P w K mg base N qual (defScope st) g cdv A outer s H E) (defBody st) t ∧ ∀ cv cx wa EX, TlOk K d ea cv cx tl wa → (∀ ys P E, wa ys P E → ys.length = na) → @SimS _ (xcOf K d ea (fun c o _ H' => E c o H') EX tx) K d R [] [] (tags n m) t (ws (.fnv ⟨fa, dd, q, cv⟩ cx) wa EX) ts') :
    Giv P w K mg base k g ps na (spG K d ea R fun z wa xs P EX => (∀ ys P E, wa ys P E → ys.length = na) ∧ wDefX n m (ws z wa) xs P EX) := by
  refine ⟨x, qual, st, N, Df', S, fun fa dd q tl vs H Q E h => ?_, fun cdv A out s H vs Q E fa dd q tl hr act hc h => ?_⟩
  · obtain ⟨F, xs, P, EX, wa, cv, cx, dm, r, ⟨_, hl, _⟩, _⟩ := h
    rw [r.length, hl, hn]
  · obtain ⟨t, D, sim⟩ := hbody cdv A out s H E fa dd q tl hr act
    obtain ⟨F, xs, P, EX, wa, cv, cx, dm, r, ⟨hna, hl, hw⟩, tk, k', kE⟩ := h
    exact ⟨t, D, sim cv cx wa (fun _ => EX) tk hna H F F H _ _ _ _ (env_start (X := xcOf K d ea (fun c o _ H' => E c o H') (fun _ => EX) tx) dm r hl hN fun n C fs o F' H' σ' ρ' hn E1 xd ex => kE n C fs o F' H' hn E1.base.st xd ex) hw (fun F' H' σ' ρ' g E' p => k' .non .non F' H' E'.base.st (hR _ _ _ _) p) (fun x v F' H' s rr p => k' x v F' H' s rr p) (fun _ _ _ _ _ _ q => q.elim) (fun _ _ _ _ _ _ q => q.elim)⟩
theorem okwGC_of [XC] {x qual : Str} {st : Stmt} {f c : Addr} {N ps : List Str} {k n m : Nat} {ws : WS} {ts' : List Tag} (F : DfC K x qual st f ps c) (S : FnScope N ps (defScope st)) (hn : ps.length = n) (hN : N.length = n + m) (hR : RNon K d R) (hx : ∀ F H, XC.h F H)
    (hbody : ∀ (A : Around) (outer : List Env) (s : Shared) (H : Hp) (E : XK), NoG A s → Room k (A.deeper (envOfC qual (defScope st) s.heap.objs.size f (.ref c))) →
      ∃ t, PSs (cxOf CX0 P w K mg base N qual (defScope st) f (.ref c) A outer s H E).nox (defBody st) t ∧ SimS K d R [] [] (tags n m) t ws ts') : OkP NoG P w K mg base (k + 1) f ps (spW K d R (wDef n m ws)) :=
  okPC_of F S (fun vs H Q E h => by
    obtain ⟨F, xs, P, dm, r, ⟨hl, _⟩, _⟩ := h
    rw [r.length, hl, hn]) fun A outer s H vs Q E hg hr h => by
    obtain ⟨t, D, sim⟩ := hbody A outer s H E hg hr
    obtain ⟨F, xs, P, dm, r, ⟨hl, hw⟩, k⟩ := h
    exact ⟨t, D, sim H F F H _ _ _ _ (env_start dm r hl hN (hx _ _)) hw (fun F' H' σ' ρ' g E' p => k .non .non F' H' E'.st (hR _ _ _ _) p) (fun x v F' H' s rr p => k x v F' H' s rr p) (fun _ _ _ _ _ _ q => q.elim) (fun _ _ _ _ _ _ q => q.elim)⟩
end
theorem mem_at {α : Type} {L : List α} {i : Nat} {x : α} (h : L[i]? = some x) : x ∈ L := List.mem_of_getElem? h
theorem tab_tu {L : List (Addr × Str)} {i : Nat} {a : Addr} {q : Str} (nd : decide ((L.map (·.1)).Nodup) = true) (h : L[i]? = some (a, q)) : ∀ p ∈ L, p.1 = a → p.2 = q := fun p hp e => by
  have nd := of_decide_eq_true nd
  obtain ⟨j, hj, ej⟩ := List.mem_iff_getElem.mp hp
  obtain ⟨hi, ei⟩ := List.getElem?_eq_some_iff.mp h
  have pw := List.pairwise_iff_getElem.mp nd
  have : i = j := by
    rcases Nat.lt_trichotomy i j with z | z | z
    · exact absurd (by rw [List.getElem_map, List.getElem_map, ei, ej, e]) (pw i j (by rw [List.length_map]; exact hi) (by rw [List.length_map]; exact hj) z)
    · exact z
    · exact absurd (by rw [List.getElem_map, List.getElem_map, ei, ej, e]) (pw j i (by rw [List.length_map]; exact hj) (by rw [List.length_map]; exact hi) z)
  subst this
  rw [ei] at ej
  rw [← ej]
theorem law_tellsT {K : PySem.W.Frag} {d : Cn → Addr} {R : RR} {w : WF} {cs : List (Addr × Addr)} (ht : ∀ q ∈ TabC.T, ∃ p ∈ cs, p.2 = q.1) (h : ∀ ns : List Int, ns.length ≤ 63 → w [.scr ns] fun x => x = .bl true) (hR : ∀ F H F' H' v, R F H F' H' v (.bl true) → v = .bl true) :
    ∀ vs H Q E, ((∀ p ∈ cs, H p.2 = some (.tbl #[])) ∧ spLaw K vs H Q E) → spW K d R w vs H Q E := fun vs H Q E ⟨q1, q2⟩ => law_tells h hR vs H Q E (fun q hq => by
  obtain ⟨p, hp, e⟩ := ht q hq
  rw [← e]
  exact .nil (q1 p hp)) q2
end Wx
namespace Hn
open PySem PySem.Spec PyProof.Rows L2 Evl
def rCount (K : PySem.W.Frag) : V → List V → Hp → VK → Prop := fun x xs H Q => ∃ (a : Addr) (ys : List V) (y : V), x = V.ref a ∧ xs = [y] ∧ SqL K H a ys ∧ flatV y = true ∧ ys.all flatV = true ∧ Q (.int ((ys.countP fun z => eqV z y : Nat) : Int)) H
theorem count_vals {y : V} : ∀ {ys : List V} {us : List Value}, Vals ys us → ys.all flatV = true → us.countP (eqU y) = ys.countP fun z => eqV z y
  | _, _, .nil, _ => rfl
  | z :: ys, u :: us, .cons r t, f => by
    rw [List.all_cons, Bool.and_eq_true] at f
    rw [List.countP_cons, List.countP_cons, count_vals t f.2, eqU_of r f.1]
theorem mt_countL {X : Cx} : MtR X "list.count" (rCount X.K) := by
  intro pins s σ H x xs v us Q I rx rxs h
  obtain ⟨a, ys, y, rfl, rfl, hs, fy, fys, q⟩ := h
  cases rx
  cases rxs with
  | cons ry rt =>
    rename_i uy ut
    cases rt
    obtain ⟨its, rv, ⟨⟨cls, dd, data, sl⟩, n, ho, hc, hdn, hd⟩, hlen⟩ := I.list hs
    simp only at hc hd
    subst hc hd
    refine call_meets PySem.F.slot_list_count ⟨_, ho, rfl⟩ PySem.F.entry_list_count (PySem.F.args_list_count_2 _ _)
      (SeqAt.list_countAt a its.toArray n dd sl uy (eqU y)) ⟨ho, fun u' hu' => mem_eqAt ry fy rv fys u' (by simpa using hu'), ?_⟩
    rw [show its.toArray.toList = its from rfl, count_vals rv fys]
    exact ⟨.int _, H, I.tok _, ⟨_, rfl⟩, q⟩
theorem k_count {X : Cx} {K : PySem.W.Frag} (h : X.K = K) : MtR X "list.count" (rCount K) := h ▸ mt_countL
end Hn
namespace Wx
open PySem PySem.Spec PyProof.Rows L2 Evl Hn
variable [TabC]
def wCountP (ys zs : List PV) (P : PV → Prop) : Prop := ∃ (ws : List V) (w : V) (x : PV), zs = [x] ∧ flatPs ys = some ws ∧ flatP x = some w ∧ P (.int ((ws.countP fun z => eqV z w : Nat) : Int))
def wCount (wo : WE) (wa : WA) : WE := fun ρ P => wo ρ fun y => ∃ ys, y = .lst ys ∧ wa ρ fun zs => wCountP ys zs P
section
variable [XC]
variable {K : PySem.W.Frag} {d : Cn → Addr} {ts : List Tag}
theorem sim_count {T : String} {to : TE} {wo : WE} {ar : TA} {wr : WA} (hT : T = "list") (ho : Sim K d (rW K d) ts to wo) (ha : SimAW K d ts ar wr) : Sim K d (rN K d) ts (tBM K T (rCount K) to ar) (wCount wo wr) := fun H0 F0 F H σ ρ Q P E hw k =>
  ho H0 F0 F H σ ρ _ _ E hw fun y v F1 H1 s1 r1 ⟨ys, ey, h1⟩ => by
    subst hT
    subst ey
    obtain ⟨p, vs, rfl, g1, g2⟩ := Rw.lst r1
    refine ⟨ty_lst g1, ha H0 F0 F1 H1 σ ρ _ _ (E.step s1) h1 fun zs us F2 H2 s2 r2 ⟨ws, w, x, e2, h3, h4, h8⟩ => ?_⟩
    subst e2
    obtain ⟨q, rfl, r3⟩ := r2.one
    obtain ⟨e, fl⟩ := g2.flat2 h3
    subst e
    have e3 := r3.flat h4
    subst e3
    exact ⟨p, vs, q, rfl, rfl, .inl (.inl (s2.ex.at g1)), flatP_V h4, fl, k (.int _) _ F2 H2 (s1.trans s2) (.inl ⟨trivial, .int _⟩) h8⟩
end
end Wx
namespace Hn
open PySem PySem.W PySem.Calls PyProof.Rows PySem.HandSPX
def eA0 (p1 : Pos) : Arguments := { posonlyargs := [], args := [{ arg := "self", annotation := none, pos := p1 }], vararg := none, kwonlyargs := [], kw_defaults := [], kwarg := none, defaults := [] }
def eB0 (p0 p1 p2 p4 p5 : Pos) : List Stmt := [.Expr (.Call (.Attribute (.Call (.Name "super" p0) [] [] p1) "__init__" p2) [] [] p4) p5]
def CallEq0 (a0 a1 a2 a4 : Pos) (env : Env) : Prop := ∃ pl : Sem Bool, eval (.Call (.Attribute (.Call (.Name "super" a0) [] [] a1) "__init__" a2) [] [] a4) env = (do
  let ov ← attributeBase (.Call (.Name "super" a0) [] [] a1) "__init__" env (eval (.Call (.Name "super" a0) [] [] a1) env)
  standAt a2.atName
  let (f, first) ← holding [ov] (getMethod ov "__init__" pl)
  callWith a4 f first (backTo a4 (starEach [] env)) [])
structure ErrC0 (P : Program) (K : Frag) (mg : Str → Option Value) (x : Str) (C fI : Addr) : Prop where
  gC : mg x = some (.ref C)
  cls : ∃ nm q N bs bm sn sub ab col dd k0 k1 k2 k3 k5, K.lookup C = some (excClassObj nm q C N bs bm true sn sub ab col dd k0 k1 k2 k3 k5 "ValueError.__new__") ∧ refsVE bm = true
  ga : findIn K (.ref C) "__getattribute__" = some (some (.builtin "BaseException.__getattribute__"))
  gg : findIn K (.ref C) "__getattr__" = some none
  iC : findIn K (.ref C) "__init__" = some (some (.ref fI))
  tC : typeIn K (.ref fI) = some (.type "function")
  kC : keepIn K (.ref C) = true
  exC : subIn K (.ref C) (.type "BaseException") = some true
  vB : subIn K (.ref C) (.type "ValueError") = some true
  tyC : typeIn K (.ref C) = some (.type "type")
  hdC : hasDictIn K C = true
  mr : mroIn K C (.ref C) = some true
  sup : ks_superIn K C C "__init__" = some (some (.builtin "ValueError.__init__"))
  noT : nsIn K cStatics "thirdparty.any" = some none
  noS : mg "super" = none
  fn : ∃ (qual : Str) (names : List (Str × NameKind)) (oc : Value) (od : Option Addr) (doc pm : Value) (an : Option Addr) (cda cc : Addr) (ct : Value) (osl : Array (Option Value)) (p1 a0 a1 a2 a4 a5 : Pos) (ccl cl : Value) (cdd cld : Option Addr) (vs : Array Value) (ccs csl : Array (Option Value)) (file : Str) (tf : Tok),
    K.lookup fI = some ⟨oc, od, .func (ksFn "__init__" qual (eA0 p1) (eB0 a0 a1 a2 a4 a5) (eS names) .none .none doc pm an (.ref cda) ct cc), osl⟩ ∧ codeIn K (.ref cda) qual = true ∧ K.lookup cda = some ⟨ccl, cdd, .fields vs, ccs⟩ ∧ vs[2]? = some (.str file tf) ∧ ((P.main.file : Str) == file) = true ∧
    K.lookup cc = some ⟨cl, cld, .cell (some (.ref C)), csl⟩ ∧ names.lookup ("super" : Str) = some .globalImplicit ∧ names.lookup ("__class__" : Str) = some .free ∧ names.lookup ("self" : Str) = some .local ∧ (∀ x ∈ names, x.2 ≠ .cell) ∧
    (P.main.scope.names.lookup ("super" : Str)).isSome = false ∧ (∀ L, CallEq0 a0 a1 a2 a4 (ksEnv qual (eS names) L fI (.ref cda) cc)) ∧
    (∀ (s : Shared) (e : Value), BindsTo s (ksFn "__init__" qual (eA0 p1) (eB0 a0 a1 a2 a4 a5) (eS names) .none .none doc pm an (.ref cda) ct cc) ⟨[e], []⟩ [("self", e)])
structure InitE0 (h h' : Heap) (x C t1 : Addr) : Prop where
  keep : ∀ b o, b ≠ x → h.get? b = some o → h'.get? b = some o
  obj : h'.get? x = some (excO C t1)
section
variable {P : Program} {w : World} {A : Around} {E : Value → Shared → Prop} {R : Result → Shared → Prop} {s : Shared} {K : Frag} {mg mb : Str → Option Value} {x : Str} {C fI : Addr}
theorem err_init0 (T : ErrC0 P K mg x C fI) {e t0 : Addr} (X : K.In s.heap) (G : s.heap.Ns mainGlobals mg) (Bt : s.heap.Ns builtinsNs mb) (hb : mb "super" = some (.type "super")) (hlim : s.heap.NoLimit) (hx : s.heap.get? e = some (excO C t0)) (hKe : K.lookup e = none) (hroom : A.depth < recursionLimit)
    (hq : ∀ h' tk t1, InitE0 s.heap h' e C t1 → R (.ok (.ret .none)) { s with heap := h', toks := tk }) :
    codeAny (model P w) A (.call (.ref fI) ⟨[.ref e], []⟩) R s := by
  obtain ⟨qual, names, oc, od, doc, pm, an, cda, cc, ct, osl, p1, a0, a1, a2, a4, a5, ccl, cl, cdd, cld, vs, ccs, csl, file, tf, ho, hcd, hcda, hvs, hfile, hcell, hks, hkc, hksf, hnc, htop, hceq, hbd⟩ := T.fn
  obtain ⟨nm, q, N, bs, bm, sn, sub, ab, col, dd, k0, k1, k2, k3, k5, hC, hbm⟩ := T.cls
  have hcl : clsIn K C = some { name := nm, bases := bs, mro := .ref C :: bm, ns := N, qualname := q, hasDict := true, slotNames := sn, subclasses := sub, abstract := ab, collection := col, hasDel := false } := by unfold clsIn; rw [hC] <;> rfl
  refine ks_codeAny_call_defAt (fd := ksFn "__init__" qual (eA0 p1) (eB0 a0 a1 a2 a4 a5) (eS names) .none .none doc pm an (.ref cda) ct cc) (body := eB0 a0 a1 a2 a4 a5) (binds := [("self", .ref e)]) hroom (X _ _ ho) rfl hlim (codeRec_of X hcd) rfl ?_ hnc ?_ (fun h₁ hn k => ?_) rfl rfl rfl
  · exact hbd _ _
  · intro y hy
    simp only [List.mem_cons, List.not_mem_nil, or_false] at hy
    rcases hy with rfl
    exact hksf
  have X₁ : K.In h₁ := X.keeps k
  have hx₁ := k _ _ hx
  have hCe : e ≠ C := ks_ne (ox := excO C t0) (odx := none) X ⟨hx, rfl, rfl, trivial⟩ hcl
  have hself : (fun y => ([("self", Value.ref e)] : List (Str × Value)).reverse.lookup y) "self" = some (.ref e) := by
    show List.lookup ("self" : Str) [("self", Value.ref e)] = _
    simp only [List.lookup, beq_self_eq_true]
  have hI : ∀ h', (∀ b o, h₁.get? b = some o → h'.get? b = some o) → Looks (model P w) h' (isInstance (.ref e) (.type "ValueError")) true := fun h' k' =>
    (InstAt.type (od := none) (ox := excO C t0) ⟨k' _ _ hx₁, rfl, rfl, trivial⟩).andThen (looks_subIn (X₁.keeps k') T.vB)
  obtain ⟨oD, hD1, hD2⟩ : ∃ oD, h₁.get? C = some oD ∧ oD.data = .cls _ := ⟨_, X₁ _ _ hC, rfl⟩
  have hsup := T.sup
  unfold ks_superIn at hsup
  rw [hcl] at hsup
  obtain ⟨sh, sg, sd, st, sos⟩ := s
  obtain ⟨pl, hpl⟩ := hceq sh.objs.size
  refine ks_wpAt_execs_cons (ks_wpAt_Expr_any (ks_wpAt_MethodCall (pl := pl) ?_ hpl))
  refine ks_wpAt_super_base (env := ksEnv qual (eS names) _ fI (.ref cda) cc) hks hkc rfl rfl (X₁ _ _ ho) rfl rfl rfl (X₁ _ _ hcda) rfl hvs hfile htop ?_
  refine ks_loadName_global rfl hks (loadGlobal_builtin (env := ksEnv qual (eS names) _ fI (.ref cda) cc) (G.keeps k) T.noS (Bt.keeps k) hb ⟨rfl, ?_⟩)
  refine wpAny_loadName_free rfl hkc rfl ⟨_, X₁ _ _ hcell, rfl⟩ ?_
  refine wpAny_loadName_local rfl hksf hn hself ?_
  refine ks_wpAny_isType_cls hD1 hD2 ⟨rfl, ?_⟩
  refine ks_wpAny_call_super hD1 hD2 hx₁ rfl (fun c z => nomatch z) (looks_mroIn X₁ T.mr) (fun h₂ hso k₂ => ?_)
  have X₂ : K.In h₂ := X₁.keeps k₂
  refine kxs_getMethod kxs_ValueError hso (looks_opaque X₂ T.noT) (l₀ := .ref C :: bm) (fun A Q E s kk q => wpAny_bind ((looks_clsIn X₂ hcl) A _ E s kk (wpAny_pure q))) rfl X₂ hsup (hI h₂ k₂) hCe rfl ?_
  have k₃ : ∀ b o, h₁.get? b = some o → (h₂.push (kxs_mw "ValueError.__init__" e)).get? b = some o := fun b o z => Heap.get?_push_of_some _ (k₂ b o z)
  have hu : (h₂.push (kxs_mw "ValueError.__init__" e)).get? h₂.objs.size = some (kxs_mw "ValueError.__init__" e) := Heap.get?_push_at rfl rfl
  show wpAny _ _ (callWith a4 (.ref h₂.objs.size) [] (backTo a4 (starEach [] (ksEnv qual (eS names) sh.objs.size fI (.ref cda) cc))) []) _ _ _
  refine kxs_callWith (i := "ValueError.__init__") (x := e) rfl (evalArgs_empty ?_)
  refine ⟨hu, ?_⟩
  refine wpAny_call (codeAny_of_tree ?_)
  show wpAny _ _ (callAny (.ref h₂.objs.size) ⟨[], []⟩) _ _ _
  simp only [callAny]
  refine wpAny_bind (wpAny_load hu ?_)
  simp only [kxs_mw, show (Value.type "method-wrapper" == Value.type "method" || Value.type "method-wrapper" == Value.type "builtin_function_or_method" || Value.type "method-wrapper" == Value.type "method-wrapper") = true by decide, if_true]
  refine KFB.if_so (by decide) ?_
  refine wpAny_bind (check_bound_init F.excBase_ValueError.toExcCallFacts (k₃ _ _ (X₁ _ _ hC)) (k₃ _ _ hx₁) rfl ?_)
  refine wpAny_bind (wpAny_pure (wpAny_pure ?_))
  refine ⟨plainId_quiet F.excBase_ValueError.init.plain _, codeAny_builtin F.excBase_ValueError.initEntry ?_⟩
  refine exc_init_tree (cls := .ref C) (t0 := t0) (dv := none) (c2 := .none) (c3 := .none) (b4 := .bool false) (k₃ _ _ hx₁) (by rw [sizeLine_eq]; exact (by decide : 0 ≤ 16777216)) fun h₄ k₄ e₄ t₄ => ?_
  have k₅ : ∀ b o, b ≠ e → h₁.get? b = some o → h₄.get? b = some o := fun b o hb z => k₄ b o hb (k₃ b o z)
  show PySem.wpAt _ _ _ (execs _ _) _ _ _
  exact wpAt_of_wpAny (wpAny_execs_nil (hq h₄ _ _ ⟨fun b o hb z => k₅ b o hb (k b o z), e₄⟩))
structure ErrMade0 (h h' : Heap) (e C : Addr) : Prop where
  keep : ∀ b o, h.get? b = some o → h'.get? b = some o
  new : h.objs.size ≤ e
  obj : ∃ oe vs, h'.get? e = some oe ∧ oe.cls = .ref C ∧ oe.dict = none ∧ oe.data = .fields vs ∧ vs[1]? = some .none
theorem err_made0 (T : ErrC0 P K mg x C fI) (X : K.In s.heap) (G : s.heap.Ns mainGlobals mg) (Bt : s.heap.Ns builtinsNs mb) (hb : mb "super" = some (.type "super")) (hlim : s.heap.NoLimit) (hroom : A.depth + 1 < recursionLimit)
    (hq : ∀ h' tk e, ErrMade0 s.heap h' e C → R (.ok (.ret (.ref e))) { s with heap := h', toks := tk }) :
    codeAny (model P w) A (.call (.ref C) ⟨[], []⟩) R s := by
  obtain ⟨nm, q, N, bs, bm, sn, sub, ab, col, dd, k0, k1, k2, k3, k5, hC, hbm⟩ := T.cls
  obtain ⟨hp, g, dr, tk, os⟩ := s
  have k : ∀ b o, hp.get? b = some o → ((hp.push (kdv_tup [])).push (excO C hp.objs.size)).get? b = some o := fun b o e => Heap.get?_push_of_some _ (Heap.get?_push_of_some _ e)
  have hget : ((hp.push (kdv_tup [])).push (excO C hp.objs.size)).get? (hp.objs.size + 1) = some (excO C hp.objs.size) := by heap_get
  have hnx : K.lookup (hp.objs.size + 1) = none := by
    cases e : K.lookup (hp.objs.size + 1) with
    | none => rfl
    | some o =>
      have z : hp.get? (hp.objs.size + 1) = some o := X _ _ e
      exact absurd (Nat.lt_of_succ_lt (Heap.lt_size z)) (Nat.lt_irrefl _)
  refine call_own F.excBase_ValueError (fun X => refsVE_contains X bm hbm) (X _ _ hC) (looks_findIn X T.iC) (fun self => bind_fn X self T.tC) (by rw [sizeLine_eq]; exact (by decide : 0 ≤ 16777216)) ?_
  refine err_init0 (s := ⟨(hp.push (kdv_tup [])).push (excO C hp.objs.size), g, dr, tk, os⟩) T (X.keeps k) (G.keeps k) (Bt.keeps k) hb (hlim.keeps k) hget hnx ?_ fun h' tk' t1 ⟨k', hx⟩ => ?_
  · show A.depth + 1 < recursionLimit
    exact hroom
  · have old : ∀ b o, hp.get? b = some o → h'.get? b = some o := fun b o e => k' b o (Nat.ne_of_lt (Nat.lt_succ_of_lt (Heap.lt_size e))) (k b o e)
    exact ⟨rfl, hq h' tk' (hp.objs.size + 1) ⟨old, Nat.le_succ _, ⟨_, _, hx, rfl, rfl, rfl, rfl⟩⟩⟩
end
end Hn
namespace Hn
open PySem PySem.Spec PyProof.Rows L2
section
variable {X : Cx} {C fI : Addr} {x : Str}
def tMkE0 (C : Addr) : L2.St → Hp → XK → Prop := fun σ H Q => Q (.ref C) none H
theorem pmk_err0 {p pos : Pos} {k : Nat} (T : ErrC0 X.prog X.K X.mg x C fI) (hr : Room k X.A) (hg : Gl X x)
    (hxd : (x == ("__debug__" : Str)) = false := by decide) :
    PMk X (.Call (.Name x p) [] [] pos) (tMkE0 C) := by
  intro pins s σ H Q I h
  refine wpAny_Call_Name_kw (ld_glob I hg T.gC ?_ hxd)
  refine PySem.W.callWith_K0 I.kIn T.kC ?_
  show wpAny _ _ (call (.ref C) []) _ _ _
  have hlim := I.nolimit
  obtain ⟨mb, b1, b2⟩ := I.mod.blt
  have G1 := I.mod.glob.keeps I.bk
  have B1 := b1.keeps I.bk
  have hb : mb "super" = some (.type "super") := (b2 "super" (by decide)).trans rfl
  obtain ⟨hp, g, dr, tk, os⟩ := s
  refine wpAny_call (err_made0 T I.kIn G1 B1 hb hlim (by have := hr.dp; omega) fun h' tk' e M => ?_)
  show MkP X pins σ Q (.ref e) ⟨h', g, dr, tk', os⟩
  obtain ⟨oe, fv, hoe, hc, hd, hdat, h1⟩ := M.obj
  obtain ⟨G', g1, g2⟩ := restrict h' fun b => decide (b ≠ e)
  have gk : ∀ b, b ≠ e → G'.get? b = h'.get? b := fun b hb => g1 b (decide_eq_true hb)
  have ge : G'.get? e = none := g2 e (by simp)
  have old : ∀ b o, hp.get? b = some o → G'.get? b = some o := fun b o q => (gk b (Nat.ne_of_lt (Nat.lt_of_lt_of_le (Heap.lt_size q) M.new))).trans (M.keep b o q)
  have J : L2.Inv X pins σ H ⟨G', g, dr, tk', os⟩ := I.kept (t' := tk') old
  refine ⟨e, oe, fv, ⟨G', g, dr, tk', os⟩, _, .ref C, none, rfl, J, fun b o q => ?_, ge, hoe, ⟨hc, hd⟩, hdat, h1, ?_, rfl, I.bare, raises_own T.exC T.tyC, h⟩
  · by_cases hb : b = e
    · have q' : G'.get? b = some o := q
      rw [hb, ge] at q'; cases q'
    · exact (gk b hb).symm.trans q
  · exact I.hok.fresh M.new
def tRaiseE0 (C : Addr) (W : WX) : TS := fun _ σ H => tMkE0 C σ H fun cls d H' => W cls d σ H'
theorem ps_raiseE0 {W : WX} {p pos pos2 : Pos} {k : Nat} (hc : X.calm = true) (T : ErrC0 X.prog X.K X.mg x C fI) (hr : Room k X.A) (tk : Takes X W) (hg : Gl X x)
    (hxd : (x == ("__debug__" : Str)) = false := by decide) :
    PS X (.Raise (some (.Call (.Name x p) [] [] pos)) none pos2) (tRaiseE0 C W) := ps_raise hc tk (pmk_err0 T hr hg hxd)
end
end Hn
namespace Wx
open PySem PySem.Spec PyProof.Rows L2 Evl Hn
variable [TabC]
def wRaise0 (EX : List PV → En → Fs → Prop) (n : En) : WS := fun _ ρ => EX ρ n []
section
variable {K : PySem.W.Frag} {d : Cn → Addr} {ea : En → Option Addr} {R : RR} {ts tx : List Tag} {bt ct : List Tag} {W : WX} {EX : List PV → En → Fs → Prop}
theorem simS_raise0 {n : En} {C : Addr} (hn : ea n = some C) (c : cv ts tx = true) (nx : noX tx = true) : @SimS _ (xcOf K d ea W EX tx) K d R bt ct ts (tRaiseE0 C W) (wRaise0 EX n) ts := fun H0 F0 F H σ ρ D D' E hw n' r b c' =>
  xc_goes E c nx hn (.inl ⟨rfl, rfl⟩) hw
end
end Wx
namespace Wx
open PySem PySem.Spec PyProof.Rows L2 Evl Hn RZ
variable [TabC]
def Hs.es (X : Hs) : List (Ed Stp) := X.rows.map X.ed
def Hs.x0 (X : Hs) (t : Stp4) : Int := match t.1 with
  | .need => t.2 - wd X.s t.2 + 1
  | .room => t.2 + 1
  | .keep => t.2
  | .door => t.2 + 1
theorem ed_mk {X : Hs} (g : X.ok) {t : Stp4} (ht : X.st t) : X.ed t = mkE X.s.length (X.x0 t) (X.l t) (X.v t) (some (t.1.s, t.2)) := by
  obtain ⟨w, h⟩ := t
  obtain ⟨h0, h1, h2⟩ := ht
  have hn := g.cs.ne
  have hm : h % X.n = h := Int.emod_eq_of_lt h0 h1
  have key : ∀ (f l x len v : Int) (s : Stp), f = x % X.n → l = (x + len) % X.n → (⟨f.toNat, l.toNat, (f + len) / X.n, v, s⟩ : Ed Stp) = mkE X.s.length x len v s := fun f l x len v s e1 e2 => by
    unfold mkE
    rw [mdN_int hn]
    subst e1 e2
    rfl
  unfold Hs.ed
  cases w with
  | need =>
    refine key _ _ _ _ _ _ rfl ?_
    show ((h - wd X.s h + 1) % X.n + wd X.s h) % X.n = _
    rw [Int.emod_add_emod]
    rfl
  | room =>
    refine key _ _ _ _ _ _ (b_need X h) ?_
    show (h - wd X.s h + 1) % X.n = (h + 1 + -wd X.s h) % X.n
    congr 1
    omega
  | keep =>
    refine key _ _ _ _ _ _ hm.symm rfl
  | door =>
    refine key _ _ _ _ _ _ rfl ?_
    show h = (h + 1 + -1) % X.n
    rw [show h + 1 + -1 = h from by omega, hm]
theorem es_of {X : Hs} {e : Ed Stp} : e ∈ X.es ↔ ∃ t, X.st t ∧ e = X.ed t := by
  unfold Hs.es
  rw [List.mem_map]
  constructor
  · rintro ⟨t, ht, rfl⟩
    exact ⟨t, (rows_mem t).mp ht, rfl⟩
  · rintro ⟨t, ht, rfl⟩
    exact ⟨t, (rows_mem t).mpr ht, rfl⟩
def Hs.Kp (X : Hs) (P : Int) (A : Int → Int) : Prop := ∀ t, X.st t → X.v t ≤ ext X.s.length P A (X.x0 t + X.l t) - ext X.s.length P A (X.x0 t)
def Hs.Pt (X : Hs) (pa pb : Int) (Y : Nat → Int) : Prop := ∀ e ∈ X.es, Y e.f + gn pa pb e ≤ Y e.l
def Hs.Can (X : Hs) (P : Int) : Prop := ∃ Y, X.Pt P 1 Y
theorem Hs.Kp.mono {X : Hs} (g : X.ok) {P : Int} {A : Int → Int} (h : X.Kp P A) (h0 : A 0 = 0) (hP : A X.n = P) : Hn.mono X.s.length A := fun j hj => by
  have k : X.st (.keep, (j : Int)) := st_keep _ (by omega) (by show (j : Int) < (X.s.length : Int); omega)
  have a := h _ k
  have b : X.v (.keep, (j : Int)) = cyc X.ks (j : Int) := rfl
  have c : 0 ≤ cyc X.ks (j : Int) := g.ck _ (cyL_mem (d := (0 : Int)) (by rw [g.lk]; exact g.cs.ne) _)
  have d := ext_step g.cs.ne h0 hP (j : Int)
  have e : cyc (byS X.s.length A) (j : Int) = A ((j : Int) + 1) - A (j : Int) := by
    unfold byS
    rw [cyc_rowOf _ g.cs.ne, Int.emod_eq_of_lt (by omega) (by omega)]
  have f : ext X.s.length P A (X.x0 (.keep, (j : Int)) + X.l (.keep, (j : Int))) = ext X.s.length P A ((j : Int) + 1) := rfl
  have f2 : ext X.s.length P A (X.x0 (.keep, (j : Int))) = ext X.s.length P A (j : Int) := rfl
  rw [f, f2] at a
  omega
structure Hs.Keep (X : Hs) (bs : List Int) : Prop where
  len : bs.length = X.s.length
  need : ∀ h, 0 ≤ h → h < X.n → cyc X.ns h ≤ thF X.s.length X.s (cyc bs) h
  room : ∀ h, 0 ≤ h → h < X.n → ∀ r, cyo X.rs h = some r → thF X.s.length X.s (cyc bs) h ≤ r
  keep : ∀ h, 0 ≤ h → h < X.n → cyc X.ks h ≤ cyc bs h
  door : ∀ h, 0 ≤ h → h < X.n → ∀ r, cyo X.ds h = some r → cyc bs h ≤ r
theorem keep_goodN {X : Hs} (g : X.ok) {bs : List Int} (h : X.Keep bs) : GoodN bs := by
  refine ⟨by rw [h.len]; exact g.cs.ne, by rw [h.len]; exact g.cs.le, fun i => ?_⟩
  have hb := mod_bd g.cs.ne i
  have a := h.keep (i % X.n) hb.1 hb.2
  have c : 0 ≤ cyc X.ks (i % X.n) := g.ck _ (cyL_mem (d := (0 : Int)) (by rw [g.lk]; exact g.cs.ne) _)
  have e : cyc bs (i % X.n) = cyc bs i := by
    unfold cyc
    rw [h.len]
    show bs.getD (i % X.n % X.n).toNat 0 = bs.getD (i % X.n).toNat 0
    rw [Int.emod_emod_of_dvd _ (Int.dvd_refl _)]
  omega
theorem val_wo {X : Hs} : ∀ ts : List Stp4, wo (ts.map X.ed) = X.val ts
  | [] => rfl
  | t :: ts => by
    have := val_wo (X := X) ts
    unfold wo Hs.val at *
    rw [List.map_cons, List.map_cons, List.sum_cons, List.map_cons, List.sum_cons, this]
    rfl
theorem ab_bd {X : Hs} (g : X.ok) {t : Stp4} (ht : X.st t) : 0 ≤ X.a t ∧ X.a t < X.n ∧ 0 ≤ X.b t ∧ X.b t < X.n := by
  have f := fst_bd g (w := t.1) ht.1 ht.2.1
  have m : 0 ≤ (X.fst t.1 t.2 + X.len t.1 t.2) % X.n ∧ (X.fst t.1 t.2 + X.len t.1 t.2) % X.n < X.n := mod_bd g.cs.ne _
  unfold Hs.a Hs.b
  split <;> exact ⟨by omega, by omega, by omega, by omega⟩
theorem ed_f {X : Hs} (g : X.ok) {t : Stp4} (ht : X.st t) : ((X.ed t).f : Int) = X.a t ∧ ((X.ed t).l : Int) = X.b t := by
  have := ab_bd g ht
  exact ⟨Int.toNat_of_nonneg this.1, Int.toNat_of_nonneg this.2.2.1⟩
theorem walk_len {X : Hs} (g : X.ok) : ∀ {ts : List Stp4} {a b : Nat}, (∀ t ∈ ts, X.st t) → Wk a (ts.map X.ed) b → (a : Int) + (ts.map X.l).sum = b + X.n * tn (ts.map X.ed)
  | [], a, b, _, h => by
    have h : a = b := h
    subst h
    show (a : Int) + 0 = a + X.n * 0
    rw [Int.mul_zero]
  | t :: ts, a, b, hs, h => by
    have ht := hs t List.mem_cons_self
    have ih := walk_len g (fun u hu => hs u (List.mem_cons_of_mem _ hu)) h.2
    have q := mkE_len g.cs.ne (X.x0 t) (X.l t) (X.v t) (some (t.1.s, t.2))
    rw [← ed_mk g ht, show (X.ed t).f = a from h.1] at q
    have e : tn ((t :: ts).map X.ed) = (X.ed t).t + tn (ts.map X.ed) := by
      unfold tn
      rw [List.map_cons, List.map_cons, List.sum_cons]
    rw [e, List.map_cons, List.sum_cons, Int.mul_add]
    have hN : X.n = (X.s.length : Int) := rfl
    rw [← hN] at q
    omega
theorem trn_tn {X : Hs} (g : X.ok) {ts : List Stp4} {a : Nat} (hs : ∀ t ∈ ts, X.st t) (h : Wk a (ts.map X.ed) a) : X.trn ts = tn (ts.map X.ed) := by
  have := walk_len g hs h
  unfold Hs.trn
  rw [show (ts.map X.l).sum = X.n * tn (ts.map X.ed) from by omega]
  exact Int.mul_ediv_cancel_left _ (by have := g.pos; omega)
theorem wk_run {X : Hs} (g : X.ok) : ∀ {ts : List Stp4} {a b : Nat}, (∀ t ∈ ts, X.st t) → (Wk a (ts.map X.ed) b ↔ X.run a ts b)
  | [], a, b, _ => by
    show a = b ↔ (a : Int) = b
    omega
  | t :: ts, a, b, hs => by
    have ht := hs t List.mem_cons_self
    have q := ed_f g ht
    have ih := wk_run g (ts := ts) (a := (X.ed t).l) (b := b) (fun u hu => hs u (List.mem_cons_of_mem _ hu))
    rw [q.2] at ih
    show ((X.ed t).f = a ∧ Wk (X.ed t).l (ts.map X.ed) b) ↔ (X.a t = a ∧ X.run (X.b t) ts b)
    rw [ih]
    exact ⟨fun ⟨h1, h2⟩ => ⟨by omega, h2⟩, fun ⟨h1, h2⟩ => ⟨by omega, h2⟩⟩
structure Hs.Way (X : Hs) (ts : List Stp4) : Prop where
  st : ∀ t ∈ ts, X.st t
  ne : 1 ≤ ts.length
  jn : X.joins ts = true
theorem joins_run {X : Hs} {ts : List Stp4} (h1 : 1 ≤ ts.length) (h : X.joins ts = true) : X.run (X.a (cyS ts 0)) ts (X.a (cyS ts 0)) := by
  have J : X.Joins ts := of_decide_eq_true h
  have key : ∀ (k : Nat), k ≤ ts.length → X.run (X.a (cyS ts ((ts.length - k : Nat) : Int))) (ts.drop (ts.length - k)) (X.a (cyS ts 0)) := by
    intro k
    induction k with
    | zero =>
      intro _
      rw [Nat.sub_zero, List.drop_length]
      show X.a (cyS ts (ts.length : Int)) = X.a (cyS ts 0)
      have := cyL_add (d := ((.keep, 0) : Stp4)) (xs := ts) (i := 0)
      rw [Int.zero_add] at this
      unfold cyS
      rw [this]
    | succ k ih =>
      intro hk
      have hi : ts.length - (k + 1) < ts.length := by omega
      rw [List.drop_eq_getElem_cons hi]
      have e1 : ts[ts.length - (k + 1)] = cyS ts ((ts.length - (k + 1) : Nat) : Int) := (cyL_get hi).symm
      have e2 : ts.length - (k + 1) + 1 = ts.length - k := by omega
      rw [e1, e2]
      refine ⟨rfl, ?_⟩
      rw [J, show (((ts.length - (k + 1) : Nat) : Int) + 1) = ((ts.length - k : Nat) : Int) from by omega]
      exact ih (by omega)
  have := key ts.length (Nat.le_refl _)
  rw [Nat.sub_self] at this
  exact this
theorem Hs.Way.wk {X : Hs} (g : X.ok) {ts : List Stp4} (W : X.Way ts) : ∃ a : Nat, Wk a (ts.map X.ed) a := by
  have r := joins_run W.ne W.jn
  have m : X.st (cyS ts 0) := W.st _ (cyL_mem W.ne 0)
  have b := ab_bd g m
  refine ⟨(X.a (cyS ts 0)).toNat, (wk_run g W.st).mpr ?_⟩
  rw [Int.toNat_of_nonneg b.1]
  exact r
theorem Hs.Way.trn {X : Hs} (g : X.ok) {ts : List Stp4} (W : X.Way ts) : X.trn ts = tn (ts.map X.ed) := let ⟨_, h⟩ := W.wk g; trn_tn g W.st h
theorem Hs.Way.pt {X : Hs} (g : X.ok) {ts : List Stp4} (W : X.Way ts) {pa pb : Int} {Y : Nat → Int} (h : X.Pt pa pb Y) : pb * X.val ts ≤ pa * X.trn ts := by
  obtain ⟨a, w⟩ := W.wk g
  have q := pot_sum (pa := pa) (pb := pb) (X := Y) w fun e he => by
    obtain ⟨t, ht, rfl⟩ := List.mem_map.mp he
    exact h _ (es_of.mpr ⟨t, W.st t ht, rfl⟩)
  rw [gn_sum, val_wo, ← W.trn g] at q
  omega
theorem Hs.Way.can {X : Hs} (g : X.ok) {ts : List Stp4} (W : X.Way ts) {P : Int} (h : X.Can P) : X.val ts ≤ P * X.trn ts := by
  obtain ⟨Y, h⟩ := h
  have := W.pt g h
  omega
structure Hs.Lw (X : Hs) (pa pb : Int) (w : List (Ed Stp)) (ts : List Stp4) : Prop where
  e : w = ts.map X.ed
  way : X.Way ts
  len : ts.length ≤ X.s.length
  tn : tn w = X.trn ts
  wo : wo w = X.val ts
  gain : pa * X.trn ts < pb * X.val ts
def Hs.all (X : Hs) : List Stp4 := [Wd.need, .room, .keep, .door].flatMap fun w => (List.range X.s.length).map fun (i : Nat) => (w, (i : Int))
def Hs.stB (X : Hs) (t : Stp4) : Bool := decide (0 ≤ t.2) && decide (t.2 < X.n) && (X.lim t.1 t.2).isSome
structure Hs.Lst (X : Hs) (z : Int) : Prop where
  can : X.Can z
  le : ∀ P, X.Can P → z ≤ P
inductive Hs.Stk (X : Hs) : List (List Stp4) → Prop
  | one {w : List Stp4} : X.Way w → w.length ≤ X.s.length → X.trn w = 0 → 0 < X.val w → Stk X [w]
  | two {a b : List Stp4} (p : Int) : X.Way a → a.length ≤ X.s.length → X.Way b → b.length ≤ X.s.length → 0 < X.trn a → X.trn b < 0 → (p - 1) * X.trn a < X.val a → p * X.trn b < X.val b → Stk X [a, b]
theorem Hs.Stk.no {X : Hs} (g : X.ok) {ws : List (List Stp4)} (h : X.Stk ws) {P : Int} : ¬ X.Can P := fun c => by
  cases h with
  | @one w W _ t v =>
    have := W.can g c
    rw [t, Int.mul_zero] at this
    omega
  | @two a b p A _ B _ ta tb va vb =>
    have h1 := A.can g c
    have h2 := B.can g c
    rcases Int.lt_or_le P p with q | q
    · have : P * X.trn a ≤ (p - 1) * X.trn a := Int.mul_le_mul_of_nonneg_right (by omega : P ≤ p - 1) (Int.le_of_lt ta)
      omega
    · have := Int.mul_le_mul_of_nonpos_right q (Int.le_of_lt tb)
      omega
structure Hs.Ls (X : Hs) (B p : Int) (low : List Stp4) : Prop where
  p0 : 0 ≤ p
  way : X.Way low
  len : low.length ≤ X.s.length
  tn : 0 < X.trn low
  lo : p ≤ upI (X.val low) (X.trn low)
  hi : p ≤ B
theorem cmulB {a b : Int} (ha : a.natAbs < 2 ^ 400) (hb : b.natAbs < 2 ^ 400) : CMulW a b ∨ CMul a b := .inl (wide_mul ha hb (by decide) (by decide) (by decide))
end Wx
namespace Wx
open PySem PySem.Spec PyProof.Rows L2 Evl Hn RZ
variable [TabC]
section
variable {wg : WG} {wt : WT} {we : WE} {ρ : List PV} {P : List PV → Prop} {α : Type}
end
structure RC (ks : List Int) (n : Nat) (R : Int → Int → Prop) : Prop where
  len : ks.length = n
  ok : ∀ i : Nat, i < n → R (i : Int) (cyc ks (i : Int))
structure RO (rs : List (Option Int)) (n : Nat) (R : Int → Int → Prop) : Prop where
  len : rs.length = n
  ok : ∀ i : Nat, i < n → ∀ z, cyo rs (i : Int) = some z → R (i : Int) z
theorem cyc_set {ks : List Int} {i j : Nat} {z : Int} (hi : i < ks.length) (hj : j < ks.length) : cyc (ks.set i z) (j : Int) = if i = j then z else cyc ks (j : Int) := by
  rw [cyc_at (by rw [List.length_set]; exact hj), cyc_at hj, List.getD_eq_getElem?_getD, List.getD_eq_getElem?_getD]
  split
  · next e =>
    subst e
    rw [List.getElem?_set_self hi]
    rfl
  · next e => rw [List.getElem?_set_ne e]
theorem cyo_at {rs : List (Option Int)} {j : Nat} (h : j < rs.length) : cyo rs (j : Int) = rs.getD j none := by
  unfold cyo
  rw [Int.emod_eq_of_lt (by omega) (by omega), Int.toNat_natCast]
theorem cyo_set {rs : List (Option Int)} {i j : Nat} {z : Option Int} (hi : i < rs.length) (hj : j < rs.length) : cyo (rs.set i z) (j : Int) = if i = j then z else cyo rs (j : Int) := by
  rw [cyo_at (by rw [List.length_set]; exact hj), cyo_at hj, List.getD_eq_getElem?_getD, List.getD_eq_getElem?_getD]
  split
  · next e =>
    subst e
    rw [List.getElem?_set_self hi]
    rfl
  · next e => rw [List.getElem?_set_ne e]
theorem RC.set {ks : List Int} {n : Nat} {R : Int → Int → Prop} {i : Nat} {z : Int} (h : RC ks n R) (hi : i < n) (r : R (i : Int) z) : RC (ks.set i z) n R :=
  ⟨by rw [List.length_set]; exact h.len, fun j hj => by
    rw [cyc_set (by rw [h.len]; exact hi) (by rw [h.len]; exact hj)]
    split
    · next e => subst e; exact r
    · exact h.ok j hj⟩
theorem RO.set {rs : List (Option Int)} {n : Nat} {R : Int → Int → Prop} {i : Nat} {z : Int} (h : RO rs n R) (hi : i < n) (r : R (i : Int) z) : RO (rs.set i (some z)) n R :=
  ⟨by rw [List.length_set]; exact h.len, fun j hj y hy => by
    rw [cyo_set (by rw [h.len]; exact hi) (by rw [h.len]; exact hj)] at hy
    split at hy
    · next e => subst e; cases hy; exact r
    · exact h.ok j hj y hy⟩
theorem RC.zero (n : Nat) {R : Int → Int → Prop} (h : ∀ i : Nat, i < n → R (i : Int) 0) : RC (List.replicate n 0) n R :=
  ⟨List.length_replicate, fun i hi => by
    rw [cyc_at (by rw [List.length_replicate]; exact hi), List.getD_eq_getElem?_getD, List.getElem?_replicate, if_pos hi]
    exact h i hi⟩
theorem RO.non (n : Nat) {R : Int → Int → Prop} : RO (List.replicate n none) n R :=
  ⟨List.length_replicate, fun i hi z hz => by
    rw [cyo_at (by rw [List.length_replicate]; exact hi), List.getD_eq_getElem?_getD, List.getElem?_replicate, if_pos hi] at hz
    cases hz⟩
theorem RC.at {ks : List Int} {n : Nat} {R : Int → Int → Prop} (h : RC ks n R) {x : Int} (h0 : 0 ≤ x) (h1 : x < (n : Int)) : R x (cyc ks x) := by
  have := h.ok x.toNat (by omega)
  rw [Int.toNat_of_nonneg h0] at this
  exact this
theorem RO.at {rs : List (Option Int)} {n : Nat} {R : Int → Int → Prop} (h : RO rs n R) {x : Int} (h0 : 0 ≤ x) (h1 : x < (n : Int)) {z : Int} (hz : cyo rs x = some z) : R x z := by
  have := h.ok x.toNat (by omega) z
  rw [Int.toNat_of_nonneg h0] at this
  exact this hz
theorem RC.sm {ks : List Int} {n : Nat} {R : Int → Int → Prop} {b : Int} (h : RC ks n R) (hb : ∀ i : Nat, i < n → ∀ z, R (i : Int) z → 0 ≤ z ∧ z < b) : SmC ks n b :=
  ⟨h.len, fun z hz => by
    obtain ⟨i, hi, e⟩ := List.getElem_of_mem hz
    have := h.ok i (by rw [← h.len]; exact hi)
    rw [cyc_at hi, List.getD_eq_getElem?_getD, List.getElem?_eq_getElem hi, e] at this
    exact hb i (by rw [← h.len]; exact hi) z this⟩
theorem RO.sm {rs : List (Option Int)} {n : Nat} {R : Int → Int → Prop} {b : Int} (h : RO rs n R) (hb : ∀ i : Nat, i < n → ∀ z, R (i : Int) z → 0 ≤ z ∧ z < b) : SmO rs n b :=
  ⟨h.len, fun z hz y hy => by
    obtain ⟨i, hi, e⟩ := List.getElem_of_mem hz
    refine hb i (by rw [← h.len]; exact hi) y (h.ok i (by rw [← h.len]; exact hi) y ?_)
    rw [cyo_at hi, List.getD_eq_getElem?_getD, List.getElem?_eq_getElem hi, e]
    exact hy⟩
theorem sum_bd {b : Int} : ∀ {bs : List Int}, (∀ z ∈ bs, 0 ≤ z ∧ z < b) → 0 ≤ bs.sum ∧ bs.sum ≤ bs.length * b
  | [], _ => by simp
  | x :: l, h => by
    have a := h x List.mem_cons_self
    have c := sum_bd fun z hz => h z (List.mem_cons_of_mem _ hz)
    rw [List.sum_cons, List.length_cons, show ((l.length + 1 : Nat) : Int) * b = l.length * b + b from by rw [Int.natCast_add, Int.add_mul]; omega]
    omega
theorem SmC.sum {bs : List Int} {n : Nat} {b : Int} (h : SmC bs n b) : 0 ≤ bs.sum ∧ bs.sum ≤ n * b := by
  have := sum_bd h.ok
  rw [h.len] at this
  exact this
structure Hs.sB (X : Hs) (b : Int) : Prop where
  ns : SmC X.ns X.s.length b
  rs : SmO X.rs X.s.length b
  ks : SmC X.ks X.s.length b
  ds : SmO X.ds X.s.length b
theorem SmO.mono {rs : List (Option Int)} {n : Nat} {b c : Int} (h : SmO rs n b) (hb : b ≤ c) : SmO rs n c := ⟨h.len, fun z hz i hi => ⟨(h.ok z hz i hi).1, Int.lt_of_lt_of_le (h.ok z hz i hi).2 hb⟩⟩
theorem Hs.sB.mono {X : Hs} {b c : Int} (h : X.sB b) (hb : b ≤ c) : X.sB c := ⟨h.ns.mono hb, h.rs.mono hb, h.ks.mono hb, h.ds.mono hb⟩
theorem Hs.sB.sm {X : Hs} {b : Int} (h : X.sB b) (hb : b ≤ 10 ^ 32) : X.sm := ⟨h.ns.mono hb, h.rs.mono hb, h.ks.mono hb, h.ds.mono hb⟩
end Wx
namespace Wx
open PySem PySem.Spec PyProof.Rows L2 Evl Hn RZ
variable [TabC]
theorem cutP_take {xs : List PV} {k : Nat} : cutP xs none (some (k : Int)) = xs.take k := by
  unfold cutP
  rw [HT.sIx_none, HT.sIx_nat, List.drop_zero, Nat.sub_zero]
  rcases Nat.le_total k xs.length with h | h
  · rw [Nat.min_eq_left h]
  · rw [Nat.min_eq_right h, List.take_of_length_le (Nat.le_refl _), List.take_of_length_le h]
theorem cutP_drop {xs : List PV} {k : Nat} : cutP xs (some (k : Int)) none = xs.drop k := by
  unfold cutP
  rw [HT.sIx_none, HT.sIx_nat, List.take_of_length_le (by rw [List.length_drop]; exact Nat.le_refl _)]
  rcases Nat.le_total k xs.length with h | h
  · rw [Nat.min_eq_left h]
  · rw [Nat.min_eq_right h, List.drop_of_length_le (Nat.le_refl _), List.drop_of_length_le h]
def Hs.set (X : Hs) (w : Wd) (h : Nat) (z : Option Int) : Hs := match w with
  | .need => ⟨X.s, X.ns.set h (z.getD 0), X.rs, X.ks, X.ds⟩
  | .room => ⟨X.s, X.ns, X.rs.set h z, X.ks, X.ds⟩
  | .keep => ⟨X.s, X.ns, X.rs, X.ks.set h (z.getD 0), X.ds⟩
  | .door => ⟨X.s, X.ns, X.rs, X.ks, X.ds.set h z⟩
abbrev Hs.nd (X : Hs) (h : Nat) (z : Int) : Hs := X.set .need h (some z)
end Wx
namespace Wx
open PySem PySem.Spec PyProof.Rows L2 Evl Hn RZ
variable [TabC]
structure Hs.Rc (X : Hs) (pa pb : Int) (m : Nat) (R : Nat → Int) : Prop where
  pt : X.Pt pa pb R
  zero : R m = 0
  le : ∀ Y, X.Pt pa pb Y → ∀ v, v < X.s.length → R v ≤ Y v - Y m
  wk : ∀ v, v < X.s.length → ∃ w : List (Ed Stp), Wk m w v ∧ (∀ e ∈ w, e ∈ X.es) ∧ R v = (w.map (gn pa pb)).sum
def Hs.sp (X : Hs) (P : Int) (Y : Nat → Int) (m len : Int) : Int := ext X.s.length P (fun k => Y k.toNat) (m + len) - ext X.s.length P (fun k => Y k.toNat) m
structure Hs.Rg (X : Hs) (P m len a b : Int) : Prop where
  lo : ∀ Y, X.Pt P 1 Y → a ≤ X.sp P Y m len
  hi : ∀ Y, X.Pt P 1 Y → X.sp P Y m len ≤ b
  atl : ∃ Y, X.Pt P 1 Y ∧ X.sp P Y m len = a
  ath : ∃ Y, X.Pt P 1 Y ∧ X.sp P Y m len = b
theorem Hs.Rg.le {X : Hs} {P m len a b : Int} (h : X.Rg P m len a b) : a ≤ b := by
  obtain ⟨Y, y1, y2⟩ := h.atl
  have := h.hi Y y1
  omega
def Hs.at (X : Hs) (bs : List Int) (w : Wd) (h : Int) : Int := if w.kd = true then cyc bs h else thF X.s.length X.s (cyc bs) h
structure Hs.Rb (X : Hs) (P : Int) (w : Wd) (h a b : Int) : Prop where
  lo : ∀ bs, X.Keep bs → bs.sum = P → a ≤ X.at bs w h
  hi : ∀ bs, X.Keep bs → bs.sum = P → X.at bs w h ≤ b
  atl : ∃ bs, X.Keep bs ∧ bs.sum = P ∧ X.at bs w h = a
  ath : ∃ bs, X.Keep bs ∧ bs.sum = P ∧ X.at bs w h = b
end Wx
namespace Wx
open PySem PySem.Spec PyProof.Rows L2 Evl Hn RZ
variable [TabC]
mutual
def peq : PV → PV → Bool
  | .non, .non => true
  | .bl a, .bl b => a == b
  | .bl a, .int j => (if a then 1 else 0) == j
  | .int i, .bl b => i == (if b then 1 else 0)
  | .int i, .int j => decide (i = j)
  | .str x, .str y => x == y
  | .lst xs, .lst ys => peqs xs ys
  | .tup xs, .tup ys => peqs xs ys
  | _, _ => false
def peqs : List PV → List PV → Bool
  | [], [] => true
  | x :: xs, y :: ys => peq x y && peqs xs ys
  | _, _ => false
end
mutual
theorem eqv_peq : ∀ {x y : PV} {a b : PyData}, toD x = some a → toD y = some b → PyData.eqv a b = peq x y
  | .lst xs, y, a, b, ha, hb => by
    simp only [toD, Option.map_eq_some_iff] at ha
    obtain ⟨as, h1, rfl⟩ := ha
    cases y with
    | lst ys =>
      simp only [toD, Option.map_eq_some_iff] at hb
      obtain ⟨bs, h2, rfl⟩ := hb
      simp only [PyData.eqv, peq]
      exact eqvs_peqs h1 h2
    | tup ys =>
      simp only [toD, Option.map_eq_some_iff] at hb
      obtain ⟨bs, h2, rfl⟩ := hb
      rfl
    | _ => simp only [toD, Option.some.injEq, reduceCtorEq] at hb <;> (subst hb; rfl)
  | .tup xs, y, a, b, ha, hb => by
    simp only [toD, Option.map_eq_some_iff] at ha
    obtain ⟨as, h1, rfl⟩ := ha
    cases y with
    | tup ys =>
      simp only [toD, Option.map_eq_some_iff] at hb
      obtain ⟨bs, h2, rfl⟩ := hb
      simp only [PyData.eqv, peq]
      exact eqvs_peqs h1 h2
    | lst ys =>
      simp only [toD, Option.map_eq_some_iff] at hb
      obtain ⟨bs, h2, rfl⟩ := hb
      rfl
    | _ => simp only [toD, Option.some.injEq, reduceCtorEq] at hb <;> (subst hb; rfl)
  | .non, y, a, b, ha, hb => by
    simp only [toD, Option.some.injEq] at ha
    subst ha
    cases y <;> simp only [toD, Option.map_eq_some_iff, Option.some.injEq, reduceCtorEq] at hb <;> first | (subst hb; rfl) | (obtain ⟨bs, h2, rfl⟩ := hb; rfl)
  | .bl p, y, a, b, ha, hb => by
    simp only [toD, Option.some.injEq] at ha
    subst ha
    cases y <;> simp only [toD, Option.map_eq_some_iff, Option.some.injEq, reduceCtorEq] at hb <;> first | (subst hb; rfl) | (obtain ⟨bs, h2, rfl⟩ := hb; rfl)
  | .int p, y, a, b, ha, hb => by
    simp only [toD, Option.some.injEq] at ha
    subst ha
    cases y <;> simp only [toD, Option.map_eq_some_iff, Option.some.injEq, reduceCtorEq] at hb <;> first | (subst hb; rfl) | (obtain ⟨bs, h2, rfl⟩ := hb; rfl) | (subst hb; simp only [PyData.eqv, peq]; rw [Bool.eq_iff_iff, beq_iff_eq, decide_eq_true_iff])
  | .str p, y, a, b, ha, hb => by
    simp only [toD, Option.some.injEq] at ha
    subst ha
    cases y <;> simp only [toD, Option.map_eq_some_iff, Option.some.injEq, reduceCtorEq] at hb <;> first | (subst hb; rfl) | (obtain ⟨bs, h2, rfl⟩ := hb; rfl)
  | .ty _, _, _, _, ha, _ => by simp only [toD, reduceCtorEq] at ha
  | .cls _, _, _, _, ha, _ => by simp only [toD, reduceCtorEq] at ha
  | .ins _ _, _, _, _, ha, _ => by simp only [toD, reduceCtorEq] at ha
  | .bag, _, _, _, ha, _ => by simp only [toD, reduceCtorEq] at ha
  | .scr _, _, _, _, ha, _ => by simp only [toD, reduceCtorEq] at ha
  | .fnv _ _, _, _, _, ha, _ => by simp only [toD, reduceCtorEq] at ha
  | .dct _ _, _, _, _, ha, _ => by simp only [toD, reduceCtorEq] at ha
  | .idv _ _, _, _, _, ha, _ => by simp only [toD, reduceCtorEq] at ha
theorem eqvs_peqs : ∀ {xs ys : List PV} {as bs : List PyData}, toDs xs = some as → toDs ys = some bs → PyData.eqvAll as bs = peqs xs ys
  | [], [], as, bs, ha, hb => by
    simp only [toDs, Option.some.injEq] at ha hb
    subst ha hb
    rfl
  | [], y :: ys, as, bs, ha, hb => by
    simp only [toDs, Option.some.injEq] at ha hb
    subst ha
    split at hb
    · cases hb; rfl
    · cases hb
  | x :: xs, [], as, bs, ha, hb => by
    simp only [toDs, Option.some.injEq] at ha hb
    subst hb
    split at ha
    · cases ha; rfl
    · cases ha
  | x :: xs, y :: ys, as, bs, ha, hb => by
    simp only [toDs] at ha hb
    split at ha
    · next h1 h2 =>
      split at hb
      · next h3 h4 =>
        cases ha
        cases hb
        simp only [PyData.eqvAll, peqs]
        rw [eqv_peq h1 h3, eqvs_peqs h2 h4]
      · cases hb
    · cases ha
end
def Dt (x : PV) (k : Nat) : Prop := ∃ e, toD x = some e ∧ e.canLay0 = true ∧ e.depth ≤ k
theorem PvD.dt {x : PV} {w k : Nat} (h : PvD x w k) : Dt x k := let ⟨e, h1, _, h3, h4⟩ := h; ⟨e, h1, h3, h4⟩
theorem Dt.mono {x : PV} {k l : Nat} (h : Dt x k) (hk : k ≤ l) : Dt x l := let ⟨e, h1, h3, h4⟩ := h; ⟨e, h1, h3, Nat.le_trans h4 hk⟩
theorem Dt.shaped {x : PV} {k : Nat} (h : Dt x k) (hk : k ≤ 64) : ∃ e, toD x = some e ∧ SeqAt.shaped e = true := by
  obtain ⟨e, h1, h3, h4⟩ := h
  refine ⟨e, h1, ?_⟩
  unfold SeqAt.shaped
  rw [h3, decide_eq_true (by omega : e.depth ≤ 64)]
  rfl
mutual
theorem peq_self : ∀ x : PV, (∃ e, toD x = some e) → peq x x = true
  | .non, _ => rfl
  | .bl b, _ => by simp [peq]
  | .int i, _ => by simp [peq]
  | .str s, _ => by simp [peq]
  | .lst xs, ⟨e, h⟩ => by
    simp only [toD, Option.map_eq_some_iff] at h
    obtain ⟨es, h, _⟩ := h
    simp only [peq]
    exact peqs_self xs ⟨es, h⟩
  | .tup xs, ⟨e, h⟩ => by
    simp only [toD, Option.map_eq_some_iff] at h
    obtain ⟨es, h, _⟩ := h
    simp only [peq]
    exact peqs_self xs ⟨es, h⟩
  | .ty _, ⟨_, h⟩ => by simp only [toD, reduceCtorEq] at h
  | .cls _, ⟨_, h⟩ => by simp only [toD, reduceCtorEq] at h
  | .ins _ _, ⟨_, h⟩ => by simp only [toD, reduceCtorEq] at h
  | .bag, ⟨_, h⟩ => by simp only [toD, reduceCtorEq] at h
  | .scr _, ⟨_, h⟩ => by simp only [toD, reduceCtorEq] at h
  | .fnv _ _, ⟨_, h⟩ => by simp only [toD, reduceCtorEq] at h
  | .dct _ _, ⟨_, h⟩ => by simp only [toD, reduceCtorEq] at h
  | .idv _ _, ⟨_, h⟩ => by simp only [toD, reduceCtorEq] at h
theorem peqs_self : ∀ xs : List PV, (∃ e, toDs xs = some e) → peqs xs xs = true
  | [], _ => rfl
  | x :: xs, ⟨e, h⟩ => by
    simp only [toDs] at h
    split at h
    · next h1 h2 =>
      simp only [peqs]
      rw [peq_self x ⟨_, h1⟩, peqs_self xs ⟨_, h2⟩]
      rfl
    · cases h
end
theorem Dt.self {x : PV} {k : Nat} (h : Dt x k) : peq x x = true := let ⟨e, h1, _⟩ := h; peq_self x ⟨e, h1⟩
end Wx
namespace Wx
open PySem PySem.Spec PyProof.Rows L2 Evl Hn RZ
variable [TabC]
def Hs.Str (X : Hs) (w : Wd) (h z : Int) : Prop := ∀ l, X.lim w h = some l → if w.on = true then l ≤ z else z ≤ l
theorem at_eq {X : Hs} {bs : List Int} {v w : Wd} {h : Int} (e : v.kd = w.kd) : X.at bs v h = X.at bs w h := by
  unfold Hs.at
  rw [e]
theorem Hs.Rb.to {X : Hs} {P : Int} {v w : Wd} {h a b : Int} (R : X.Rb P v h a b) (e : v.kd = w.kd) : X.Rb P w h a b := by
  have q := fun bs => at_eq (X := X) (bs := bs) (h := h) e
  refine ⟨fun bs K s => ?_, fun bs K s => ?_, ?_, ?_⟩
  · rw [← q]; exact R.lo bs K s
  · rw [← q]; exact R.hi bs K s
  · obtain ⟨bs, K, s, m⟩ := R.atl
    exact ⟨bs, K, s, by rw [← q]; exact m⟩
  · obtain ⟨bs, K, s, m⟩ := R.ath
    exact ⟨bs, K, s, by rw [← q]; exact m⟩
theorem at_nn {X : Hs} (g : X.ok) {bs : List Int} (K : X.Keep bs) (w : Wd) (h : Int) : 0 ≤ X.at bs w h := by
  have q := keep_goodN g K
  unfold Hs.at
  split
  · exact q.nn h
  · exact th_nn q.nn h
theorem Hs.Rb.nn {X : Hs} (g : X.ok) {P : Int} {w : Wd} {h a b : Int} (R : X.Rb P w h a b) : 0 ≤ a ∧ a ≤ b := by
  obtain ⟨bs, K, s, m⟩ := R.atl
  have := at_nn g K w h
  have := R.hi bs K s
  omega
end Wx
namespace Wx
open PySem PySem.Spec PyProof.Rows L2 Evl Hn RZ
variable [TabC]
end Wx
namespace Wx
open PySem PySem.Spec PyProof.Rows L2 Evl Hn RZ
variable [TabC]
end Wx
namespace Wx
open PySem PySem.Spec PyProof.Rows L2 Evl Hn RZ
variable [TabC]
def Hs.abs (X : Hs) : Int := (X.rows.map fun t => ((X.v t).natAbs : Int)).sum
structure Hs.Lp (X : Hs) (pa pb : Int) : Prop where
  a0 : 0 ≤ pa
  b1 : 1 ≤ pb
  bn : pb ≤ X.n
  cp : Int.gcd pa pb = 1
  can : ∃ Y, X.Pt pa pb Y
  le : ∀ qa qb, 0 < qb → (∃ Y, X.Pt qa qb Y) → pa * qb ≤ qa * pb
  bd : pa ≤ X.abs * pb
inductive Hs.Nv (X : Hs) : List (List Stp4) → Prop
  | one {w : List Stp4} : X.Way w → w.length ≤ X.s.length → X.trn w = 0 → 0 < X.val w → Nv X [w]
  | two {a b : List Stp4} : X.Way a → a.length ≤ X.s.length → X.Way b → b.length ≤ X.s.length → 0 < X.trn a → X.trn b < 0 → X.val a * X.trn b < X.val b * X.trn a → Nv X [a, b]
theorem Hs.Nv.no {X : Hs} (g : X.ok) {ws : List (List Stp4)} (h : X.Nv ws) {pa pb : Int} (hb : 0 < pb) : ¬ ∃ Y, X.Pt pa pb Y := fun ⟨Y, c⟩ => by
  cases h with
  | @one w W _ t v =>
    have := W.pt g c
    rw [t, Int.mul_zero] at this
    have := Int.mul_pos hb v
    omega
  | @two a b A _ B _ ta tb v =>
    have h1 := A.pt g c
    have h2 := B.pt g c
    have k1 : pb * X.val a * (-X.trn b) ≤ pa * X.trn a * (-X.trn b) := Int.mul_le_mul_of_nonneg_right h1 (by omega)
    have k2 : pb * X.val b * X.trn a ≤ pa * X.trn b * X.trn a := Int.mul_le_mul_of_nonneg_right h2 (by omega)
    have k3 : pb * (X.val a * X.trn b) < pb * (X.val b * X.trn a) := Int.mul_lt_mul_of_pos_left v hb
    have e1 : pb * X.val a * (-X.trn b) = -(pb * (X.val a * X.trn b)) := by rw [Int.mul_neg, Int.mul_assoc]
    have e2 : pb * X.val b * X.trn a = pb * (X.val b * X.trn a) := by rw [Int.mul_assoc]
    have e3 : pa * X.trn a * (-X.trn b) = -(pa * X.trn b * X.trn a) := by rw [Int.mul_neg, Int.mul_assoc, Int.mul_comm (X.trn a), ← Int.mul_assoc]
    omega
structure Hs.Ps (X : Hs) (pa pb : Int) (low : List Stp4) : Prop where
  a0 : 0 ≤ pa
  b1 : 1 ≤ pb
  bn : pb ≤ X.n
  cp : Int.gcd pa pb = 1
  bd : pa ≤ X.abs * pb
  way : X.Way low
  len : low.length ≤ X.s.length
  tn : 0 < X.trn low
  lo : pa * X.trn low ≤ pb * X.val low
end Wx
namespace Wx
variable [TabC]
theorem seq_id {a b : WS} {D : WEnds} {ρ : List PV} (h1 : ∀ N : List PV → Prop, N ρ → a { D with nx := N } ρ) (h2 : b D ρ) : wSeq a b D ρ := h1 (b D) h2
theorem seq_two {a b : WS} {D : WEnds} {ρ : List PV} (I : List PV → Prop) (h1 : ∀ N : List PV → Prop, (∀ ρ', I ρ' → N ρ') → a { D with nx := N } ρ) (h2 : ∀ ρ', I ρ' → b D ρ') : wSeq a b D ρ := h1 (b D) fun _ q => h2 _ q
end Wx
namespace Wx
open PySem PySem.Spec PyProof.Rows L2 Evl Hn RZ
variable [TabC]
section
variable [XC]
variable {K : PySem.W.Frag} {d : Cn → Addr} {F F' F0 F1 : Fz} {H H' H0 : Hp} {ts ts' bt ct : List Tag} {te : TE} {we : WE} {ta : TA} {wa : WA} {v u : V} {R : RR}
def wDct (kvs : List (Key × Int)) : WE := fun _ P => ∀ a, P (.dct a kvs)
theorem fin_dct {p : Addr} {kvs : List (Key × Int)} {Q : VK} {P : PV → Prop} (dm : Dom F H) (n : H p = none) (pp : P (.dct p kvs)) (k : ∀ z v' F' H', Step F H F' H' → rN K d F H F' H' v' z → P z → Q v' H') : Q (.ref p) (upd H p (.dK (dkV kvs))) := by
  have s0 := Step.new (o := .dK (dkV kvs)) dm n
  refine k (.dct p kvs) _ (fun a => F a ∨ a = p) _ ⟨s0.ex, fun a h => .inl h, fun a h => h.elim .inl fun e => .inr (e ▸ n), s0.dm.of fun a h => ?_⟩ (.inl ⟨trivial, .dct upd_same (.inr rfl)⟩) pp
  rcases h with h | rfl
  · exact s0.dm.at_ a h
  · rw [upd_same]; intro z; cases z
theorem sim_dct0 : Sim K d (rN K d) ts tDNewK (wDct []) := fun H0 F0 F H σ ρ Q P E hw k => fun p np => fin_dct E.dm np (hw p) k
def tKs (kvs : List (Key × Int)) : List (TE × TE) := kvs.map fun p => (tC (kV p.1), tC (.int p.2))
theorem tKs_run : ∀ {kvs : List (Key × Int)} {σ : L2.St} {H : Hp} {Q : List (V × V) → Hp → Prop}, Q (kvs.map fun p => (kV p.1, V.int p.2)) H → tPairs (tKs kvs) σ H Q
  | [], _, _, _, q => q
  | (k, i) :: r, _, _, _, q => tKs_run (kvs := r) q
theorem sim_dct {kvs : List (Key × Int)} (hl : kvs.length ≤ 15 := by decide) (hm : mergeK [] (dkV kvs) = dkV kvs := by rfl) : Sim K d (rN K d) ts (tDisp (tKs kvs)) (wDct kvs) := fun H0 F0 F H σ ρ Q P E hw k => fun p np =>
  tKs_run ⟨upd_same, dkV kvs, by simp [dkV], by simpa [dkV] using hl, by
    have e : upd (upd H p (.dK [])) p (.dK (mergeK [] (dkV kvs))) = upd H p (.dK (dkV kvs)) := by
      rw [hm]
      funext a
      by_cases h : a = p
      · rw [h, upd_same, upd_same]
      · rw [upd_ne h, upd_ne h, upd_ne h]
    rw [e]
    exact fin_dct E.dm np (hw p) k⟩
def insC : PV → Option Cn
  | .ins c _ => some c
  | .idv _ (.ins c _) => some c
  | _ => none
structure KiOk (K : PySem.W.Frag) (d : Cn → Addr) (ps : List (Cn × String)) : Prop where
  ok : ∀ p ∈ ps, IsC K (d p.1) ∧ PySem.W.kitOne K (.ref (d p.1)) (.type p.2) = some false
theorem ki_nil : KiOk K d [] := ⟨fun _ h => nomatch h⟩
theorem ki_cons {C : Addr} {c : Cn} {b : String} {ps : List (Cn × String)} (h : IsC K C) (k : PySem.W.kitOne K (.ref C) (.type b) = some false) (r : KiOk K d ps) (e : d c = C := by rfl) : KiOk K d ((c, b) :: ps) := by
  subst e
  refine ⟨fun p hp => ?_⟩
  rcases List.mem_cons.mp hp with rfl | hp
  · exact ⟨h, k⟩
  · exact r.ok p hp
theorem insC_ty {x : PV} {c : Cn} (h : Rw K d F H v x) (e : insC x = some c) (i : IsC K (d c)) : TyX K H v (.ref (d c)) := by
  unfold insC at e
  split at e
  · cases e
    obtain ⟨p, dx, gs, rfl, h1, _⟩ := h.insE
    exact .base (.ins h1 i.cl i.ha i.hn i.tk i.mr)
  · cases e
    obtain ⟨rfl, h2⟩ := h.idvE
    obtain ⟨p, dx, gs, e, h1, _⟩ := Rw.insE (.inl h2)
    cases e
    exact .base (.ins h1 i.cl i.ha i.hn i.tk i.mr)
  · cases e
def wIsiG (ps : List (Cn × String)) : WC := fun xs P => ∃ x b, xs = [x, .ty b] ∧ ((∃ c, insC x = some c ∧ (c, b) ∈ ps ∧ P (.bl false)) ∨ ∃ a k, tyP x = some a ∧ kitB a b = some k ∧ P (.bl k))
theorem cas_isiG {ps : List (Cn × String)} (ki : KiOk K d ps) : CaS K d (rN K d) (rIsi K) (wIsiG ps) := fun F H vs xs Q P dm r h k => by
  obtain ⟨x, b, rfl, h⟩ := h
  obtain ⟨v, u, rfl, r1, r2⟩ := r.two
  cases r2.tyE
  rcases h with ⟨c, h1, h2, h3⟩ | ⟨a, l, h1, h2, h3⟩
  · obtain ⟨i, hk⟩ := ki.ok _ h2
    exact ⟨v, _, _, _, false, rfl, .ty _, insC_ty r1 h1 i, hk, fin_val dm (.bl _) h3 k⟩
  · exact ⟨v, _, _, _, l, rfl, .ty _, tyP_ok r1 h1, kit_ty h2, fin_val dm (.bl _) h3 k⟩
def EqC (K : PySem.W.Frag) (H : Hp) (E : V → V → Prop) (x y : V) : Prop := ∃ a b xs ys, x = .ref a ∧ y = .ref b ∧ ((SqL K H a xs ∧ SqL K H b ys) ∨ (SqT K H a xs ∧ SqT K H b ys)) ∧ Paired E xs ys
def EqN (K : PySem.W.Frag) (H : Hp) : Nat → V → V → Prop
  | 0 => fun _ _ => False
  | n + 1 => fun x y => (x = y ∧ flatB x = true) ∨ (∃ a, x = .ref a ∧ y = .ref a) ∨ EqC K H (EqN K H n) x y
end
section
theorem items_at {A : Around} {s : Shared} {F : V → V → Prop} (ih : ∀ x y v u, F x y → RelV x v → RelV y u → SeqAt.EqAt A s v u true) {xs ys : List V} (hp : Paired F xs ys) :
    ∀ {us ws : List Value}, Vals xs us → Vals ys ws → ∀ j (h1 : j < us.length) (h2 : j < ws.length), SeqAt.EqAt A s us[j] ws[j] true := by
  induction hp with
  | nil =>
    intro us ws r1 r2 j h1 h2
    cases r1
    exact absurd h1 (Nat.not_lt_zero j)
  | cons h _ k =>
    intro us ws r1 r2 j h1 h2
    cases r1 with
    | cons a1 b1 =>
      cases r2 with
      | cons a2 b2 =>
        cases j with
        | zero => exact ih _ _ _ _ h a1 a2
        | succ j => exact k b1 b2 j (Nat.lt_of_succ_lt_succ h1) (Nat.lt_of_succ_lt_succ h2)
variable {X : Cx} {pins : List (Addr × Obj)} {σ : L2.St} {H : Hp} {s : Shared}
theorem eqC_run (I : Inv X pins σ H s) {A : Around} {F : V → V → Prop} (hu : A.units < cLine) (ih : ∀ x y v u, F x y → RelV x v → RelV y u → SeqAt.EqAt A.in1 s v u true) {x y : V} {v u : Value} (h : EqC X.K H F x y) (rx : RelV x v) (ry : RelV y u) :
    SeqAt.RcAt A s v u true ∧ SeqAt.RcNeAt A s v u false := by
  obtain ⟨a, b, xs, ys, rfl, rfl, h, hp⟩ := h
  cases (show v = Value.ref a from rx)
  cases (show u = Value.ref b from ry)
  have al : ∀ n : Nat, ((List.range n).all fun _ => true) = true := fun n => List.all_eq_true.mpr fun _ _ => rfl
  rcases h with ⟨ha, hb⟩ | ⟨ha, hb⟩
  · obtain ⟨us, r1, p1, _⟩ := I.list ha
    obtain ⟨ws, r2, p2, _⟩ := I.list hb
    have hsz : us.toArray.size = ws.toArray.size := by
      rw [List.size_toArray, List.size_toArray, ← r1.length, ← r2.length]
      exact Paired.length hp
    have he : ∀ j (h1 : j < us.toArray.size) (h2 : j < ws.toArray.size), SeqAt.EqAt A.in1 s us.toArray[j] ws.toArray[j] ((fun _ => true) j) := fun j h1 h2 => by
      have k := items_at ih hp r1 r2 j (by simpa using h1) (by simpa using h2)
      simpa using k
    have k1 := SeqAt.RcAt.lists (e := fun _ => true) p1.isList p2.isList hsz hu he
    have k2 := SeqAt.RcNeAt.lists (e := fun _ => true) p1.isList p2.isList hsz hu he
    rw [al] at k1 k2
    exact ⟨k1, k2⟩
  · obtain ⟨us, r1, p1, _⟩ := I.tuple ha
    obtain ⟨ws, r2, p2, _⟩ := I.tuple hb
    have hsz : us.toArray.size = ws.toArray.size := by
      rw [List.size_toArray, List.size_toArray, ← r1.length, ← r2.length]
      exact Paired.length hp
    have he : ∀ j (h1 : j < us.toArray.size) (h2 : j < ws.toArray.size), SeqAt.EqAt A.in1 s us.toArray[j] ws.toArray[j] ((fun _ => true) j) := fun j h1 h2 => by
      have k := items_at ih hp r1 r2 j (by simpa using h1) (by simpa using h2)
      simpa using k
    have k1 := SeqAt.RcAt.tuples (e := fun _ => true) p1 p2 hu he
    have k2 := SeqAt.RcNeAt.tuples (e := fun _ => true) p1 p2 hu he
    rw [al, hsz] at k1 k2
    simp only [beq_self_eq_true, Bool.and_self, Bool.not_true] at k1 k2
    exact ⟨k1, k2⟩
theorem eqN_run (I : Inv X pins σ H s) : ∀ (n : Nat) (A : Around), A.units + n < cLine → ∀ (x y : V) (v u : Value), EqN X.K H n x y → RelV x v → RelV y u → SeqAt.EqAt A s v u true
  | 0, _, _, _, _, _, _, h, _, _ => (show False from h).elim
  | n + 1, A, hu, x, y, v, u, h, rx, ry => by
    rcases h with ⟨rfl, f⟩ | ⟨a, rfl, rfl⟩ | h
    · exact eqAt_same rx ry f
    · cases (show v = Value.ref a from rx)
      cases (show u = Value.ref a from ry)
      exact SeqAt.EqAt.same _
    · have step := eqC_run I (A := A) (by omega) (eqN_run I n A.in1 (by show A.units + 1 + n < cLine; omega)) h rx ry
      obtain ⟨a, b, _, _, rfl, rfl, _⟩ := h
      cases (show v = Value.ref a from rx)
      cases (show u = Value.ref b from ry)
      by_cases e : a = b
      · subst e
        exact SeqAt.EqAt.same _
      · exact SeqAt.EqAt.of_refs e step.1
end
section
variable {X : Cx} {K : PySem.W.Frag}
def rEqT (K : PySem.W.Frag) : R2 := fun x y H Q => ∃ n, n ≤ 60 ∧ EqC K H (EqN K H n) x y ∧ Q (.bl true) H
def rNeT (K : PySem.W.Frag) : R2 := fun x y H Q => ∃ n, n ≤ 60 ∧ EqC K H (EqN K H n) x y ∧ Q (.bl false) H
theorem op_eqT (hu : X.A.units + 64 < cLine) : OpR X (compareOp .Eq) (rEqT X.K) := by
  intro pins s σ H x y v u Q I rx ry h
  obtain ⟨n, hn, h, q⟩ := h
  exact (eqC_run I (A := X.A) (by omega) (eqN_run I n X.A.in1 (by show X.A.units + 1 + n < cLine; omega)) h rx ry).1 _ _ _ _ ⟨.bl true, H, I, rfl, q⟩
theorem op_neT (hu : X.A.units + 64 < cLine) : OpR X (compareOp .NotEq) (rNeT X.K) := by
  intro pins s σ H x y v u Q I rx ry h
  obtain ⟨n, hn, h, q⟩ := h
  exact (eqC_run I (A := X.A) (by omega) (eqN_run I n X.A.in1 (by show X.A.units + 1 + n < cLine; omega)) h rx ry).2 _ _ _ _ ⟨.bl false, H, I, rfl, q⟩
def rEqG (K : PySem.W.Frag) : R2 := orR (rEqU K) (rEqT K)
def rNeG (K : PySem.W.Frag) : R2 := orR (rNeU K) (rNeT K)
theorem u_eqG (h : X.K = K) (hu : X.A.units + 64 < cLine) : OpR X (compareOp .Eq) (rEqG K) := h ▸ op_or (u_eq rfl hu) (op_eqT hu)
theorem u_neG (h : X.K = K) (hu : X.A.units + 64 < cLine) : OpR X (compareOp .NotEq) (rNeG K) := h ▸ op_or (u_ne rfl hu) (op_neT hu)
end
section
variable [XC]
variable {K : PySem.W.Frag} {d : Cn → Addr} {F F' F0 F1 : Fz} {H H' H0 : Hp} {ts ts' bt ct : List Tag} {te : TE} {we : WE} {ta : TA} {wa : WA} {v u : V} {R : RR}
def EqCP (E : PV → PV → Prop) (x y : PV) : Prop := ∃ xs ys, ((x = .lst xs ∧ y = .lst ys) ∨ (x = .tup xs ∧ y = .tup ys)) ∧ Paired E xs ys
def EqNP : Nat → PV → PV → Prop
  | 0 => fun _ _ => False
  | n + 1 => fun x y => (∃ w, flatP x = some w ∧ flatP y = some w) ∨ (∃ a k l, x = .dct a k ∧ y = .dct a l) ∨ (∃ a z w, x = .idv a z ∧ y = .idv a w) ∨ EqCP (EqNP n) x y
theorem eqC_of {E : V → V → Prop} {G : PV → PV → Prop} (ih : ∀ v u x y, G x y → Rv K d F H v x → Rv K d F H u y → E v u) {x y : PV} (h : EqCP G x y) (r1 : Rw K d F H v x) (r2 : Rw K d F H u y) : EqC K H E v u := by
  obtain ⟨xs, ys, h, hp⟩ := h
  have pr : ∀ {xs ys : List PV}, Paired G xs ys → ∀ {vs us : List V}, Rvs K d F H vs xs → Rvs K d F H us ys → Paired E vs us := by
    intro xs ys hp
    induction hp with
    | nil => intro vs us q1 q2; cases q1; cases q2; exact .nil
    | cons h _ k => intro vs us q1 q2; cases q1 with
      | cons a1 b1 => cases q2 with
        | cons a2 b2 => exact .cons (ih _ _ _ _ h a1 a2) (k b1 b2)
  rcases h with ⟨rfl, rfl⟩ | ⟨rfl, rfl⟩
  · obtain ⟨p, vs, rfl, g1, g2⟩ := r1.lst
    obtain ⟨q, us, rfl, g3, g4⟩ := r2.lst
    exact ⟨p, q, vs, us, rfl, rfl, .inl ⟨.inl (.inl g1), .inl (.inl g3)⟩, pr hp g2 g4⟩
  · obtain ⟨p, vs, rfl, g1, g2⟩ := r1.tupE
    obtain ⟨q, us, rfl, g3, g4⟩ := r2.tupE
    exact ⟨p, q, vs, us, rfl, rfl, .inr ⟨g1, g3⟩, pr hp g2 g4⟩
theorem eqN_of : ∀ (n : Nat) (v u : V) (x y : PV), EqNP n x y → Rv K d F H v x → Rv K d F H u y → EqN K H n v u
  | 0, _, _, _, _, h, _, _ => (show False from h).elim
  | n + 1, v, u, x, y, h, r1, r2 => by
    rcases h with ⟨w, h1, h2⟩ | ⟨a, k, l, rfl, rfl⟩ | ⟨a, z, w, rfl, rfl⟩ | h
    · cases r1.flat h1
      cases r2.flat h2
      refine .inl ⟨rfl, ?_⟩
      have := flatP_V h1
      cases v <;> first | rfl | cases this
    · obtain ⟨rfl, _⟩ := (show Rw K d F H _ _ from .inl r1).dctE
      obtain ⟨rfl, _⟩ := (show Rw K d F H _ _ from .inl r2).dctE
      exact .inr (.inl ⟨a, rfl, rfl⟩)
    · obtain ⟨rfl, _⟩ := (show Rw K d F H _ _ from .inl r1).idvE
      obtain ⟨rfl, _⟩ := (show Rw K d F H _ _ from .inl r2).idvE
      exact .inr (.inl ⟨a, rfl, rfl⟩)
    · exact .inr (.inr (eqC_of (eqN_of n) h (.inl r1) (.inl r2)))
def wEqT (neg : Bool) : W2 := fun x y P => ∃ n, n ≤ 60 ∧ EqCP (EqNP n) x y ∧ P (.bl !neg)
def wEqG : W2 := fun x y P => wEq x y P ∨ wEqT false x y P
def wNeG : W2 := fun x y P => wNe x y P ∨ wEqT true x y P
theorem ops_eqG : OpS K d (rN K d) (rEqG K) wEqG := fun F H v u x y Q P dm rx ry h k => by
  rcases h with h | ⟨n, hn, h, p⟩
  · exact .inl (ops_eq F H v u x y Q P dm rx ry h k)
  · exact .inr ⟨n, hn, eqC_of (eqN_of n) h rx ry, fin_val dm (.bl _) p k⟩
theorem ops_neG : OpS K d (rN K d) (rNeG K) wNeG := fun F H v u x y Q P dm rx ry h k => by
  rcases h with h | ⟨n, hn, h, p⟩
  · exact .inl (ops_ne F H v u x y Q P dm rx ry h k)
  · exact .inr ⟨n, hn, eqC_of (eqN_of n) h rx ry, fin_val dm (.bl _) p k⟩
end
section
theorem smB_ok {K : PySem.W.Frag} (h : smB K = true) : ∃ o, K.lookup sysModules = some o ∧ o.cls = .type "dict" := by
  unfold smB at h
  split at h
  · rename_i q
    exact ⟨_, q, rfl⟩
  · cases h
def keyD : Key → PyData
  | .inl i => .int i
  | .inr x => .str x
def kvD (kvs : List (Key × Int)) : List (PyData × PyData) := kvs.map fun p => (keyD p.1, .int p.2)
mutual
inductive Dg (K : PySem.W.Frag) (H : Hp) : V → PyData → Prop
  | non : Dg K H .non .none
  | bl (b : Bool) : Dg K H (.bl b) (.bool b)
  | int (i : Int) : Dg K H (.int i) (.int i)
  | str (x : Str) : Dg K H (.str x) (.str x)
  | lst {a : Addr} {xs : List V} {ds : List PyData} : SqL K H a xs → DgAll K H xs ds → Dg K H (.ref a) (.list ds)
  | tup {a : Addr} {xs : List V} {ds : List PyData} : SqT K H a xs → DgAll K H xs ds → Dg K H (.ref a) (.tuple ds)
  | dct {a : Addr} {kvs : List (Key × Int)} : H a = some (.dK (dkV kvs)) → Dg K H (.ref a) (.dict (kvD kvs))
inductive DgAll (K : PySem.W.Frag) (H : Hp) : List V → List PyData → Prop
  | nil : DgAll K H [] []
  | cons {v : V} {vs : List V} {d : PyData} {ds : List PyData} : Dg K H v d → DgAll K H vs ds → DgAll K H (v :: vs) (d :: ds)
end
theorem reads_keys {P : Program} {w : World} {h : Heap} : ∀ {kvs : List (Key × Int)} {vs : List (Key × Value)} {es : List DictEntry}, KV (dkV kvs) vs → Pairs (mixKind P w) es vs →
    ReadsAll h (es.map (·.key)) ((kvD kvs).map (·.1)) [] ∧ ReadsAll h (es.map (·.val)) ((kvD kvs).map (·.2)) []
  | [], _, _, hk, hp => by
    cases hk
    cases hp
    exact ⟨.nil, .nil⟩
  | (k, i) :: r, vs, es, hk, hp => by
    cases hk with
    | @cons _ kv _ vs h t =>
    cases hp with
    | @cons e _ es _ q1 q2 q3 =>
    obtain ⟨a, b⟩ := reads_keys t q3
    obtain ⟨h1, h2⟩ := h
    obtain ⟨tk, h2⟩ := (show ∃ t, kv.2 = Value.int i t from h2)
    have h1 : k = kv.1 := h1
    rw [← h1] at q1
    rw [h2] at q2
    refine ⟨?_, ?_⟩
    · rcases keyIs_shape q1 with ⟨j, t, rfl, e1⟩ | ⟨x, t, rfl, e1⟩
      · show ReadsAll _ (e.key :: _) (PyData.int j :: _) []
        rw [e1]
        exact .cons (Reads.int j t) a
      · show ReadsAll _ (e.key :: _) (PyData.str x :: _) []
        rw [e1]
        exact .cons (Reads.str x t) a
    · show ReadsAll _ (e.val :: _) (PyData.int i :: _) []
      rw [q2]
      exact .cons (Reads.int i tk) b
variable {X : Cx} {pins : List (Addr × Obj)} {σ : L2.St} {H : Hp} {s : Shared}
mutual
theorem Dg.reads (I : Inv X pins σ H s) (hm : ∃ o, s.heap.get? sysModules = some o ∧ o.cls = .type "dict") : ∀ (d : PyData) (v : V) (u : Value), Dg X.K H v d → RelV v u → ∃ as, Reads s.heap u d as ∧ sysModules ∉ as
  | .none, _, _, h, r => by
    cases h
    cases r
    exact ⟨_, Reads.none, List.not_mem_nil⟩
  | .bool b, _, _, h, r => by
    cases h
    cases r
    exact ⟨_, Reads.bool b, List.not_mem_nil⟩
  | .int i, _, _, h, r => by
    cases h
    obtain ⟨t, rfl⟩ := r
    exact ⟨_, Reads.int i t, List.not_mem_nil⟩
  | .str x, _, _, h, r => by
    cases h
    obtain ⟨t, rfl⟩ := r
    exact ⟨_, Reads.str x t, List.not_mem_nil⟩
  | .list ds, _, _, h, r => by
    cases h with
    | lst hs ha =>
      cases r
      obtain ⟨its, rv, ⟨o, n, ho, hc, _, hd⟩, _⟩ := I.list hs
      obtain ⟨as, hr, nm⟩ := Dg.readsAll I hm ds _ its ha rv
      refine ⟨_, Reads.list ho hc hd hr, fun z => ?_⟩
      rcases List.mem_cons.mp z with e | z
      · obtain ⟨q, q1, q2⟩ := hm
        rw [e, ho] at q1
        cases q1
        rw [hc] at q2
        injection q2 with e2
        exact absurd e2 (by decide)
      · exact nm z
  | .tuple ds, _, _, h, r => by
    cases h with
    | tup hs ha =>
      cases r
      obtain ⟨its, rv, ⟨o, ho, hc, n, hd⟩, _⟩ := I.tuple hs
      obtain ⟨as, hr, nm⟩ := Dg.readsAll I hm ds _ its ha rv
      exact ⟨_, Reads.tuple ho hc hd hr, nm⟩
  | .dict ks, _, _, h, r => by
    cases h with
    | @dct a kvs e =>
      cases r
      obtain ⟨_, ya, va, ra, o, es, ep, h1, h2, h3, _, h4, _⟩ := (show ObjOk X.prog X.w H s.heap a (.dK (dkV kvs)) from I.hok a _ e)
      obtain ⟨g1, g2⟩ := reads_keys (h := s.heap) ra h4
      refine ⟨_, Reads.dict h1 h2.1 h3 g1 g2, fun z => ?_⟩
      rcases List.mem_cons.mp z with e | z
      · rw [← e] at ya
        simp at ya
      · simp at z
theorem Dg.readsAll (I : Inv X pins σ H s) (hm : ∃ o, s.heap.get? sysModules = some o ∧ o.cls = .type "dict") : ∀ (ds : List PyData) (vs : List V) (us : List Value), DgAll X.K H vs ds → Vals vs us → ∃ as, ReadsAll s.heap us ds as ∧ sysModules ∉ as
  | [], _, _, h, r => by
    cases h
    cases r
    exact ⟨_, ReadsAll.nil, List.not_mem_nil⟩
  | d :: ds, _, _, h, r => by
    cases h with
    | cons h1 h2 =>
      cases r with
      | cons r1 r2 =>
        obtain ⟨as, q1, n1⟩ := Dg.reads I hm d _ _ h1 r1
        obtain ⟨bs, q2, n2⟩ := Dg.readsAll I hm ds _ _ h2 r2
        exact ⟨_, ReadsAll.cons q1 q2, fun z => (List.mem_append.mp z).elim n1 n2⟩
end
end
section
def rReprG (K : PySem.W.Frag) : List V → Hp → VK → Prop := fun vs H Q => smB K = true ∧ ∃ x d, vs = [x] ∧ Dg K H x d ∧ d.showable = true ∧ d.depth ≤ 64 ∧ d.shown.length ≤ 12900041 ∧ Q (.str d.shown) H
variable {X : Cx} {K : PySem.W.Frag} {k : Nat}
theorem k_reprG (hK : X.K = K) (hg : X.A.guards = some []) (hr : Room k X.A) : CallR X (.builtin "repr") (rReprG K) := by
  subst hK
  intro pins s σ H vs us Q I r h
  obtain ⟨hsm, x, d, rfl, hd, hs, hdp, hz, q⟩ := h
  obtain ⟨mo, m1, m2⟩ := smB_ok hsm
  obtain ⟨u, rfl, ru⟩ := r.one
  obtain ⟨as, rd, nm⟩ := Dg.reads I ⟨mo, I.kIn _ _ m1, m2⟩ d x u hd ru
  have un := hr.un
  have line : (12900041 : Nat) ≤ sizeLine := by decide
  have go : ∀ h' t' tk, (∀ b o, s.heap.get? b = some o → h'.get? b = some o) → EP X pins σ Q (.str d.shown t') { s with heap := h', toks := tk } := fun h' t' tk hk => ⟨.str d.shown, H, I.kept hk, ⟨_, rfl⟩, q⟩
  cases hd with
  | non => cases ru; exact PySem.P.repr_of_none (go s.heap _ _ fun _ _ e => e)
  | bl b =>
    cases ru
    refine PySem.P.repr_of_bool ?_
    have := go s.heap s.toks (s.toks + 1) fun _ _ e => e
    simp only [PyData.shown] at this
    cases b <;> exact this
  | int i =>
    obtain ⟨t, rfl⟩ := ru
    simp only [PyData.showable, decide_eq_true_eq] at hs
    refine PySem.P.repr_of_int hs ?_
    have := go s.heap s.toks (s.toks + 1) fun _ _ e => e
    simp only [PyData.shown] at this
    exact this
  | str y =>
    obtain ⟨t, rfl⟩ := ru
    simp only [PyData.shown] at go hz
    exact PySem.P.repr_of_str (go s.heap _ _ fun _ _ e => e) (by omega)
  | lst a b =>
    cases ru
    exact repr_of_reads' rd hs (fun _ => nm) hg (by omega) (fun _ _ e => e) go (by omega)
  | tup a b =>
    cases ru
    exact repr_of_reads' rd hs (fun _ => nm) hg (by omega) (fun _ _ e => e) go (by omega)
  | dct a =>
    cases ru
    exact repr_of_reads' rd hs (fun _ => nm) hg (by omega) (fun _ _ e => e) go (by omega)
end
mutual
def toG : PV → Option PyData
  | .non => some .none
  | .bl b => some (.bool b)
  | .int i => some (.int i)
  | .str x => some (.str x)
  | .lst xs => (toGs xs).map PyData.list
  | .tup xs => (toGs xs).map PyData.tuple
  | .dct _ kvs => some (.dict (kvD kvs))
  | .ty _ => none
  | .cls _ => none
  | .ins _ _ => none
  | .bag => none
  | .scr _ => none
  | .fnv _ _ => none
  | .idv _ _ => none
def toGs : List PV → Option (List PyData)
  | [] => some []
  | x :: xs => match toG x, toGs xs with
    | some a, some b => some (a :: b)
    | _, _ => none
end
theorem toGs_cons {x : PV} {xs : List PV} {es : List PyData} (h : toGs (x :: xs) = some es) : ∃ a b, toG x = some a ∧ toGs xs = some b ∧ es = a :: b := by
  simp only [toGs] at h
  split at h
  · cases h
    exact ⟨_, _, by assumption, by assumption, rfl⟩
  · cases h
mutual
theorem toD_G : ∀ {x : PV} {e : PyData}, toD x = some e → toG x = some e
  | .non, _, h => by simp only [toD] at h; simp only [toG]; exact h
  | .bl _, _, h => by simp only [toD] at h; simp only [toG]; exact h
  | .int _, _, h => by simp only [toD] at h; simp only [toG]; exact h
  | .str _, _, h => by simp only [toD] at h; simp only [toG]; exact h
  | .lst xs, _, h => by
    simp only [toD, Option.map_eq_some_iff] at h
    obtain ⟨es, h, rfl⟩ := h
    simp only [toG, toDs_G h, Option.map_some]
  | .tup xs, _, h => by
    simp only [toD, Option.map_eq_some_iff] at h
    obtain ⟨es, h, rfl⟩ := h
    simp only [toG, toDs_G h, Option.map_some]
  | .dct _ _, _, h => by simp only [toD, reduceCtorEq] at h
  | .ty _, _, h => by simp only [toD, reduceCtorEq] at h
  | .cls _, _, h => by simp only [toD, reduceCtorEq] at h
  | .ins _ _, _, h => by simp only [toD, reduceCtorEq] at h
  | .bag, _, h => by simp only [toD, reduceCtorEq] at h
  | .scr _, _, h => by simp only [toD, reduceCtorEq] at h
  | .fnv _ _, _, h => by simp only [toD, reduceCtorEq] at h
  | .idv _ _, _, h => by simp only [toD, reduceCtorEq] at h
theorem toDs_G : ∀ {xs : List PV} {es : List PyData}, toDs xs = some es → toGs xs = some es
  | [], _, h => by simp only [toDs] at h; simp only [toGs]; exact h
  | x :: xs, _, h => by
    simp only [toDs] at h
    split at h
    · next h1 h2 =>
      cases h
      simp only [toGs, toD_G h1, toDs_G h2]
    · cases h
end
section
variable [XC]
variable {K : PySem.W.Frag} {d : Cn → Addr} {F F' F0 F1 : Fz} {H H' H0 : Hp} {ts ts' bt ct : List Tag} {te : TE} {we : WE} {ta : TA} {wa : WA} {v u : V} {R : RR}
mutual
theorem Rv.dg : ∀ {v : V} {x : PV} {e : PyData}, Rv K d F H v x → toG x = some e → Dg K H v e
  | _, _, e, .non, h => by simp only [toG] at h; cases h; exact .non
  | _, _, e, .bl b, h => by simp only [toG] at h; cases h; exact .bl b
  | _, _, e, .int b, h => by simp only [toG] at h; cases h; exact .int b
  | _, _, e, .str b, h => by simp only [toG] at h; cases h; exact .str b
  | _, _, e, .lst h1 h2 h3, h => by
    simp only [toG, Option.map_eq_some_iff] at h
    obtain ⟨ds, hd, rfl⟩ := h
    exact .lst (.inl (.inl h1)) (Rvs.dg h3 hd)
  | _, _, e, .tup h1 h3, h => by
    simp only [toG, Option.map_eq_some_iff] at h
    obtain ⟨ds, hd, rfl⟩ := h
    exact .tup h1 (Rvs.dg h3 hd)
  | _, _, e, .dct h1 _, h => by simp only [toG] at h; cases h; exact .dct h1
  | _, _, e, .ty n, h => by simp only [toG, reduceCtorEq] at h
  | _, _, e, .cls n, h => by simp only [toG, reduceCtorEq] at h
  | _, _, e, .ins _ _, h => by simp only [toG, reduceCtorEq] at h
  | _, _, e, .bag _, h => by simp only [toG, reduceCtorEq] at h
  | _, _, e, .scr _ _, h => by simp only [toG, reduceCtorEq] at h
  | _, _, e, .fnv _ _, h => by simp only [toG, reduceCtorEq] at h
  | _, _, e, .idv _, h => by simp only [toG, reduceCtorEq] at h
theorem Rvs.dg : ∀ {vs : List V} {xs : List PV} {es : List PyData}, Rvs K d F H vs xs → toGs xs = some es → DgAll K H vs es
  | _, _, es, .nil, h => by simp only [toGs] at h; cases h; exact .nil
  | _, _, es, .cons (x := x) (xs := xs) a b, h => by
    obtain ⟨q, qs, e1, e2, rfl⟩ := toGs_cons h
    exact .cons (Rv.dg a e1) (Rvs.dg b e2)
end
theorem Rw.dg {x : PV} {e : PyData} (h : Rw K d F H v x) (he : toG x = some e) : Dg K H v e := by
  rcases h with h | ⟨p, vs, xs, rfl, rfl, h1, h2⟩
  · exact h.dg he
  · simp only [toG, Option.map_eq_some_iff] at he
    obtain ⟨ds, hd, rfl⟩ := he
    exact .lst (.inl (.inl h1)) (h2.dg hd)
def wReprG : WC := fun xs P => ∃ x e, xs = [x] ∧ toG x = some e ∧ e.showable = true ∧ e.depth ≤ 64 ∧ e.shown.length ≤ 12900041 ∧ P (.str e.shown)
theorem cas_reprG (hs : smB K = true) : CaS K d (rN K d) (rReprG K) wReprG := fun F H vs xs Q P dm r h k => by
  obtain ⟨x, e, rfl, h1, h3, h4, h5, h6⟩ := h
  obtain ⟨v, rfl, r1⟩ := r.one
  exact ⟨hs, v, e, rfl, r1.dg h1, h3, h4, h5, fin_val dm (.str _) h6 k⟩
end
structure FineG (d : PyData) (w : Nat) : Prop where
  sh : d.showable = true
  ls : d.leavesShort 64 = true
  wt : d.weight ≤ w
theorem FineG.len {d : PyData} {w : Nat} (h : FineG d w) (hw : w ≤ 190000) : d.shown.length ≤ 12900041 := by
  have e := PyData.shown_le 64 (by decide) d h.ls
  have := h.wt
  omega
mutual
theorem ls_mono : ∀ d : PyData, d.leavesShort 41 = true → d.leavesShort 64 = true
  | .none, _ => rfl
  | .bool _, _ => rfl
  | .int i, h => by
    simp only [PyData.leavesShort, decide_eq_true_eq] at h ⊢
    omega
  | .str x, h => by
    simp only [PyData.leavesShort] at h ⊢
    exact h
  | .list xs, h => by
    simp only [PyData.leavesShort] at h ⊢
    exact ls_monos xs h
  | .tuple xs, h => by
    simp only [PyData.leavesShort] at h ⊢
    exact ls_monos xs h
  | .dict kvs, h => by
    simp only [PyData.leavesShort] at h ⊢
    exact ls_monok kvs h
theorem ls_monos : ∀ ds : List PyData, PyData.leavesShortAll 41 ds = true → PyData.leavesShortAll 64 ds = true
  | [], _ => rfl
  | d :: ds, h => by
    simp only [PyData.leavesShortAll, Bool.and_eq_true] at h ⊢
    exact ⟨ls_mono d h.1, ls_monos ds h.2⟩
theorem ls_monok : ∀ ds : List (PyData × PyData), PyData.leavesShortKv 41 ds = true → PyData.leavesShortKv 64 ds = true
  | [], _ => rfl
  | (a, b) :: ds, h => by
    simp only [PyData.leavesShortKv, Bool.and_eq_true] at h ⊢
    exact ⟨⟨ls_mono a h.1.1, ls_mono b h.1.2⟩, ls_monok ds h.2⟩
end
def shG (x : PV) : Str := ((toG x).getD .none).shown
def PvG (x : PV) (w k : Nat) : Prop := ∃ e, toG x = some e ∧ FineG e w ∧ e.depth ≤ k
theorem PvG.mono {x : PV} {w k w' k' : Nat} (h : PvG x w k) (hw : w ≤ w') (hk : k ≤ k') : PvG x w' k' :=
  let ⟨e, h1, h2, h3⟩ := h; ⟨e, h1, ⟨h2.sh, h2.ls, Nat.le_trans h2.wt hw⟩, Nat.le_trans h3 hk⟩
theorem PvD.g {x : PV} {w k : Nat} (h : PvD x w k) : PvG x w k := let ⟨e, h1, h2, _, h4⟩ := h; ⟨e, toD_G h1, ⟨h2.sh, ls_mono e h2.ls, h2.wt⟩, h4⟩
theorem pg_all {w k : Nat} : ∀ {xs : List PV}, (∀ x ∈ xs, PvG x w k) → ∃ es, toGs xs = some es ∧ es.length = xs.length ∧ (PyData.showableAll es = true ∧ PyData.leavesShortAll 64 es = true ∧ PyData.weightAll es ≤ es.length * (w + 1)) ∧ PyData.depthAll es ≤ k
  | [], _ => ⟨[], by simp only [toGs], rfl, ⟨rfl, rfl, Nat.zero_le _⟩, Nat.zero_le _⟩
  | x :: xs, h => by
    obtain ⟨e, h1, h2, h3⟩ := h x List.mem_cons_self
    obtain ⟨es, g1, g2, ⟨g3, g4, g5⟩, g6⟩ := pg_all (xs := xs) fun y hy => h y (List.mem_cons_of_mem _ hy)
    refine ⟨e :: es, by simp only [toGs, h1, g1], by rw [List.length_cons, g2, List.length_cons], ⟨?_, ?_, ?_⟩, ?_⟩
    · simp only [PyData.showableAll, h2.sh, g3, Bool.and_self]
    · simp only [PyData.leavesShortAll, h2.ls, g4, Bool.and_self]
    · simp only [PyData.weightAll, List.length_cons]
      have := h2.wt
      rw [Nat.add_mul, Nat.one_mul]
      omega
    · simp only [PyData.depthAll]
      omega
theorem pg_lst {w k n : Nat} {xs : List PV} (h : ∀ x ∈ xs, PvG x w k) (hn : xs.length ≤ n) : PvG (.lst xs) (n * (w + 1)) (k + 1) := by
  obtain ⟨es, g1, g2, ⟨g3, g4, g5⟩, g6⟩ := pg_all h
  refine ⟨.list es, by simp only [toG, g1, Option.map_some], ⟨by simp only [PyData.showable]; exact g3, by simp only [PyData.leavesShort]; exact g4, ?_⟩, by simp only [PyData.depth]; omega⟩
  simp only [PyData.weight]
  exact Nat.le_trans g5 (Nat.mul_le_mul_right _ (g2 ▸ hn))
theorem pg_tup {w k n : Nat} {xs : List PV} (h : ∀ x ∈ xs, PvG x w k) (hn : xs.length ≤ n) : PvG (.tup xs) (n * (w + 1)) (k + 1) := by
  obtain ⟨es, g1, g2, ⟨g3, g4, g5⟩, g6⟩ := pg_all h
  refine ⟨.tuple es, by simp only [toG, g1, Option.map_some], ⟨by simp only [PyData.showable]; exact g3, by simp only [PyData.leavesShort]; exact g4, ?_⟩, by simp only [PyData.depth]; omega⟩
  simp only [PyData.weight]
  exact Nat.le_trans g5 (Nat.mul_le_mul_right _ (g2 ▸ hn))
theorem eqNP_all {n : Nat} (ih : ∀ x e, toG x = some e → e.depth ≤ n → EqNP (n + 1) x x) : ∀ {xs : List PV} {es : List PyData}, toGs xs = some es → PyData.depthAll es ≤ n → Paired (EqNP (n + 1)) xs xs
  | [], _, _, _ => .nil
  | x :: xs, _, h, hd => by
    obtain ⟨a, b, h1, h2, rfl⟩ := toGs_cons h
    simp only [PyData.depthAll] at hd
    exact .cons (ih x a h1 (by omega)) (eqNP_all ih h2 (by omega))
theorem eqNP_self : ∀ (n : Nat) (x : PV) (e : PyData), toG x = some e → e.depth ≤ n → EqNP (n + 1) x x := by
  intro n
  induction n with
  | zero =>
    intro x e h hd
    cases x with
    | non => exact .inl ⟨_, rfl, rfl⟩
    | bl b => exact .inl ⟨_, rfl, rfl⟩
    | int b => exact .inl ⟨_, rfl, rfl⟩
    | str b => exact .inl ⟨_, rfl, rfl⟩
    | dct a b => exact .inr (.inl ⟨_, _, _, rfl, rfl⟩)
    | lst xs =>
      simp only [toG, Option.map_eq_some_iff] at h
      obtain ⟨es, h, rfl⟩ := h
      simp only [PyData.depth] at hd
      omega
    | tup xs =>
      simp only [toG, Option.map_eq_some_iff] at h
      obtain ⟨es, h, rfl⟩ := h
      simp only [PyData.depth] at hd
      omega
    | _ => simp only [toG, reduceCtorEq] at h
  | succ n ih =>
    intro x e h hd
    cases x with
    | non => exact .inl ⟨_, rfl, rfl⟩
    | bl b => exact .inl ⟨_, rfl, rfl⟩
    | int b => exact .inl ⟨_, rfl, rfl⟩
    | str b => exact .inl ⟨_, rfl, rfl⟩
    | dct a b => exact .inr (.inl ⟨_, _, _, rfl, rfl⟩)
    | lst xs =>
      simp only [toG, Option.map_eq_some_iff] at h
      obtain ⟨es, h, rfl⟩ := h
      simp only [PyData.depth] at hd
      exact .inr (.inr (.inr ⟨xs, xs, .inl ⟨rfl, rfl⟩, eqNP_all ih h (by omega)⟩))
    | tup xs =>
      simp only [toG, Option.map_eq_some_iff] at h
      obtain ⟨es, h, rfl⟩ := h
      simp only [PyData.depth] at hd
      exact .inr (.inr (.inr ⟨xs, xs, .inr ⟨rfl, rfl⟩, eqNP_all ih h (by omega)⟩))
    | _ => simp only [toG, reduceCtorEq] at h
theorem PvG.eqn {x : PV} {w k : Nat} (h : PvG x w k) : EqNP (k + 1) x x := let ⟨e, h1, _, h3⟩ := h; eqNP_self k x e h1 h3
theorem eqT_self {neg : Bool} {xs : List PV} {x : PV} {w k : Nat} {P : PV → Prop} (hx : x = .lst xs ∨ x = .tup xs) (h : ∀ y ∈ xs, PvG y w k) (hk : k ≤ 59) (p : P (.bl !neg)) : wEqT neg x x P := by
  refine ⟨k + 1, by omega, ⟨xs, xs, by rcases hx with rfl | rfl <;> simp, ?_⟩, p⟩
  have go : ∀ {l : List PV}, (∀ y ∈ l, PvG y w k) → Paired (EqNP (k + 1)) l l := by
    intro l
    induction l with
    | nil => intro _; exact .nil
    | cons y l ih => intro hl; exact .cons (hl y List.mem_cons_self).eqn (ih fun z hz => hl z (List.mem_cons_of_mem _ hz))
  exact go h
theorem repr_G {x : PV} {w k : Nat} {P : PV → Prop} (h : PvG x w k) (hw : w ≤ 190000) (hk : k ≤ 64) (p : P (.str (shG x))) : wReprG [x] P := by
  obtain ⟨e, h1, h2, h3⟩ := h
  refine ⟨x, e, rfl, h1, h2.sh, Nat.le_trans h3 hk, h2.len hw, ?_⟩
  unfold shG at p
  rw [h1] at p
  exact p
theorem log_62 {i : Int} (h : i.natAbs < 10 ^ 62) : i.natAbs.log2 < 206 := by
  by_cases z : i.natAbs = 0
  · rw [z]
    decide
  · exact (Nat.log2_lt z).mpr (Nat.lt_trans h (by decide))
theorem pg_int {i : Int} (h : i.natAbs < 10 ^ 62) : PvG (.int i) 206 0 := by
  have hl := log_62 h
  refine ⟨.int i, by simp only [toG], ⟨?_, ?_, ?_⟩, Nat.le_refl _⟩
  · simp only [PyData.showable]
    exact decide_eq_true (by omega)
  · simp only [PyData.leavesShort]
    have e := int_text_length_le10 (k := 62) (by decide) h
    refine decide_eq_true ?_
    show (Str.ofString (toString i)).length ≤ 64
    rw [PySem.ofString_length]
    omega
  · simp only [PyData.weight]
    split <;> omega
theorem pg_small {i : Int} (h : i.natAbs < 1000) : PvG (.int i) 11 0 := by
  obtain ⟨e, h1, h2, h3⟩ := pg_int (i := i) (Nat.lt_trans h (by decide))
  have f := fine_small h
  exact ⟨.int i, by simp only [toG], ⟨f.sh, ls_mono _ f.ls, f.wt⟩, Nat.le_refl _⟩
theorem pg_bl {b : Bool} : PvG (.bl b) 0 0 := (pd_bl b).g
theorem pg_non : PvG .non 0 0 := pd_non.g
theorem pg_str {x : Str} {n : Nat} (h : Sml x n) : PvG (.str x) n 0 := (pd_str h).g
theorem pg_dct {a : Addr} {kvs : List (Key × Int)} {w k : Nat} (h1 : (PyData.dict (kvD kvs)).showable = true := by rfl) (h2 : (PyData.dict (kvD kvs)).leavesShort 64 = true := by rfl) (h3 : (PyData.dict (kvD kvs)).weight ≤ w := by decide) (h4 : (PyData.dict (kvD kvs)).depth ≤ k := by decide) : PvG (.dct a kvs) w k := ⟨_, by simp only [toG], ⟨h1, h2, h3⟩, h4⟩
def isW : PV → Bool
  | .int _ => true
  | _ => false
def isH (n : Int) : PV → Bool
  | .int i => decide (0 ≤ i) && decide (i < n)
  | _ => false
section
variable [XC]
variable {K : PySem.W.Frag} {d : Cn → Addr} {F F' F0 F1 : Fz} {H H' H0 : Hp} {ts ts' bt ct : List Tag} {te : TE} {we : WE} {ta : TA} {wa : WA} {v u : V} {R : RR} {t : TS} {w : WS}
def wVarU (i : Nat) : WE := fun ρ P => ∃ a x, ρ[i]? = some (.idv a x) ∧ P x
theorem sim_varU {i : Nat} (h : ts[i]? = some .sh) : Sim K d (rS K d) ts (tVar i) (wVarU i) := fun H0 F0 F H σ ρ Q P E hw k => by
  obtain ⟨v, y, h1, h2, h3⟩ := E.sh i h
  obtain ⟨a, x, e, p⟩ := hw
  rw [h2] at e
  cases e
  cases h3 with
  | idv r => exact ⟨_, h1, k x _ F H (Step.refl E.dm) r p⟩
def isI : PV → Prop
  | .ins _ _ => True
  | _ => False
def wGh (i : Nat) (w : WS) : WS := fun D ρ => ∃ x, ρ[i]? = some x ∧ isI x ∧ ∀ a, w { nx := fun ρ' => ρ'[i]? = some (.idv a x) ∧ D.nx (ρ'.set i x), rt := D.rt } (ρ.set i (.idv a x))
theorem set_bak {α : Type} : ∀ {l : List α} {i : Nat} {x : α}, l[i]? = some x → l.set i x = l
  | [], _, _, h => by simp at h
  | _ :: _, 0, _, h => by simp at h; subst h; rfl
  | y :: l, i + 1, x, h => by
    show y :: l.set i x = y :: l
    rw [set_bak (by simpa using h)]
theorem simS_gh {i : Nat} (hi : ts[i]? = some .sh) (hi' : ts'[i]? = some .sh) (h : SimS K d R bt ct ts t w ts') : SimS K d R bt ct ts t (wGh i w) ts' := fun H0 F0 F H σ ρ D D' E hw n r b c => by
  obtain ⟨v, y, h1, h2, h3⟩ := E.sh i hi
  obtain ⟨x, e, ix, hw⟩ := hw
  rw [h2] at e
  cases e
  have hr : ∃ a, v = .ref a := by
    cases y with
    | ins c fs => cases h3 with
      | ins _ _ => exact ⟨_, rfl⟩
    | _ => exact ix.elim
  obtain ⟨a, rfl⟩ := hr
  have E1 := E.set (i := i) (.idv (a := a) h3)
  rw [set_bak h1, set_bak hi] at E1
  refine h H0 F0 F H σ _ D _ E1 (hw a) (fun F' H' σ' ρ' g E' ⟨e1, p⟩ => ?_) r (fun _ _ _ _ _ _ z => z.elim) (fun _ _ _ _ _ _ z => z.elim)
  obtain ⟨v', y', g1, g2, g3⟩ := E'.sh i hi'
  rw [e1] at g2
  cases g2
  cases g3 with
  | idv g3 =>
    have E2 := E'.set (i := i) g3
    rw [set_bak g1, set_bak hi'] at E2
    exact n F' H' σ' _ g E2 p
def wIsiTG (ps : List (Cn × String)) (we : WE) (A B : String) : WE := fun ρ P => we ρ fun x => (∃ c, insC x = some c ∧ (c, A) ∈ ps ∧ (c, B) ∈ ps ∧ P (.bl false)) ∨ ∃ a k l, tyP x = some a ∧ kitB a A = some k ∧ kitB a B = some l ∧ P (.bl (k || l))
theorem sim_isiTG {A B : String} {ps : List (Cn × String)} (ki : KiOk K d ps) (h : Sim K d (rW K d) ts te we) : Sim K d (rN K d) ts (tCB (rIsiT K) (tCons te (tCons (tTup (tCons (tC (.ty A)) (tCons (tC (.ty B)) tNil))) tNil))) (wIsiTG ps we A B) := fun H0 F0 F H σ ρ Q P E hw k =>
  h H0 F0 F H σ ρ _ _ E hw fun x v F1 H1 s1 r1 h => ⟨szc rfl, fun p np => by
    have s2 := Step.new (o := .tup [.ty A, .ty B]) s1.dm np
    rcases h with ⟨c, h1, h2, h3, h4⟩ | ⟨b, a, l, h1, h2, h3, h4⟩
    · obtain ⟨i, ka⟩ := ki.ok _ h2
      obtain ⟨_, kb⟩ := ki.ok _ h3
      have ty := insC_ty (Rw.step s2 r1) h1 i
      refine ⟨v, p, _, _, [.type A, .type B], false, rfl, upd_same, .cons (.ty _) (.cons (.ty _) .nil), ty, ?_, k (.bl _) _ F1 _ (s1.trans s2) (.inl ⟨trivial, .bl _⟩) h4⟩
      exact kitAny_cons (b := false) ka (fun _ => kitAny_cons (b := false) kb (fun _ => rfl) (fun z => by cases z)) (fun z => by cases z)
    · have ty := tyP_ok (Rw.step s2 r1) h1
      refine ⟨v, p, _, _, [.type A, .type B], a || l, rfl, upd_same, .cons (.ty _) (.cons (.ty _) .nil), ty, ?_, k (.bl _) _ F1 _ (s1.trans s2) (.inl ⟨trivial, .bl _⟩) h4⟩
      exact kitAny_cons (b := a) (kit_ty h2) (fun z => by
        subst z
        exact kitAny_cons (b := l) (kit_ty h3) (fun z => by subst z; rfl) (fun z => by subst z; rfl)) (fun z => by subst z; rfl)⟩
end
section
variable [XC]
variable {K : PySem.W.Frag} {d : Cn → Addr}
def wRepT : W2 := fun x y P => ∃ xs k, x = .tup xs ∧ y = .int k ∧ xs ≠ [] ∧ 2 ≤ k ∧ k ≤ 1000 ∧ xs.length ≤ 1000 ∧ P (.tup (List.replicate k.toNat xs).flatten)
end
section
variable [XC]
variable {K : PySem.W.Frag} {d : Cn → Addr}
def rStrMulX : R2 := fun x y H Q => ∃ (a : Str) (n : Int), x = .str a ∧ y = .int n ∧ 0 ≤ n ∧ n ≤ 10000 ∧ a.length ≤ 10 ∧ Q (.str (Txt.mul a n)) H
theorem op_strmulX {X : Cx} : OpR X (binaryOp .Mult) rStrMulX := by
  intro pins s σ H x y v u Q I rx ry h
  obtain ⟨a, n, rfl, rfl, h0, h1, h2, q⟩ := h
  obtain ⟨t, rfl⟩ := rx
  obtain ⟨t', rfl⟩ := ry
  refine SB.mul ⟨?_, fun h3 _ => ?_, fun h3 _ => ?_⟩ fun t'' k => ⟨.str _, H, I.tok _, ⟨_, rfl⟩, q⟩
  · rw [Bool.or_eq_false_iff]
    exact ⟨decide_eq_false (by omega), decide_eq_false (by omega)⟩
  · have e : (10 : Int) ≤ (2 ^ 63 - 1) / n := (Int.le_ediv_iff_mul_le (by omega)).mpr (by omega)
    have e2 : (a.length : Int) ≤ 10 := by omega
    omega
  · unfold Builtin.Str.tooLong
    refine decide_eq_false ?_
    have : a.length * n.toNat ≤ 10 * 10000 := Nat.mul_le_mul h2 (by omega)
    have e : (10 * 10000 : Nat) ≤ sizeLine := by decide
    omega
def wMulX : W2 := fun x y P => ∃ (a : Str) (n : Int), x = .str a ∧ y = .int n ∧ 0 ≤ n ∧ n ≤ 10000 ∧ a.length ≤ 10 ∧ P (.str (Txt.mul a n))
theorem ops_strmulX : OpS K d (rN K d) rStrMulX wMulX := fun F H v u x y Q P dm rx ry h k => by
  obtain ⟨a, n, rfl, rfl, h0, h1, h2, p⟩ := h
  cases rx.strE
  cases ry.intE
  exact ⟨a, n, rfl, rfl, h0, h1, h2, fin_val dm (.str _) p k⟩
end
end Wx
namespace Wx
open PySem PySem.Spec PyProof.Rows L2 Evl Hn RZ
variable [TabC]
mutual
def noK (ks : List Str) : PV → Bool
  | .lst xs => noKs ks xs
  | .tup xs => noKs ks xs
  | .ins _ fs => noKf ks fs && !decide (fs.map (·.1) = ks)
  | .idv _ x => noK ks x
  | .fnv _ xs => noKs ks xs
  | .bag => false
  | _ => true
def noKs (ks : List Str) : List PV → Bool
  | [] => true
  | x :: xs => noK ks x && noKs ks xs
def noKf (ks : List Str) : List (Str × PV) → Bool
  | [] => true
  | (_, x) :: fs => noK ks x && noKf ks fs
end
def putP (f : Str) (v : PV) : List (Str × PV) → List (Str × PV)
  | [] => [(f, v)]
  | (g, x) :: r => if g = f then (g, v) :: r else (g, x) :: putP f v r
section
variable {K : PySem.W.Frag} {d : Cn → Addr} {F F' F0 F1 : Fz} {H H' H0 : Hp} {v : V}
theorem Rvf.keys : ∀ {gs : List (Str × V)} {fs : List (Str × PV)}, Rvf K d F H gs fs → gs.map (·.1) = fs.map (·.1)
  | _, _, .nil => rfl
  | _, _, .cons _ b => by rw [List.map_cons, List.map_cons, b.keys]
theorem Rvf.len : ∀ {gs : List (Str × V)} {fs : List (Str × PV)}, Rvf K d F H gs fs → gs.length = fs.length
  | _, _, .nil => rfl
  | _, _, .cons _ b => by rw [List.length_cons, List.length_cons, b.len]
theorem Rvf.put {f : Str} {y : PV} (r : Rv K d F H v y) : ∀ {gs : List (Str × V)} {fs : List (Str × PV)}, Rvf K d F H gs fs → Rvf K d F H (putF f v gs) (putP f y fs)
  | _, _, .nil => .cons r .nil
  | _, _, .cons (f := g) a b => by
    unfold putF putP
    split
    · exact .cons r b
    · exact .cons a (b.put r)
section
variable {ks : List Str} {x : Addr} {C dx : Addr} {gx : List (Str × V)} {o : HO}
theorem keep_ne {a : Addr} {u : HO} (hx : H x = some (.ins C dx gx)) (ha : H a = some u) (n : ∀ C dx gs, u ≠ .ins C dx gs) : upd H x o a = some u := by
  rw [upd_ne (fun e => by rw [e, hx] at ha; cases ha; exact n _ _ _ rfl)]
  exact ha
mutual
theorem Rv.wr (hx : H x = some (.ins C dx gx)) (hk : gx.map (·.1) = ks) : ∀ {v : V} {y : PV}, Rv K d F H v y → noK ks y = true → Rv K d F (upd H x o) v y
  | _, _, .non, _ => .non
  | _, _, .bl b, _ => .bl b
  | _, _, .int i, _ => .int i
  | _, _, .str s, _ => .str s
  | _, _, .ty n, _ => .ty n
  | _, _, .cls c, _ => .cls c
  | _, _, .lst h1 h2 h3, n => .lst (keep_ne hx h1 (fun _ _ _ e => by cases e)) h2 (Rvs.wr hx hk h3 (by simpa only [noK] using n))
  | _, _, .tup (a := a) h1 h2, n => .tup (by
      rcases h1 with (h | ⟨o', h⟩) | h
      · exact .inl (.inl (keep_ne hx h (fun _ _ _ e => by cases e)))
      · exact .inl (.inr ⟨o', keep_ne hx h (fun _ _ _ e => by cases e)⟩)
      · exact .inr h) (Rvs.wr hx hk h2 (by simpa only [noK] using n))
  | _, _, .ins (a := a) (dx := dy) (gs := gs) (fs := fs) h1 h2, n => by
    simp only [noK, Bool.and_eq_true] at n
    refine .ins (dx := dy) ?_ (Rvf.wr hx hk h2 n.1)
    rw [upd_ne (fun e => ?_)]
    · exact h1
    · rw [e, hx] at h1
      cases h1
      have := n.2
      rw [← h2.keys, hk] at this
      simp at this
  | _, _, .bag _, n => by simp only [noK] at n; cases n
  | _, _, .scr h1 h2, _ => .scr (by
      rcases h1 with ⟨h, q⟩ | ⟨o', h⟩ | h
      · exact .inl ⟨keep_ne hx h (fun _ _ _ e => by cases e), q⟩
      · exact .inr (.inl ⟨o', keep_ne hx h (fun _ _ _ e => by cases e)⟩)
      · exact .inr (.inr h)) h2
  | _, _, .fnv h1 h2, n => .fnv (keep_ne hx h1 (fun _ _ _ e => by cases e)) (Rvs.wr hx hk h2 (by simpa only [noK] using n))
  | _, _, .dct h1 h2, _ => .dct (keep_ne hx h1 (fun _ _ _ e => by cases e)) h2
  | _, _, .idv h, n => .idv (Rv.wr hx hk h (by simpa only [noK] using n))
theorem Rvs.wr (hx : H x = some (.ins C dx gx)) (hk : gx.map (·.1) = ks) : ∀ {vs : List V} {ys : List PV}, Rvs K d F H vs ys → noKs ks ys = true → Rvs K d F (upd H x o) vs ys
  | _, _, .nil, _ => .nil
  | _, _, .cons a b, n => by
    simp only [noKs, Bool.and_eq_true] at n
    exact .cons (Rv.wr hx hk a n.1) (Rvs.wr hx hk b n.2)
theorem Rvf.wr (hx : H x = some (.ins C dx gx)) (hk : gx.map (·.1) = ks) : ∀ {gs : List (Str × V)} {fs : List (Str × PV)}, Rvf K d F H gs fs → noKf ks fs = true → Rvf K d F (upd H x o) gs fs
  | _, _, .nil, _ => .nil
  | _, _, .cons a b, n => by
    simp only [noKf, Bool.and_eq_true] at n
    exact .cons (Rv.wr hx hk a n.1) (Rvf.wr hx hk b n.2)
end
end
end
section
variable {K : PySem.W.Frag} {d : Cn → Addr} {F : Fz} {H : Hp} {v : V}
theorem noKf_put {ks : List Str} {f : Str} {y : PV} (hy : noK ks y = true) : ∀ {fs : List (Str × PV)}, noKf ks fs = true → noKf ks (putP f y fs) = true
  | [], _ => by simp only [putP, noKf, hy, Bool.and_self]
  | (g, x) :: r, n => by
    simp only [noKf, Bool.and_eq_true] at n
    unfold putP
    split
    · simp only [noKf, hy, n.2, Bool.and_self]
    · simp only [noKf, n.1, noKf_put hy n.2, Bool.and_self]
theorem Rvf.wr_put {f : Str} {y : PV} {x C dx : Addr} {gs : List (Str × V)} {fs : List (Str × PV)} {o : HO} (r : Rvf K d F H (putF f v gs) (putP f y fs)) (hk : gs.map (·.1) = fs.map (·.1)) (hx : H x = some (.ins C dx gs)) (n1 : noK (fs.map (·.1)) y = true) (n2 : noKf (fs.map (·.1)) fs = true) : Rvf K d F (upd H x o) (putF f v gs) (putP f y fs) :=
  Rvf.wr hx hk r (noKf_put n1 n2)
theorem Dom.ins {p C dx : Addr} {gs : List (Str × V)} {o : HO} (h : Dom F H) (hp : H p = some (.ins C dx gs)) : Dom F (upd H p o) := ⟨fun a f => upd_def (h.at_ a f), h.tb.mut hp rfl rfl⟩
end
def shNo (ts : List Tag) : Bool := ts.all fun t => decide (t = .sh) || decide (t = .no)
theorem shNo_get {ts : List Tag} (h : shNo ts = true) {i : Nat} {t : Tag} (e : ts[i]? = some t) : t = .sh ∨ t = .no := by
  have := List.all_eq_true.mp h _ (List.mem_of_getElem? e)
  simpa using this
def wFldS (a : Addr) (c : Cn) (f : Str) (we : WE) : WS := fun D ρ => we ρ fun y => ∃ fs, ρ[0]? = some (.idv a (.ins c fs)) ∧ fs.length < 1000 ∧ noK (fs.map (·.1)) y = true ∧ noKf (fs.map (·.1)) fs = true ∧ noKs (fs.map (·.1)) (ρ.drop 1) = true ∧ D.nx (ρ.set 0 (.idv a (.ins c (putP f y fs))))
theorem noKs_get {ks : List Str} : ∀ {xs : List PV} {i : Nat} {x : PV}, noKs ks xs = true → xs[i]? = some x → noK ks x = true
  | [], _, _, _, h => by simp at h
  | y :: ys, 0, _, n, h => by
    simp only [noKs, Bool.and_eq_true] at n
    simp at h
    subst h
    exact n.1
  | y :: ys, i + 1, _, n, h => by
    simp only [noKs, Bool.and_eq_true] at n
    exact noKs_get n.2 (by simpa using h)
section
variable [XC]
variable {K : PySem.W.Frag} {d : Cn → Addr} {F F' F0 F1 : Fz} {H H' H0 : Hp} {ts ts' ts1 ts2 bt ct : List Tag} {te : TE} {we : WE} {R : RR} {a : Addr} {t t' : TS} {w w' : WS}
def SimZ (K : PySem.W.Frag) (d : Cn → Addr) (a : Addr) (R : RR) (ts : List Tag) (t : TS) (w : WS) (ts' : List Tag) : Prop := ∀ (H0 : Hp) (F0 F : Fz) (H : Hp) (σ : L2.St) (ρ : List PV) (D : Ends) (D' : WEnds), H0 a = none → (∀ ρ, ¬ D'.bk ρ) → (∀ ρ, ¬ D'.ct ρ) → EnvR K d ts H0 F0 F H σ ρ → w D' ρ →
  (∀ F' H' σ' ρ', EnvR K d ts' H0 F0 F' H' σ' ρ' → D'.nx ρ' → D.nx σ' H') →
  (∀ x v F' H', Step F0 H0 F' H' → R F0 H0 F' H' v x → D'.rt x → D.rt v H') → t D σ H
theorem simZ_of (h : SimS K d R [] [] ts t w ts') : SimZ K d a R ts t w ts' := fun H0 F0 F H σ ρ D D' ha nb nc E hw n r =>
  h H0 F0 F H σ ρ D D' E hw (fun F' H' σ' ρ' _ E' p => n F' H' σ' ρ' E' p) r (fun _ _ _ ρ' _ _ p => (nb ρ' p).elim) (fun _ _ _ ρ' _ _ p => (nc ρ' p).elim)
theorem simZ_seq (h : SimZ K d a R ts t w ts1) (h' : SimZ K d a R ts1 t' w' ts2) : SimZ K d a R ts (tSeq t t') (wSeq w w') ts2 := fun H0 F0 F H σ ρ D D' ha nb nc E hw n r =>
  h H0 F0 F H σ ρ _ { D' with nx := w' D' } ha nb nc E hw (fun F1 H1 σ1 ρ1 E1 h1 => h' H0 F0 F1 H1 σ1 ρ1 D D' ha nb nc E1 h1 n r) r
theorem simZ_fld {f : Str} {C : Addr} {c : Cn} (h0 : ts[0]? = some .sh) (hs : shNo ts = true) (hc : Cls K C) (hn : NoAttr K C f) (h : Sim K d (rS K d) ts te we) (hC : d c = C := by rfl) : SimZ K d a R ts (sFld K (tVar 0) te f) (wFldS a c f we) ts := fun H0 F0 F H σ ρ D D' ha nb nc E hw n r => by
  subst hC
  refine h H0 F0 F H σ ρ _ _ E hw fun y v F1 H1 s1 r1 ⟨fs, e0, hl, n1, n2, n3, p⟩ => ?_
  have E1 := E.step s1
  obtain ⟨v0, x0, g1, g2, g3⟩ := E1.sh 0 h0
  rw [e0] at g2
  cases g2
  cases g3 with
  | idv g3 =>
    cases g3 with
    | @ins _ dx _ gs _ g4 g5 =>
      refine ⟨_, g1, a, d c, dx, gs, rfl, g4, hc, hn, by rw [g5.len]; exact hl, ?_⟩
      have kk : gs.map (·.1) = fs.map (·.1) := g5.keys
      have new : Rv K d F1 (upd H1 a (.ins (d c) dx (putF f v gs))) (.ref a) (.ins c (putP f y fs)) := .ins (dx := dx) upd_same ((Rvf.put r1 g5).wr_put kk g4 n1 n2)
      refine n F1 _ σ _ ⟨⟨Xn.mut E1.st.ex ha, E1.st.up, E1.st.nw, E1.dm.ins g4⟩, E1.ls, by rw [List.length_set]; exact E1.lr, fun i hi => ?_, fun i hi => ?_, fun i j b hi => ?_, fun i hi => ?_, fun i b hi => ?_, E1.xc, fun i hi => ?_⟩ p
      · obtain ⟨vi, xi, q1, q2, q3⟩ := E1.sh i hi
        by_cases ei : i = 0
        · subst ei
          rw [g1] at q1
          cases q1
          exact ⟨_, _, g1, by rw [List.getElem?_set_self (by have := List.getElem?_eq_some_iff.mp e0; exact this.1)], .idv new⟩
        · refine ⟨vi, xi, q1, by rw [List.getElem?_set_ne (fun z => ei z.symm)]; exact q2, Rv.wr g4 kk q3 (noKs_get (i := i - 1) n3 ?_)⟩
          rw [List.getElem?_drop]
          rw [show 1 + (i - 1) = i by omega]
          exact q2
      · rcases shNo_get hs hi with z | z <;> cases z
      · rcases shNo_get hs hi with z | z <;> cases z
      · rcases shNo_get hs hi with z | z <;> cases z
      · rcases shNo_get hs hi with z | z <;> cases z
      · rcases shNo_get hs hi with z | z <;> cases z
end
section
variable {P : Program} {w : World} {K : PySem.W.Frag} {mg : Str → Option Value} {base : Heap} {d : Cn → Addr} {ea : En → Option Addr} {R : RR}
def spI (K : PySem.W.Frag) (d : Cn → Addr) (ea : En → Option Addr) (c : Cn) (w : WFX) : Sp := fun vs H Q E => ∃ (x dx : Addr) (H0 : Hp) (args : List V) (F : Fz) (xs : List PV) (P : PV → Prop) (EX : En → Fs → Prop), vs = .ref x :: args ∧ H = upd (upd H0 dx (.own x)) x (.ins (d c) dx []) ∧
  H0 x = none ∧ H0 dx = none ∧ dx ≠ x ∧ Dom F H0 ∧ Rvs K d F H0 args xs ∧ w xs P EX ∧ (∀ y F' H', Step F H0 F' H' → Rv K d F' H' (.ref x) y → notL y → P y → Q .non H') ∧ ∀ n C fs o F' H', ea n = some C → Step F H0 F' H' → XdOk K d H0 n F' H' o fs → EX n fs → E (.ref C) o H'
theorem mkI {c : Cn} {w : WFX} : MkSX K d ea c (spI K d ea c w) w := fun F H vs xs Q P EX E dm r hw k kE x dx nx ndx ne =>
  ⟨x, dx, H, vs, F, xs, P, EX, by simp, rfl, nx, ndx, ne, dm, r, hw, fun y F' H' s ry nl p => ⟨rfl, k y _ F' H' s ry nl p⟩, kE⟩
def wNoE (w : WFX) : WF := fun xs P => w xs P fun _ _ => False
theorem mkIE {c : Cn} {w : WFX} : MkS K d c (spI K d ea c w) (wNoE w) := fun F H vs xs Q P E dm r hw k x dx nx ndx ne =>
  ⟨x, dx, H, vs, F, xs, P, fun _ _ => False, by simp, rfl, nx, ndx, ne, dm, r, hw, fun y F' H' s ry nl p => ⟨rfl, k y _ F' H' s ry nl p⟩, fun _ _ _ _ _ _ _ _ _ z => z.elim⟩
def wInit (c : Cn) (n m : Nat) (ws : Addr → (List PV → En → Fs → Prop) → WS) : WFX := fun xs P EX => xs.length = n ∧ ∀ a, ws a (fun _ => EX) { nx := fun ρ => ∃ fs, ρ[0]? = some (.idv a (.ins c fs)) ∧ P (.ins c fs), rt := fun _ => False } (.idv a (.ins c []) :: (xs ++ List.replicate m .non))
theorem tags_no {n m i : Nat} {t : Tag} (h : (tags n m)[i]? = some t) : t = .sh ∨ t = .no := by
  unfold tags at h
  have := List.mem_of_getElem? h
  simp only [List.mem_append, List.mem_replicate] at this
  rcases this with ⟨_, e⟩ | ⟨_, e⟩
  · exact .inl e
  · exact .inr e
theorem okwI_of {c : Cn} {x qual : Str} {st : Stmt} {f : Addr} {N ps : List Str} {k n m : Nat} {ws : Addr → (List PV → En → Fs → Prop) → WS} {tx ts' : List Tag} (Df' : Df K x qual st f ps) (S : FnScope N ps (defScope st)) (hn : ps.length = n + 1) (hN : N.length = n + 1 + m) (h0 : ts'[0]? = some .sh)
    (hbody : ∀ (cdv : Value) (A : Around) (outer : List Env) (s : Shared) (H : Hp) (E : XK), Room k (A.deeper (envOfC qual (defScope st) s.heap.objs.size f cdv)) →
      ∃ t, PSs (cxOf (L2.CX P w) P w K mg base N qual (defScope st) f cdv A outer s H E) (defBody st) t ∧ ∀ a EX, @SimZ _ (xcOf K d ea (fun c o _ H' => E c o H') EX tx) K d a (rS K d) (tags (n + 1) m) t (ws a EX) ts') : Okf P w K mg base (k + 1) f ps (spI K d ea c (wInit c n m ws)) :=
  okx_of Df' S (fun vs H Q E h => by
    obtain ⟨x, dx, H0, args, F, xs, P, EX, rfl, _, _, _, _, _, r, ⟨hl, _⟩, _⟩ := h
    rw [List.length_cons, r.length, hl, hn]) fun cdv A outer s H vs Q E hr h => by
    obtain ⟨t, D, sim⟩ := hbody cdv A outer s H E hr
    obtain ⟨x, dx, H0, args, F, xs, P, EX, rfl, rfl, nx, ndx, ne, dm, r, ⟨hl, hw⟩, k, kE⟩ := h
    have s1 : Step F H0 F (upd H0 dx (.own x)) := Step.new dm ndx
    have s2 : Step F (upd H0 dx (.own x)) F (upd (upd H0 dx (.own x)) x (.ins (d c) dx [])) := Step.new s1.dm (by rw [upd_ne (fun e => ne e.symm)]; exact nx)
    have s12 := s1.trans s2
    have r2 : Rvs K d F (upd (upd H0 dx (.own x)) x (.ins (d c) dx [])) (.ref x :: args) (.idv x (.ins c []) :: xs) := .cons (.idv (.ins (dx := dx) upd_same .nil)) (r.step s12)
    have E0 := @env_start _ K d xc0 N F _ (.ref x :: args) (.idv x (.ins c []) :: xs) (n + 1) m s12.dm r2 (by rw [List.length_cons, hl]) hN trivial
    have i1 := E0.ls
    have i2 := E0.lr
    have i3 := E0.sh
    have E1 : @EnvR _ (xcOf K d ea (fun c o _ H' => E c o H') (fun _ => EX) tx) K d (tags (n + 1) m) H0 F F (upd (upd H0 dx (.own x)) x (.ins (d c) dx [])) (L2.start N (.ref x :: args)) ((.idv x (.ins c []) :: xs) ++ List.replicate m .non) := by
      letI : XC := xcOf K d ea (fun c o _ H' => E c o H') (fun _ => EX) tx
      refine ⟨s12, i1, i2, i3, fun i hi => ?_, fun i j b hi => ?_, fun i hi => ?_, fun i b hi => ?_, fun n C fs o F' H' σ' ρ' hn E1 xd ex => kE n C fs o F' H' hn E1.base.st xd ex, fun i hi => ?_⟩
      · rcases tags_no hi with z | z <;> cases z
      · rcases tags_no hi with z | z <;> cases z
      · rcases tags_no hi with z | z <;> cases z
      · rcases tags_no hi with z | z <;> cases z
      · rcases tags_no hi with z | z <;> cases z
    refine ⟨t, D, sim x (fun _ => EX) H0 F F _ _ _ _ _ nx (fun _ z => z) (fun _ z => z) E1 (hw x) (fun F' H' σ' ρ' E' ⟨fs, e1, p⟩ => ?_) (fun _ _ _ _ _ _ z => z.elim)⟩
    obtain ⟨v, y, g1, g2, g3⟩ := E'.base.sh 0 h0
    rw [e1] at g2
    cases g2
    cases g3 with
    | idv g3 => exact k _ F' H' E'.base.st g3 trivial p
end
end Wx
namespace Hn
open PySem PySem.Spec PyProof.Rows L2 Evl
section
variable {X : Cx} {k : Nat} {f C : Addr} {ps : List Str} {sp : Sp} {E : L2.St → XK} {a b : Expr} {ta tb : TE} {pos : Pos}
def tOwnX (C : Addr) (sp : Sp) (E : L2.St → XK) (ta tb : TE) : TE := fun σ H Q => ta σ H fun x H1 => tb σ H1 fun y H2 => ∃ p q dx dy fs gs, x = .ref p ∧ y = .ref q ∧ H2 p = some (.ins C dx fs) ∧ H2 q = some (.ins C dy gs) ∧ sp [x, y] H2 Q (E σ)
theorem pe_ownX {op : Operator} (G : Okf X.prog X.w X.K X.mg X.base k f ps sp) (hr : Room k X.A) (hx : ∀ σ, PassesAt (L2.CX X.prog X.w) X σ (E σ))
    (hc : PySem.W.selfFirst X.K C = true) (hs : PySem.W.findIn X.K (.ref C) (PySem.dunder op.info.2) = some (some (.ref f))) (hf : PySem.W.isFn X.K (.ref f) = true)
    (ha : PE X a ta) (hb : PE X b tb) : PE X (.BinOp a op b pos) (tOwnX C sp E ta tb) := by
  obtain ⟨fd, F, hbd⟩ := G
  refine ⟨fun pins s σ H Q I h => ?_⟩
  refine wpAny_BinOp (binT (R := fun x y H2 => ∃ p q dx dy fs gs, x = .ref p ∧ y = .ref q ∧ H2 p = some (.ins C dx fs) ∧ H2 q = some (.ins C dy gs) ∧ sp [x, y] H2 Q (E σ)) ha hb I h fun v u s2 x y H2 I2 rx ry q => ?_)
  obtain ⟨p, q, dx, dy, fs, gs, rfl, rfl, ea, eb, q⟩ := q
  cases rx
  cases ry
  obtain ⟨mA, J, _⟩ := ins_get I2.hok ea
  obtain ⟨mB, J', _⟩ := ins_get I2.hok eb
  obtain ⟨od, J, _⟩ := J.look
  obtain ⟨od', J', _⟩ := J'.look
  obtain ⟨m, hF⟩ := I2.fr
  refine PySem.W.binop_K hF I2.ok.mod.kin J J'.type hc hs hf ?_
  exact wpAny_mono (run_fnS (us := [.ref p, .ref _]) (vs := [.ref p, .ref _]) F hr hbd (hx σ) I2 (.cons rfl (.cons rfl .nil)) q) (fun v s' hv => back_ne hv) fun _ _ e => e
end
end Hn
namespace Wx
open PySem PySem.Spec PyProof.Rows L2 Evl Hn
variable [TabC]
def wOwnX (EX : List PV → En → Fs → Prop) (c : Cn) (w : WFX) (wx wy : WE) : WE := fun ρ P => wx ρ fun x => wy ρ fun y => (∃ fs gs, x = .ins c fs ∧ y = .ins c gs) ∧ w [x, y] P (EX ρ)
section
variable {K : PySem.W.Frag} {d : Cn → Addr} {ea : En → Option Addr} {R : RR} {ts tx : List Tag} {W : WX} {EX : List PV → En → Fs → Prop}
theorem sim_ownX {w : WFX} {ta tb : TE} {wx wy : WE} {C : Addr} (cn : Cn) (o : ROk R) (c : cv ts tx = true) (nx : noX tx = true) (ha : @Sim _ (xcOf K d ea W EX tx) K d (rS K d) ts ta wx) (hb : @Sim _ (xcOf K d ea W EX tx) K d (rS K d) ts tb wy) (hC : d cn = C := by rfl) : @Sim _ (xcOf K d ea W EX tx) K d R ts (tOwnX C (spWX K d ea R w) (fun σ c o H => W c o σ H) ta tb) (wOwnX EX cn w wx wy) := fun H0 F0 F H σ ρ Q P E hw k =>
  ha H0 F0 F H σ ρ _ _ E hw fun x v F1 H1 s1 r1 h1 => hb H0 F0 F1 H1 σ ρ _ _ (E.step_ s1) h1 fun y u F2 H2 s2 r2 ⟨⟨fs, gs, ex, ey⟩, h2⟩ => by
    subst hC
    subst ex
    subst ey
    have r1' := Rv.step s2 r1
    obtain ⟨p, dx, as, rfl, h3, h4⟩ := Rv.insE r1'
    obtain ⟨q, dy, bs, rfl, g3, g4⟩ := Rv.insE r2
    exact ⟨p, q, dx, dy, as, bs, rfl, rfl, h3, g3, F2, _, P, EX ρ, s2.dm, .cons r1' (.cons r2 .nil), h2, fun x v F' H' s r q => k x v F' H' ((s1.trans s2).trans s) (o.back (s1.trans s2) r) q, fun n C fs oo F' H' hn s xd ex => xc_goes (((E.step_ s1).step_ s2).step_ s) c nx hn (xd.back ((E.step_ s1).step_ s2).base.st.ex) ex⟩
end
end Wx
namespace Wx
open PySem PySem.Spec PyProof.Rows L2 Evl Hn
variable [TabC]
def wOwn0 (c : Cn) (w : WFX) : W2 := fun x y P => (∃ fs gs, x = .ins c fs ∧ y = .ins c gs) ∧ w [x, y] P fun _ _ => False
section
variable {K : PySem.W.Frag} {d : Cn → Addr} {ea : En → Option Addr} {R : RR}
theorem ows_own0 {w : WFX} {C : Addr} {E : XK} (c : Cn) (hC : d c = C := by rfl) : OwS K d R (rOwn C (spWX K d ea R w) E) (wOwn0 c w) := fun F H v u x y Q P dm rx ry h k => by
  obtain ⟨⟨fs, gs, rfl, rfl⟩, h⟩ := h
  subst hC
  obtain ⟨p, dx, as, rfl, h2, h3⟩ := rx.insE
  obtain ⟨q, dy, bs, rfl, g2, g3⟩ := ry.insE
  exact ⟨p, q, dx, dy, as, bs, rfl, rfl, h2, g2, F, _, P, _, dm, .cons rx (.cons ry .nil), h, k, fun _ _ _ _ _ _ _ _ _ z => z.elim⟩
end
end Wx
namespace Hn
open PySem PySem.Spec PyProof.Rows L2 Evl
section
variable {X : Cx} {k : Nat} {f C : Addr} {ps : List Str} {sp : Sp} {E : L2.St → XK} {a b : Expr} {ta tb : TE} {pos : Pos} {fd : FuncData}
theorem run_fnS1 {pins : List (Addr × Obj)} {σ : L2.St} {H : Hp} {s : Shared} {Q : VK} {us : List Value} {vs : List V} (F : FnOk X.prog X.w X.K X.mg X.base (L2.CX X.prog X.w) k f fd ps sp) (hr : Room (k + 1) X.A) (hb : Binds X.K fd ps []) (hx : PassesAt (L2.CX X.prog X.w) X σ (E σ))
    (I : L2.Inv X pins σ H s) (r : Vals vs us) (h : sp vs H Q (E σ)) : wpAny (model X.prog X.w) X.A.in1 (call (.ref f) us) (EP X pins σ Q) X.xe s := by
  have hl : (us ++ []).length = ps.length := by
    rw [List.append_nil, ← r.length]
    exact F.len _ _ _ _ h
  have hb' := hb s us I.kIn hl
  rw [List.append_nil] at hb'
  refine wpAny_call (codeAny_mono (F.run X.A.in1 X.stack s H ⟨us, []⟩ us vs Q (E σ) hr.in1 I.env0.in1 hb' r h) fun r s' hq => ?_)
  cases r with
  | error e => exact hx pins H s e s' I hq
  | ok fl =>
    cases fl with
    | ret u => exact I.after hq
    | next => exact False.elim hq
    | brk => exact False.elim hq
    | cont => exact False.elim hq
def tIxX (C : Addr) (sp : Sp) (E : L2.St → XK) (ta tb : TE) : TE := fun σ H Q => ta σ H fun x H1 => tb σ H1 fun y H2 => ∃ a dx fs, x = .ref a ∧ H2 a = some (.ins C dx fs) ∧ sp [x, y] H2 Q (E σ)
theorem pe_ixX {a b : Expr} {ta tb : TE} {pos : Pos} (G : Okf X.prog X.w X.K X.mg X.base k f ps sp) (hr : Room (k + 1) X.A) (hx : ∀ σ, PassesAt (L2.CX X.prog X.w) X σ (E σ))
    (hs : PySem.W.findIn X.K (.ref C) "__getitem__" = some (some (.ref f))) (hf : PySem.W.fnIn X.K f = true) (hfn : PySem.W.isFn X.K (.ref f) = true) (ha : PE X a ta) (hb : PE X b tb)
    (hsl : ∀ x i, subscripted b true (.ref x) i = runValue (.builtin "lifetime.subscript" ⟨[.ref x, i], []⟩) := by intro _ _; with_unfolding_all rfl) : PE X (.Subscript a b pos) (tIxX C sp E ta tb) := by
  obtain ⟨fd, F, hbd⟩ := G
  refine ⟨fun pins s σ H Q I h => ?_⟩
  refine Subscript_ (binT (R := fun x y H2 => ∃ a dx fs, x = .ref a ∧ H2 a = some (.ins C dx fs) ∧ sp [x, y] H2 Q (E σ)) ha hb I h fun v u s2 x y H2 I2 rx ry q => ?_)
  obtain ⟨p, dx, fs, rfl, hp, q⟩ := q
  cases rx
  obtain ⟨mA, J, _⟩ := ins_get I2.hok hp
  obtain ⟨od, J, _⟩ := J.look
  obtain ⟨m, hF⟩ := I2.fr
  refine PySem.W.sub_K hF I2.ok.mod.kin J hs hf hfn ?_ (hsl p u)
  exact run_fnS1 (us := [.ref p, u]) (vs := [.ref p, y]) F hr hbd (hx σ) I2 (.cons rfl (.cons ry .nil)) q
end
end Hn
namespace Wx
open PySem PySem.Spec PyProof.Rows L2 Evl Hn
variable [TabC]
def wIxX (EX : List PV → En → Fs → Prop) (c : Cn) (w : WFX) (wx wy : WE) : WE := fun ρ P => wx ρ fun x => wy ρ fun y => (∃ fs, x = .ins c fs) ∧ w [x, y] P (EX ρ)
section
variable {K : PySem.W.Frag} {d : Cn → Addr} {ea : En → Option Addr} {R : RR} {ts tx : List Tag} {W : WX} {EX : List PV → En → Fs → Prop}
theorem sim_ixX {w : WFX} {ta tb : TE} {wx wy : WE} {C : Addr} (cn : Cn) (o : ROk R) (c : cv ts tx = true) (nx : noX tx = true) (ha : @Sim _ (xcOf K d ea W EX tx) K d (rS K d) ts ta wx) (hb : @Sim _ (xcOf K d ea W EX tx) K d (rS K d) ts tb wy) (hC : d cn = C := by rfl) :
    @Sim _ (xcOf K d ea W EX tx) K d R ts (tIxX C (spWX K d ea R w) (fun σ c o H => W c o σ H) ta tb) (wIxX EX cn w wx wy) := fun H0 F0 F H σ ρ Q P E hw k =>
  ha H0 F0 F H σ ρ _ _ E hw fun x v F1 H1 s1 r1 h1 => hb H0 F0 F1 H1 σ ρ _ _ (E.step_ s1) h1 fun y u F2 H2 s2 r2 ⟨⟨fs, ex⟩, h2⟩ => by
    subst hC
    subst ex
    have r1' := Rv.step s2 r1
    obtain ⟨p, dx, as, rfl, h3, h4⟩ := Rv.insE r1'
    exact ⟨p, dx, as, rfl, h3, F2, _, P, EX ρ, s2.dm, .cons r1' (.cons r2 .nil), h2, fun x v F' H' s r q => k x v F' H' ((s1.trans s2).trans s) (o.back (s1.trans s2) r) q, fun n C fs oo F' H' hn s xd ex => xc_goes (((E.step_ s1).step_ s2).step_ s) c nx hn (xd.back ((E.step_ s1).step_ s2).base.st.ex) ex⟩
end
end Wx
namespace Hn
open PySem PySem.Spec PyProof.Rows L2
variable {X : Cx}
def rEqE (K : PySem.W.Frag) : R2 := fun x y H Q => ∃ a b xs, x = .ref a ∧ y = .ref b ∧ SqL K H a xs ∧ SqL K H b [] ∧ Q (.bl xs.isEmpty) H
theorem op_eqE (hu : X.A.units < cLine) : OpR X (compareOp .Eq) (rEqE X.K) := by
  intro pins s σ H x y v u Q I rx ry h
  obtain ⟨a, b, xs, rfl, rfl, ha, hb, q⟩ := h
  cases rx
  cases ry
  obtain ⟨its, r, pl, _⟩ := I.list ha
  obtain ⟨its2, r2, pl2, _⟩ := I.list hb
  have l1 := r.length
  have l2 := r2.length
  cases its2 with
  | cons z zs => cases l2
  | nil =>
    show wpAny (model X.prog X.w) X.A (richCompare .Eq _ _) _ _ _
    cases xs with
    | nil =>
      cases its with
      | cons z zs => cases l1
      | nil => exact SeqAt.RcAt.lists (e := fun _ => true) pl.isList pl2.isList rfl hu (fun j h1 _ => absurd h1 (Nat.not_lt_zero _)) _ _ _ _ ⟨.bl true, H, I, rfl, q⟩
    | cons x xs =>
      cases its with
      | nil => cases l1
      | cons z zs => exact SeqAt.RcAt.lists_lengths pl.isList pl2.isList rfl hu _ _ _ _ ⟨.bl false, H, I, rfl, q⟩
theorem u_eqE {K : PySem.W.Frag} (h : X.K = K) (hu : X.A.units + 64 < cLine) : OpR X (compareOp .Eq) (rEqE K) := h ▸ op_eqE (by omega)
end Hn
namespace Wx
open PySem PySem.Spec PyProof.Rows L2 Evl Hn RZ
variable [TabC]
section
variable [XC]
variable {K : PySem.W.Frag} {d : Cn → Addr} {ts : List Tag}
def wEqE (neg : Bool) : W2 := fun x y P => ∃ xs, x = .lst xs ∧ y = .lst [] ∧ P (.bl (if neg then !xs.isEmpty else xs.isEmpty))
theorem rvs_empty {F : Fz} {H : Hp} {vs : List V} {xs : List PV} (h : Rvs K d F H vs xs) : vs.isEmpty = xs.isEmpty := by cases h <;> rfl
theorem ops_eqE : OpS K d (rN K d) (rEqE K) (wEqE false) := fun F H v u x y Q P dm rx ry h k => by
  obtain ⟨xs, rfl, rfl, p⟩ := h
  obtain ⟨a, vs, rfl, h2, h3⟩ := Rw.lst rx
  obtain ⟨b, us, rfl, g2, g3⟩ := Rw.lst ry
  cases g3
  exact ⟨a, b, vs, rfl, rfl, .inl (.inl h2), .inl (.inl g2), by rw [rvs_empty h3]; exact fin_val dm (.bl _) p k⟩
end
end Wx
namespace Hn
open PySem PySem.Spec PyProof.Rows L2 Evl LamX
abbrev emTab : Obj := { cls := .none, data := .fields #[] }
def BmAt (h : Heap) (mg : Str → Option Value) : Prop := ∃ (bm : Addr) (ob : Obj), mg "__builtins__" = some (.ref bm) ∧ bm ≠ builtinsNs ∧ h.get? bm = some ob ∧ ob.cls = .type "module" ∧ ob.dict = some builtinsNs ∧ ob.data = .plain
section
variable {P : Program} {w : World} {K : PySem.W.Frag} {mg mb : Str → Option Value} {k : Nat} {fa a : Addr} {x : Str} {sp : Sp} {st : Shared} {vs : List Value} {ns : List Int} {cs : List (Addr × Addr)}
theorem head_atT (kin : K.In st.heap) (gl : st.heap.Ns mainGlobals mg) (bl : st.heap.Ns builtinsNs mb) (bb : ∀ y : Str, y ≠ "__name__" → mb y = bootBuiltins y) (lim : st.heap.NoLimit) (gens : st.gens = #[])
    (obj : st.heap.get? a = some { cls := .type "list", data := .seq vs.toArray }) (room : Room k callerA) (hT : ∀ p ∈ cs, st.heap.get? p.2 = some emTab) (nT : ∀ p ∈ cs, K.lookup p.2 = none) (hC : ∀ p ∈ cs, PySem.W.codeHdIn K p.1 p.2 = true) (hbm : BmAt st.heap mg)
    (F : ∀ base : Heap, K.In base → base.Ns mainGlobals mg → (∀ p ∈ cs, TabB base mg p.1 p.2) → OkP NoG P w K mg base k fa [x] sp)
    (H : Hp) (tr : ∀ p ∈ cs, H p.2 = some (.tbl #[])) (only : ∀ b, H b = none ∨ (∃ p ∈ cs, b = p.2) ∨ ∃ o zs, H b = some (.frz o (.lst zs))) (hsp : sp [.ref a] H (fun v _ => v = .bl true) E0) (ok : HOk P w H st.heap)
    (one : ∀ b, H b ≠ none → b = a ∨ ∃ p ∈ cs, b = p.2) (own : H a ≠ none → K.lookup a = none) :
    codeAny (model P w) callerA (.call (.ref fa) ⟨[.ref a], []⟩) (fun r s' => r = .ok (.ret (.bool true)) ∧ OldK st.heap s'.heap ∧ s'.os = st.os ∧ AllBare s'.gens) st := by
  have below : ∀ {b : Addr} {ob : Obj}, st.heap.get? b = some ob → H b = none → (hidT st.heap H).get? b = some ob := fun g n => hidT_get g n
  have free : ∀ {b : Addr} {ob : Obj}, st.heap.get? b = some ob → (∀ us n, ob.data ≠ .seq us n) → ob.data ≠ .fields #[] → H b = none := fun {b ob} g n1 n2 => by
    by_cases hb : H b = none
    · exact hb
    · rcases one b hb with rfl | ⟨p, hp, rfl⟩
      · rw [obj] at g
        cases g
        exact (n1 _ _ rfl).elim
      · rw [hT p hp] at g
        cases g
        exact (n2 rfl).elim
  have plain : ∀ {b : Addr} {ob : Obj} {es : Array DictEntry} {ep : Nat}, st.heap.get? b = some ob → ob.data = .dict es ep → H b = none := fun g hd => free g (fun us n z => by rw [hd] at z; cases z) fun z => by rw [hd] at z; cases z
  have names : ∀ {b : Addr} {m : Str → Option Value}, st.heap.Ns b m → (hidT st.heap H).Ns b m := fun {b m} ⟨ob, es, ep, g, hd, r⟩ => ⟨ob, es, ep, below g (plain g hd), hd, r⟩
  have kinB : K.In (hidT st.heap H) := fun b ob g => below (kin b ob g) (by
    by_cases hb : H b = none
    · exact hb
    · rcases one b hb with rfl | ⟨p, hp, rfl⟩
      · rw [own hb] at g
        cases g
      · rw [nT p hp] at g
        cases g)
  have md : Mod K mg (hidT st.heap H) := ⟨kinB, names gl, ⟨mb, names bl, bb⟩, let ⟨mc, h1, h2⟩ := lim; ⟨mc, names h1, h2⟩⟩
  have env : Env0 P w K mg (hidT st.heap H) callerA [] st H := ⟨rfl, md, fun b ob g => of_hidT g, Nat.le_of_eq (hidT_size _ _), trivial, fun b hb => absurd (show b ∈ ([] : List Addr) from hb) (by simp), ok, .of_eq gens⟩
  have noM : ∀ p ∈ cs, mainGlobals ≠ p.2 := fun p hp z => by
    obtain ⟨ob, es, ep, g, hd, _⟩ := gl
    rw [z, hT p hp] at g
    cases g
    cases hd
  have tabs : ∀ p ∈ cs, TabB (hidT st.heap H) mg p.1 p.2 := fun p hp => by
    obtain ⟨bm, ob, b1, b2, b3, b4, b5, b6⟩ := hbm
    have n1 : bm ≠ mainGlobals := fun z => by
      obtain ⟨ob2, es, ep, g, hd, _⟩ := gl
      rw [z, g] at b3
      cases b3
      rw [b6] at hd
      cases hd
    have n2 : bm ≠ p.2 := fun z => by
      rw [z, hT p hp] at b3
      cases b3
      cases b6
    exact ⟨PySem.W.codeHd_of_K kinB (hC p hp), ⟨bm, ob, b1, b2, n1, n2, below b3 (free b3 (fun us n z => by rw [b6] at z; cases z) fun z => by rw [b6] at z; cases z), b4, b5, b6⟩, noM p hp⟩
  obtain ⟨fd, bd, _, run⟩ := F _ kinB (names gl) tabs
  have bnd := bd st [.ref a] kin rfl
  refine codeAny_mono (run callerA [] st H ⟨[.ref a], []⟩ [.ref a] [.ref a] _ _ rfl room env bnd (.cons rfl .nil) hsp) fun r s' h => ?_
  cases r with
  | error e => exact False.elim h
  | ok fl =>
    cases fl with
    | next => exact False.elim h
    | brk => exact False.elim h
    | cont => exact False.elim h
    | ret u =>
      obtain ⟨v, H', os, bare, un, ok', rel, rfl⟩ := h
      obtain rfl : u = Value.bool true := rel
      have stay : ∀ b ob, (¬ ∃ p ∈ cs, b = p.2) → st.heap.get? b = some ob → s'.heap.get? b = some ob := fun b ob nb g => by
        rcases only b with z | z | ⟨o2, zs, z⟩
        · exact un.keep b ob g z (by intro y; exact absurd (show b ∈ ([] : List Addr) from y) (by simp)) (by simp)
        · exact absurd z nb
        · obtain ⟨g1, _⟩ := ok b _ z
          obtain ⟨g2, _⟩ := ok' b _ (un.frzs b o2 _ z)
          rw [g] at g1
          cases g1
          exact g2
      have grown : ∀ p ∈ cs, ∃ more : Array Value, s'.heap.get? p.2 = some { cls := .none, data := .fields more } := fun p hp => by
        obtain ⟨more, z⟩ := un.tbls p.2 #[] (tr p hp)
        exact ⟨_, ok' p.2 _ z⟩
      refine ⟨rfl, ⟨fun b ob g => ?_, fun b ob g => ?_⟩, os, bare⟩
      · by_cases hb : ∃ p ∈ cs, b = p.2
        · obtain ⟨p, hp, rfl⟩ := hb
          obtain ⟨more, hm⟩ := grown p hp
          rw [hT p hp] at g
          cases g
          exact .inr (.inl ⟨((PySem.W.codeHd_of_K kin (hC p hp)).tab (hT p hp)).isCodeTable, rfl, #[], more, rfl, by rw [Array.empty_append]; exact hm⟩)
        · exact .inl (stay b ob hb g)
      · by_cases hb : ∃ p ∈ cs, b = p.2
        · obtain ⟨p, hp, rfl⟩ := hb
          obtain ⟨more, hm⟩ := grown p hp
          exact ⟨_, hm⟩
        · exact ⟨ob, stay b ob hb g⟩
theorem head_lawT (kin : K.In st.heap) (gl : st.heap.Ns mainGlobals mg) (bl : st.heap.Ns builtinsNs mb) (bb : ∀ y : Str, y ≠ "__name__" → mb y = bootBuiltins y) (lim : st.heap.NoLimit) (gens : st.gens = #[])
    (obj : st.heap.get? a = some { cls := .type "list", data := .seq vs.toArray }) (inn : IntsAre vs ns) (ln : ns.length ≤ sizeLine) (room : Room k callerA) (hT : ∀ p ∈ cs, st.heap.get? p.2 = some emTab) (nT : ∀ p ∈ cs, K.lookup p.2 = none)
    (hC : ∀ p ∈ cs, PySem.W.codeHdIn K p.1 p.2 = true) (hbm : BmAt st.heap mg) (F : ∀ base : Heap, K.In base → base.Ns mainGlobals mg → (∀ p ∈ cs, TabB base mg p.1 p.2) → OkP NoG P w K mg base k fa [x] sp)
    (hsp : ∀ H : Hp, (∀ p ∈ cs, H p.2 = some (.tbl #[])) → SqL K H a (ns.map V.int) → sp [.ref a] H (fun v _ => v = .bl true) E0) :
    codeAny (model P w) callerA (.call (.ref fa) ⟨[.ref a], []⟩) (fun r s' => r = .ok (.ret (.bool true)) ∧ OldK st.heap s'.heap ∧ s'.os = st.os ∧ AllBare s'.gens) st := by
  have rel := vals_ints inn
  have sz := inn.length
  classical
  let T : Hp := fun b => if ∃ p ∈ cs, b = p.2 then some (.tbl #[]) else none
  have T1 : ∀ p ∈ cs, T p.2 = some (.tbl #[]) := fun p hp => if_pos ⟨p, hp, rfl⟩
  have T2 : ∀ {b : Addr}, (¬ ∃ p ∈ cs, b = p.2) → T b = none := fun h => if_neg h
  have aT : ¬ ∃ p ∈ cs, a = p.2 := fun ⟨p, hp, z⟩ => by
    have g := hT p hp
    rw [← z, obj] at g
    exact absurd (congrArg Obj.data (Option.some.inj g)) fun q => by cases q
  have okT : ∀ (b : Addr) (u : HO), T b = some u → (∃ p ∈ cs, b = p.2) ∧ u = .tbl #[] := fun b u z => by
    by_cases hb : ∃ p ∈ cs, b = p.2
    · rw [show T b = some (.tbl #[]) from if_pos hb] at z
      cases z
      exact ⟨hb, rfl⟩
    · rw [T2 hb] at z
      cases z
  cases hk : K.lookup a with
  | some ob =>
    have g := kin a ob hk
    rw [obj] at g
    cases g
    refine head_atT kin gl bl bb lim gens obj room hT nT hC hbm F T T1 (fun b => ?_) (hsp _ T1 (.inr ⟨_, vs.toArray, _, hk, rfl, rfl, rfl, by rw [List.size_toArray, sz]; exact ln, by simpa using rel⟩)) (fun b u z => ?_) (fun b z => ?_) fun z => absurd (T2 aT) z
    · by_cases hb : ∃ p ∈ cs, b = p.2
      · exact .inr (.inl hb)
      · exact .inl (T2 hb)
    · obtain ⟨⟨p, hp, rfl⟩, rfl⟩ := okT b u z
      exact hT p hp
    · by_cases hb : ∃ p ∈ cs, b = p.2
      · exact .inr hb
      · exact absurd (T2 hb) z
  | none =>
    have U1 : ∀ p ∈ cs, upd T a (.frz { cls := .type "list", data := .seq vs.toArray } (.lst (ns.map V.int))) p.2 = some (.tbl #[]) := fun p hp => by
      rw [upd_ne fun z => aT ⟨p, hp, z.symm⟩]
      exact T1 p hp
    refine head_atT kin gl bl bb lim gens obj room hT nT hC hbm F (upd T a (.frz { cls := .type "list", data := .seq vs.toArray } (.lst (ns.map V.int)))) U1 (fun b => ?_) (hsp _ U1 (.inl (.inr ⟨_, upd_same⟩))) (fun b u z => ?_) (fun b z => ?_) fun _ => hk
    · by_cases hb : b = a
      · exact .inr (.inr ⟨_, _, by rw [hb, upd_same]⟩)
      · rw [upd_ne hb]
        by_cases h2 : ∃ p ∈ cs, b = p.2
        · exact .inr (.inl h2)
        · exact .inl (T2 h2)
    · by_cases hb : b = a
      · subst hb
        rw [upd_same] at z
        cases z
        exact ⟨obj, by rw [List.length_map]; exact ln, vs, _, rel, obj⟩
      · rw [upd_ne hb] at z
        obtain ⟨⟨p, hp, rfl⟩, rfl⟩ := okT b u z
        exact hT p hp
    · by_cases hb : b = a
      · exact .inl hb
      · rw [upd_ne hb] at z
        by_cases h2 : ∃ p ∈ cs, b = p.2
        · exact .inr h2
        · exact absurd (T2 h2) z
end
theorem walkGT {l : PySem.W.OpenLaw} {n k : Nat} {q : Program} {loose : List Str} {XP : (Str → Option Value) → Heap → Prop} {YP : World → Heap → Prop} {d : DefRec} {x : Str}
    (most : l.most = some n) (line : n ≤ sizeLine) (nodf : d.params.defaults = []) (room : Room k callerA)
    (F : ∀ (w : World) (mg : Str → Option Value) (fa : Addr) (h : Heap), YP w h → h.Ns mainGlobals mg → mg d.name = some (.ref fa) → ∃ (K : PySem.W.Frag) (cs : List (Addr × Addr)) (sp : Sp), K.In h ∧ (∀ p ∈ cs, h.get? p.2 = some emTab) ∧ (∀ p ∈ cs, K.lookup p.2 = none) ∧ (∀ p ∈ cs, PySem.W.codeHdIn K p.1 p.2 = true) ∧
      (∀ (H : Hp) (a : Addr) (ns : List Int), ns.length ≤ n → (∀ p ∈ cs, H p.2 = some (.tbl #[])) → SqL K H a (ns.map V.int) → sp [.ref a] H (fun v _ => v = .bl true) E0) ∧
      ∀ base : Heap, K.In base → base.Ns mainGlobals mg → (∀ p ∈ cs, TabB base mg p.1 p.2) → OkP NoG l.prog w K mg base k fa [x] sp) : PySem.W.WalkO q loose XP YP l.row.toRowW d [] (fun f vs => PySem.call f vs) := by
  refine Att.attach_call most nodf fun w s₀ s₁ mg mb fa o pm cd doc a vs ns G Y _ _ _ hmg obj inn len gens => ?_
  obtain ⟨K, cs, sp, kX, hT, nT, hC, hsp, hF⟩ := F w mg fa _ Y G.T.g hmg
  exact head_lawT kX G.T.g G.T.b G.T.builtins G.T.nolimit gens obj inn (Nat.le_trans len line) room hT nT hC G.T.bmain hF fun H hH hS => hsp H a ns len hH hS
end Hn
namespace Pf
open PySem PySem.Spec PyProof.Rows L2 Evl Hn Wx Lmy
local macro_rules | `(tactic| walk_at "rd") => `(tactic| repeat (first
  | with_reducible refine r_raiseE ?_
  | with_reducible refine r_callY ?_
  | with_reducible refine r_makeY ?_
  | with_reducible refine r_methY ?_
  | with_reducible refine r_exF ?_
  | with_reducible refine r_m1 ?_
  | with_reducible refine r_isS ?_
  | with_reducible refine r_break ?_
  | with_reducible refine r_cont ?_
  | with_reducible refine r_listZip ?_
  | with_reducible refine r_smeth ?_
  | with_reducible refine r_isC ?_
  | with_reducible refine r_lstRg ?_
  | with_reducible refine r_rg1 ?_
  | with_reducible refine r_seq ?_
  | with_reducible refine r_next ?_
  | with_reducible refine r_asg ?_
  | with_reducible refine r_name ?_
  | with_reducible refine r_ret ?_
  | with_reducible refine r_retN ?_
  | with_reducible refine r_drop ?_
  | with_reducible refine r_ifS ?_
  | with_reducible refine r_test ?_
  | with_reducible refine r_B ?_
  | with_reducible refine r_and ?_
  | with_reducible refine r_or ?_
  | with_reducible refine r_not ?_
  | with_reducible refine r_andV ?_
  | with_reducible refine r_orV ?_
  | with_reducible refine r_notV ?_
  | with_reducible refine r_if ?_
  | with_reducible refine r_c ?_
  | with_reducible refine r_op ?_
  | with_reducible refine r_un ?_
  | with_reducible refine r_chain ?_
  | with_reducible refine r_lst ?_
  | with_reducible refine r_tup ?_
  | with_reducible refine r_nil ?_
  | with_reducible refine r_cons ?_
  | with_reducible refine r_call ?_
  | with_reducible refine r_meth ?_
  | with_reducible refine r_make ?_
  | with_reducible refine r_prop ?_
  | with_reducible refine r_cb ?_
  | with_reducible refine r_bm ?_
  | with_reducible refine r_bm0 ?_
  | with_reducible refine r_sl ?_
  | with_reducible refine r_noPart ?_
  | with_reducible refine r_part ?_
  | with_reducible refine r_int1 ?_
  | with_reducible refine r_bl1 ?_
  | with_reducible refine r_revL ?_
  | with_reducible refine r_lc ?_
  | with_reducible refine r_par ?_
  | with_reducible refine r_par3 ?_
  | with_reducible refine r_two ?_
  | with_reducible refine r_three ?_
  | with_reducible refine r_augS ?_
  | with_reducible refine r_sub ?_
  | with_reducible refine r_fld ?_
  | with_reducible refine r_sfld ?_
  | with_reducible refine r_iList ?_
  | with_reducible refine r_iTup ?_
  | with_reducible refine r_iRng1 ?_
  | with_reducible refine r_iRng2 ?_
  | with_reducible refine r_iEnum ?_
  | with_reducible refine r_iZip ?_
  | with_reducible refine r_iZipA ?_
  | with_reducible refine r_iSeq ?_
  | with_reducible refine r_iOwn ?_
  | with_reducible refine r_iEnumS ?_
  | with_reducible refine r_revT ?_
  | with_reducible refine r_ixO ?_
  | with_reducible refine r_yes ?_
  | with_reducible refine r_for ?_
  | with_reducible refine r_I0 ?_
  | with_reducible refine r_U ?_
  | with_reducible refine r_eqI ?_
  | with_reducible refine r_neI ?_
  | with_reducible refine r_eqB ?_
  | with_reducible refine r_neB ?_
  | with_reducible refine r_eqS ?_
  | with_reducible refine r_neS ?_
  | with_reducible refine r_ipI ?_
  | with_reducible refine r_abs ?_
  | with_reducible refine r_intP ?_
  | with_reducible refine r_intB ?_
  | with_reducible refine r_min2 ?_
  | with_reducible refine r_max2 ?_
  | with_reducible refine r_isNi ?_
  | with_reducible refine r_isNr ?_
  | with_reducible refine r_isNn ?_
  | with_reducible refine r_notNi ?_
  | with_reducible refine r_notNr ?_
  | with_reducible refine r_notNn ?_
  | with_reducible refine r_call1 ?_
  | (with_reducible refine' r_var ?hv ?_); (case hv => exact rfl)
  | (with_reducible refine' r_aug ?hv ?_); (case hv => exact rfl)
  | (with_reducible refine r_wipe ?hv ?_); (case hv => exact rfl)
  | (with_reducible refine r_I ?hv ?_); (case hv => (first | (show (0 : Int) < _; omega) | exact Or.inl ⟨by omega, by omega⟩ | exact Or.inr ⟨by omega, by omega⟩ | exact ⟨by omega, by omega⟩ | exact ⟨by omega, by omega, by decide⟩))
  | (with_reducible refine r_range1 ?hv ?hw ?_); (case hv => omega); (case hw => omega)))
local macro_rules | `(tactic| walk_at "ex") => `(tactic| first
  | assumption
  | exact Ex.refl _
  | exact Ex.new (by assumption)
  | (refine Ex.trans ?_ (Ex.new (by assumption)); walk_at "ex")
  | (refine Ex.mut ?_ (by walk_at "fr"); walk_at "ex")
  | (refine Ex.trans ?_ (by assumption); walk_at "ex"))
local macro_rules | `(tactic| walk_at "xl") => `(tactic| first
  | exact Xl.refl _
  | (refine Xl.trans ?_ (Xl.of (by assumption)); walk_at "xl")
  | (refine Xl.trans ?_ (Xl.of (Ex.new (by assumption))); walk_at "xl")
  | (refine Xl.trans ?_ (Xl.set (by assumption)); walk_at "xl")
  | (refine Xl.trans ?_ (Xl.set (by walk_at "kn")); walk_at "xl"))
local macro_rules | `(tactic| walk_at "fr") => `(tactic| first
  | assumption
  | (refine fresh_back ?_ (by assumption); walk_at "ex"))
local macro_rules | `(tactic| walk_at "kn") => `(tactic| first
  | assumption
  | exact upd_same
  | (refine mv_bag (by assumption) ?_; walk_at "xl")
  | (refine mv_rw (by assumption) ?_; walk_at "xl")
  | (refine mv_ps (by assumption) ?_; walk_at "xl")
  | (refine mv_clk (by assumption) ?_; walk_at "xl")
  | (refine mv_sqL (by assumption) ?_; walk_at "ex")
  | (refine mv_sqT (by assumption) ?_; walk_at "ex")
  | (refine mv_at (by assumption) ?_; walk_at "ex")
  | (refine' mv_at upd_same ?hk; (case hk => walk_at "ex"))
  | (refine' at_sqL ?hk; (case hk => walk_at "kn"))
  | (refine' at_sqT ?hk; (case hk => walk_at "kn"))
  | (refine mv_sq (by assumption) ?_; walk_at "ex")
  | (refine' sqL_sq ?hk; (case hk => walk_at "kn"))
  | (refine' sqT_sq ?hk; (case hk => walk_at "kn"))
  | (refine' ps_rw ?hk; (case hk => walk_at "kn")))
structure Ads where
  c_Needs : Addr
  c_Plan : Addr
  f__law_bag : Addr
  f__law_take : Addr
  f__law_number : Addr
  f__law_drawn_row : Addr
  f__law_same : Addr
  f__law_heard : Addr
  f_is_integer : Addr
  f_is_hour : Addr
  f_Plan___getitem__ : Addr
  f_Plan_hours : Addr
  q_Plan_hours : Addr
  f_is_count : Addr
  f_are_counts : Addr
  f_is_row : Addr
  f_Plan___init__ : Addr
  f_Plan_moved : Addr
  f_Plan_later : Addr
  f_Plan_earlier : Addr
  f_row_of : Addr
  f_pairs_of : Addr
  f_sums_of : Addr
  f_both_sums : Addr
  f_Plan___and__ : Addr
  f_Plan___or__ : Addr
  f_Plan_within : Addr
  f_Plan___len__ : Addr
  f_Plan___add__ : Addr
  f_Plan___iter__ : Addr
  f__law_doors_right : Addr
  f__law_one : Addr
  f__law_bent : Addr
  f__law_are_counts : Addr
  f_are_sums : Addr
  f_Plan_of_sums : Addr
  p_Plan_of_sums : Addr
  f__law_are_sums : Addr
  f_Needs___init__ : Addr
  f_Plan___eq__ : Addr
  f_law : Addr
  cc__law_doors_right : Addr
  tt__law_doors_right : Addr
  cc_law : Addr
  tt_law : Addr
  c_NeedError : Addr
  c_NoBegin : Addr
  fi_NoBegin : Addr
  c_NoHour : Addr
  fi_NoHour : Addr
  c_Unlike : Addr
  fi_Unlike : Addr
  c_Wrong : Addr
  fi_Wrong : Addr
def cnA (d : Ads) : Cn → Addr
  | .Clock => 0
  | .Needs => d.c_Needs
  | .Plan => d.c_Plan
  | .House => 0
  | .Book => 0
  | .Desk => 0
  | .Endless => 0
structure Tx [TabC] (P : Program) (base : Heap) (K : PySem.W.Frag) (mg : Str → Option Value) (d : Ads) : Prop where
  g_Needs : mg "Needs" = some (.ref d.c_Needs)
  cl_Needs : Cls K d.c_Needs
  sf_Needs : PySem.W.selfFirst K d.c_Needs = true
  g_Plan : mg "Plan" = some (.ref d.c_Plan)
  cl_Plan : Cls K d.c_Plan
  sf_Plan : PySem.W.selfFirst K d.c_Plan = true
  n_Needs_kept_row : NoAttr K d.c_Needs "kept_row"
  n_Plan_kept_begins : NoAttr K d.c_Plan "kept_begins"
  g__law_bag : mg "_law_bag" = some (.ref d.f__law_bag)
  d__law_bag : Df K "_law_bag" "_law_bag" s__law_bag d.f__law_bag ["_law_script"]
  g__law_take : mg "_law_take" = some (.ref d.f__law_take)
  d__law_take : Df K "_law_take" "_law_take" s__law_take d.f__law_take ["_law_bag_here", "_law_upto"]
  g__law_number : mg "_law_number" = some (.ref d.f__law_number)
  d__law_number : Df K "_law_number" "_law_number" s__law_number d.f__law_number ["_law_bag_here"]
  g__law_drawn_row : mg "_law_drawn_row" = some (.ref d.f__law_drawn_row)
  d__law_drawn_row : Df K "_law_drawn_row" "_law_drawn_row" s__law_drawn_row d.f__law_drawn_row ["_law_bag_here", "_law_most"]
  g__law_same : mg "_law_same" = some (.ref d.f__law_same)
  d__law_same : Df K "_law_same" "_law_same" s__law_same d.f__law_same ["_law_found", "_law_due"]
  g__law_heard : mg "_law_heard" = some (.ref d.f__law_heard)
  d__law_heard : Df K "_law_heard" "_law_heard" s__law_heard d.f__law_heard ["_law_act"]
  g_is_integer : mg "is_integer" = some (.ref d.f_is_integer)
  d_is_integer : Df K "is_integer" "is_integer" s_is_integer d.f_is_integer ["thing"]
  g_is_hour : mg "is_hour" = some (.ref d.f_is_hour)
  d_is_hour : Df K "is_hour" "is_hour" s_is_hour d.f_is_hour ["hours", "thing"]
  m_Plan___getitem__ : Meth K d.c_Plan "__getitem__" d.f_Plan___getitem__
  fi_Plan___getitem__ : PySem.W.fnIn K d.f_Plan___getitem__ = true
  d_Plan___getitem__ : Df K "__getitem__" "Plan.__getitem__" s_Plan___getitem__ d.f_Plan___getitem__ ["self", "hour"]
  p_Plan_hours : PropOf K d.c_Plan "hours" d.q_Plan_hours d.f_Plan_hours
  d_Plan_hours : Df K "hours" "Plan.hours" s_Plan_hours d.f_Plan_hours ["self"]
  g_is_count : mg "is_count" = some (.ref d.f_is_count)
  d_is_count : Df K "is_count" "is_count" s_is_count d.f_is_count ["thing"]
  g_are_counts : mg "are_counts" = some (.ref d.f_are_counts)
  d_are_counts : Df K "are_counts" "are_counts" s_are_counts d.f_are_counts ["hours", "thing"]
  g_is_row : mg "is_row" = some (.ref d.f_is_row)
  d_is_row : Df K "is_row" "is_row" s_is_row d.f_is_row ["thing"]
  mk_Plan : Mk K d.c_Plan d.f_Plan___init__
  d_Plan___init__ : Df K "__init__" "Plan.__init__" s_Plan___init__ d.f_Plan___init__ ["self", "begins"]
  m_Plan_moved : Meth K d.c_Plan "moved" d.f_Plan_moved
  d_Plan_moved : Df K "moved" "Plan.moved" s_Plan_moved d.f_Plan_moved ["self", "hour", "by"]
  m_Plan_later : Meth K d.c_Plan "later" d.f_Plan_later
  d_Plan_later : Df K "later" "Plan.later" s_Plan_later d.f_Plan_later ["self", "hour"]
  m_Plan_earlier : Meth K d.c_Plan "earlier" d.f_Plan_earlier
  d_Plan_earlier : Df K "earlier" "Plan.earlier" s_Plan_earlier d.f_Plan_earlier ["self", "hour"]
  g_row_of : mg "row_of" = some (.ref d.f_row_of)
  d_row_of : Df K "row_of" "row_of" s_row_of d.f_row_of ["sums"]
  g_pairs_of : mg "pairs_of" = some (.ref d.f_pairs_of)
  d_pairs_of : Df K "pairs_of" "pairs_of" s_pairs_of d.f_pairs_of ["one", "other"]
  g_sums_of : mg "sums_of" = some (.ref d.f_sums_of)
  d_sums_of : Df K "sums_of" "sums_of" s_sums_of d.f_sums_of ["row"]
  g_both_sums : mg "both_sums" = some (.ref d.f_both_sums)
  d_both_sums : Df K "both_sums" "both_sums" s_both_sums d.f_both_sums ["one", "other"]
  m_Plan___and__ : Meth K d.c_Plan "__and__" d.f_Plan___and__
  d_Plan___and__ : Df K "__and__" "Plan.__and__" s_Plan___and__ d.f_Plan___and__ ["self", "other"]
  m_Plan___or__ : Meth K d.c_Plan "__or__" d.f_Plan___or__
  d_Plan___or__ : Df K "__or__" "Plan.__or__" s_Plan___or__ d.f_Plan___or__ ["self", "other"]
  m_Plan_within : Meth K d.c_Plan "within" d.f_Plan_within
  d_Plan_within : Df K "within" "Plan.within" s_Plan_within d.f_Plan_within ["self", "other"]
  m_Plan___len__ : Meth K d.c_Plan "__len__" d.f_Plan___len__
  d_Plan___len__ : Df K "__len__" "Plan.__len__" s_Plan___len__ d.f_Plan___len__ ["self"]
  m_Plan___add__ : Meth K d.c_Plan "__add__" d.f_Plan___add__
  d_Plan___add__ : Df K "__add__" "Plan.__add__" s_Plan___add__ d.f_Plan___add__ ["self", "other"]
  m_Plan___iter__ : Meth K d.c_Plan "__iter__" d.f_Plan___iter__
  d_Plan___iter__ : Df K "__iter__" "Plan.__iter__" s_Plan___iter__ d.f_Plan___iter__ ["self"]
  g__law_doors_right : mg "_law_doors_right" = some (.ref d.f__law_doors_right)
  dc__law_doors_right : Lmy.DfC K "_law_doors_right" "_law_doors_right" s__law_doors_right d.f__law_doors_right ["_law_plan", "_law_row"] d.cc__law_doors_right
  tb__law_doors_right : LamX.TabB base mg d.cc__law_doors_right d.tt__law_doors_right
  ti__law_doors_right : (d.tt__law_doors_right, ("_law_doors_right" : Str) ++ ".<locals>." ++ "<lambda>") ∈ TabC.T
  tu__law_doors_right : ∀ p ∈ TabC.T, p.1 = d.tt__law_doors_right → p.2 = ("_law_doors_right" : Str) ++ ".<locals>." ++ "<lambda>"
  d__law_doors_right : Df K "_law_doors_right" "_law_doors_right" s__law_doors_right d.f__law_doors_right ["_law_plan", "_law_row"]
  g__law_one : mg "_law_one" = some (.ref d.f__law_one)
  d__law_one : Df K "_law_one" "_law_one" s__law_one d.f__law_one ["_law_bag_here", "_law_some"]
  g__law_bent : mg "_law_bent" = some (.ref d.f__law_bent)
  d__law_bent : Df K "_law_bent" "_law_bent" s__law_bent d.f__law_bent ["_law_bag_here", "_law_row"]
  g__law_are_counts : mg "_law_are_counts" = some (.ref d.f__law_are_counts)
  d__law_are_counts : Df K "_law_are_counts" "_law_are_counts" s__law_are_counts d.f__law_are_counts ["_law_thing", "_law_least", "_law_most"]
  g_are_sums : mg "are_sums" = some (.ref d.f_are_sums)
  d_are_sums : Df K "are_sums" "are_sums" s_are_sums d.f_are_sums ["thing"]
  st_Plan_of_sums : SMet K d.c_Plan (.type "type") "of_sums" d.p_Plan_of_sums d.f_Plan_of_sums
  d_Plan_of_sums : Df K "of_sums" "Plan.of_sums" s_Plan_of_sums d.f_Plan_of_sums ["sums"]
  g__law_are_sums : mg "_law_are_sums" = some (.ref d.f__law_are_sums)
  d__law_are_sums : Df K "_law_are_sums" "_law_are_sums" s__law_are_sums d.f__law_are_sums ["_law_thing"]
  mk_Needs : Mk K d.c_Needs d.f_Needs___init__
  d_Needs___init__ : Df K "__init__" "Needs.__init__" s_Needs___init__ d.f_Needs___init__ ["self", "row"]
  m_Plan___eq__ : Meth K d.c_Plan "__eq__" d.f_Plan___eq__
  d_Plan___eq__ : Df K "__eq__" "Plan.__eq__" s_Plan___eq__ d.f_Plan___eq__ ["self", "other"]
  dc_law : Lmy.DfC K "law" "law" s_law d.f_law ["_law_script"] d.cc_law
  tb_law : LamX.TabB base mg d.cc_law d.tt_law
  ti_law : (d.tt_law, ("law" : Str) ++ ".<locals>." ++ "<lambda>") ∈ TabC.T
  tu_law : ∀ p ∈ TabC.T, p.1 = d.tt_law → p.2 = ("law" : Str) ++ ".<locals>." ++ "<lambda>"
  d_law : Df K "law" "law" s_law d.f_law ["_law_script"]
  z_abs : mg "abs" = none
  z_all : mg "all" = none
  z_bool : mg "bool" = none
  z_int : mg "int" = none
  z_isinstance : mg "isinstance" = none
  z_iter : mg "iter" = none
  z_len : mg "len" = none
  z_list : mg "list" = none
  z_max : mg "max" = none
  z_min : mg "min" = none
  z_range : mg "range" = none
  z_repr : mg "repr" = none
  z_tuple : mg "tuple" = none
  z_zip : mg "zip" = none
  k_MOST_HOURS : ∃ t : Tok, mg "MOST_HOURS" = some (.int 48 t)
  ic_Needs : IsC K d.c_Needs
  ic_Plan : IsC K d.c_Plan
  kx_Needs_list : PySem.W.kitOne K (.ref d.c_Needs) (.type "list") = some false
  kx_Needs_tuple : PySem.W.kitOne K (.ref d.c_Needs) (.type "tuple") = some false
  kx_Plan_int : PySem.W.kitOne K (.ref d.c_Plan) (.type "int") = some false
  kx_Plan_list : PySem.W.kitOne K (.ref d.c_Plan) (.type "list") = some false
  kx_Plan_tuple : PySem.W.kitOne K (.ref d.c_Plan) (.type "tuple") = some false
  sm : Wx.smB K = true
  g_NeedError : mg "NeedError" = some (.ref d.c_NeedError)
  g_NoBegin : mg "NoBegin" = some (.ref d.c_NoBegin)
  er_NoBegin : ErrC P K mg "NoBegin" "hour" d.c_NoBegin d.fi_NoBegin
  xc_NoBegin : ExcC K d.c_NoBegin
  xm_NoBegin : PySem.W.exmOne K (.ref d.c_NoBegin) (.ref d.c_NeedError) = some true
  ix_NoBegin_NoBegin : PySem.W.kitOne K (.ref d.c_NoBegin) (.ref d.c_NoBegin) = some true
  ix_NoBegin_NoHour : PySem.W.kitOne K (.ref d.c_NoBegin) (.ref d.c_NoHour) = some false
  ix_NoBegin_Unlike : PySem.W.kitOne K (.ref d.c_NoBegin) (.ref d.c_Unlike) = some false
  ix_NoBegin_Wrong : PySem.W.kitOne K (.ref d.c_NoBegin) (.ref d.c_Wrong) = some false
  g_NoHour : mg "NoHour" = some (.ref d.c_NoHour)
  er_NoHour : ErrC P K mg "NoHour" "hour" d.c_NoHour d.fi_NoHour
  xc_NoHour : ExcC K d.c_NoHour
  xm_NoHour : PySem.W.exmOne K (.ref d.c_NoHour) (.ref d.c_NeedError) = some true
  ix_NoHour_NoBegin : PySem.W.kitOne K (.ref d.c_NoHour) (.ref d.c_NoBegin) = some false
  ix_NoHour_NoHour : PySem.W.kitOne K (.ref d.c_NoHour) (.ref d.c_NoHour) = some true
  ix_NoHour_Unlike : PySem.W.kitOne K (.ref d.c_NoHour) (.ref d.c_Unlike) = some false
  ix_NoHour_Wrong : PySem.W.kitOne K (.ref d.c_NoHour) (.ref d.c_Wrong) = some false
  g_Unlike : mg "Unlike" = some (.ref d.c_Unlike)
  er_Unlike : ErrC0 P K mg "Unlike" d.c_Unlike d.fi_Unlike
  xc_Unlike : ExcC K d.c_Unlike
  xm_Unlike : PySem.W.exmOne K (.ref d.c_Unlike) (.ref d.c_NeedError) = some true
  ix_Unlike_NoBegin : PySem.W.kitOne K (.ref d.c_Unlike) (.ref d.c_NoBegin) = some false
  ix_Unlike_NoHour : PySem.W.kitOne K (.ref d.c_Unlike) (.ref d.c_NoHour) = some false
  ix_Unlike_Unlike : PySem.W.kitOne K (.ref d.c_Unlike) (.ref d.c_Unlike) = some true
  ix_Unlike_Wrong : PySem.W.kitOne K (.ref d.c_Unlike) (.ref d.c_Wrong) = some false
  g_Wrong : mg "Wrong" = some (.ref d.c_Wrong)
  er_Wrong : ErrC P K mg "Wrong" "place" d.c_Wrong d.fi_Wrong
  xc_Wrong : ExcC K d.c_Wrong
  xm_Wrong : PySem.W.exmOne K (.ref d.c_Wrong) (.ref d.c_NeedError) = some true
  ix_Wrong_NoBegin : PySem.W.kitOne K (.ref d.c_Wrong) (.ref d.c_NoBegin) = some false
  ix_Wrong_NoHour : PySem.W.kitOne K (.ref d.c_Wrong) (.ref d.c_NoHour) = some false
  ix_Wrong_Unlike : PySem.W.kitOne K (.ref d.c_Wrong) (.ref d.c_Unlike) = some false
  ix_Wrong_Wrong : PySem.W.kitOne K (.ref d.c_Wrong) (.ref d.c_Wrong) = some true
section
variable [TabC] {P : Program} {w : World} {K : PySem.W.Frag} {mg : Str → Option Value} {base : Heap} {d : Ads}
abbrev Pn (K : PySem.W.Frag) (d : Ads) (H : Hp) (v : V) (s : List Int) : Prop := Rw K d.c_Plan "kept_begins" H v s
def eaA (d : Ads) : En → Option Addr
  | .NoBegin => some d.c_NoBegin
  | .NoHour => some d.c_NoHour
  | .Unlike => some d.c_Unlike
  | .Wrong => some d.c_Wrong
  | _ => none
theorem ea_is {n : En} {C : Addr} (h : eaA d n = some C) : n = .NoBegin ∧ C = d.c_NoBegin ∨ n = .NoHour ∧ C = d.c_NoHour ∨ n = .Unlike ∧ C = d.c_Unlike ∨ n = .Wrong ∧ C = d.c_Wrong := by
  cases n <;> first | (cases h; done) | (cases h; simp)
theorem ex_kit (T : Tx P base K mg d) : ∀ n m C C2, eaA d n = some C → eaA d m = some C2 → PySem.W.kitOne K (.ref C) (.ref C2) = some (decide (n = m)) := fun n m C C2 h1 h2 => by
  rcases ea_is h1 with ⟨rfl, rfl⟩ | ⟨rfl, rfl⟩ | ⟨rfl, rfl⟩ | ⟨rfl, rfl⟩ <;> rcases ea_is h2 with ⟨rfl, rfl⟩ | ⟨rfl, rfl⟩ | ⟨rfl, rfl⟩ | ⟨rfl, rfl⟩ <;> first | exact T.ix_NoBegin_NoBegin | exact T.ix_NoBegin_NoHour | exact T.ix_NoBegin_Unlike | exact T.ix_NoBegin_Wrong | exact T.ix_NoHour_NoBegin | exact T.ix_NoHour_NoHour | exact T.ix_NoHour_Unlike | exact T.ix_NoHour_Wrong | exact T.ix_Unlike_NoBegin | exact T.ix_Unlike_NoHour | exact T.ix_Unlike_Unlike | exact T.ix_Unlike_Wrong | exact T.ix_Wrong_NoBegin | exact T.ix_Wrong_NoHour | exact T.ix_Wrong_Unlike | exact T.ix_Wrong_Wrong
theorem ex_exc (T : Tx P base K mg d) : ∀ n C, eaA d n = some C → ExcC K C := fun n C h => by
  rcases ea_is h with ⟨rfl, rfl⟩ | ⟨rfl, rfl⟩ | ⟨rfl, rfl⟩ | ⟨rfl, rfl⟩ <;> first | exact T.xc_NoBegin | exact T.xc_NoHour | exact T.xc_Unlike | exact T.xc_Wrong
theorem ex_all (T : Tx P base K mg d) : ∀ n C, eaA d n = some C → PySem.W.exmOne K (.ref C) (.ref d.c_NeedError) = some true := fun n C h => by
  rcases ea_is h with ⟨rfl, rfl⟩ | ⟨rfl, rfl⟩ | ⟨rfl, rfl⟩ | ⟨rfl, rfl⟩ <;> first | exact T.xm_NoBegin | exact T.xm_NoHour | exact T.xm_Unlike | exact T.xm_Wrong
theorem ex_fld (T : Tx P base K mg d) : ∀ n C f, eaA d n = some C → n.fld = some f → ExF K C f := fun n C f h hf => by
  rcases ea_is h with ⟨rfl, rfl⟩ | ⟨rfl, rfl⟩ | ⟨rfl, rfl⟩ | ⟨rfl, rfl⟩ <;> cases hf <;> first | exact T.er_NoBegin.exF | exact T.er_NoHour.exF | exact T.er_Wrong.exF
theorem sc__law_bag : FnScope ["_law_script", "_law_cell"] ["_law_script"] (defScope s__law_bag) := ⟨rfl, rfl, rfl, by decide +kernel, rfl, by decide +kernel, by decide +kernel⟩
theorem absI (i : Int) : 0 ≤ (if i < 0 then -i else i) := by split <;> omega
theorem cut_some (xs : List V) (h : xs.length ≤ 63) : cutV xs none (some 63) = xs := by
  unfold cutV
  rw [HT.sIx_none, show HT.sIx xs.length xs.length (some 63) = min 63 xs.length from HT.sIx_nat xs.length xs.length 63]
  rw [List.drop_zero, Nat.sub_zero, Nat.min_eq_right h, List.take_length]
def sp__law_bag (K : PySem.W.Frag) (d : Ads) : Sp := spBag K
def spBagL0 (K : PySem.W.Frag) (d : Ads) : Sp := spBagL K
set_option maxHeartbeats 4000000 in
theorem ok0__law_bag (T : Tx P base K mg d) : Okf P w K mg base 1 d.f__law_bag ["_law_script"] (spBagL0 K d) := by
  refine okf_of T.d__law_bag sc__law_bag (fun vs H Q E h => ?_) (fun cdv A outer s H vs Q E hr h => ?_)
  · obtain ⟨a, ns, rfl, hS, hl, k⟩ := h
    rfl
  · obtain ⟨a, ns, rfl, hS, hl, k⟩ := h
    refine ⟨_, (pss_one (ps_ret (pe_lst (pa_cons pe_int (pa_cons pe_int (pa_cons pe_int (pa_cons (pe_lc (own := [("_law_cell", 1)]) rfl sc__law_bag.nd (k_piL (K := K) rfl (pe_slice (k_slL (K := K) rfl) (pv 0) po_none (po_some pe_int))) (blkOk_by (by kernel_rfl)) (fun _ _ _ _ _ => (pg_name (i := 1) sc__law_bag.nd rfl (by first | exact Or.inl rfl | exact Or.inr rfl))) (fun _ _ _ _ _ => pts_nil) (fun _ _ _ _ _ => (pe_callB k_abs (by rfl) T.z_abs (by decide +kernel) (pa_cons (pv 1) pa_nil)))) pa_nil))))))), ?_⟩
    walk_at "rd"
    refine ⟨a, _, rfl, hS, fun c nc => ?_⟩
    rw [cut_some _ (by rw [List.length_map]; exact hl)]
    refine ⟨c, rfl, ⟨_, .inl (.inl upd_same)⟩, lc_fun (walk_list (xs := ns.map V.int)) (fun i => .int (if ns.getD i 0 < 0 then - ns.getD i 0 else ns.getD i 0)) (fun H' e => .inl (.inl (e _ _ upd_same))) (by rw [List.length_map]; omega) ?_ ?_⟩
    · rintro i x H1 H2 hi e ⟨rfl, hx⟩ kk hk
      obtain rfl := int_at hx
      walk_at "rd"
      exact hk _ (Ex.refl _)
    · intro D H' nD e hD
      rw [List.length_map] at hD
      walk_at "rd"
      refine ⟨by show 4 ≤ sizeLine; decide, fun b nb => ?_⟩
      have e1 : Ex H H' := (Ex.new nc).trans e
      have nH : H D = none := fresh_back (Ex.new nc) nD
      refine k b D ((List.range ns.length).map fun i => if ns.getD i 0 < 0 then - ns.getD i 0 else ns.getD i 0) _ (e1.trans (Ex.new nb)) (fresh_back e1 nb) nH upd_same ?_ ?_ ?_
      · rw [upd_ne (ne_of_none hD nb), hD, List.map_map]
        rfl
      · intro c hc
        obtain ⟨i, _, rfl⟩ := List.mem_map.mp hc
        exact absI _
      · rw [List.length_map, List.length_range]
        exact hl
theorem ok__law_bag (T : Tx P base K mg d) : Okf P w K mg base 1 d.f__law_bag ["_law_script"] (sp__law_bag K d) := bag_ok (ok0__law_bag T)
theorem ow__law_bag (T : Tx P base K mg d) : Okf P w K mg base 1 d.f__law_bag ["_law_script"] (spW K (cnA d) (rN K (cnA d)) w_bag) := okw_imp (ok__law_bag T) tells_bag
theorem sc__law_take : FnScope ["_law_bag_here", "_law_upto", "_law_cell", "_law_mixed", "_law_drawn", "_law_early", "_law_second"] ["_law_bag_here", "_law_upto"] (defScope s__law_take) := ⟨rfl, rfl, rfl, by decide +kernel, rfl, by decide +kernel, by decide +kernel⟩
def sp__law_take (K : PySem.W.Frag) (d : Ads) : Sp := spTake
def spTakeL0 (K : PySem.W.Frag) (d : Ads) : Sp := spTakeL
set_option maxHeartbeats 4000000 in
theorem ok0__law_take (T : Tx P base K mg d) : Okf P w K mg base 1 d.f__law_take ["_law_bag_here", "_law_upto"] (spTakeL0 K d) := by
  refine okf_of T.d__law_take sc__law_take (fun vs H Q E h => ?_) (fun cdv A outer s H vs Q E hr h => ?_)
  · obtain ⟨b, l, u, o, cs, xs, rfl, hb, ⟨c0, c1, c2, rfl, h0, h1, h1u, h2⟩, hL, hc, hcl, hu0, hu1, k⟩ := h
    rfl
  · obtain ⟨b, l, u, o, cs, xs, rfl, hb, ⟨c0, c1, c2, rfl, h0, h1, h1u, h2⟩, hL, hc, hcl, hu0, hu1, k⟩ := h
    refine ⟨_, (Evl.pss_cut (ps_if (pt_cmpR op_eq (pe_ix (k_ixL (K := K) rfl) (pv 0) pe_int (fun _ _ => rfl)) pe_int (nomark _)) (pss_cons (ps_set (i := 2) sc__law_take.nd rfl (by first | exact Or.inl rfl | exact Or.inr rfl) pe_int)
      (Evl.pss_cut (ps_if (pt_cmpR op_lt (pe_ix (k_ixL (K := K) rfl) (pv 0) pe_int (fun _ _ => rfl)) (pe_callB (k_len (K := K) rfl) (by rfl) T.z_len (by decide +kernel) (pa_cons (pe_ix (k_ixL (K := K) rfl) (pv 0) pe_int (fun _ _ => rfl)) pa_nil)) (nomark _)) (pss_one (ps_set (i := 2) sc__law_take.nd rfl (by first | exact Or.inl rfl | exact Or.inr rfl) (pe_ix (k_ixL (K := K) rfl) (pe_ix (k_ixL (K := K) rfl) (pv 0) pe_int (fun _ _ => rfl)) (pe_ix (k_ixL (K := K) rfl) (pv 0) pe_int (fun _ _ => rfl)) (fun _ _ => rfl)))) pss_nil)
      (pss_cons (ps_augS (pv 0) pe_int (k_getL (K := K) rfl) pe_int ip_add set_list)
      (Evl.pss_cut (ps_if (pt_cmpR op_ge (pv 2) pe_int (nomark _)) (pss_one (ps_asg (pv 2) (pg_sub (pv 0) pe_int set_list))) pss_nil)
      (pss_cons (ps_set (i := 3) sc__law_take.nd rfl (by first | exact Or.inl rfl | exact Or.inr rfl) (pe_op op_add (pe_op op_add (pe_op op_mul (pe_ix (k_ixL (K := K) rfl) (pv 0) pe_int (fun _ _ => rfl)) pe_int) (pe_op op_mod (pe_callTy k_int1 (by rfl) T.z_int (by decide +kernel) (pa_cons (pv 2) pa_nil)) pe_int)) (pe_op op_mul pe_int (pe_ix (k_ixL (K := K) rfl) (pv 0) pe_int (fun _ _ => rfl)))))
      (pss_one (ps_asg (pe_op op_mod (pe_callTy k_int1 (by rfl) T.z_int (by decide +kernel) (pa_cons (pv 3) pa_nil)) pe_int) (pg_sub (pv 0) pe_int set_list)))))))) pss_nil)
      (pss_cons (ps_if (pt_cmpR op_gt (pe_ix (k_ixL (K := K) rfl) (pv 0) pe_int (fun _ _ => rfl)) pe_int (nomark _)) (pss_cons (ps_set (i := 4) sc__law_take.nd rfl (by first | exact Or.inl rfl | exact Or.inr rfl) (pe_op op_mod (pe_callTy k_int1 (by rfl) T.z_int (by decide +kernel) (pa_cons (pe_ix (k_ixL (K := K) rfl) (pv 0) pe_int (fun _ _ => rfl)) pa_nil)) (pv 1)))
      (pss_cons (ps_asg (pe_op op_fdivW (pe_callTy k_int1 (by rfl) T.z_int (by decide +kernel) (pa_cons (pe_ix (k_ixL (K := K) rfl) (pv 0) pe_int (fun _ _ => rfl)) pa_nil)) (pv 1)) (pg_sub (pv 0) pe_int set_list))
      (pss_one (ps_ret (pv 4))))) pss_nil)
      (pss_cons (ps_set (i := 5) sc__law_take.nd rfl (by first | exact Or.inl rfl | exact Or.inr rfl) (pe_op op_mod (pe_callTy k_int1 (by rfl) T.z_int (by decide +kernel) (pa_cons (pe_op op_mul (pe_op op_add (pe_ix (k_ixL (K := K) rfl) (pv 0) pe_int (fun _ _ => rfl)) pe_int) pe_int) pa_nil)) pe_int))
      (pss_cons (ps_set (i := 6) sc__law_take.nd rfl (by first | exact Or.inl rfl | exact Or.inr rfl) (pe_op op_mod (pe_callTy k_int1 (by rfl) T.z_int (by decide +kernel) (pa_cons (pe_op op_mul (pe_op op_mod (pe_callTy k_int1 (by rfl) T.z_int (by decide +kernel) (pa_cons (pe_op op_mul (pv 5) (pv 5)) pa_nil)) pe_int) pe_int) pa_nil)) pe_int))
      (pss_one (ps_ret (pe_op op_mod (pe_callTy k_int1 (by rfl) T.z_int (by decide +kernel) (pa_cons (pe_op op_fdiv (pv 6) pe_int) pa_nil)) (pv 1)))))))), ?_⟩
    have lb : l ≠ b := ne_of hL hb (by intro z; cases z)
    refine ⟨fun σ H' => ∃ (d0 d1 d2 : Int) (y2 y3 : Option V), σ = [some (.ref b), some (.int u), y2, y3, none, none, none] ∧ H' = upd H b (.lst [.int d0, .int d1, .int d2, .ref l]) ∧ 0 ≤ d0 ∧ 0 ≤ d1 ∧ d1 < 2147483647 ∧ 0 ≤ d2, ?_, ?_⟩
    · refine ⟨_, rfl, b, _, 0, _, rfl, rfl, SqL.of hb, rfl, rfl, _, rfl, ite2 (fun _ => ?_) (fun _ => ?_)⟩
      ·
        refine ⟨fun σ H' => ∃ cell : Int, 0 ≤ cell ∧ σ = [some (.ref b), some (.int u), some (.int cell), none, none, none, none] ∧ H' = H, ?_, ?_⟩
        · refine ⟨_, rfl, b, _, 2, _, rfl, rfl, SqL.of hb, rfl, _, rfl, b, _, 3, _, rfl, rfl, SqL.of hb, rfl, l, _, rfl, .inl (.inl (.inr ⟨o, hL⟩)), _, _, rfl, rfl, _, rfl, ite2 (fun hlt => ?_) (fun _ => ?_)⟩
          · have hlt' : c2 < ((cs.map V.int).length : Int) := of_decide_eq_true hlt
            rw [List.length_map] at hlt'
            have hx := at_int (ns := cs) h2 hlt'
            refine ⟨_, rfl, b, _, 3, _, rfl, rfl, SqL.of hb, rfl, _, rfl, b, _, 2, _, rfl, rfl, SqL.of hb, rfl, l, _, c2, _, rfl, rfl, .inl (.inr ⟨o, hL⟩), hx, _, hc _ (gD_mem (by omega)), rfl, rfl⟩
          · exact ⟨0, Int.le_refl 0, rfl, rfl⟩
        · rintro σ' H' ⟨cell, hcell, rfl, hH⟩
          rw [hH]
          refine ⟨_, rfl, b, _, 2, _, rfl, rfl, SqL.of hb, rfl, _, _, rfl, rfl, b, _, 2, 2, rfl, rfl, hb, rfl, ?_⟩
          refine ⟨fun σ H' => ∃ d0 : Int, 0 ≤ d0 ∧ σ = [some (.ref b), some (.int u), some (.int cell), none, none, none, none] ∧ H' = upd H b (.lst [.int d0, .int c1, .int (c2 + 1), .ref l]), ?_, ?_⟩
          · refine ⟨_, rfl, _, _, rfl, rfl, _, rfl, ite2 (fun _ => ?_) (fun _ => ?_)⟩
            · refine ⟨_, rfl, _, rfl, b, _, 0, 0, rfl, rfl, upd_same, rfl, cell, hcell, rfl, ?_⟩
              rw [upd_upd]
              rfl
            · exact ⟨c0, h0, rfl, rfl⟩
          · rintro σ' H' ⟨d0, hd0, rfl, rfl⟩
            refine ⟨_, rfl, b, _, 1, _, rfl, rfl, SqL.of upd_same, rfl, c1, _, rfl, rfl, .inl ⟨by omega, by omega⟩, _, rfl, .inl ⟨_, rfl, _, _, rfl, rfl, (by show (0 : Int) < 2147483647; decide), _, _, rfl, rfl, _, rfl, b, _, 2, _, rfl, rfl, SqL.of upd_same, rfl, _, _, rfl, rfl, .inl ⟨by decide, by decide⟩, _, _, rfl, rfl, ?_⟩⟩
            refine ⟨_, rfl, .inl ⟨_, rfl, _, _, rfl, rfl, (by show (0 : Int) < 2147483647; decide), _, rfl, b, _, 1, 1, rfl, rfl, upd_same, rfl, ?_⟩⟩
            refine ⟨d0, _, c2 + 1, _, _, rfl, by rw [upd_upd]; rfl, hd0, Int.emod_nonneg _ (by decide), Int.emod_lt_of_pos _ (by decide), by omega⟩
      · refine ⟨c0, c1, c2, none, none, rfl, ?_, h0, h1, h1u, h2⟩
        funext a
        by_cases ha : a = b
        · subst ha
          rw [upd_same, hb]
        · rw [upd_ne ha]
    · rintro σ' H' ⟨d0, d1, d2, y2, y3, rfl, rfl, g0, g1, g1u, g2⟩
      have kk : ∀ (n : Int) (ys : List V), 0 ≤ n → n < u → BagV l ys → Q (.int n) (upd (upd H b (.lst [.int d0, .int d1, .int d2, .ref l])) b (.lst ys)) := fun n ys a1 a2 a3 => by
        rw [upd_upd]
        exact k n ys a1 a2 a3
      refine ⟨_, rfl, b, _, 0, _, rfl, rfl, SqL.of upd_same, rfl, _, _, rfl, rfl, _, rfl, ite2 (fun hp => ?_) (fun _ => ?_)⟩
      · have hp' : 0 < d0 := of_decide_eq_true hp
        refine ⟨_, rfl, b, _, 0, _, rfl, rfl, SqL.of upd_same, rfl, .inl ⟨_, rfl, _, rfl, _, _, rfl, rfl, hu0, ?_⟩⟩
        refine ⟨_, rfl, b, _, 0, _, rfl, rfl, SqL.of upd_same, rfl, .inl ⟨_, rfl, _, rfl, _, _, rfl, rfl, ⟨hu0, Nat.lt_of_lt_of_le (PySem.Flt.log2_lt_of (by decide : 0 < 200) (by omega)) (by decide)⟩, _, rfl, b, _, 0, 0, rfl, rfl, upd_same, rfl, _, rfl, ?_⟩⟩
        exact kk _ _ (Int.emod_nonneg _ (by omega)) (Int.emod_lt_of_pos _ hu0) ⟨_, d1, d2, rfl, Int.ediv_nonneg (by omega) (by omega), g1, g1u, g2⟩
      · refine ⟨_, rfl, b, _, 1, _, rfl, rfl, SqL.of upd_same, rfl, _, _, rfl, rfl, _, _, rfl, rfl, .inr ⟨by decide, by decide⟩, .inl ⟨_, rfl, _, _, rfl, rfl, (by show (0 : Int) < 1000000007; decide), ?_⟩⟩
        have e0 : 0 ≤ (d1 + 1) * 39373 % 1000000007 := Int.emod_nonneg _ (by decide)
        have e1 : (d1 + 1) * 39373 % 1000000007 < 1000000007 := Int.emod_lt_of_pos _ (by decide)
        refine ⟨_, rfl, _, rfl, _, _, rfl, rfl, .inl ⟨by omega, by omega⟩, .inl ⟨_, rfl, _, _, rfl, rfl, (by show (0 : Int) < 998244353; decide), _, _, rfl, rfl, .inr ⟨by decide, by decide⟩, .inl ⟨_, rfl, _, _, rfl, rfl, (by show (0 : Int) < 998244353; decide), ?_⟩⟩⟩
        refine ⟨_, rfl, _, _, rfl, rfl, ⟨by decide, by decide⟩, .inl ⟨_, rfl, _, rfl, _, _, rfl, rfl, hu0, ?_⟩⟩
        exact k _ _ (Int.emod_nonneg _ (by omega)) (Int.emod_lt_of_pos _ hu0) ⟨d0, d1, d2, rfl, g0, g1, g1u, g2⟩
theorem ok__law_take (T : Tx P base K mg d) : Okf P w K mg base 1 d.f__law_take ["_law_bag_here", "_law_upto"] (sp__law_take K d) := take_ok (ok0__law_take T) rfl
theorem ow__law_take (T : Tx P base K mg d) : Okf P w K mg base 1 d.f__law_take ["_law_bag_here", "_law_upto"] (spW K (cnA d) (rN K (cnA d)) w_take) := okw_imp (ok__law_take T) tells_take
theorem sc__law_number : FnScope ["_law_bag_here", "_law_way"] ["_law_bag_here"] (defScope s__law_number) := ⟨rfl, rfl, rfl, by decide +kernel, rfl, by decide +kernel, by decide +kernel⟩
def sp__law_number (K : PySem.W.Frag) (d : Ads) : Sp := fun vs H Q _ => ∃ (b : Addr), vs = [.ref b] ∧ Bag H b ∧ ∀ n : Int, 0 ≤ n → n < 10 ^ 30 → Q (.int n) H
set_option maxHeartbeats 4000000 in
theorem ok__law_number (T : Tx P base K mg d) : Okf P w K mg base 2 d.f__law_number ["_law_bag_here"] (sp__law_number K d) := by
  refine okf_of T.d__law_number sc__law_number (fun vs H Q E h => ?_) (fun cdv A outer s H vs Q E hr h => ?_)
  · obtain ⟨b, rfl, hB, k⟩ := h
    rfl
  · obtain ⟨b, rfl, hB, k⟩ := h
    refine ⟨_, (pss_cons (ps_set (i := 1) sc__law_number.nd rfl (by first | exact Or.inl rfl | exact Or.inr rfl) (pf_call (ok__law_take T) (hr.mono (by decide)) (by rfl) T.g__law_take T.d__law_take.kp (pa_cons (pv 0) (pa_cons pe_int pa_nil))))
      (pss_cons (ps_if (pt_cmpR op_lt (pv 1) pe_int (nomark _)) (pss_one (ps_ret (pf_call (ok__law_take T) (hr.mono (by decide)) (by rfl) T.g__law_take T.d__law_take.kp (pa_cons (pv 0) (pa_cons pe_int pa_nil))))) pss_nil)
      (pss_one (ps_ret (pe_ifExp (pt_cmpR op_eq (pv 1) pe_int (nomark _)) (pf_call (ok__law_take T) (hr.mono (by decide)) (by rfl) T.g__law_take T.d__law_take.kp (pa_cons (pv 0) (pa_cons pe_int pa_nil))) (pe_op op_sub (pe_op op_sub (pe_op op_pow pe_int pe_int) pe_int) (pf_call (ok__law_take T) (hr.mono (by decide)) (by rfl) T.g__law_take T.d__law_take.kp (pa_cons (pv 0) (pa_cons pe_int pa_nil))))))))), ?_⟩
    walk_at "rd"
    refine ⟨b, _, rfl, hB, by omega, by omega, fun c c0 c1 => ?_⟩
    walk_at "rd"
    refine r_ite (fun _ => ?_) (fun _ => ?_)
    · walk_at "rd"
      exact ⟨b, _, rfl, hB, by omega, by omega, fun z z0 z1 => k z z0 (by omega)⟩
    · walk_at "rd"
      refine r_ite (fun _ => ?_) (fun _ => ?_)
      · walk_at "rd"
        exact ⟨b, _, rfl, hB, by omega, by omega, fun z z0 z1 => k z z0 (by omega)⟩
      · walk_at "rd"
        refine ⟨b, _, rfl, hB, by omega, by omega, fun z z0 z1 => ?_⟩
        walk_at "rd"
        exact k _ (by show 0 ≤ (10 : Int) ^ 30 - 1 - z; omega) (by show (10 : Int) ^ 30 - 1 - z < 10 ^ 30; omega)
def w__law_number : WF := fun xs P => xs = [.bag] ∧ ∀ n : Int, 0 ≤ n → n < 10 ^ 30 → P (.int n)
theorem ow__law_number (T : Tx P base K mg d) : Okf P w K mg base 2 d.f__law_number ["_law_bag_here"] (spW K (cnA d) (rN K (cnA d)) w__law_number) := okw_imp (ok__law_number T) (fun vs H Q E ⟨F, xs, P, dm, r, ⟨ex, p⟩, k⟩ => by
  subst ex
  obtain ⟨v1, rfl, r1⟩ := r.one
  obtain ⟨a1, rfl, h1⟩ := r1.bagE
  exact ⟨a1, rfl, h1, fun n n0 n1 => ret_int dm k (p n n0 n1) (Ex.refl _)⟩)
def t__law_drawn_row : WS := (wRet (wLc (wRng1 (wCons (wOp wAdd (wC (.int 1)) (wCall w_take (wCons (wVar 0) (wCons (wVar 1) wNil)))) wNil)) (wgName 2) wTyes (wCall w__law_number (wCons (wVar 0) wNil))))
def w__law_drawn_row : WF := wDef 2 1 t__law_drawn_row
theorem scw__law_drawn_row : FnScope ["_law_bag_here", "_law_most", "_law_hour"] ["_law_bag_here", "_law_most"] (defScope s__law_drawn_row) := ⟨rfl, rfl, rfl, by decide +kernel, rfl, by decide +kernel, by decide +kernel⟩
set_option maxHeartbeats 4000000 in
theorem ow__law_drawn_row (T : Tx P base K mg d) : Okf P w K mg base 3 d.f__law_drawn_row ["_law_bag_here", "_law_most"] (spW K (cnA d) (rN K (cnA d)) w__law_drawn_row) :=
  okw_of (ts' := [.sh, .sh, .no]) T.d__law_drawn_row scw__law_drawn_row rfl rfl rnonN fun cdv A outer s H E hr =>
    ⟨_, (pss_one (ps_ret (pe_lc (own := [("_law_hour", 2)]) rfl scw__law_drawn_row.nd (pi_range1 (by rfl) T.z_range (pa_cons (pe_op (u_add (K := K) rfl) pe_int (pf_call (ow__law_take T) (hr.mono (by decide)) (by rfl) T.g__law_take T.d__law_take.kp (pa_cons (pv 0) (pa_cons (pv 1) pa_nil)))) pa_nil)) (blkOk_by (by kernel_rfl)) (fun _ _ _ _ _ => (pg_name (i := 2) scw__law_drawn_row.nd rfl (by first | exact Or.inl rfl | exact Or.inr rfl))) (fun _ _ _ _ _ => pts_nil) (fun _ _ _ _ _ => (pf_call (ow__law_number T) (hr.mono (by decide)) (by rfl) T.g__law_number T.d__law_number.kp (pa_cons (pv 0) pa_nil)))))),
    (simS_ret okN (sim_lc (vs := [2]) (simI_rng1 (simAW_cons (sim_NW (sim_op okN ops_add (sim_NW sim_int) (sim_NW (sim_call okN (simA_cons (sim_var rfl) (simA_cons (sim_var rfl) simA_nil)))))) simAW_nil)) (simG_name (i := 2)) simT_yes (sim_NS (sim_call okN (simA_cons (sim_var rfl) simA_nil)))))⟩
def t__law_same : WS := (wRet (wAndV (wOp wEqG (wVar 0) (wVar 1)) (wOp wEq (wCB wReprG (wCons (wVar 0) wNil)) (wCB wReprG (wCons (wVar 1) wNil)))))
def w__law_same : WF := wDef 2 0 t__law_same
theorem scw__law_same : FnScope ["_law_found", "_law_due"] ["_law_found", "_law_due"] (defScope s__law_same) := ⟨rfl, rfl, rfl, by decide +kernel, rfl, by decide +kernel, by decide +kernel⟩
set_option maxHeartbeats 4000000 in
theorem ow__law_same (T : Tx P base K mg d) : OkP NoG P w K mg base 1 d.f__law_same ["_law_found", "_law_due"] (spW K (cnA d) (rN K (cnA d)) w__law_same) :=
  okwG_of (ts' := [.sh, .sh]) T.d__law_same scw__law_same rfl rfl rnonN fun cdv A outer s H E hg hr =>
    ⟨_, (pss_one (ps_ret (pe_and (pe_cmpR (u_eqG (K := K) rfl hr.units) (pv 0) (pv 1) (nomark _)) (pe_one (pe_cmpR (u_eq (K := K) rfl hr.units) (pe_callB (k_reprG (K := K) (k := 0) rfl hg (hr.mono (by decide))) (by rfl) T.z_repr (by decide +kernel) (pa_cons (pv 0) pa_nil)) (pe_callB (k_reprG (K := K) (k := 0) rfl hg (hr.mono (by decide))) (by rfl) T.z_repr (by decide +kernel) (pa_cons (pv 1) pa_nil)) (nomark _)))))),
    (simS_ret okN (sim_andV (sim_NS (sim_op okN ops_eqG (sim_SW (sim_var rfl)) (sim_SW (sim_var rfl)))) (sim_op okN ops_eq (sim_NW (sim_cb okN (cas_reprG T.sm) (simAW_cons (sim_SW (sim_var rfl)) simAW_nil))) (sim_NW (sim_cb okN (cas_reprG T.sm) (simAW_cons (sim_SW (sim_var rfl)) simAW_nil))))))⟩
def t__law_heard (z : PV) (wa : WAc) (EX : List PV → En → Fs → Prop) : WS := (wTry (fun EX => (wRet (wTup (wCons (wC (.str "told")) (wCons (wAct EX 0 z wa wNil) wNil))))) (fun n fs => (wSeq (wSet 2 (wLst (wCons (wIsX n .Wrong) (wCons (wIsX n .NoHour) (wCons (wIsX n .NoBegin) (wCons (wIsX n .Unlike) wNil))))))
      (wSeq (wIfS (wTest (wOp wNe (wCount (wVar 2) (wCons (wC (.bl true)) wNil)) (wC (.int 1)))) (wRet (wTup (wCons (wC (.str "other")) (wCons (wC .non) wNil)))) (fun D ρ => D.nx ρ))
      (wSeq (wIfS (wTest (wOp wIx (wVar 2) (wC (.int 0)))) (wRet (wTup (wCons (wC (.str "wrong")) (wCons (wExF n "place" fs) wNil)))) (fun D ρ => D.nx ρ))
      (wRet (wIf (wTest (wOp wIx (wVar 2) (wC (.int 3)))) (wTup (wCons (wC (.str "unlike")) (wCons (wC .non) wNil))) (wTup (wCons (wOp wIx (wLst (wCons (wC (.str "")) (wCons (wC (.str "hour")) (wCons (wC (.str "begin")) wNil)))) (wIndex (wVar 2) (wCons (wC (.bl true)) wNil))) (wCons (wExF n "hour" fs) wNil))))))))))
def w__law_heard : PV → WAc → WFX := fun z wa xs P EX => (∀ ys P E, wa ys P E → ys.length = 0) ∧ wDefX 1 2 (t__law_heard z wa) xs P EX
theorem scw__law_heard : FnScope ["_law_act", "e", "_law_kinds"] ["_law_act"] (defScope s__law_heard) := ⟨rfl, rfl, rfl, by decide +kernel, rfl, by decide +kernel, by decide +kernel⟩
set_option maxHeartbeats 4000000 in
theorem ow__law_heard (T : Tx P base K mg d) : Giv P w K mg base 0 d.f__law_heard ["_law_act"] 0 (spG K (cnA d) (eaA d) (rN K (cnA d)) w__law_heard) :=
  giv_of (tx := [.no, .no, .no]) (ts' := [.sh, .no, .no]) T.d__law_heard scw__law_heard rfl rfl rnonN fun cdv A outer s H E fa dd qq tl hr act =>
    ⟨_, (pss_one (ps_try_as (i := 1) rfl rfl scw__law_heard.nd rfl rfl ⟨rfl, by decide, .inl T.g_NeedError⟩ takes0 (fun W pn xe tk _ => (pss_one (ps_ret (pe_tup (pa_cons pe_str (pa_cons (act.t0 (i := 0) rfl tk rfl (by first | exact Or.inl rfl | exact Or.inr (Or.inl rfl) | exact Or.inr (Or.inr rfl))) pa_nil)))))) (fun xa oe ecls ed pn hz hf => (pss_cons (ps_set (i := 2) scw__law_heard.nd rfl (by first | exact Or.inl rfl | exact Or.inr rfl) (pe_lst (pa_cons (pe_callB (call_isX hz hf) (by rfl) T.z_isinstance (by decide +kernel) (pa_cons (pv 1) (pa_cons (pe_glob (v := .ref d.c_Wrong) (by rfl) T.g_Wrong rfl) pa_nil))) (pa_cons (pe_callB (call_isX hz hf) (by rfl) T.z_isinstance (by decide +kernel) (pa_cons (pv 1) (pa_cons (pe_glob (v := .ref d.c_NoHour) (by rfl) T.g_NoHour rfl) pa_nil))) (pa_cons (pe_callB (call_isX hz hf) (by rfl) T.z_isinstance (by decide +kernel) (pa_cons (pv 1) (pa_cons (pe_glob (v := .ref d.c_NoBegin) (by rfl) T.g_NoBegin rfl) pa_nil))) (pa_cons (pe_callB (call_isX hz hf) (by rfl) T.z_isinstance (by decide +kernel) (pa_cons (pv 1) (pa_cons (pe_glob (v := .ref d.c_Unlike) (by rfl) T.g_Unlike rfl) pa_nil))) pa_nil))))))
      (pss_cons (ps_if (pt_cmpR (u_ne (K := K) rfl hr.units) (pe_bm PySem.F.plainAttrs_list PySem.F.slot_list_count PySem.F.type_list_count (k_count (K := K) rfl) (pv 2) (pa_cons pe_bl pa_nil)) pe_int (nomark _)) (pss_one (ps_ret (pe_tup (pa_cons pe_str (pa_cons pe_non pa_nil))))) pss_nil)
      (pss_cons (ps_if (pt_val (pe_ix (k_ixS (K := K) rfl) (pv 2) pe_int (fun _ _ => rfl))) (pss_one (ps_ret (pe_tup (pa_cons pe_str (pa_cons (pe_exF hz hf (pv 1)) pa_nil))))) pss_nil)
      (pss_one (ps_ret (pe_ifExp (pt_val (pe_ix (k_ixS (K := K) rfl) (pv 2) pe_int (fun _ _ => rfl))) (pe_tup (pa_cons pe_str (pa_cons pe_non pa_nil))) (pe_tup (pa_cons (pe_ix (k_ixS (K := K) rfl) (pe_lst (pa_cons pe_str (pa_cons pe_str (pa_cons pe_str pa_nil)))) (pe_bm PySem.F.plainAttrs_list PySem.F.slot_list_index PySem.F.type_list_index (k_index (K := K) rfl) (pv 2) (pa_cons pe_bl pa_nil)) (fun _ _ => rfl)) (pa_cons (pe_exF hz hf (pv 1)) pa_nil)))))))))))),
    fun cv cx wa EX tko hna => (letI : XC := (xcOf K (cnA d) (eaA d) (fun c o _ H' => E c o H') EX [.no, .no, .no]); (simS_try (i := 1) (tx := [.sh, .no, .no]) (ts1 := [.sh, .no, .no]) (ts2 := [.sh, .no, .no]) (ts' := [.sh, .no, .no]) okN (fun W EX => (letI : XC := (xcOf K (cnA d) (eaA d) W EX [.sh, .no, .no]); (simS_ret okN (sim_tup (simA_cons (sim_NS sim_str) (simA_cons (sim_act (i := 0) rfl rfl rfl tko hna simA_nil) simA_nil)))))) (fun xa n C o fs hn hz0 => (letI : XC := xcS xa o fs n; (simS_seq (simS_set (i := 2) (sim_NS (sim_lst (simA_cons (sim_NS (sim_isX (i := 1) (n := n) (m := .Wrong) rfl hn rfl (ex_kit T) (ex_exc T) (opt_or o))) (simA_cons (sim_NS (sim_isX (i := 1) (n := n) (m := .NoHour) rfl hn rfl (ex_kit T) (ex_exc T) (opt_or o))) (simA_cons (sim_NS (sim_isX (i := 1) (n := n) (m := .NoBegin) rfl hn rfl (ex_kit T) (ex_exc T) (opt_or o))) (simA_cons (sim_NS (sim_isX (i := 1) (n := n) (m := .Unlike) rfl hn rfl (ex_kit T) (ex_exc T) (opt_or o))) simA_nil)))))))
      (simS_seq (simS_if (simT_test (sim_NS (sim_op okN ops_ne (sim_NW (sim_count rfl (sim_SW (sim_var rfl)) (simAW_cons (sim_NW sim_bl) simAW_nil))) (sim_NW sim_int)))) (simS_ret okN (sim_tup (simA_cons (sim_NS sim_str) (simA_cons (sim_NS sim_non) simA_nil)))) simS_nil)
      (simS_seq (simS_if (simT_B (sim_op okS ops_ix (sim_SW (sim_var rfl)) (sim_NW sim_int))) (simS_ret okN (sim_tup (simA_cons (sim_NS sim_str) (simA_cons (sim_exF (i := 1) rfl hn (ex_fld T) (opt_or o) hz0) simA_nil)))) simS_nil)
      (simS_ret okN (sim_if okN (simT_B (sim_op okS ops_ix (sim_SW (sim_var rfl)) (sim_NW sim_int))) (sim_tup (simA_cons (sim_NS sim_str) (simA_cons (sim_NS sim_non) simA_nil))) (sim_tup (simA_cons (sim_op okS ops_ix (sim_NW (sim_lst (simA_cons (sim_NS sim_str) (simA_cons (sim_NS sim_str) (simA_cons (sim_NS sim_str) simA_nil))))) (sim_NW (sim_index rfl (sim_SW (sim_var rfl)) (simAW_cons (sim_NW sim_bl) simAW_nil)))) (simA_cons (sim_exF (i := 1) rfl hn (ex_fld T) (opt_or o) hz0) simA_nil)))))))))) (ex_all T) rfl rfl rfl rfl rfl rfl rfl))⟩
def t_is_integer : WS := (wRet (wAndV (wCB (wIsiG [(.Plan, "int"), (.Plan, "list"), (.Plan, "tuple"), (.Needs, "list"), (.Needs, "tuple")]) (wCons (wVar 0) (wCons (wC (.ty "int")) wNil))) (wNotV (wCB (wIsiG [(.Plan, "int"), (.Plan, "list"), (.Plan, "tuple"), (.Needs, "list"), (.Needs, "tuple")]) (wCons (wVar 0) (wCons (wC (.ty "bool")) wNil))))))
def w_is_integer : WF := wDef 1 0 t_is_integer
theorem scw_is_integer : FnScope ["thing"] ["thing"] (defScope s_is_integer) := ⟨rfl, rfl, rfl, by decide +kernel, rfl, by decide +kernel, by decide +kernel⟩
set_option maxHeartbeats 4000000 in
theorem ow_is_integer (T : Tx P base K mg d) : Okf P w K mg base 1 d.f_is_integer ["thing"] (spW K (cnA d) (rN K (cnA d)) w_is_integer) :=
  okw_of (ts' := [.sh]) T.d_is_integer scw_is_integer rfl rfl rnonN fun cdv A outer s H E hr =>
    ⟨_, (pss_one (ps_ret (pe_and (pe_callB (k_isi (K := K) rfl) (by rfl) T.z_isinstance (by decide +kernel) (pa_cons (pv 0) (pa_cons (pe_bty (n := "int") (by rfl) T.z_int (by decide +kernel)) pa_nil))) (pe_one (pe_not (pe_callB (k_isi (K := K) rfl) (by rfl) T.z_isinstance (by decide +kernel) (pa_cons (pv 0) (pa_cons (pe_bty (n := "bool") (by rfl) T.z_bool (by decide +kernel)) pa_nil)))))))),
    (simS_ret okN (sim_andV (sim_NS (sim_cb okN (cas_isiG (ps := [(.Plan, "int"), (.Plan, "list"), (.Plan, "tuple"), (.Needs, "list"), (.Needs, "tuple")]) (ki_cons (c := .Plan) T.ic_Plan T.kx_Plan_int (ki_cons (c := .Plan) T.ic_Plan T.kx_Plan_list (ki_cons (c := .Plan) T.ic_Plan T.kx_Plan_tuple (ki_cons (c := .Needs) T.ic_Needs T.kx_Needs_list (ki_cons (c := .Needs) T.ic_Needs T.kx_Needs_tuple ki_nil)))))) (simAW_cons (sim_SW (sim_var rfl)) (simAW_cons (sim_NW sim_ty) simAW_nil)))) (sim_notV (sim_NS (sim_cb okN (cas_isiG (ps := [(.Plan, "int"), (.Plan, "list"), (.Plan, "tuple"), (.Needs, "list"), (.Needs, "tuple")]) (ki_cons (c := .Plan) T.ic_Plan T.kx_Plan_int (ki_cons (c := .Plan) T.ic_Plan T.kx_Plan_list (ki_cons (c := .Plan) T.ic_Plan T.kx_Plan_tuple (ki_cons (c := .Needs) T.ic_Needs T.kx_Needs_list (ki_cons (c := .Needs) T.ic_Needs T.kx_Needs_tuple ki_nil)))))) (simAW_cons (sim_SW (sim_var rfl)) (simAW_cons (sim_NW sim_ty) simAW_nil)))))))⟩
def t_is_hour : WS := (wRet (wAndV (wCall w_is_integer (wCons (wVar 1) wNil)) (wChain (wIB fun i j => decide (i ≤ j)) (wIB fun i j => decide (i < j)) (wC (.int 0)) (wVar 1) (wVar 0))))
def w_is_hour : WF := wDef 2 0 t_is_hour
theorem scw_is_hour : FnScope ["hours", "thing"] ["hours", "thing"] (defScope s_is_hour) := ⟨rfl, rfl, rfl, by decide +kernel, rfl, by decide +kernel, by decide +kernel⟩
set_option maxHeartbeats 4000000 in
theorem ow_is_hour (T : Tx P base K mg d) : Okf P w K mg base 2 d.f_is_hour ["hours", "thing"] (spW K (cnA d) (rN K (cnA d)) w_is_hour) :=
  okw_of (ts' := [.sh, .sh]) T.d_is_hour scw_is_hour rfl rfl rnonN fun cdv A outer s H E hr =>
    ⟨_, (pss_one (ps_ret (pe_and (pf_call (ow_is_integer T) (hr.mono (by decide)) (by rfl) T.g_is_integer T.d_is_integer.kp (pa_cons (pv 1) pa_nil)) (pe_one (pe_chain op_le op_lt pe_int (pv 1) (pv 0)))))),
    (simS_ret okN (sim_andV (sim_NS (sim_call okN (simA_cons (sim_var rfl) simA_nil))) (sim_chain (ops_IB (g := fun i j => decide (i ≤ j))) (ops_IB (g := fun i j => decide (i < j))) (sim_NW sim_int) (sim_SW (sim_var rfl)) (sim_SW (sim_var rfl)))))⟩
def t_Plan___getitem__ (EX : List PV → En → Fs → Prop) : WS := (wSeq (wIfS (wTnot (wTest (wCall w_is_hour (wCons (wCB wLen (wCons (wFldC .Plan (wVar 0) "kept_begins") wNil)) (wCons (wVar 1) wNil))))) (wRaise EX .NoHour "hour" (wVar 1)) (fun D ρ => D.nx ρ))
      (wRet (wNL (wOp wIx (wFldC .Plan (wVar 0) "kept_begins") (wVar 1)))))
def w_Plan___getitem__ : WFX := wDefX 2 0 t_Plan___getitem__
theorem scw_Plan___getitem__ : FnScope ["self", "hour"] ["self", "hour"] (defScope s_Plan___getitem__) := ⟨rfl, rfl, rfl, by decide +kernel, rfl, by decide +kernel, by decide +kernel⟩
set_option maxHeartbeats 4000000 in
theorem ow_Plan___getitem__ (T : Tx P base K mg d) : Okf P w K mg base 3 d.f_Plan___getitem__ ["self", "hour"] (spWX K (cnA d) (eaA d) (rN K (cnA d)) w_Plan___getitem__) :=
  okwX_of (tx := [.no, .no]) (ts' := [.sh, .sh]) T.d_Plan___getitem__ scw_Plan___getitem__ rfl rfl rnonN fun cdv A outer s H E hr =>
    ⟨_, (pss_cons (ps_if (pt_not (pt_val (pf_call (ow_is_hour T) (hr.mono (by decide)) (by rfl) T.g_is_hour T.d_is_hour.kp (pa_cons (pe_callB (u_len (K := K) rfl) (by rfl) T.z_len (by decide +kernel) (pa_cons (k_fld (K := K) rfl (pv 0)) pa_nil)) (pa_cons (pv 1) pa_nil))))) (pss_one (ps_raiseE (W := (fun c o _ H' => E c o H')) (k := 1) rfl T.er_NoHour (hr.mono (by decide)) (takes_of rfl rfl rfl rfl) (pa_cons (pv 1) pa_nil) (by rfl))) pss_nil)
      (pss_one (ps_ret (pe_ix (k_ixS (K := K) rfl) (k_fld (K := K) rfl (pv 0)) (pv 1) (fun _ _ => rfl))))),
    fun EX => (letI : XC := (xcOf K (cnA d) (eaA d) (fun c o _ H' => E c o H') EX [.no, .no]); (simS_seq (simS_if (simT_not (simT_B (sim_NS (sim_call okN (simA_cons (sim_NS (sim_cb okN cas_len (simAW_cons (sim_SW (sim_fld (c := .Plan) rfl T.cl_Plan T.n_Plan_kept_begins (sim_var rfl))) simAW_nil))) (simA_cons (sim_var rfl) simA_nil)))))) (simS_raise (n := .NoHour) rfl rfl rfl rfl (sim_var rfl)) simS_nil)
      (simS_ret okN (sim_SN (sim_op okS ops_ix (sim_SW (sim_fld (c := .Plan) rfl T.cl_Plan T.n_Plan_kept_begins (sim_var rfl))) (sim_SW (sim_var rfl)))))))⟩
theorem sc_Plan_hours : FnScope ["self"] ["self"] (defScope s_Plan_hours) := ⟨rfl, rfl, rfl, by decide +kernel, rfl, by decide +kernel, by decide +kernel⟩
def sp_Plan_hours (K : PySem.W.Frag) (d : Ads) : Sp := fun vs H Q _ => ∃ (v : V) (s : List Int), vs = [v] ∧ Pn K d H v s ∧ Q (.int (s.length : Int)) H
set_option maxHeartbeats 4000000 in
theorem ok_Plan_hours (T : Tx P base K mg d) : Okf P w K mg base 1 d.f_Plan_hours ["self"] (sp_Plan_hours K d) := by
  refine okf_of T.d_Plan_hours sc_Plan_hours (fun vs H Q E h => ?_) (fun cdv A outer s H vs Q E hr h => ?_)
  · obtain ⟨v, s, rfl, hN, k⟩ := h
    rfl
  · obtain ⟨v, s, rfl, hN, k⟩ := h
    refine ⟨_, (pss_one (ps_ret (pe_callB (k_len (K := K) rfl) (by rfl) T.z_len (by decide +kernel) (pa_cons (k_fld (K := K) rfl (pv 0)) pa_nil)))), ?_⟩
    walk_at "rd"
    refine r_rwF hN T.cl_Plan T.n_Plan_kept_begins fun a ha => ?_
    walk_at "rd"
    refine r_len (.inr ha) ?_
    rw [List.length_map]
    exact k
def w_Plan_hours : WF := fun xs P => ∃ (s : List Int), xs = [pnP s] ∧ GoodN s ∧ P (.int (s.length : Int))
theorem ow_Plan_hours (T : Tx P base K mg d) : Okf P w K mg base 1 d.f_Plan_hours ["self"] (spW K (cnA d) (rN K (cnA d)) w_Plan_hours) := okw_imp (ok_Plan_hours T) (fun vs H Q E ⟨F, xs, P, dm, r, ⟨s, ex, c1, p⟩, k⟩ => by
  subst ex
  obtain ⟨v1, rfl, r1⟩ := r.one
  exact ⟨v1, s, rfl, pn_of r1 c1, ret_int dm k p (Ex.refl _)⟩)
def t_is_count : WS := (wRet (wAndV (wCall w_is_integer (wCons (wVar 0) wNil)) (wOp (wIB fun i j => decide (j ≤ i)) (wVar 0) (wC (.int 0)))))
def w_is_count : WF := wDef 1 0 t_is_count
theorem scw_is_count : FnScope ["thing"] ["thing"] (defScope s_is_count) := ⟨rfl, rfl, rfl, by decide +kernel, rfl, by decide +kernel, by decide +kernel⟩
set_option maxHeartbeats 4000000 in
theorem ow_is_count (T : Tx P base K mg d) : Okf P w K mg base 2 d.f_is_count ["thing"] (spW K (cnA d) (rN K (cnA d)) w_is_count) :=
  okw_of (ts' := [.sh]) T.d_is_count scw_is_count rfl rfl rnonN fun cdv A outer s H E hr =>
    ⟨_, (pss_one (ps_ret (pe_and (pf_call (ow_is_integer T) (hr.mono (by decide)) (by rfl) T.g_is_integer T.d_is_integer.kp (pa_cons (pv 0) pa_nil)) (pe_one (pe_cmpR op_ge (pv 0) pe_int (nomark _)))))),
    (simS_ret okN (sim_andV (sim_NS (sim_call okN (simA_cons (sim_var rfl) simA_nil))) (sim_op okN (ops_IB (g := fun i j => decide (j ≤ i))) (sim_SW (sim_var rfl)) (sim_NW sim_int))))⟩
def t_are_counts : WS := (wSeq (wIfS (wTor (wTnot (wTest (wIsiTG [(.Plan, "int"), (.Plan, "list"), (.Plan, "tuple"), (.Needs, "list"), (.Needs, "tuple")] (wVar 1) "list" "tuple"))) (wTest (wOp wNe (wCB wLen (wCons (wVar 1) wNil)) (wVar 0)))) (wRet (wC (.bl false))) (fun D ρ => D.nx ρ))
      (wRet (wCB wAll (wCons (wLc (wSeqI (wVar 1)) (wgName 2) wTyes (wCall w_is_count (wCons (wVar 2) wNil))) wNil))))
def w_are_counts : WF := wDef 2 1 t_are_counts
theorem scw_are_counts : FnScope ["hours", "thing", "one"] ["hours", "thing"] (defScope s_are_counts) := ⟨rfl, rfl, rfl, by decide +kernel, rfl, by decide +kernel, by decide +kernel⟩
set_option maxHeartbeats 4000000 in
theorem ow_are_counts (T : Tx P base K mg d) : Okf P w K mg base 3 d.f_are_counts ["hours", "thing"] (spW K (cnA d) (rN K (cnA d)) w_are_counts) :=
  okw_of (ts' := [.sh, .sh, .no]) T.d_are_counts scw_are_counts rfl rfl rnonN fun cdv A outer s H E hr =>
    ⟨_, (pss_cons (ps_if (PW.pt (pw_or (pt_not (pt_val (pe_callB (k_isiT (K := K) rfl) (by rfl) T.z_isinstance (by decide +kernel) (pa_cons (pv 1) (pa_cons (pe_tup (pa_cons (pe_bty (n := "list") (by rfl) T.z_list (by decide +kernel)) (pa_cons (pe_bty (n := "tuple") (by rfl) T.z_tuple (by decide +kernel)) pa_nil))) pa_nil))))) (pw_or1 (pt_cmpR (u_ne (K := K) rfl hr.units) (pe_callB (u_len (K := K) rfl) (by rfl) T.z_len (by decide +kernel) (pa_cons (pv 1) pa_nil)) (pv 0) (nomark _))))) (pss_one (ps_ret pe_bl)) pss_nil)
      (pss_one (ps_ret (pe_callB (k_all (K := K) rfl rfl) (by rfl) T.z_all (by decide +kernel) (pa_cons (pe_lc (own := [("one", 2)]) rfl scw_are_counts.nd (k_piS (K := K) rfl (pv 1)) (blkOk_by (by kernel_rfl)) (fun _ _ _ _ _ => (pg_name (i := 2) scw_are_counts.nd rfl (by first | exact Or.inl rfl | exact Or.inr rfl))) (fun _ _ _ _ _ => pts_nil) (fun _ _ _ _ _ => (pf_call (ow_is_count T) (hr.mono (by decide)) (by rfl) T.g_is_count T.d_is_count.kp (pa_cons (pv 2) pa_nil)))) pa_nil))))),
    (simS_seq (simS_if (simT_or (simT_not (simT_B (sim_NS (sim_isiTG (ps := [(.Plan, "int"), (.Plan, "list"), (.Plan, "tuple"), (.Needs, "list"), (.Needs, "tuple")]) (ki_cons (c := .Plan) T.ic_Plan T.kx_Plan_int (ki_cons (c := .Plan) T.ic_Plan T.kx_Plan_list (ki_cons (c := .Plan) T.ic_Plan T.kx_Plan_tuple (ki_cons (c := .Needs) T.ic_Needs T.kx_Needs_list (ki_cons (c := .Needs) T.ic_Needs T.kx_Needs_tuple ki_nil))))) (sim_SW (sim_var rfl)))))) (simT_test (sim_NS (sim_op okN ops_ne (sim_NW (sim_cb okN cas_len (simAW_cons (sim_SW (sim_var rfl)) simAW_nil))) (sim_SW (sim_var rfl)))))) (simS_ret okN sim_bl) simS_nil)
      (simS_ret okN (sim_cb okN cas_all (simAW_cons (sim_NW (sim_lc (vs := [2]) (simI_seq (lp := false) (sim_SW (sim_var rfl))) (simG_name (i := 2)) simT_yes (sim_NS (sim_call okN (simA_cons (sim_var rfl) simA_nil))))) simAW_nil))))⟩
def t_is_row : WS := (wSeq (wIfS (wTor (wTnot (wTest (wIsiTG [(.Plan, "int"), (.Plan, "list"), (.Plan, "tuple"), (.Needs, "list"), (.Needs, "tuple")] (wVar 0) "list" "tuple"))) (wTnot (wTest (wChain (wIB fun i j => decide (i ≤ j)) (wIB fun i j => decide (i ≤ j)) (wC (.int 1)) (wCB wLen (wCons (wVar 0) wNil)) (wC (.int 48)))))) (wRet (wC (.bl false))) (fun D ρ => D.nx ρ))
      (wRet (wCall w_are_counts (wCons (wCB wLen (wCons (wVar 0) wNil)) (wCons (wVar 0) wNil)))))
def w_is_row : WF := wDef 1 0 t_is_row
theorem scw_is_row : FnScope ["thing"] ["thing"] (defScope s_is_row) := ⟨rfl, rfl, rfl, by decide +kernel, rfl, by decide +kernel, by decide +kernel⟩
set_option maxHeartbeats 4000000 in
theorem ow_is_row (T : Tx P base K mg d) : Okf P w K mg base 4 d.f_is_row ["thing"] (spW K (cnA d) (rN K (cnA d)) w_is_row) :=
  okw_of (ts' := [.sh]) T.d_is_row scw_is_row rfl rfl rnonN fun cdv A outer s H E hr =>
    ⟨_, (pss_cons (ps_if (PW.pt (pw_or (pt_not (pt_val (pe_callB (k_isiT (K := K) rfl) (by rfl) T.z_isinstance (by decide +kernel) (pa_cons (pv 0) (pa_cons (pe_tup (pa_cons (pe_bty (n := "list") (by rfl) T.z_list (by decide +kernel)) (pa_cons (pe_bty (n := "tuple") (by rfl) T.z_tuple (by decide +kernel)) pa_nil))) pa_nil))))) (pw_or1 (pt_not (pt_chain op_le op_le pe_int (pe_callB (u_len (K := K) rfl) (by rfl) T.z_len (by decide +kernel) (pa_cons (pv 0) pa_nil)) (pe_gint (by rfl) T.k_MOST_HOURS)))))) (pss_one (ps_ret pe_bl)) pss_nil)
      (pss_one (ps_ret (pf_call (ow_are_counts T) (hr.mono (by decide)) (by rfl) T.g_are_counts T.d_are_counts.kp (pa_cons (pe_callB (u_len (K := K) rfl) (by rfl) T.z_len (by decide +kernel) (pa_cons (pv 0) pa_nil)) (pa_cons (pv 0) pa_nil)))))),
    (simS_seq (simS_if (simT_or (simT_not (simT_B (sim_NS (sim_isiTG (ps := [(.Plan, "int"), (.Plan, "list"), (.Plan, "tuple"), (.Needs, "list"), (.Needs, "tuple")]) (ki_cons (c := .Plan) T.ic_Plan T.kx_Plan_int (ki_cons (c := .Plan) T.ic_Plan T.kx_Plan_list (ki_cons (c := .Plan) T.ic_Plan T.kx_Plan_tuple (ki_cons (c := .Needs) T.ic_Needs T.kx_Needs_list (ki_cons (c := .Needs) T.ic_Needs T.kx_Needs_tuple ki_nil))))) (sim_SW (sim_var rfl)))))) (simT_not (simT_test (sim_NS (sim_chain (ops_IB (g := fun i j => decide (i ≤ j))) (ops_IB (g := fun i j => decide (i ≤ j))) (sim_NW sim_int) (sim_NW (sim_cb okN cas_len (simAW_cons (sim_SW (sim_var rfl)) simAW_nil))) (sim_NW sim_int)))))) (simS_ret okN sim_bl) simS_nil)
      (simS_ret okN (sim_call okN (simA_cons (sim_NS (sim_cb okN cas_len (simAW_cons (sim_SW (sim_var rfl)) simAW_nil))) (simA_cons (sim_var rfl) simA_nil)))))⟩
def t_Plan___init__ (a : Addr) (EX : List PV → En → Fs → Prop) : WS := (wSeq (wIfS (wTnot (wTest (wCall w_is_row (wCons (wVar 1) wNil)))) (wRaise EX .Wrong "place" (wC (.int 0))) (fun D ρ => D.nx ρ))
      (wFldS a .Plan "kept_begins" (wCB wTupOf (wCons (wVar 1) wNil))))
def w_Plan___init__ : WFX := wInit .Plan 1 0 t_Plan___init__
theorem scw_Plan___init__ : FnScope ["self", "begins"] ["self", "begins"] (defScope s_Plan___init__) := ⟨rfl, rfl, rfl, by decide +kernel, rfl, by decide +kernel, by decide +kernel⟩
set_option maxHeartbeats 4000000 in
theorem ow_Plan___init__ (T : Tx P base K mg d) : Okf P w K mg base 5 d.f_Plan___init__ ["self", "begins"] (spI K (cnA d) (eaA d) .Plan w_Plan___init__) :=
  okwI_of (tx := [.no, .no]) (ts' := [.sh, .sh]) T.d_Plan___init__ scw_Plan___init__ rfl rfl rfl fun cdv A outer s H E hr =>
    ⟨_, (pss_cons (ps_if (pt_not (pt_val (pf_call (ow_is_row T) (hr.mono (by decide)) (by rfl) T.g_is_row T.d_is_row.kp (pa_cons (pv 1) pa_nil)))) (pss_one (ps_raiseE (W := (fun c o _ H' => E c o H')) (k := 1) rfl T.er_Wrong (hr.mono (by decide)) (takes_of rfl rfl rfl rfl) (pa_cons pe_int pa_nil) (by rfl))) pss_nil)
      (pss_one (k_sfld (K := K) rfl (pv 0) (pe_callTy (k_tupOf (K := K) rfl) (by rfl) T.z_tuple (by decide +kernel) (pa_cons (pv 1) pa_nil))))),
    fun a EX => (letI : XC := (xcOf K (cnA d) (eaA d) (fun c o _ H' => E c o H') EX [.no, .no]); (simZ_seq (simZ_of (simS_if (simT_not (simT_B (sim_NS (sim_call okN (simA_cons (sim_var rfl) simA_nil))))) (simS_raise (n := .Wrong) rfl rfl rfl rfl (sim_NS sim_int)) simS_nil))
      (simZ_fld (c := .Plan) rfl rfl T.cl_Plan T.n_Plan_kept_begins (sim_NS (sim_cb okN cas_tupOf (simAW_cons (sim_SW (sim_var rfl)) simAW_nil))))))⟩
def t_Plan_moved (EX : List PV → En → Fs → Prop) : WS := (wSeq (wIfS (wTnot (wTest (wCall w_is_hour (wCons (wProp .Plan w_Plan_hours (wVar 0)) (wCons (wVar 1) wNil))))) (wRaise EX .NoHour "hour" (wVar 1)) (fun D ρ => D.nx ρ))
      (wSeq (wIfS (wTest (wOp wEq (wOp wIx (wFldC .Plan (wVar 0) "kept_begins") (wVar 1)) (wC (.int 0)))) (wRaise EX .NoBegin "hour" (wVar 1)) (fun D ρ => D.nx ρ))
      (wSeq (wSetO 3 (wCB wListOf (wCons (wFldC .Plan (wVar 0) "kept_begins") wNil)))
      (wSeq (wAugS 3 (fun i j => i - j) (wVar 1) (wC (.int 1)))
      (wSeq (wAugS 3 (fun i j => i + j) (wOp (wII (fun _ j => 0 < j) fun i j => i % j) (wOp wAdd (wVar 1) (wVar 2)) (wProp .Plan w_Plan_hours (wVar 0))) (wC (.int 1)))
      (wRet (wCallX EX w_Plan___init__ (wCons (wVar 3) wNil))))))))
def w_Plan_moved : WFX := wDefX 3 1 t_Plan_moved
theorem scw_Plan_moved : FnScope ["self", "hour", "by", "begins"] ["self", "hour", "by"] (defScope s_Plan_moved) := ⟨rfl, rfl, rfl, by decide +kernel, rfl, by decide +kernel, by decide +kernel⟩
set_option maxHeartbeats 4000000 in
theorem ow_Plan_moved (T : Tx P base K mg d) : Okf P w K mg base 7 d.f_Plan_moved ["self", "hour", "by"] (spWX K (cnA d) (eaA d) (rN K (cnA d)) w_Plan_moved) :=
  okwX_of (tx := [.no, .no, .no, .no]) (ts' := [.sh, .sh, .sh, .sh]) T.d_Plan_moved scw_Plan_moved rfl rfl rnonN fun cdv A outer s H E hr =>
    ⟨_, (pss_cons (ps_if (pt_not (pt_val (pf_call (ow_is_hour T) (hr.mono (by decide)) (by rfl) T.g_is_hour T.d_is_hour.kp (pa_cons (pf_prop (ow_Plan_hours T) (hr.mono (by decide)) T.cl_Plan T.p_Plan_hours (pv 0)) (pa_cons (pv 1) pa_nil))))) (pss_one (ps_raiseE (W := (fun c o _ H' => E c o H')) (k := 1) rfl T.er_NoHour (hr.mono (by decide)) (takes_of rfl rfl rfl rfl) (pa_cons (pv 1) pa_nil) (by rfl))) pss_nil)
      (pss_cons (ps_if (pt_cmpR (u_eq (K := K) rfl hr.units) (pe_ix (k_ixS (K := K) rfl) (k_fld (K := K) rfl (pv 0)) (pv 1) (fun _ _ => rfl)) pe_int (nomark _)) (pss_one (ps_raiseE (W := (fun c o _ H' => E c o H')) (k := 1) rfl T.er_NoBegin (hr.mono (by decide)) (takes_of rfl rfl rfl rfl) (pa_cons (pv 1) pa_nil) (by rfl))) pss_nil)
      (pss_cons (ps_set (i := 3) scw_Plan_moved.nd rfl (by first | exact Or.inl rfl | exact Or.inr rfl) (pe_callTy (k_listOf (K := K) rfl) (by rfl) T.z_list (by decide +kernel) (pa_cons (k_fld (K := K) rfl (pv 0)) pa_nil)))
      (pss_cons (ps_augS (pv 3) (pv 1) (k_getL (K := K) rfl) pe_int ip_sub set_list)
      (pss_cons (ps_augS (pv 3) (pe_op op_mod (pe_op (u_add (K := K) rfl) (pv 1) (pv 2)) (pf_prop (ow_Plan_hours T) (hr.mono (by decide)) T.cl_Plan T.p_Plan_hours (pv 0))) (k_getL (K := K) rfl) pe_int ip_add set_list)
      (pss_one (ps_ret (pf_makeS (E := fun σ c o H => (fun c o _ H' => E c o H') c o σ H) (ow_Plan___init__ T) (hr.mono (by decide)) T.mk_Plan (by rfl) T.g_Plan (fun σ pins H s e s' I h => passes_call (takes_of rfl rfl rfl rfl) (fun _ _ _ _ h => h) pins σ H s e s' I h) (pa_cons (pv 3) pa_nil))))))))),
    fun EX => (letI : XC := (xcOf K (cnA d) (eaA d) (fun c o _ H' => E c o H') EX [.no, .no, .no, .no]); (simS_seq (simS_if (simT_not (simT_B (sim_NS (sim_call okN (simA_cons (sim_NS (sim_prop .Plan okN (sim_var rfl))) (simA_cons (sim_var rfl) simA_nil)))))) (simS_raise (n := .NoHour) rfl rfl rfl rfl (sim_var rfl)) simS_nil)
      (simS_seq (simS_if (simT_test (sim_NS (sim_op okN ops_eq (sim_SW (sim_op okS ops_ix (sim_SW (sim_fld (c := .Plan) rfl T.cl_Plan T.n_Plan_kept_begins (sim_var rfl))) (sim_SW (sim_var rfl)))) (sim_NW sim_int)))) (simS_raise (n := .NoBegin) rfl rfl rfl rfl (sim_var rfl)) simS_nil)
      (simS_seq (simS_setO (i := 3) (sim_cb okN cas_listOf (simAW_cons (sim_SW (sim_fld (c := .Plan) rfl T.cl_Plan T.n_Plan_kept_begins (sim_var rfl))) simAW_nil)))
      (simS_seq (simS_augS (i := 3) (f := (fun i j => i - j)) rfl (sim_SW (sim_var rfl)) (sim_NW sim_int))
      (simS_seq (simS_augS (i := 3) (f := (fun i j => i + j)) rfl (sim_NW (sim_op okN (ops_II (C := fun _ j => 0 < j) (g := fun i j => i % j)) (sim_NW (sim_op okN ops_add (sim_SW (sim_var rfl)) (sim_SW (sim_var rfl)))) (sim_NW (sim_prop .Plan okN (sim_var rfl))))) (sim_NW sim_int))
      (simS_conv (ts1 := [.sh, .sh, .sh, .sh]) rfl (simS_ret okN (sim_makeX (cn := .Plan) mkI rfl rfl (simA_cons (sim_var rfl) simA_nil))))))))))⟩
def t_Plan_later (EX : List PV → En → Fs → Prop) : WS := (wRet (wMethX EX .Plan "moved" w_Plan_moved (wVar 0) (wCons (wVar 1) (wCons (wC (.int 1)) wNil))))
def w_Plan_later : WFX := wDefX 2 0 t_Plan_later
theorem scw_Plan_later : FnScope ["self", "hour"] ["self", "hour"] (defScope s_Plan_later) := ⟨rfl, rfl, rfl, by decide +kernel, rfl, by decide +kernel, by decide +kernel⟩
set_option maxHeartbeats 4000000 in
theorem ow_Plan_later (T : Tx P base K mg d) : Okf P w K mg base 8 d.f_Plan_later ["self", "hour"] (spWX K (cnA d) (eaA d) (rN K (cnA d)) w_Plan_later) :=
  okwX_of (tx := [.no, .no]) (ts' := [.sh, .sh]) T.d_Plan_later scw_Plan_later rfl rfl rnonN fun cdv A outer s H E hr =>
    ⟨_, (pss_one (ps_ret (pf_methS (E := fun σ c o H => (fun c o _ H' => E c o H') c o σ H) (ow_Plan_moved T) (hr.mono (by decide)) T.cl_Plan T.m_Plan_moved (fun σ pins H s e s' I h => passes_call (takes_of rfl rfl rfl rfl) (fun _ _ _ _ h => h) pins σ H s e s' I h) (pv 0) (pa_cons (pv 1) (pa_cons pe_int pa_nil))))),
    fun EX => (letI : XC := (xcOf K (cnA d) (eaA d) (fun c o _ H' => E c o H') EX [.no, .no]); (simS_ret okN (sim_methX .Plan okN rfl rfl (sim_var rfl) (simA_cons (sim_var rfl) (simA_cons (sim_NS sim_int) simA_nil)))))⟩
def t_Plan_earlier (EX : List PV → En → Fs → Prop) : WS := (wRet (wMethX EX .Plan "moved" w_Plan_moved (wVar 0) (wCons (wVar 1) (wCons (wUn wNeg (wC (.int 1))) wNil))))
def w_Plan_earlier : WFX := wDefX 2 0 t_Plan_earlier
theorem scw_Plan_earlier : FnScope ["self", "hour"] ["self", "hour"] (defScope s_Plan_earlier) := ⟨rfl, rfl, rfl, by decide +kernel, rfl, by decide +kernel, by decide +kernel⟩
set_option maxHeartbeats 4000000 in
theorem ow_Plan_earlier (T : Tx P base K mg d) : Okf P w K mg base 8 d.f_Plan_earlier ["self", "hour"] (spWX K (cnA d) (eaA d) (rN K (cnA d)) w_Plan_earlier) :=
  okwX_of (tx := [.no, .no]) (ts' := [.sh, .sh]) T.d_Plan_earlier scw_Plan_earlier rfl rfl rnonN fun cdv A outer s H E hr =>
    ⟨_, (pss_one (ps_ret (pf_methS (E := fun σ c o H => (fun c o _ H' => E c o H') c o σ H) (ow_Plan_moved T) (hr.mono (by decide)) T.cl_Plan T.m_Plan_moved (fun σ pins H s e s' I h => passes_call (takes_of rfl rfl rfl rfl) (fun _ _ _ _ h => h) pins σ H s e s' I h) (pv 0) (pa_cons (pv 1) (pa_cons (pe_un un_neg pe_int) pa_nil))))),
    fun EX => (letI : XC := (xcOf K (cnA d) (eaA d) (fun c o _ H' => E c o H') EX [.no, .no]); (simS_ret okN (sim_methX .Plan okN rfl rfl (sim_var rfl) (simA_cons (sim_var rfl) (simA_cons (sim_NS (sim_un uns_neg (sim_NW sim_int))) simA_nil)))))⟩
theorem sc_row_of : FnScope ["sums", "elder", "later"] ["sums"] (defScope s_row_of) := ⟨rfl, rfl, rfl, by decide +kernel, rfl, by decide +kernel, by decide +kernel⟩
def sp_row_of (K : PySem.W.Frag) (d : Ads) : Sp := fun vs H Q _ => ∃ (a : Addr) (ns : List Int), vs = [.ref a] ∧ Sq K H a (ns.map V.int) ∧ 1 ≤ ns.length ∧ ns.length ≤ 1000 ∧ RetN ((diffR ns).map V.int) H Q
set_option maxHeartbeats 4000000 in
theorem ok_row_of (T : Tx P base K mg d) : Okf P w K mg base 1 d.f_row_of ["sums"] (sp_row_of K d) := by
  refine okf_of T.d_row_of sc_row_of (fun vs H Q E h => ?_) (fun cdv A outer s H vs Q E hr h => ?_)
  · obtain ⟨a, ns, rfl, hS, h1, hl, k⟩ := h
    rfl
  · obtain ⟨a, ns, rfl, hS, h1, hl, k⟩ := h
    refine ⟨_, (pss_one (ps_ret (pe_lc (own := [("elder", 1), ("later", 2)]) rfl sc_row_of.nd (k_piZA (K := K) rfl (by rfl) T.z_zip (pa_cons (pv 0) (pa_cons (pe_slice (k_slQ (K := K) rfl) (pv 0) (po_some pe_int) po_none) pa_nil))) (blkOk_by (by kernel_rfl)) (fun _ _ _ _ _ => (k_gtup (K := K) (n := 2) rfl rfl (pgs_cons (pg_name (i := 1) sc_row_of.nd rfl (by first | exact Or.inl rfl | exact Or.inr rfl)) (pgs_cons (pg_name (i := 2) sc_row_of.nd rfl (by first | exact Or.inl rfl | exact Or.inr rfl)) pgs_nil)))) (fun _ _ _ _ _ => pts_nil) (fun _ _ _ _ _ => (pe_op op_sub (pv 2) (pv 1)))))), ?_⟩
    rcases hS with hS | hS
    · skip
      walk_at "rd"
      refine ⟨a, _, rfl, .inl ⟨hS, fun p np => ?_⟩⟩
      rw [cut_drop (by omega) (by rw [List.length_map]; omega)]
      walk_at "rd"
      refine ⟨a, p, _, _, rfl, .inl ⟨(by walk_at "kn"), (by walk_at "kn"), lc_fun (walk_zip (n := ns.length - 1) (xs := ns.map V.int) (ys := (ns.map V.int).drop 1) (by rw [List.length_drop, List.length_map]; omega)) (fun i => .int (ns.getD (i + 1) 0 - ns.getD i 0)) (fun H' e => ⟨(by walk_at "kn"), (by walk_at "kn")⟩) (by omega) ?_ ?_⟩⟩
      · rintro i x H1 H2 hi e ⟨T', x1, x2, rfl, nT, rfl, hx1, hx2⟩ kk hk
        replace hx2 : ((ns.map V.int).drop 1)[i]? = some x2 := hx2
        rw [List.getElem?_drop, Nat.add_comm] at hx2
        obtain rfl := int_at hx1
        obtain rfl := int_at hx2
        refine r_pair ?_
        walk_at "rd"
        exact hk _ (Ex.new nT)
      · intro D H1 nD e1 hD
        refine k D H1 (by walk_at "fr") (by walk_at "ex") ?_
        rw [hD]
        unfold diffR
        rw [row_lit]
        rfl
    · skip
      walk_at "rd"
      refine ⟨a, _, rfl, .inr ⟨hS, cut_part (by rw [List.length_map]; omega), fun p np => ?_⟩⟩
      rw [cut_drop (by omega) (by rw [List.length_map]; omega)]
      walk_at "rd"
      refine ⟨a, p, _, _, rfl, .inr ⟨(by walk_at "kn"), (by walk_at "kn"), lc_fun (walk_zipT (n := ns.length - 1) (xs := ns.map V.int) (ys := (ns.map V.int).drop 1) (by rw [List.length_drop, List.length_map]; omega)) (fun i => .int (ns.getD (i + 1) 0 - ns.getD i 0)) (fun H' e => ⟨(by walk_at "kn"), (by walk_at "kn")⟩) (by omega) ?_ ?_⟩⟩
      · rintro i x H1 H2 hi e ⟨T', x1, x2, rfl, nT, rfl, hx1, hx2⟩ kk hk
        replace hx2 : ((ns.map V.int).drop 1)[i]? = some x2 := hx2
        rw [List.getElem?_drop, Nat.add_comm] at hx2
        obtain rfl := int_at hx1
        obtain rfl := int_at hx2
        refine r_pair ?_
        walk_at "rd"
        exact hk _ (Ex.new nT)
      · intro D H1 nD e1 hD
        refine k D H1 (by walk_at "fr") (by walk_at "ex") ?_
        rw [hD]
        unfold diffR
        rw [row_lit]
        rfl
def w_row_of : WF := fun xs P => ∃ (x : PV) (s : List Int), xs = [x] ∧ seqP x s ∧ 1 ≤ s.length ∧ s.length ≤ 1000 ∧ P (.lst (iL (diffR s)))
theorem ow_row_of (T : Tx P base K mg d) : Okf P w K mg base 1 d.f_row_of ["sums"] (spW K (cnA d) (rN K (cnA d)) w_row_of) := okw_imp (ok_row_of T) (fun vs H Q E ⟨F, xs, P, dm, r, ⟨x, s, ex, c1, c2, c3, p⟩, k⟩ => by
  subst ex
  obtain ⟨v1, rfl, r1⟩ := r.one
  obtain ⟨a1, rfl, h1⟩ := r1.seq c1
  exact ⟨a1, s, rfl, h1, c2, c3, ret_ints dm k p⟩)
def t_pairs_of (EX : List PV → En → Fs → Prop) : WS := (wSeq (wIfS (wTest (wOp wNe (wCB wLen (wCons (wVar 0) wNil)) (wCB wLen (wCons (wVar 1) wNil)))) (wRaise0 EX .Unlike) (fun D ρ => D.nx ρ))
      (wRet (wListZip (wCons (wVar 0) (wCons (wVar 1) wNil)))))
def w_pairs_of : WFX := wDefX 2 0 t_pairs_of
theorem scw_pairs_of : FnScope ["one", "other"] ["one", "other"] (defScope s_pairs_of) := ⟨rfl, rfl, rfl, by decide +kernel, rfl, by decide +kernel, by decide +kernel⟩
set_option maxHeartbeats 4000000 in
theorem ow_pairs_of (T : Tx P base K mg d) : Okf P w K mg base 2 d.f_pairs_of ["one", "other"] (spWX K (cnA d) (eaA d) (rN K (cnA d)) w_pairs_of) :=
  okwX_of (tx := [.no, .no]) (ts' := [.sh, .sh]) T.d_pairs_of scw_pairs_of rfl rfl rnonN fun cdv A outer s H E hr =>
    ⟨_, (pss_cons (ps_if (pt_cmpR (u_ne (K := K) rfl hr.units) (pe_callB (u_len (K := K) rfl) (by rfl) T.z_len (by decide +kernel) (pa_cons (pv 0) pa_nil)) (pe_callB (u_len (K := K) rfl) (by rfl) T.z_len (by decide +kernel) (pa_cons (pv 1) pa_nil)) (nomark _)) (pss_one (ps_raiseE0 (W := (fun c o _ H' => E c o H')) (k := 1) rfl T.er_Unlike (hr.mono (by decide)) (takes_of rfl rfl rfl rfl) (by rfl))) pss_nil)
      (pss_one (ps_ret (pe_listZip (K := K) rfl rfl (by rfl) T.z_list (by rfl) T.z_zip (pa_cons (pv 0) (pa_cons (pv 1) pa_nil)))))),
    fun EX => (letI : XC := (xcOf K (cnA d) (eaA d) (fun c o _ H' => E c o H') EX [.no, .no]); (simS_seq (simS_if (simT_test (sim_NS (sim_op okN ops_ne (sim_NW (sim_cb okN cas_len (simAW_cons (sim_SW (sim_var rfl)) simAW_nil))) (sim_NW (sim_cb okN cas_len (simAW_cons (sim_SW (sim_var rfl)) simAW_nil)))))) (simS_raise0 (n := .Unlike) rfl rfl rfl) simS_nil)
      (simS_ret okN (sim_listZip (simA_cons (sim_var rfl) (simA_cons (sim_var rfl) simA_nil))))))⟩
theorem sc_sums_of : FnScope ["row", "found", "number"] ["row"] (defScope s_sums_of) := ⟨rfl, rfl, rfl, by decide +kernel, rfl, by decide +kernel, by decide +kernel⟩
def sp_sums_of (K : PySem.W.Frag) (d : Ads) : Sp := fun vs H Q _ => ∃ (a : Addr) (ns : List Int), vs = [.ref a] ∧ Sq K H a (ns.map V.int) ∧ ns.length ≤ 1000 ∧ RetN ((sumsR ns).map V.int) H Q
set_option maxHeartbeats 4000000 in
theorem ok_sums_of (T : Tx P base K mg d) : Okf P w K mg base 1 d.f_sums_of ["row"] (sp_sums_of K d) := by
  refine okf_of T.d_sums_of sc_sums_of (fun vs H Q E h => ?_) (fun cdv A outer s H vs Q E hr h => ?_)
  · obtain ⟨a, ns, rfl, hS, hl, k⟩ := h
    rfl
  · obtain ⟨a, ns, rfl, hS, hl, k⟩ := h
    refine ⟨_, (pss_cons (ps_set (i := 1) sc_sums_of.nd rfl (by first | exact Or.inl rfl | exact Or.inr rfl) (pe_lst (pa_cons pe_int pa_nil)))
      (pss_cons (ps_for PassesOwn.never rfl (k_piS (K := K) rfl (pv 0)) (pg_name (i := 2) sc_sums_of.nd rfl (by first | exact Or.inl rfl | exact Or.inr rfl)) (pss_one (ps_expr (pe_bm PySem.F.plainAttrs_list PySem.F.slot_list_append PySem.F.type_list_append mt_append (pv 1) (pa_cons (pe_op op_add (pe_ix (k_ixL (K := K) rfl) (pv 1) (pe_un un_neg pe_int) (fun _ _ => rfl)) (pv 2)) pa_nil)))))
      (pss_one (ps_ret (pv 1))))), ?_⟩
    walk_at "rd"
    refine ⟨szc rfl, fun p np => ?_⟩
    walk_at "rd"
    refine ⟨a, ns.map V.int, H, rfl, hS, Ex.new np, fun J ⟨G, wk, hG⟩ => for_w wk (fun i σ H' => (∃ z2, σ = [some (.ref a), some (.ref p), z2]) ∧ Ex H H' ∧ H' p = some (.lst ((rowOf (i + 1) fun k => (ns.take k.toNat).sum).map V.int))) ⟨⟨_, rfl⟩, Ex.new np, upd_same⟩ (fun j σ H' _ q => hG _ q.2.1) ?_ ?_⟩
    · rintro j x σ H1 H2 hj ⟨⟨z2, rfl⟩, ee, hp⟩ ⟨rfl, hx⟩
      obtain rfl := int_at hx
      rw [List.length_map] at hj
      walk_at "rd"
      refine ⟨ty_lst hp, ?_⟩
      walk_at "rd"
      refine r_ixL (.inl (.inl hp)) at_last_row ?_
      walk_at "rd"
      refine ⟨p, _, _, rfl, rfl, hp, ?_, ?_⟩
      · rw [List.length_map, rowOf_length]
        exact Nat.lt_of_lt_of_le (by omega : j + 1 < 2000) (by decide)
      walk_at "rd"
      refine ⟨⟨_, rfl⟩, Ex.mut ee np, ?_⟩
      rw [upd_same, rowOf_succ (j + 1), List.map_append]
      show some (HO.lst (_ ++ [V.int ((ns.take (j : Int).toNat).sum + ns.getD j 0)])) = some (HO.lst (_ ++ [V.int ((ns.take ((j + 1 : Nat) : Int).toNat).sum)]))
      rw [Int.toNat_natCast, Int.toNat_natCast, take_sum hj]
    rintro σ H1 ⟨⟨z2, rfl⟩, ee, hp⟩
    walk_at "rd"
    rw [List.length_map] at hp
    exact k p H1 np ee hp
def w_sums_of : WF := fun xs P => ∃ (x : PV) (s : List Int), xs = [x] ∧ seqP x s ∧ s.length ≤ 1000 ∧ P (.lst (iL (sumsR s)))
theorem ow_sums_of (T : Tx P base K mg d) : Okf P w K mg base 1 d.f_sums_of ["row"] (spW K (cnA d) (rN K (cnA d)) w_sums_of) := okw_imp (ok_sums_of T) (fun vs H Q E ⟨F, xs, P, dm, r, ⟨x, s, ex, c1, c2, p⟩, k⟩ => by
  subst ex
  obtain ⟨v1, rfl, r1⟩ := r.one
  obtain ⟨a1, rfl, h1⟩ := r1.seq c1
  exact ⟨a1, s, rfl, h1, c2, ret_ints dm k p⟩)
def t_both_sums (EX : List PV → En → Fs → Prop) : WS := (wSeq (wSet 2 (wCallX EX w_pairs_of (wCons (wCall w_sums_of (wCons (wVar 0) wNil)) (wCons (wCall w_sums_of (wCons (wVar 1) wNil)) wNil))))
      (wSeq (wIfS (wTest (wOp wNe (wOp wIx (wOp wIx (wVar 2) (wUn wNeg (wC (.int 1)))) (wC (.int 0))) (wOp wIx (wOp wIx (wVar 2) (wUn wNeg (wC (.int 1)))) (wC (.int 1))))) (wRaise0 EX .Unlike) (fun D ρ => D.nx ρ))
      (wRet (wVar 2))))
def w_both_sums : WFX := wDefX 2 1 t_both_sums
theorem scw_both_sums : FnScope ["one", "other", "found"] ["one", "other"] (defScope s_both_sums) := ⟨rfl, rfl, rfl, by decide +kernel, rfl, by decide +kernel, by decide +kernel⟩
set_option maxHeartbeats 4000000 in
theorem ow_both_sums (T : Tx P base K mg d) : Okf P w K mg base 3 d.f_both_sums ["one", "other"] (spWX K (cnA d) (eaA d) (rS K (cnA d)) w_both_sums) :=
  okwX_of (tx := [.no, .no, .no]) (ts' := [.sh, .sh, .sh]) T.d_both_sums scw_both_sums rfl rfl rnonS fun cdv A outer s H E hr =>
    ⟨_, (pss_cons (ps_set (i := 2) scw_both_sums.nd rfl (by first | exact Or.inl rfl | exact Or.inr rfl) (pf_callS (E := fun σ c o H => (fun c o _ H' => E c o H') c o σ H) (ow_pairs_of T) (hr.mono (by decide)) (by rfl) T.g_pairs_of T.d_pairs_of.kp (fun σ pins H s e s' I h => passes_call (takes_of rfl rfl rfl rfl) (fun _ _ _ _ h => h) pins σ H s e s' I h) (pa_cons (pf_call (ow_sums_of T) (hr.mono (by decide)) (by rfl) T.g_sums_of T.d_sums_of.kp (pa_cons (pv 0) pa_nil)) (pa_cons (pf_call (ow_sums_of T) (hr.mono (by decide)) (by rfl) T.g_sums_of T.d_sums_of.kp (pa_cons (pv 1) pa_nil)) pa_nil))))
      (pss_cons (ps_if (pt_cmpR (u_ne (K := K) rfl hr.units) (pe_ix (k_ixS (K := K) rfl) (pe_ix (k_ixS (K := K) rfl) (pv 2) (pe_un un_neg pe_int) (fun _ _ => rfl)) pe_int (fun _ _ => rfl)) (pe_ix (k_ixS (K := K) rfl) (pe_ix (k_ixS (K := K) rfl) (pv 2) (pe_un un_neg pe_int) (fun _ _ => rfl)) pe_int (fun _ _ => rfl)) (nomark _)) (pss_one (ps_raiseE0 (W := (fun c o _ H' => E c o H')) (k := 1) rfl T.er_Unlike (hr.mono (by decide)) (takes_of rfl rfl rfl rfl) (by rfl))) pss_nil)
      (pss_one (ps_ret (pv 2))))),
    fun EX => (letI : XC := (xcOf K (cnA d) (eaA d) (fun c o _ H' => E c o H') EX [.no, .no, .no]); (simS_seq (simS_set (i := 2) (sim_NS (sim_callX okN rfl rfl (simA_cons (sim_NS (sim_call okN (simA_cons (sim_var rfl) simA_nil))) (simA_cons (sim_NS (sim_call okN (simA_cons (sim_var rfl) simA_nil))) simA_nil)))))
      (simS_seq (simS_if (simT_test (sim_NS (sim_op okN ops_ne (sim_SW (sim_op okS ops_ix (sim_SW (sim_op okS ops_ix (sim_SW (sim_var rfl)) (sim_NW (sim_un uns_neg (sim_NW sim_int))))) (sim_NW sim_int))) (sim_SW (sim_op okS ops_ix (sim_SW (sim_op okS ops_ix (sim_SW (sim_var rfl)) (sim_NW (sim_un uns_neg (sim_NW sim_int))))) (sim_NW sim_int)))))) (simS_raise0 (n := .Unlike) rfl rfl rfl) simS_nil)
      (simS_ret okS (sim_var rfl)))))⟩
def t_Plan___and__ (EX : List PV → En → Fs → Prop) : WS := (wRet (wCallX EX w_Plan___init__ (wCons (wCall w_row_of (wCons (wLc (wSeqI (wCallX EX w_both_sums (wCons (wFldC .Plan (wVar 0) "kept_begins") (wCons (wFldC .Plan (wVar 1) "kept_begins") wNil)))) (wgTup 2 (wgCons (wgName 2) (wgCons (wgName 3) wgNil))) wTyes (wCB wMin2 (wCons (wVar 2) (wCons (wVar 3) wNil)))) wNil)) wNil)))
def w_Plan___and__ : WFX := wDefX 2 2 t_Plan___and__
theorem scw_Plan___and__ : FnScope ["self", "other", "x", "y"] ["self", "other"] (defScope s_Plan___and__) := ⟨rfl, rfl, rfl, by decide +kernel, rfl, by decide +kernel, by decide +kernel⟩
set_option maxHeartbeats 4000000 in
theorem ow_Plan___and__ (T : Tx P base K mg d) : Okf P w K mg base 7 d.f_Plan___and__ ["self", "other"] (spWX K (cnA d) (eaA d) (rN K (cnA d)) w_Plan___and__) :=
  okwX_of (tx := [.no, .no, .no, .no]) (ts' := [.sh, .sh, .no, .no]) T.d_Plan___and__ scw_Plan___and__ rfl rfl rnonN fun cdv A outer s H E hr =>
    ⟨_, (pss_one (ps_ret (pf_makeS (E := fun σ c o H => (fun c o _ H' => E c o H') c o σ H) (ow_Plan___init__ T) (hr.mono (by decide)) T.mk_Plan (by rfl) T.g_Plan (fun σ pins H s e s' I h => passes_call (takes_of rfl rfl rfl rfl) (fun _ _ _ _ h => h) pins σ H s e s' I h) (pa_cons (pf_call (ow_row_of T) (hr.mono (by decide)) (by rfl) T.g_row_of T.d_row_of.kp (pa_cons (pe_lc (own := [("x", 2), ("y", 3)]) rfl scw_Plan___and__.nd (k_piS (K := K) rfl (pf_callS (E := fun σ c o H => (fun c o _ H' => E c o H') c o σ H) (ow_both_sums T) (hr.mono (by decide)) (by rfl) T.g_both_sums T.d_both_sums.kp (fun σ pins H s e s' I h => passes_call (takes_of rfl rfl rfl rfl) (fun _ _ _ _ h => h) pins σ H s e s' I h) (pa_cons (k_fld (K := K) rfl (pv 0)) (pa_cons (k_fld (K := K) rfl (pv 1)) pa_nil)))) (blkOk_by (by kernel_rfl)) (fun _ _ _ _ _ => (k_gtup (K := K) (n := 2) rfl rfl (pgs_cons (pg_name (i := 2) scw_Plan___and__.nd rfl (by first | exact Or.inl rfl | exact Or.inr rfl)) (pgs_cons (pg_name (i := 3) scw_Plan___and__.nd rfl (by first | exact Or.inl rfl | exact Or.inr rfl)) pgs_nil)))) (fun _ _ _ _ _ => pts_nil) (fun _ _ _ _ _ => (pe_callB (k_min2 rfl) (by rfl) T.z_min (by decide +kernel) (pa_cons (pv 2) (pa_cons (pv 3) pa_nil))))) pa_nil)) pa_nil)))),
    fun EX => (letI : XC := (xcOf K (cnA d) (eaA d) (fun c o _ H' => E c o H') EX [.no, .no, .no, .no]); (simS_ret okN (sim_makeX (cn := .Plan) mkI rfl rfl (simA_cons (sim_NS (sim_call okN (simA_cons (sim_NS (sim_lc (vs := [2, 3]) (simI_seq (lp := false) (sim_SW (sim_callX okS rfl rfl (simA_cons (sim_fld (c := .Plan) rfl T.cl_Plan T.n_Plan_kept_begins (sim_var rfl)) (simA_cons (sim_fld (c := .Plan) rfl T.cl_Plan T.n_Plan_kept_begins (sim_var rfl)) simA_nil))))) (simG_tup (simGs_cons (simG_name (i := 2)) (simGs_cons (simG_name (i := 3)) simGs_nil))) simT_yes (sim_NS (sim_cb okN cas_min2 (simAW_cons (sim_SW (sim_var rfl)) (simAW_cons (sim_SW (sim_var rfl)) simAW_nil)))))) simA_nil))) simA_nil))))⟩
def t_Plan___or__ (EX : List PV → En → Fs → Prop) : WS := (wRet (wCallX EX w_Plan___init__ (wCons (wCall w_row_of (wCons (wLc (wSeqI (wCallX EX w_both_sums (wCons (wFldC .Plan (wVar 0) "kept_begins") (wCons (wFldC .Plan (wVar 1) "kept_begins") wNil)))) (wgTup 2 (wgCons (wgName 2) (wgCons (wgName 3) wgNil))) wTyes (wCB wMax2 (wCons (wVar 2) (wCons (wVar 3) wNil)))) wNil)) wNil)))
def w_Plan___or__ : WFX := wDefX 2 2 t_Plan___or__
theorem scw_Plan___or__ : FnScope ["self", "other", "x", "y"] ["self", "other"] (defScope s_Plan___or__) := ⟨rfl, rfl, rfl, by decide +kernel, rfl, by decide +kernel, by decide +kernel⟩
set_option maxHeartbeats 4000000 in
theorem ow_Plan___or__ (T : Tx P base K mg d) : Okf P w K mg base 7 d.f_Plan___or__ ["self", "other"] (spWX K (cnA d) (eaA d) (rN K (cnA d)) w_Plan___or__) :=
  okwX_of (tx := [.no, .no, .no, .no]) (ts' := [.sh, .sh, .no, .no]) T.d_Plan___or__ scw_Plan___or__ rfl rfl rnonN fun cdv A outer s H E hr =>
    ⟨_, (pss_one (ps_ret (pf_makeS (E := fun σ c o H => (fun c o _ H' => E c o H') c o σ H) (ow_Plan___init__ T) (hr.mono (by decide)) T.mk_Plan (by rfl) T.g_Plan (fun σ pins H s e s' I h => passes_call (takes_of rfl rfl rfl rfl) (fun _ _ _ _ h => h) pins σ H s e s' I h) (pa_cons (pf_call (ow_row_of T) (hr.mono (by decide)) (by rfl) T.g_row_of T.d_row_of.kp (pa_cons (pe_lc (own := [("x", 2), ("y", 3)]) rfl scw_Plan___or__.nd (k_piS (K := K) rfl (pf_callS (E := fun σ c o H => (fun c o _ H' => E c o H') c o σ H) (ow_both_sums T) (hr.mono (by decide)) (by rfl) T.g_both_sums T.d_both_sums.kp (fun σ pins H s e s' I h => passes_call (takes_of rfl rfl rfl rfl) (fun _ _ _ _ h => h) pins σ H s e s' I h) (pa_cons (k_fld (K := K) rfl (pv 0)) (pa_cons (k_fld (K := K) rfl (pv 1)) pa_nil)))) (blkOk_by (by kernel_rfl)) (fun _ _ _ _ _ => (k_gtup (K := K) (n := 2) rfl rfl (pgs_cons (pg_name (i := 2) scw_Plan___or__.nd rfl (by first | exact Or.inl rfl | exact Or.inr rfl)) (pgs_cons (pg_name (i := 3) scw_Plan___or__.nd rfl (by first | exact Or.inl rfl | exact Or.inr rfl)) pgs_nil)))) (fun _ _ _ _ _ => pts_nil) (fun _ _ _ _ _ => (pe_callB (k_max2 rfl) (by rfl) T.z_max (by decide +kernel) (pa_cons (pv 2) (pa_cons (pv 3) pa_nil))))) pa_nil)) pa_nil)))),
    fun EX => (letI : XC := (xcOf K (cnA d) (eaA d) (fun c o _ H' => E c o H') EX [.no, .no, .no, .no]); (simS_ret okN (sim_makeX (cn := .Plan) mkI rfl rfl (simA_cons (sim_NS (sim_call okN (simA_cons (sim_NS (sim_lc (vs := [2, 3]) (simI_seq (lp := false) (sim_SW (sim_callX okS rfl rfl (simA_cons (sim_fld (c := .Plan) rfl T.cl_Plan T.n_Plan_kept_begins (sim_var rfl)) (simA_cons (sim_fld (c := .Plan) rfl T.cl_Plan T.n_Plan_kept_begins (sim_var rfl)) simA_nil))))) (simG_tup (simGs_cons (simG_name (i := 2)) (simGs_cons (simG_name (i := 3)) simGs_nil))) simT_yes (sim_NS (sim_cb okN cas_max2 (simAW_cons (sim_SW (sim_var rfl)) (simAW_cons (sim_SW (sim_var rfl)) simAW_nil)))))) simA_nil))) simA_nil))))⟩
def t_Plan_within (EX : List PV → En → Fs → Prop) : WS := (wRet (wCB wAll (wCons (wLc (wSeqI (wCallX EX w_both_sums (wCons (wFldC .Plan (wVar 0) "kept_begins") (wCons (wFldC .Plan (wVar 1) "kept_begins") wNil)))) (wgTup 2 (wgCons (wgName 2) (wgCons (wgName 3) wgNil))) wTyes (wOp (wIB fun i j => decide (i ≤ j)) (wVar 2) (wVar 3))) wNil)))
def w_Plan_within : WFX := wDefX 2 2 t_Plan_within
theorem scw_Plan_within : FnScope ["self", "other", "x", "y"] ["self", "other"] (defScope s_Plan_within) := ⟨rfl, rfl, rfl, by decide +kernel, rfl, by decide +kernel, by decide +kernel⟩
set_option maxHeartbeats 4000000 in
theorem ow_Plan_within (T : Tx P base K mg d) : Okf P w K mg base 4 d.f_Plan_within ["self", "other"] (spWX K (cnA d) (eaA d) (rN K (cnA d)) w_Plan_within) :=
  okwX_of (tx := [.no, .no, .no, .no]) (ts' := [.sh, .sh, .no, .no]) T.d_Plan_within scw_Plan_within rfl rfl rnonN fun cdv A outer s H E hr =>
    ⟨_, (pss_one (ps_ret (pe_callB (k_all (K := K) rfl rfl) (by rfl) T.z_all (by decide +kernel) (pa_cons (pe_lc (own := [("x", 2), ("y", 3)]) rfl scw_Plan_within.nd (k_piS (K := K) rfl (pf_callS (E := fun σ c o H => (fun c o _ H' => E c o H') c o σ H) (ow_both_sums T) (hr.mono (by decide)) (by rfl) T.g_both_sums T.d_both_sums.kp (fun σ pins H s e s' I h => passes_call (takes_of rfl rfl rfl rfl) (fun _ _ _ _ h => h) pins σ H s e s' I h) (pa_cons (k_fld (K := K) rfl (pv 0)) (pa_cons (k_fld (K := K) rfl (pv 1)) pa_nil)))) (blkOk_by (by kernel_rfl)) (fun _ _ _ _ _ => (k_gtup (K := K) (n := 2) rfl rfl (pgs_cons (pg_name (i := 2) scw_Plan_within.nd rfl (by first | exact Or.inl rfl | exact Or.inr rfl)) (pgs_cons (pg_name (i := 3) scw_Plan_within.nd rfl (by first | exact Or.inl rfl | exact Or.inr rfl)) pgs_nil)))) (fun _ _ _ _ _ => pts_nil) (fun _ _ _ _ _ => (pe_cmpR op_le (pv 2) (pv 3) (nomark _)))) pa_nil)))),
    fun EX => (letI : XC := (xcOf K (cnA d) (eaA d) (fun c o _ H' => E c o H') EX [.no, .no, .no, .no]); (simS_ret okN (sim_cb okN cas_all (simAW_cons (sim_NW (sim_lc (vs := [2, 3]) (simI_seq (lp := false) (sim_SW (sim_callX okS rfl rfl (simA_cons (sim_fld (c := .Plan) rfl T.cl_Plan T.n_Plan_kept_begins (sim_var rfl)) (simA_cons (sim_fld (c := .Plan) rfl T.cl_Plan T.n_Plan_kept_begins (sim_var rfl)) simA_nil))))) (simG_tup (simGs_cons (simG_name (i := 2)) (simGs_cons (simG_name (i := 3)) simGs_nil))) simT_yes (sim_NS (sim_op okN (ops_IB (g := fun i j => decide (i ≤ j))) (sim_SW (sim_var rfl)) (sim_SW (sim_var rfl)))))) simAW_nil))))⟩
theorem sc_Plan___len__ : FnScope ["self"] ["self"] (defScope s_Plan___len__) := ⟨rfl, rfl, rfl, by decide +kernel, rfl, by decide +kernel, by decide +kernel⟩
def sp_Plan___len__ (K : PySem.W.Frag) (d : Ads) : Sp := fun vs H Q _ => ∃ (v : V) (s : List Int), vs = [v] ∧ Pn K d H v s ∧ Q (.int (s.length : Int)) H
set_option maxHeartbeats 4000000 in
theorem ok_Plan___len__ (T : Tx P base K mg d) : Okf P w K mg base 1 d.f_Plan___len__ ["self"] (sp_Plan___len__ K d) := by
  refine okf_of T.d_Plan___len__ sc_Plan___len__ (fun vs H Q E h => ?_) (fun cdv A outer s H vs Q E hr h => ?_)
  · obtain ⟨v, s, rfl, hN, k⟩ := h
    rfl
  · obtain ⟨v, s, rfl, hN, k⟩ := h
    refine ⟨_, (pss_one (ps_ret (pe_callB (k_len (K := K) rfl) (by rfl) T.z_len (by decide +kernel) (pa_cons (k_fld (K := K) rfl (pv 0)) pa_nil)))), ?_⟩
    walk_at "rd"
    refine r_rwF hN T.cl_Plan T.n_Plan_kept_begins fun a ha => ?_
    walk_at "rd"
    refine r_len (.inr ha) ?_
    rw [List.length_map]
    exact k
def w_Plan___len__ : WF := fun xs P => ∃ (s : List Int), xs = [pnP s] ∧ GoodN s ∧ P (.int (s.length : Int))
theorem ow_Plan___len__ (T : Tx P base K mg d) : Okf P w K mg base 1 d.f_Plan___len__ ["self"] (spW K (cnA d) (rN K (cnA d)) w_Plan___len__) := okw_imp (ok_Plan___len__ T) (fun vs H Q E ⟨F, xs, P, dm, r, ⟨s, ex, c1, p⟩, k⟩ => by
  subst ex
  obtain ⟨v1, rfl, r1⟩ := r.one
  exact ⟨v1, s, rfl, pn_of r1 c1, ret_int dm k p (Ex.refl _)⟩)
def t_Plan___add__ (EX : List PV → En → Fs → Prop) : WS := (wRet (wCallX EX w_Plan___init__ (wCons (wLc (wSeqI (wCallX EX w_pairs_of (wCons (wFldC .Plan (wVar 0) "kept_begins") (wCons (wFldC .Plan (wVar 1) "kept_begins") wNil)))) (wgTup 2 (wgCons (wgName 2) (wgCons (wgName 3) wgNil))) wTyes (wOp wAdd (wVar 2) (wVar 3))) wNil)))
def w_Plan___add__ : WFX := wDefX 2 2 t_Plan___add__
theorem scw_Plan___add__ : FnScope ["self", "other", "x", "y"] ["self", "other"] (defScope s_Plan___add__) := ⟨rfl, rfl, rfl, by decide +kernel, rfl, by decide +kernel, by decide +kernel⟩
set_option maxHeartbeats 4000000 in
theorem ow_Plan___add__ (T : Tx P base K mg d) : Okf P w K mg base 7 d.f_Plan___add__ ["self", "other"] (spWX K (cnA d) (eaA d) (rN K (cnA d)) w_Plan___add__) :=
  okwX_of (tx := [.no, .no, .no, .no]) (ts' := [.sh, .sh, .no, .no]) T.d_Plan___add__ scw_Plan___add__ rfl rfl rnonN fun cdv A outer s H E hr =>
    ⟨_, (pss_one (ps_ret (pf_makeS (E := fun σ c o H => (fun c o _ H' => E c o H') c o σ H) (ow_Plan___init__ T) (hr.mono (by decide)) T.mk_Plan (by rfl) T.g_Plan (fun σ pins H s e s' I h => passes_call (takes_of rfl rfl rfl rfl) (fun _ _ _ _ h => h) pins σ H s e s' I h) (pa_cons (pe_lc (own := [("x", 2), ("y", 3)]) rfl scw_Plan___add__.nd (k_piS (K := K) rfl (pf_callS (E := fun σ c o H => (fun c o _ H' => E c o H') c o σ H) (ow_pairs_of T) (hr.mono (by decide)) (by rfl) T.g_pairs_of T.d_pairs_of.kp (fun σ pins H s e s' I h => passes_call (takes_of rfl rfl rfl rfl) (fun _ _ _ _ h => h) pins σ H s e s' I h) (pa_cons (k_fld (K := K) rfl (pv 0)) (pa_cons (k_fld (K := K) rfl (pv 1)) pa_nil)))) (blkOk_by (by kernel_rfl)) (fun _ _ _ _ _ => (k_gtup (K := K) (n := 2) rfl rfl (pgs_cons (pg_name (i := 2) scw_Plan___add__.nd rfl (by first | exact Or.inl rfl | exact Or.inr rfl)) (pgs_cons (pg_name (i := 3) scw_Plan___add__.nd rfl (by first | exact Or.inl rfl | exact Or.inr rfl)) pgs_nil)))) (fun _ _ _ _ _ => pts_nil) (fun _ _ _ _ _ => (pe_op (u_add (K := K) rfl) (pv 2) (pv 3)))) pa_nil)))),
    fun EX => (letI : XC := (xcOf K (cnA d) (eaA d) (fun c o _ H' => E c o H') EX [.no, .no, .no, .no]); (simS_ret okN (sim_makeX (cn := .Plan) mkI rfl rfl (simA_cons (sim_NS (sim_lc (vs := [2, 3]) (simI_seq (lp := false) (sim_NW (sim_callX okN rfl rfl (simA_cons (sim_fld (c := .Plan) rfl T.cl_Plan T.n_Plan_kept_begins (sim_var rfl)) (simA_cons (sim_fld (c := .Plan) rfl T.cl_Plan T.n_Plan_kept_begins (sim_var rfl)) simA_nil))))) (simG_tup (simGs_cons (simG_name (i := 2)) (simGs_cons (simG_name (i := 3)) simGs_nil))) simT_yes (sim_NS (sim_op okN ops_add (sim_SW (sim_var rfl)) (sim_SW (sim_var rfl)))))) simA_nil))))⟩
theorem sc_Plan___iter__ : FnScope ["self"] ["self"] (defScope s_Plan___iter__) := ⟨rfl, rfl, rfl, by decide +kernel, rfl, by decide +kernel, by decide +kernel⟩
def sp_Plan___iter__ (K : PySem.W.Frag) (d : Ads) (n : Nat) : Sp := fun vs H Q _ => ∃ (v : V) (s : List Int), vs = [v] ∧ Pn K d H v s ∧ ∀ l it, SqT K H l (s.map V.int) → H it = none → n ≤ it → Q (.ref it) (upd H it (ItT l it))
set_option maxHeartbeats 4000000 in
theorem ok_Plan___iter__ (T : Tx P base K mg d) (n : Nat) : OkP (fun _ s => n ≤ s.heap.objs.size) P w K mg base 1 d.f_Plan___iter__ ["self"] (sp_Plan___iter__ K d n) := by
  refine okP_of T.d_Plan___iter__ sc_Plan___iter__ (fun vs H Q E h => ?_) (fun cdv A outer s H vs Q E hn hr h => ?_)
  · obtain ⟨v, s, rfl, hN, k⟩ := h
    rfl
  · obtain ⟨v, s, rfl, hN, k⟩ := h
    refine ⟨_, (pss_one (ps_ret (pe_callB (k_iterT (K := K) (n := n) rfl hn) (by rfl) T.z_iter (by decide +kernel) (pa_cons (k_fld (K := K) rfl (pv 0)) pa_nil)))), ?_⟩
    walk_at "rd"
    refine r_rwF hN T.cl_Plan T.n_Plan_kept_begins fun a ha => ?_
    walk_at "rd"
    exact ⟨a, _, rfl, ha, fun it n1 n2 => k a it ha n1 n2⟩
theorem r_list_Plan {H : Hp} {Q : VK} {v : V} {s : List Int} (hN : Pn K d H v s) (q : ∀ l, H l = none → Q (.ref l) (upd H l (.lst (s.map V.int)))) : rListO K d.c_Plan (sp_Plan___iter__ K d) (sp_Plan___len__ K d) [v] H Q := by
  obtain ⟨p, dx, a, rfl, hp, ha, g⟩ := id hN
  have hle := g.le
  exact ⟨p, dx, _, _, rfl, hp, by rw [List.length_map]; omega, fun n H' Q' e h => ⟨_, s, rfl, hN.ex e, h⟩, fun H' Q' e h => ⟨_, s, rfl, hN.ex e, h _ (by omega) (by omega)⟩, q⟩
def wListPlan : WC := fun xs P => ∃ s : List Int, xs = [pnP s] ∧ GoodN s ∧ P (.lst (iL s))
theorem cas_listPlan : CaS K (cnA d) (rN K (cnA d)) (rListO K d.c_Plan (sp_Plan___iter__ K d) (sp_Plan___len__ K d)) wListPlan := fun F H vs xs Q P dm r ⟨s, ex, g, p⟩ k => by
  subst ex
  obtain ⟨v, rfl, r1⟩ := r.one
  rcases r1 with r1 | ⟨_, _, _, _, e, _⟩
  · exact r_list_Plan (pn_of r1 g) fun l nl => fin_lst dm nl (Rvs.of_ints s) p k
  · cases e
def t__law_doors_right_b0 : WS := (wSeq (wIfS (wTnot (wTest (wCall w__law_same (wCons (wLam noEX 0 w__law_heard (fun EX => (wIxX EX .Plan w_Plan___getitem__ (wVar 0) (wVar 3))) wNil) (wCons (wTup (wCons (wC (.str "hour")) (wCons (wVar 3) wNil))) wNil))))) (wRet (wC (.bl false))) (fun D ρ => D.nx ρ))
      (wSeq (wIfS (wTnot (wTest (wCall w__law_same (wCons (wLam noEX 0 w__law_heard (fun EX => (wMethX EX .Plan "later" w_Plan_later (wVar 0) (wCons (wVar 3) wNil))) wNil) (wCons (wTup (wCons (wC (.str "hour")) (wCons (wVar 3) wNil))) wNil))))) (wRet (wC (.bl false))) (fun D ρ => D.nx ρ))
      (wIfS (wTnot (wTest (wCall w__law_same (wCons (wLam noEX 0 w__law_heard (fun EX => (wMethX EX .Plan "earlier" w_Plan_earlier (wVar 0) (wCons (wVar 3) wNil))) wNil) (wCons (wTup (wCons (wC (.str "hour")) (wCons (wVar 3) wNil))) wNil))))) (wRet (wC (.bl false))) (fun D ρ => D.nx ρ))))
def t__law_doors_right_b1 : WS := (wSeq (wIfS (wTnot (wTest (wCall w__law_same (wCons (wLam noEX 0 w__law_heard (fun EX => (wMethX EX .Plan "later" w_Plan_later (wVar 0) (wCons (wVar 3) wNil))) wNil) (wCons (wTup (wCons (wC (.str "begin")) (wCons (wVar 3) wNil))) wNil))))) (wRet (wC (.bl false))) (fun D ρ => D.nx ρ))
      (wIfS (wTnot (wTest (wCall w__law_same (wCons (wLam noEX 0 w__law_heard (fun EX => (wMethX EX .Plan "earlier" w_Plan_earlier (wVar 0) (wCons (wVar 3) wNil))) wNil) (wCons (wTup (wCons (wC (.str "begin")) (wCons (wVar 3) wNil))) wNil))))) (wRet (wC (.bl false))) (fun D ρ => D.nx ρ)))
def t__law_doors_right_b2 : WS := (wSeq (wIfS (wTest (wOp wNeG (wLam noEX 0 w__law_heard (fun EX => (wOwnX EX .Plan w_Plan___and__ (wVar 7) (wVar 8))) wNil) (wTup (wCons (wC (.str "unlike")) (wCons (wC .non) wNil))))) (wRet (wC (.bl false))) (fun D ρ => D.nx ρ))
      (wSeq (wIfS (wTest (wOp wNeG (wLam noEX 0 w__law_heard (fun EX => (wOwnX EX .Plan w_Plan___or__ (wVar 7) (wVar 8))) wNil) (wTup (wCons (wC (.str "unlike")) (wCons (wC .non) wNil))))) (wRet (wC (.bl false))) (fun D ρ => D.nx ρ))
      (wSeq (wIfS (wTest (wOp wNeG (wLam noEX 0 w__law_heard (fun EX => (wMethX EX .Plan "within" w_Plan_within (wVar 7) (wCons (wVar 8) wNil))) wNil) (wTup (wCons (wC (.str "unlike")) (wCons (wC .non) wNil))))) (wRet (wC (.bl false))) (fun D ρ => D.nx ρ))
      (wIfS (wTand (wTest (wOp wNe (wCB (wLenO .Plan w_Plan___len__) (wCons (wVar 7) wNil)) (wCB (wLenO .Plan w_Plan___len__) (wCons (wVar 8) wNil)))) (wTest (wOp wNeG (wLam noEX 0 w__law_heard (fun EX => (wOwnX EX .Plan w_Plan___add__ (wVar 7) (wVar 8))) wNil) (wTup (wCons (wC (.str "unlike")) (wCons (wC .non) wNil)))))) (wRet (wC (.bl false))) (fun D ρ => D.nx ρ)))))
def t__law_doors_right : WS := (wSeq (wSet 2 (wCB wLen (wCons (wVar 1) wNil)))
      (wSeq (wFor (wSeqI (wTup (wCons (wC .non) (wCons (wC (.bl true)) (wCons (wC (.bl false)) (wCons (wUn wNeg (wC (.int 1))) (wCons (wVar 2) (wCons (wC (.str "0")) (wCons (wTup (wCons (wC (.int 0)) wNil)) (wCons (wLst (wCons (wC (.int 0)) wNil)) (wCons (wDct []) (wCons (wOp (wII CPow fun i j => i ^ j.toNat) (wC (.int 10)) (wC (.int 40))) wNil)))))))))))) (wgName 3) t__law_doors_right_b0)
      (wSeq (wFor (wSeqI (wLc (wRng1 (wCons (wVar 2) wNil)) (wgName 3) (wTest (wOp wEq (wOp wIx (wVar 1) (wVar 3)) (wC (.int 0)))) (wVar 3))) (wgName 3) t__law_doors_right_b1)
      (wSeq (wGh 0 (wIfS (wTest (wOp wNeG (wLam noEX 0 w__law_heard (fun EX => (wMethX EX .Plan "later" w_Plan_later (wVarU 0) (wCons (wVar 0) wNil))) wNil) (wTup (wCons (wC (.str "hour")) (wCons (wVar 0) wNil))))) (wRet (wC (.bl false))) (fun D ρ => D.nx ρ)))
      (wSeq (wGh 0 (wIfS (wTest (wOp wNeG (wLam noEX 0 w__law_heard (fun EX => (wIxX EX .Plan w_Plan___getitem__ (wVarU 0) (wVar 0))) wNil) (wTup (wCons (wC (.str "hour")) (wCons (wVar 0) wNil))))) (wRet (wC (.bl false))) (fun D ρ => D.nx ρ)))
      (wSeq (wGh 0 (wIfS (wTest (wOp wNeG (wLam noEX 0 w__law_heard (fun EX => (wMethX EX .Plan "earlier" w_Plan_earlier (wVarU 0) (wCons (wVar 0) wNil))) wNil) (wTup (wCons (wC (.str "hour")) (wCons (wVar 0) wNil))))) (wRet (wC (.bl false))) (fun D ρ => D.nx ρ)))
      (wSeq (wPar 4 5 false false (wCall (wNoE w_Plan___init__) (wCons (wOp wAdd (wSl (wVar 1) wNoPart (wPart (wUn wNeg (wC (.int 1))))) (wLst (wCons (wOp wAdd (wOp wIx (wVar 1) (wUn wNeg (wC (.int 1)))) (wC (.int 1))) wNil))) wNil)) (wCall (wNoE w_Plan___init__) (wCons (wOp wAdd (wVar 1) (wLst (wCons (wC (.int 0)) wNil))) wNil)))
      (wSeq (wSet 6 (wCall (wNoE w_Plan___init__) (wCons (wOp wAdd (wVar 1) (wLst (wCons (wC (.int 1)) wNil))) wNil)))
      (wSeq (wFor (wSeqI (wTup (wCons (wTup (wCons (wVar 0) (wCons (wVar 4) wNil))) (wCons (wTup (wCons (wVar 4) (wCons (wVar 0) wNil))) (wCons (wTup (wCons (wVar 0) (wCons (wVar 5) wNil))) (wCons (wTup (wCons (wVar 5) (wCons (wVar 0) wNil))) (wCons (wTup (wCons (wVar 0) (wCons (wVar 6) wNil))) (wCons (wTup (wCons (wVar 6) (wCons (wVar 0) wNil))) wNil)))))))) (wgTup 2 (wgCons (wgName 7) (wgCons (wgName 8) wgNil))) t__law_doors_right_b2)
      (wSeq (wSetO 9 (wLc (wSeqI (wVar 1)) (wgName 10) wTyes (wOp wMul (wC (.int 2)) (wVar 10))))
      (wSeq (wAugS 9 (fun i j => i + j) (wUn wNeg (wC (.int 1))) (wC (.int 1)))
      (wRet (wAndV (wOp wEqG (wCB wListPlan (wCons (wOp (wOwn0 .Plan w_Plan___add__) (wVar 0) (wVar 4)) wNil)) (wVar 9)) (wOp wEqG (wCB wListPlan (wCons (wVar 0) wNil)) (wVar 1)))))))))))))))
def w__law_doors_right : WF := wDef 2 9 t__law_doors_right
theorem scw__law_doors_right : FnScope ["_law_plan", "_law_row", "_law_many", "_law_hour", "_law_more", "_law_wide", "_law_both", "_law_one_here", "_law_other", "_law_twice", "_law_number_here"] ["_law_plan", "_law_row"] (defScope s__law_doors_right) := ⟨rfl, rfl, rfl, by decide +kernel, rfl, by decide +kernel, by decide +kernel⟩
set_option maxHeartbeats 4000000 in
theorem ow__law_doors_right (T : Tx P base K mg d) : OkP NoG P w K mg base 11 d.f__law_doors_right ["_law_plan", "_law_row"] (spW K (cnA d) (rN K (cnA d)) w__law_doors_right) :=
  okwGC_of (ts' := [.sh, .sh, .sh, .no, .sh, .sh, .sh, .no, .no, .ow, .no]) T.dc__law_doors_right scw__law_doors_right rfl rfl rnonN (fun _ _ => trivial) fun A outer s H E hg hr =>
    ⟨_, (pss_cons (ps_set (i := 2) scw__law_doors_right.nd rfl (by first | exact Or.inl rfl | exact Or.inr rfl) (pe_callB (u_len (K := K) rfl) (by rfl) T.z_len (by decide +kernel) (pa_cons (pv 1) pa_nil)))
      (pss_cons (ps_for PassesOwn.never rfl (k_piS (K := K) rfl (pe_tup (pa_cons pe_non (pa_cons pe_bl (pa_cons pe_bl (pa_cons (pe_un un_neg pe_int) (pa_cons (pv 2) (pa_cons pe_str (pa_cons (pe_tup (pa_cons pe_int pa_nil)) (pa_cons (pe_lst (pa_cons pe_int pa_nil)) (pa_cons pe_dnewK (pa_cons (pe_op op_pow pe_int pe_int) pa_nil)))))))))))) (pg_name (i := 3) scw__law_doors_right.nd rfl (by first | exact Or.inl rfl | exact Or.inr rfl)) (pss_cons (ps_if (pt_not (pt_val (pg_call (ow__law_same T) (fun _ => hg) (hr.mono (by decide)) (by rfl) T.g__law_same T.d__law_same.kp (pa_cons (pe_lam (k := 4) (ps := []) (E := fun _ _ _ _ => False) (ow__law_heard T) (hr.mono (by decide)) (by decide) (by rfl) T.g__law_heard T.d__law_heard.kp (lamP_by (by kernel_rfl)) (fun _ _ _ _ _ us hl => match us, hl with | [], _ => rfl) (fun A out s H E f dd hr => (pe_ixX (E := fun σ c o H => (fun c o _ H' => E c o H') c o σ H) (ow_Plan___getitem__ T) (hr.mono (by decide)) (fun σ pins H s e s' I h => passes_call (takes_of rfl rfl rfl rfl) (fun _ _ _ _ h => h) pins σ H s e s' I h) T.m_Plan___getitem__.at_ T.fi_Plan___getitem__ T.m_Plan___getitem__.fn (pv 0) (pv 3))) passes_no (pal_last T.tb__law_doors_right rfl T.ti__law_doors_right T.tu__law_doors_right (N := []) (ps := []) (lamP_by (by kernel_rfl)))) (pa_cons (pe_tup (pa_cons pe_str (pa_cons (pv 3) pa_nil))) pa_nil))))) (pss_one (ps_ret pe_bl)) pss_nil)
      (pss_cons (ps_if (pt_not (pt_val (pg_call (ow__law_same T) (fun _ => hg) (hr.mono (by decide)) (by rfl) T.g__law_same T.d__law_same.kp (pa_cons (pe_lam (k := 8) (ps := []) (E := fun _ _ _ _ => False) (ow__law_heard T) (hr.mono (by decide)) (by decide) (by rfl) T.g__law_heard T.d__law_heard.kp (lamP_by (by kernel_rfl)) (fun _ _ _ _ _ us hl => match us, hl with | [], _ => rfl) (fun A out s H E f dd hr => (pf_methS (E := fun σ c o H => (fun c o _ H' => E c o H') c o σ H) (ow_Plan_later T) (hr.mono (by decide)) T.cl_Plan T.m_Plan_later (fun σ pins H s e s' I h => passes_call (takes_of rfl rfl rfl rfl) (fun _ _ _ _ h => h) pins σ H s e s' I h) (pv 0) (pa_cons (pv 3) pa_nil))) passes_no (pal_last T.tb__law_doors_right rfl T.ti__law_doors_right T.tu__law_doors_right (N := []) (ps := []) (lamP_by (by kernel_rfl)))) (pa_cons (pe_tup (pa_cons pe_str (pa_cons (pv 3) pa_nil))) pa_nil))))) (pss_one (ps_ret pe_bl)) pss_nil)
      (pss_one (ps_if (pt_not (pt_val (pg_call (ow__law_same T) (fun _ => hg) (hr.mono (by decide)) (by rfl) T.g__law_same T.d__law_same.kp (pa_cons (pe_lam (k := 8) (ps := []) (E := fun _ _ _ _ => False) (ow__law_heard T) (hr.mono (by decide)) (by decide) (by rfl) T.g__law_heard T.d__law_heard.kp (lamP_by (by kernel_rfl)) (fun _ _ _ _ _ us hl => match us, hl with | [], _ => rfl) (fun A out s H E f dd hr => (pf_methS (E := fun σ c o H => (fun c o _ H' => E c o H') c o σ H) (ow_Plan_earlier T) (hr.mono (by decide)) T.cl_Plan T.m_Plan_earlier (fun σ pins H s e s' I h => passes_call (takes_of rfl rfl rfl rfl) (fun _ _ _ _ h => h) pins σ H s e s' I h) (pv 0) (pa_cons (pv 3) pa_nil))) passes_no (pal_last T.tb__law_doors_right rfl T.ti__law_doors_right T.tu__law_doors_right (N := []) (ps := []) (lamP_by (by kernel_rfl)))) (pa_cons (pe_tup (pa_cons pe_str (pa_cons (pv 3) pa_nil))) pa_nil))))) (pss_one (ps_ret pe_bl)) pss_nil)))))
      (pss_cons (ps_for PassesOwn.never rfl (k_piS (K := K) rfl (pe_lc (own := [("_law_hour", 3)]) rfl scw__law_doors_right.nd (pi_range1 (by rfl) T.z_range (pa_cons (pv 2) pa_nil)) (blkOk_by (by kernel_rfl)) (fun _ _ _ _ _ => (pg_name (i := 3) scw__law_doors_right.nd rfl (by first | exact Or.inl rfl | exact Or.inr rfl))) (fun _ _ _ _ _ => (pts_one (pt_cmpR (u_eq (K := K) rfl hr.units) (pe_ix (k_ixS (K := K) rfl) (pv 1) (pv 3) (fun _ _ => rfl)) pe_int (nomark _)))) (fun _ _ _ _ _ => (pv 3)))) (pg_name (i := 3) scw__law_doors_right.nd rfl (by first | exact Or.inl rfl | exact Or.inr rfl)) (pss_cons (ps_if (pt_not (pt_val (pg_call (ow__law_same T) (fun _ => hg) (hr.mono (by decide)) (by rfl) T.g__law_same T.d__law_same.kp (pa_cons (pe_lam (k := 8) (ps := []) (E := fun _ _ _ _ => False) (ow__law_heard T) (hr.mono (by decide)) (by decide) (by rfl) T.g__law_heard T.d__law_heard.kp (lamP_by (by kernel_rfl)) (fun _ _ _ _ _ us hl => match us, hl with | [], _ => rfl) (fun A out s H E f dd hr => (pf_methS (E := fun σ c o H => (fun c o _ H' => E c o H') c o σ H) (ow_Plan_later T) (hr.mono (by decide)) T.cl_Plan T.m_Plan_later (fun σ pins H s e s' I h => passes_call (takes_of rfl rfl rfl rfl) (fun _ _ _ _ h => h) pins σ H s e s' I h) (pv 0) (pa_cons (pv 3) pa_nil))) passes_no (pal_last T.tb__law_doors_right rfl T.ti__law_doors_right T.tu__law_doors_right (N := []) (ps := []) (lamP_by (by kernel_rfl)))) (pa_cons (pe_tup (pa_cons pe_str (pa_cons (pv 3) pa_nil))) pa_nil))))) (pss_one (ps_ret pe_bl)) pss_nil)
      (pss_one (ps_if (pt_not (pt_val (pg_call (ow__law_same T) (fun _ => hg) (hr.mono (by decide)) (by rfl) T.g__law_same T.d__law_same.kp (pa_cons (pe_lam (k := 8) (ps := []) (E := fun _ _ _ _ => False) (ow__law_heard T) (hr.mono (by decide)) (by decide) (by rfl) T.g__law_heard T.d__law_heard.kp (lamP_by (by kernel_rfl)) (fun _ _ _ _ _ us hl => match us, hl with | [], _ => rfl) (fun A out s H E f dd hr => (pf_methS (E := fun σ c o H => (fun c o _ H' => E c o H') c o σ H) (ow_Plan_earlier T) (hr.mono (by decide)) T.cl_Plan T.m_Plan_earlier (fun σ pins H s e s' I h => passes_call (takes_of rfl rfl rfl rfl) (fun _ _ _ _ h => h) pins σ H s e s' I h) (pv 0) (pa_cons (pv 3) pa_nil))) passes_no (pal_last T.tb__law_doors_right rfl T.ti__law_doors_right T.tu__law_doors_right (N := []) (ps := []) (lamP_by (by kernel_rfl)))) (pa_cons (pe_tup (pa_cons pe_str (pa_cons (pv 3) pa_nil))) pa_nil))))) (pss_one (ps_ret pe_bl)) pss_nil))))
      (pss_cons (ps_if (pt_cmpR (u_neG (K := K) rfl hr.units) (pe_lam (k := 8) (ps := []) (E := fun _ _ _ _ => False) (ow__law_heard T) (hr.mono (by decide)) (by decide) (by rfl) T.g__law_heard T.d__law_heard.kp (lamP_by (by kernel_rfl)) (fun _ _ _ _ _ us hl => match us, hl with | [], _ => rfl) (fun A out s H E f dd hr => (pf_methS (E := fun σ c o H => (fun c o _ H' => E c o H') c o σ H) (ow_Plan_later T) (hr.mono (by decide)) T.cl_Plan T.m_Plan_later (fun σ pins H s e s' I h => passes_call (takes_of rfl rfl rfl rfl) (fun _ _ _ _ h => h) pins σ H s e s' I h) (pv 0) (pa_cons (pv 0) pa_nil))) passes_no (pal_last T.tb__law_doors_right rfl T.ti__law_doors_right T.tu__law_doors_right (N := []) (ps := []) (lamP_by (by kernel_rfl)))) (pe_tup (pa_cons pe_str (pa_cons (pv 0) pa_nil))) (nomark _)) (pss_one (ps_ret pe_bl)) pss_nil)
      (pss_cons (ps_if (pt_cmpR (u_neG (K := K) rfl hr.units) (pe_lam (k := 4) (ps := []) (E := fun _ _ _ _ => False) (ow__law_heard T) (hr.mono (by decide)) (by decide) (by rfl) T.g__law_heard T.d__law_heard.kp (lamP_by (by kernel_rfl)) (fun _ _ _ _ _ us hl => match us, hl with | [], _ => rfl) (fun A out s H E f dd hr => (pe_ixX (E := fun σ c o H => (fun c o _ H' => E c o H') c o σ H) (ow_Plan___getitem__ T) (hr.mono (by decide)) (fun σ pins H s e s' I h => passes_call (takes_of rfl rfl rfl rfl) (fun _ _ _ _ h => h) pins σ H s e s' I h) T.m_Plan___getitem__.at_ T.fi_Plan___getitem__ T.m_Plan___getitem__.fn (pv 0) (pv 0))) passes_no (pal_last T.tb__law_doors_right rfl T.ti__law_doors_right T.tu__law_doors_right (N := []) (ps := []) (lamP_by (by kernel_rfl)))) (pe_tup (pa_cons pe_str (pa_cons (pv 0) pa_nil))) (nomark _)) (pss_one (ps_ret pe_bl)) pss_nil)
      (pss_cons (ps_if (pt_cmpR (u_neG (K := K) rfl hr.units) (pe_lam (k := 8) (ps := []) (E := fun _ _ _ _ => False) (ow__law_heard T) (hr.mono (by decide)) (by decide) (by rfl) T.g__law_heard T.d__law_heard.kp (lamP_by (by kernel_rfl)) (fun _ _ _ _ _ us hl => match us, hl with | [], _ => rfl) (fun A out s H E f dd hr => (pf_methS (E := fun σ c o H => (fun c o _ H' => E c o H') c o σ H) (ow_Plan_earlier T) (hr.mono (by decide)) T.cl_Plan T.m_Plan_earlier (fun σ pins H s e s' I h => passes_call (takes_of rfl rfl rfl rfl) (fun _ _ _ _ h => h) pins σ H s e s' I h) (pv 0) (pa_cons (pv 0) pa_nil))) passes_no (pal_last T.tb__law_doors_right rfl T.ti__law_doors_right T.tu__law_doors_right (N := []) (ps := []) (lamP_by (by kernel_rfl)))) (pe_tup (pa_cons pe_str (pa_cons (pv 0) pa_nil))) (nomark _)) (pss_one (ps_ret pe_bl)) pss_nil)
      (pss_cons (ps_par (i := 4) (j := 5) (by rfl) scw__law_doors_right.nd rfl rfl (by decide) rfl rfl (pa_cons (pf_make (ow_Plan___init__ T) (hr.mono (by decide)) T.mk_Plan (by rfl) T.g_Plan (pa_cons (pe_op (u_add (K := K) rfl) (pe_slice (u_sl (K := K) rfl) (pv 1) po_none (po_some (pe_un un_neg pe_int))) (pe_lst (pa_cons (pe_op (u_add (K := K) rfl) (pe_ix (k_ixS (K := K) rfl) (pv 1) (pe_un un_neg pe_int) (fun _ _ => rfl)) pe_int) pa_nil))) pa_nil)) (pa_cons (pf_make (ow_Plan___init__ T) (hr.mono (by decide)) T.mk_Plan (by rfl) T.g_Plan (pa_cons (pe_op (u_add (K := K) rfl) (pv 1) (pe_lst (pa_cons pe_int pa_nil))) pa_nil)) pa_nil)) (by rfl))
      (pss_cons (ps_set (i := 6) scw__law_doors_right.nd rfl (by first | exact Or.inl rfl | exact Or.inr rfl) (pf_make (ow_Plan___init__ T) (hr.mono (by decide)) T.mk_Plan (by rfl) T.g_Plan (pa_cons (pe_op (u_add (K := K) rfl) (pv 1) (pe_lst (pa_cons pe_int pa_nil))) pa_nil)))
      (pss_cons (ps_for PassesOwn.never rfl (k_piS (K := K) rfl (pe_tup (pa_cons (pe_tup (pa_cons (pv 0) (pa_cons (pv 4) pa_nil))) (pa_cons (pe_tup (pa_cons (pv 4) (pa_cons (pv 0) pa_nil))) (pa_cons (pe_tup (pa_cons (pv 0) (pa_cons (pv 5) pa_nil))) (pa_cons (pe_tup (pa_cons (pv 5) (pa_cons (pv 0) pa_nil))) (pa_cons (pe_tup (pa_cons (pv 0) (pa_cons (pv 6) pa_nil))) (pa_cons (pe_tup (pa_cons (pv 6) (pa_cons (pv 0) pa_nil))) pa_nil)))))))) (k_gtup (K := K) (n := 2) rfl rfl (pgs_cons (pg_name (i := 7) scw__law_doors_right.nd rfl (by first | exact Or.inl rfl | exact Or.inr rfl)) (pgs_cons (pg_name (i := 8) scw__law_doors_right.nd rfl (by first | exact Or.inl rfl | exact Or.inr rfl)) pgs_nil))) (pss_cons (ps_if (pt_cmpR (u_neG (K := K) rfl hr.units) (pe_lam (k := 7) (ps := []) (E := fun _ _ _ _ => False) (ow__law_heard T) (hr.mono (by decide)) (by decide) (by rfl) T.g__law_heard T.d__law_heard.kp (lamP_by (by kernel_rfl)) (fun _ _ _ _ _ us hl => match us, hl with | [], _ => rfl) (fun A out s H E f dd hr => (pe_ownX (op := .BitAnd) (E := fun σ c o H => (fun c o _ H' => E c o H') c o σ H) (ow_Plan___and__ T) (hr.mono (by decide)) (fun σ pins H s e s' I h => passes_call (takes_of rfl rfl rfl rfl) (fun _ _ _ _ h => h) pins σ H s e s' I h) T.sf_Plan T.m_Plan___and__.at_ T.m_Plan___and__.fn (pv 7) (pv 8))) passes_no (pal_last T.tb__law_doors_right rfl T.ti__law_doors_right T.tu__law_doors_right (N := []) (ps := []) (lamP_by (by kernel_rfl)))) (pe_tup (pa_cons pe_str (pa_cons pe_non pa_nil))) (nomark _)) (pss_one (ps_ret pe_bl)) pss_nil)
      (pss_cons (ps_if (pt_cmpR (u_neG (K := K) rfl hr.units) (pe_lam (k := 7) (ps := []) (E := fun _ _ _ _ => False) (ow__law_heard T) (hr.mono (by decide)) (by decide) (by rfl) T.g__law_heard T.d__law_heard.kp (lamP_by (by kernel_rfl)) (fun _ _ _ _ _ us hl => match us, hl with | [], _ => rfl) (fun A out s H E f dd hr => (pe_ownX (op := .BitOr) (E := fun σ c o H => (fun c o _ H' => E c o H') c o σ H) (ow_Plan___or__ T) (hr.mono (by decide)) (fun σ pins H s e s' I h => passes_call (takes_of rfl rfl rfl rfl) (fun _ _ _ _ h => h) pins σ H s e s' I h) T.sf_Plan T.m_Plan___or__.at_ T.m_Plan___or__.fn (pv 7) (pv 8))) passes_no (pal_last T.tb__law_doors_right rfl T.ti__law_doors_right T.tu__law_doors_right (N := []) (ps := []) (lamP_by (by kernel_rfl)))) (pe_tup (pa_cons pe_str (pa_cons pe_non pa_nil))) (nomark _)) (pss_one (ps_ret pe_bl)) pss_nil)
      (pss_cons (ps_if (pt_cmpR (u_neG (K := K) rfl hr.units) (pe_lam (k := 4) (ps := []) (E := fun _ _ _ _ => False) (ow__law_heard T) (hr.mono (by decide)) (by decide) (by rfl) T.g__law_heard T.d__law_heard.kp (lamP_by (by kernel_rfl)) (fun _ _ _ _ _ us hl => match us, hl with | [], _ => rfl) (fun A out s H E f dd hr => (pf_methS (E := fun σ c o H => (fun c o _ H' => E c o H') c o σ H) (ow_Plan_within T) (hr.mono (by decide)) T.cl_Plan T.m_Plan_within (fun σ pins H s e s' I h => passes_call (takes_of rfl rfl rfl rfl) (fun _ _ _ _ h => h) pins σ H s e s' I h) (pv 7) (pa_cons (pv 8) pa_nil))) passes_no (pal_last T.tb__law_doors_right rfl T.ti__law_doors_right T.tu__law_doors_right (N := []) (ps := []) (lamP_by (by kernel_rfl)))) (pe_tup (pa_cons pe_str (pa_cons pe_non pa_nil))) (nomark _)) (pss_one (ps_ret pe_bl)) pss_nil)
      (pss_one (ps_if (PW.pt (pw_and (pt_cmpR (u_ne (K := K) rfl hr.units) (pe_callB (k_lenO (ow_Plan___len__ T) (hr.mono (by decide)) T.m_Plan___len__.at_ T.m_Plan___len__.fn) (by rfl) T.z_len (by decide +kernel) (pa_cons (pv 7) pa_nil)) (pe_callB (k_lenO (ow_Plan___len__ T) (hr.mono (by decide)) T.m_Plan___len__.at_ T.m_Plan___len__.fn) (by rfl) T.z_len (by decide +kernel) (pa_cons (pv 8) pa_nil)) (nomark _)) (pw_and1 (pt_cmpR (u_neG (K := K) rfl hr.units) (pe_lam (k := 7) (ps := []) (E := fun _ _ _ _ => False) (ow__law_heard T) (hr.mono (by decide)) (by decide) (by rfl) T.g__law_heard T.d__law_heard.kp (lamP_by (by kernel_rfl)) (fun _ _ _ _ _ us hl => match us, hl with | [], _ => rfl) (fun A out s H E f dd hr => (pe_ownX (op := .Add) (E := fun σ c o H => (fun c o _ H' => E c o H') c o σ H) (ow_Plan___add__ T) (hr.mono (by decide)) (fun σ pins H s e s' I h => passes_call (takes_of rfl rfl rfl rfl) (fun _ _ _ _ h => h) pins σ H s e s' I h) T.sf_Plan T.m_Plan___add__.at_ T.m_Plan___add__.fn (pv 7) (pv 8))) passes_no (pal_last T.tb__law_doors_right rfl T.ti__law_doors_right T.tu__law_doors_right (N := []) (ps := []) (lamP_by (by kernel_rfl)))) (pe_tup (pa_cons pe_str (pa_cons pe_non pa_nil))) (nomark _))))) (pss_one (ps_ret pe_bl)) pss_nil))))))
      (pss_cons (ps_setLc (i := 9) (own := [("_law_number_here", 10)]) rfl scw__law_doors_right.nd rfl rfl (sw_true rfl rfl rfl (by decide +kernel)) (k_piS (K := K) rfl (pv 1)) (blkOk_by (by kernel_rfl)) (fun _ _ _ _ _ => (pg_name (i := 10) scw__law_doors_right.nd rfl (by first | exact Or.inl rfl | exact Or.inr rfl))) (fun _ _ _ _ _ => pts_nil) (fun _ _ _ _ _ => (pe_op u_mul pe_int (pv 10))))
      (pss_cons (ps_augS (pv 9) (pe_un un_neg pe_int) (k_getL (K := K) rfl) pe_int ip_add set_list)
      (pss_one (ps_ret (pe_and (pe_cmpR (u_eqG (K := K) rfl hr.units) (pe_callTy (k_listO (K := K) rfl rfl ⟨T.m_Plan___iter__.at_, T.m_Plan___iter__.fn, T.m_Plan___len__.at_, T.m_Plan___len__.fn⟩ (ok_Plan___iter__ T) (ok_Plan___len__ T) (hr.mono (by decide))) (by rfl) T.z_list (by decide +kernel) (pa_cons (pe_op (op_ownB (ow_Plan___add__ T) (hr.mono (by decide)) T.sf_Plan T.m_Plan___add__.at_ T.m_Plan___add__.fn) (pv 0) (pv 4)) pa_nil)) (pv 9) (nomark _)) (pe_one (pe_cmpR (u_eqG (K := K) rfl hr.units) (pe_callTy (k_listO (K := K) rfl rfl ⟨T.m_Plan___iter__.at_, T.m_Plan___iter__.fn, T.m_Plan___len__.at_, T.m_Plan___len__.fn⟩ (ok_Plan___iter__ T) (ok_Plan___len__ T) (hr.mono (by decide))) (by rfl) T.z_list (by decide +kernel) (pa_cons (pv 0) pa_nil)) (pv 1) (nomark _))))))))))))))))),
    (simS_seq (simS_set (i := 2) (sim_NS (sim_cb okN cas_len (simAW_cons (sim_SW (sim_var rfl)) simAW_nil))))
      (simS_seq (simS_for (ts := [.sh, .sh, .sh, .no, .no, .no, .no, .no, .no, .no, .no]) (simI_seq (lp := true) (sim_NS (sim_tup (simA_cons (sim_NS sim_non) (simA_cons (sim_NS sim_bl) (simA_cons (sim_NS sim_bl) (simA_cons (sim_NS (sim_un uns_neg (sim_NW sim_int))) (simA_cons (sim_var rfl) (simA_cons (sim_NS sim_str) (simA_cons (sim_NS (sim_tup (simA_cons (sim_NS sim_int) simA_nil))) (simA_cons (sim_NS (sim_lst (simA_cons (sim_NS sim_int) simA_nil))) (simA_cons (sim_NS sim_dct0) (simA_cons (sim_NS (sim_op okN (ops_II (C := CPow) (g := fun i j => i ^ j.toNat)) (sim_NW sim_int) (sim_NW sim_int))) simA_nil))))))))))))) (simG_name (i := 3)) (simS_seq (simS_if (simT_not (simT_B (sim_NS (sim_call okN (simA_cons (sim_NS (sim_lam0 (n := 0) okN simL_last rfl (fun E EX => (letI : XC := (xcOf K (cnA d) (eaA d) (fun c o _ H' => E c o H') EX [.no, .no, .no, .no, .no, .no, .no, .no, .no, .no, .no]); (sim_NS (sim_ixX .Plan okN rfl rfl (sim_var rfl) (sim_var rfl))))))) (simA_cons (sim_NS (sim_tup (simA_cons (sim_NS sim_str) (simA_cons (sim_var rfl) simA_nil)))) simA_nil)))))) (simS_ret okN sim_bl) simS_nil)
      (simS_seq (simS_if (simT_not (simT_B (sim_NS (sim_call okN (simA_cons (sim_NS (sim_lam0 (n := 0) okN simL_last rfl (fun E EX => (letI : XC := (xcOf K (cnA d) (eaA d) (fun c o _ H' => E c o H') EX [.no, .no, .no, .no, .no, .no, .no, .no, .no, .no, .no]); (sim_NS (sim_methX .Plan okN rfl rfl (sim_var rfl) (simA_cons (sim_var rfl) simA_nil))))))) (simA_cons (sim_NS (sim_tup (simA_cons (sim_NS sim_str) (simA_cons (sim_var rfl) simA_nil)))) simA_nil)))))) (simS_ret okN sim_bl) simS_nil)
      (simS_if (simT_not (simT_B (sim_NS (sim_call okN (simA_cons (sim_NS (sim_lam0 (n := 0) okN simL_last rfl (fun E EX => (letI : XC := (xcOf K (cnA d) (eaA d) (fun c o _ H' => E c o H') EX [.no, .no, .no, .no, .no, .no, .no, .no, .no, .no, .no]); (sim_NS (sim_methX .Plan okN rfl rfl (sim_var rfl) (simA_cons (sim_var rfl) simA_nil))))))) (simA_cons (sim_NS (sim_tup (simA_cons (sim_NS sim_str) (simA_cons (sim_var rfl) simA_nil)))) simA_nil)))))) (simS_ret okN sim_bl) simS_nil))) rfl)
      (simS_seq (simS_for (ts := [.sh, .sh, .sh, .no, .no, .no, .no, .no, .no, .no, .no]) (simI_seq (lp := true) (sim_NS (sim_lc (vs := [3]) (simI_rng1 (simAW_cons (sim_SW (sim_var rfl)) simAW_nil)) (simG_name (i := 3)) (simT_test (sim_NS (sim_op okN ops_eq (sim_SW (sim_op okS ops_ix (sim_SW (sim_var rfl)) (sim_SW (sim_var rfl)))) (sim_NW sim_int)))) (sim_var rfl)))) (simG_name (i := 3)) (simS_seq (simS_if (simT_not (simT_B (sim_NS (sim_call okN (simA_cons (sim_NS (sim_lam0 (n := 0) okN simL_last rfl (fun E EX => (letI : XC := (xcOf K (cnA d) (eaA d) (fun c o _ H' => E c o H') EX [.no, .no, .no, .no, .no, .no, .no, .no, .no, .no, .no]); (sim_NS (sim_methX .Plan okN rfl rfl (sim_var rfl) (simA_cons (sim_var rfl) simA_nil))))))) (simA_cons (sim_NS (sim_tup (simA_cons (sim_NS sim_str) (simA_cons (sim_var rfl) simA_nil)))) simA_nil)))))) (simS_ret okN sim_bl) simS_nil)
      (simS_if (simT_not (simT_B (sim_NS (sim_call okN (simA_cons (sim_NS (sim_lam0 (n := 0) okN simL_last rfl (fun E EX => (letI : XC := (xcOf K (cnA d) (eaA d) (fun c o _ H' => E c o H') EX [.no, .no, .no, .no, .no, .no, .no, .no, .no, .no, .no]); (sim_NS (sim_methX .Plan okN rfl rfl (sim_var rfl) (simA_cons (sim_var rfl) simA_nil))))))) (simA_cons (sim_NS (sim_tup (simA_cons (sim_NS sim_str) (simA_cons (sim_var rfl) simA_nil)))) simA_nil)))))) (simS_ret okN sim_bl) simS_nil)) rfl)
      (simS_seq (simS_gh (i := 0) rfl rfl (simS_if (simT_test (sim_NS (sim_op okN ops_neG (sim_NW (sim_lam0 (n := 0) okN simL_last rfl (fun E EX => (letI : XC := (xcOf K (cnA d) (eaA d) (fun c o _ H' => E c o H') EX [.no, .no, .no, .no, .no, .no, .no, .no, .no, .no, .no]); (sim_NS (sim_methX .Plan okN rfl rfl (sim_varU (i := 0) rfl) (simA_cons (sim_var rfl) simA_nil))))))) (sim_NW (sim_tup (simA_cons (sim_NS sim_str) (simA_cons (sim_var rfl) simA_nil))))))) (simS_ret okN sim_bl) simS_nil))
      (simS_seq (simS_gh (i := 0) rfl rfl (simS_if (simT_test (sim_NS (sim_op okN ops_neG (sim_NW (sim_lam0 (n := 0) okN simL_last rfl (fun E EX => (letI : XC := (xcOf K (cnA d) (eaA d) (fun c o _ H' => E c o H') EX [.no, .no, .no, .no, .no, .no, .no, .no, .no, .no, .no]); (sim_NS (sim_ixX .Plan okN rfl rfl (sim_varU (i := 0) rfl) (sim_var rfl))))))) (sim_NW (sim_tup (simA_cons (sim_NS sim_str) (simA_cons (sim_var rfl) simA_nil))))))) (simS_ret okN sim_bl) simS_nil))
      (simS_seq (simS_gh (i := 0) rfl rfl (simS_if (simT_test (sim_NS (sim_op okN ops_neG (sim_NW (sim_lam0 (n := 0) okN simL_last rfl (fun E EX => (letI : XC := (xcOf K (cnA d) (eaA d) (fun c o _ H' => E c o H') EX [.no, .no, .no, .no, .no, .no, .no, .no, .no, .no, .no]); (sim_NS (sim_methX .Plan okN rfl rfl (sim_varU (i := 0) rfl) (simA_cons (sim_var rfl) simA_nil))))))) (sim_NW (sim_tup (simA_cons (sim_NS sim_str) (simA_cons (sim_var rfl) simA_nil))))))) (simS_ret okN sim_bl) simS_nil))
      (simS_seq (simS_par (i := 4) (j := 5) (k := false) (l := false) (sim_NS (sim_make (c := .Plan) mkIE (simA_cons (sim_NS (sim_op okN ops_add (sim_NW (sim_sl (sim_SW (sim_var rfl)) simO_none (simO_some (sim_NW (sim_un uns_neg (sim_NW sim_int)))))) (sim_NW (sim_lst (simA_cons (sim_NS (sim_op okN ops_add (sim_SW (sim_op okS ops_ix (sim_SW (sim_var rfl)) (sim_NW (sim_un uns_neg (sim_NW sim_int))))) (sim_NW sim_int))) simA_nil))))) simA_nil))) (sim_NS (sim_make (c := .Plan) mkIE (simA_cons (sim_NS (sim_op okN ops_add (sim_SW (sim_var rfl)) (sim_NW (sim_lst (simA_cons (sim_NS sim_int) simA_nil))))) simA_nil))))
      (simS_seq (simS_set (i := 6) (sim_NS (sim_make (c := .Plan) mkIE (simA_cons (sim_NS (sim_op okN ops_add (sim_SW (sim_var rfl)) (sim_NW (sim_lst (simA_cons (sim_NS sim_int) simA_nil))))) simA_nil))))
      (simS_seq (simS_for (ts := [.sh, .sh, .sh, .no, .sh, .sh, .sh, .no, .no, .no, .no]) (simI_seq (lp := true) (sim_NS (sim_tup (simA_cons (sim_NS (sim_tup (simA_cons (sim_var rfl) (simA_cons (sim_var rfl) simA_nil)))) (simA_cons (sim_NS (sim_tup (simA_cons (sim_var rfl) (simA_cons (sim_var rfl) simA_nil)))) (simA_cons (sim_NS (sim_tup (simA_cons (sim_var rfl) (simA_cons (sim_var rfl) simA_nil)))) (simA_cons (sim_NS (sim_tup (simA_cons (sim_var rfl) (simA_cons (sim_var rfl) simA_nil)))) (simA_cons (sim_NS (sim_tup (simA_cons (sim_var rfl) (simA_cons (sim_var rfl) simA_nil)))) (simA_cons (sim_NS (sim_tup (simA_cons (sim_var rfl) (simA_cons (sim_var rfl) simA_nil)))) simA_nil))))))))) (simG_tup (simGs_cons (simG_name (i := 7)) (simGs_cons (simG_name (i := 8)) simGs_nil))) (simS_seq (simS_if (simT_test (sim_NS (sim_op okN ops_neG (sim_NW (sim_lam0 (n := 0) okN simL_last rfl (fun E EX => (letI : XC := (xcOf K (cnA d) (eaA d) (fun c o _ H' => E c o H') EX [.no, .no, .no, .no, .no, .no, .no, .no, .no, .no, .no]); (sim_NS (sim_ownX .Plan okN rfl rfl (sim_var rfl) (sim_var rfl))))))) (sim_NW (sim_tup (simA_cons (sim_NS sim_str) (simA_cons (sim_NS sim_non) simA_nil))))))) (simS_ret okN sim_bl) simS_nil)
      (simS_seq (simS_if (simT_test (sim_NS (sim_op okN ops_neG (sim_NW (sim_lam0 (n := 0) okN simL_last rfl (fun E EX => (letI : XC := (xcOf K (cnA d) (eaA d) (fun c o _ H' => E c o H') EX [.no, .no, .no, .no, .no, .no, .no, .no, .no, .no, .no]); (sim_NS (sim_ownX .Plan okN rfl rfl (sim_var rfl) (sim_var rfl))))))) (sim_NW (sim_tup (simA_cons (sim_NS sim_str) (simA_cons (sim_NS sim_non) simA_nil))))))) (simS_ret okN sim_bl) simS_nil)
      (simS_seq (simS_if (simT_test (sim_NS (sim_op okN ops_neG (sim_NW (sim_lam0 (n := 0) okN simL_last rfl (fun E EX => (letI : XC := (xcOf K (cnA d) (eaA d) (fun c o _ H' => E c o H') EX [.no, .no, .no, .no, .no, .no, .no, .no, .no, .no, .no]); (sim_NS (sim_methX .Plan okN rfl rfl (sim_var rfl) (simA_cons (sim_var rfl) simA_nil))))))) (sim_NW (sim_tup (simA_cons (sim_NS sim_str) (simA_cons (sim_NS sim_non) simA_nil))))))) (simS_ret okN sim_bl) simS_nil)
      (simS_if (simT_and (simT_test (sim_NS (sim_op okN ops_ne (sim_NW (sim_cb okN (cas_lenO .Plan) (simAW_cons (sim_SW (sim_var rfl)) simAW_nil))) (sim_NW (sim_cb okN (cas_lenO .Plan) (simAW_cons (sim_SW (sim_var rfl)) simAW_nil)))))) (simT_test (sim_NS (sim_op okN ops_neG (sim_NW (sim_lam0 (n := 0) okN simL_last rfl (fun E EX => (letI : XC := (xcOf K (cnA d) (eaA d) (fun c o _ H' => E c o H') EX [.no, .no, .no, .no, .no, .no, .no, .no, .no, .no, .no]); (sim_NS (sim_ownX .Plan okN rfl rfl (sim_var rfl) (sim_var rfl))))))) (sim_NW (sim_tup (simA_cons (sim_NS sim_str) (simA_cons (sim_NS sim_non) simA_nil)))))))) (simS_ret okN sim_bl) simS_nil)))) rfl)
      (simS_seq (simS_setO (i := 9) (sim_lc (vs := [10]) (simI_seq (lp := false) (sim_SW (sim_var rfl))) (simG_name (i := 10)) simT_yes (sim_NS (sim_op okN ops_mul (sim_NW sim_int) (sim_SW (sim_var rfl))))))
      (simS_seq (simS_augS (i := 9) (f := (fun i j => i + j)) rfl (sim_NW (sim_un uns_neg (sim_NW sim_int))) (sim_NW sim_int))
      (simS_ret okN (sim_andV (sim_NS (sim_op okN ops_eqG (sim_NW (sim_cb okN cas_listPlan (simAW_cons (sim_NW (sim_own okN (ows_own0 .Plan) (sim_var rfl) (sim_var rfl))) simAW_nil))) (sim_varO rfl))) (sim_op okN ops_eqG (sim_NW (sim_cb okN cas_listPlan (simAW_cons (sim_SW (sim_var rfl)) simAW_nil))) (sim_SW (sim_var rfl))))))))))))))))⟩
def t__law_one : WS := (wRet (wOp wIx (wVar 1) (wCall w_take (wCons (wVar 0) (wCons (wCB wLen (wCons (wVar 1) wNil)) wNil)))))
def w__law_one : WF := wDef 2 0 t__law_one
theorem scw__law_one : FnScope ["_law_bag_here", "_law_some"] ["_law_bag_here", "_law_some"] (defScope s__law_one) := ⟨rfl, rfl, rfl, by decide +kernel, rfl, by decide +kernel, by decide +kernel⟩
set_option maxHeartbeats 4000000 in
theorem ow__law_one (T : Tx P base K mg d) : Okf P w K mg base 2 d.f__law_one ["_law_bag_here", "_law_some"] (spW K (cnA d) (rS K (cnA d)) w__law_one) :=
  okw_of (ts' := [.sh, .sh]) T.d__law_one scw__law_one rfl rfl rnonS fun cdv A outer s H E hr =>
    ⟨_, (pss_one (ps_ret (pe_ix (k_ixS (K := K) rfl) (pv 1) (pf_call (ow__law_take T) (hr.mono (by decide)) (by rfl) T.g__law_take T.d__law_take.kp (pa_cons (pv 0) (pa_cons (pe_callB (u_len (K := K) rfl) (by rfl) T.z_len (by decide +kernel) (pa_cons (pv 1) pa_nil)) pa_nil))) (fun _ _ => rfl)))),
    (simS_ret okS (sim_op okS ops_ix (sim_SW (sim_var rfl)) (sim_NW (sim_call okN (simA_cons (sim_var rfl) (simA_cons (sim_NS (sim_cb okN cas_len (simAW_cons (sim_SW (sim_var rfl)) simAW_nil))) simA_nil))))))⟩
def t__law_bent : WS := (wSeq (wPar3 2 3 4 false false true (wCall w_take (wCons (wVar 0) (wCons (wC (.int 8)) wNil))) (wCall w_take (wCons (wVar 0) (wCons (wCB wLen (wCons (wVar 1) wNil)) wNil))) (wCB wListOf (wCons (wVar 1) wNil)))
      (wSeq (wIfS (wTest (wOp (wIB fun i j => decide (i < j)) (wVar 2) (wC (.int 3)))) (wSeq (wSub 4 (wCall w__law_one (wCons (wVar 0) (wCons (wLst (wCons (wC .non) (wCons (wC (.bl true)) (wCons (wC (.bl false)) (wCons (wUn wNeg (wC (.int 1))) (wCons (wC (.str "1")) (wCons (wTup (wCons (wC (.int 1)) wNil)) (wCons (wLst wNil) (wCons (wDct []) (wCons (wC (.int 0)) (wCons (wOp (wII CPow fun i j => i ^ j.toNat) (wC (.int 10)) (wC (.int 30))) (wCons (wC (.int 1)) wNil)))))))))))) wNil))) (wVar 3))
      (wRet (wVar 4))) (fun D ρ => D.nx ρ))
      (wSeq (wIfS (wTest (wOp wEq (wVar 2) (wC (.int 3)))) (wRet (wCB wTupOf (wCons (wVar 4) wNil))) (fun D ρ => D.nx ρ))
      (wSeq (wIfS (wTest (wOp wEq (wVar 2) (wC (.int 4)))) (wRet (wOp wAdd (wSl (wVar 4) wNoPart (wPart (wVar 3))) (wSl (wVar 4) (wPart (wOp wAdd (wVar 3) (wC (.int 1)))) wNoPart))) (fun D ρ => D.nx ρ))
      (wSeq (wIfS (wTest (wOp wEq (wVar 2) (wC (.int 5)))) (wRet (wRev (wVar 4))) (fun D ρ => D.nx ρ))
      (wSeq (wIfS (wTest (wOp wEq (wVar 2) (wC (.int 6)))) (wRet (wOp wAdd (wVar 4) (wOp wMul (wLst (wCons (wOp wIx (wVar 4) (wUn wNeg (wC (.int 1)))) wNil)) (wC (.int 49))))) (fun D ρ => D.nx ρ))
      (wRet (wCall w__law_one (wCons (wVar 0) (wCons (wLst (wCons (wC .non) (wCons (wTup wNil) (wCons (wLst wNil) (wCons (wDct []) (wCons (wC (.int 7)) (wCons (wC (.bl false)) (wCons (wC (.str "01")) (wCons (wDct [(.inl 0, 1)]) (wCons (wLst (wCons (wLst (wCons (wC (.int 0)) (wCons (wC (.int 1)) wNil))) wNil)) (wCons (wTup (wCons (wC (.int 0)) wNil)) (wCons (wLst (wCons (wC (.int 0)) wNil)) (wCons (wLst (wCons (wC (.int 0)) (wCons (wC (.int 0)) wNil))) (wCons (wLst (wCons (wC .non) wNil)) (wCons (wOp wMulX (wC (.str "a")) (wC (.int 4000))) wNil))))))))))))))) wNil))))))))))
def w__law_bent : WF := wDef 2 3 t__law_bent
theorem scw__law_bent : FnScope ["_law_bag_here", "_law_row", "_law_way", "_law_at", "_law_found"] ["_law_bag_here", "_law_row"] (defScope s__law_bent) := ⟨rfl, rfl, rfl, by decide +kernel, rfl, by decide +kernel, by decide +kernel⟩
set_option maxHeartbeats 4000000 in
theorem ow__law_bent (T : Tx P base K mg d) : Okf P w K mg base 3 d.f__law_bent ["_law_bag_here", "_law_row"] (spW K (cnA d) (rS K (cnA d)) w__law_bent) :=
  okw_of (ts' := [.sh, .sh, .sh, .sh, .ow]) T.d__law_bent scw__law_bent rfl rfl rnonS fun cdv A outer s H E hr =>
    ⟨_, (pss_cons (ps_par3 (i := 2) (j := 3) (l := 4) (by rfl) scw__law_bent.nd rfl rfl rfl (by decide) (by decide) (by decide) rfl rfl rfl (pa_cons (pf_call (ow__law_take T) (hr.mono (by decide)) (by rfl) T.g__law_take T.d__law_take.kp (pa_cons (pv 0) (pa_cons pe_int pa_nil))) (pa_cons (pf_call (ow__law_take T) (hr.mono (by decide)) (by rfl) T.g__law_take T.d__law_take.kp (pa_cons (pv 0) (pa_cons (pe_callB (u_len (K := K) rfl) (by rfl) T.z_len (by decide +kernel) (pa_cons (pv 1) pa_nil)) pa_nil))) (pa_cons (pe_callTy (k_listOf (K := K) rfl) (by rfl) T.z_list (by decide +kernel) (pa_cons (pv 1) pa_nil)) pa_nil))) (by rfl))
      (pss_cons (ps_if (pt_cmpR op_lt (pv 2) pe_int (nomark _)) (pss_cons (ps_asg (pf_call (ow__law_one T) (hr.mono (by decide)) (by rfl) T.g__law_one T.d__law_one.kp (pa_cons (pv 0) (pa_cons (pe_lst (pa_cons pe_non (pa_cons pe_bl (pa_cons pe_bl (pa_cons (pe_un un_neg pe_int) (pa_cons pe_str (pa_cons (pe_tup (pa_cons pe_int pa_nil)) (pa_cons (pe_lst pa_nil) (pa_cons pe_dnewK (pa_cons pe_int (pa_cons (pe_op op_pow pe_int pe_int) (pa_cons pe_int pa_nil)))))))))))) pa_nil))) (pg_sub (pv 4) (pv 3) set_list))
      (pss_one (ps_ret (pv 4)))) pss_nil)
      (pss_cons (ps_if (pt_cmpR (u_eq (K := K) rfl hr.units) (pv 2) pe_int (nomark _)) (pss_one (ps_ret (pe_callTy (k_tupOf (K := K) rfl) (by rfl) T.z_tuple (by decide +kernel) (pa_cons (pv 4) pa_nil)))) pss_nil)
      (pss_cons (ps_if (pt_cmpR (u_eq (K := K) rfl hr.units) (pv 2) pe_int (nomark _)) (pss_one (ps_ret (pe_op (u_add (K := K) rfl) (pe_slice (u_sl (K := K) rfl) (pv 4) po_none (po_some (pv 3))) (pe_slice (u_sl (K := K) rfl) (pv 4) (po_some (pe_op (u_add (K := K) rfl) (pv 3) pe_int)) po_none)))) pss_nil)
      (pss_cons (ps_if (pt_cmpR (u_eq (K := K) rfl hr.units) (pv 2) pe_int (nomark _)) (pss_one (ps_ret (k_revL (K := K) rfl (pv 4)))) pss_nil)
      (pss_cons (ps_if (pt_cmpR (u_eq (K := K) rfl hr.units) (pv 2) pe_int (nomark _)) (pss_one (ps_ret (pe_op (u_add (K := K) rfl) (pv 4) (pe_op u_mul (pe_lst (pa_cons (pe_ix (k_ixS (K := K) rfl) (pv 4) (pe_un un_neg pe_int) (fun _ _ => rfl)) pa_nil)) pe_int)))) pss_nil)
      (pss_one (ps_ret (pf_call (ow__law_one T) (hr.mono (by decide)) (by rfl) T.g__law_one T.d__law_one.kp (pa_cons (pv 0) (pa_cons (pe_lst (pa_cons pe_non (pa_cons (pe_tup pa_nil) (pa_cons (pe_lst pa_nil) (pa_cons pe_dnewK (pa_cons pe_int (pa_cons pe_bl (pa_cons pe_str (pa_cons (pe_disp (pps_cons pe_int pe_int pps_nil) (by rfl) (by rfl) (by intro z; cases z) (by decide)) (pa_cons (pe_lst (pa_cons (pe_lst (pa_cons pe_int (pa_cons pe_int pa_nil))) pa_nil)) (pa_cons (pe_tup (pa_cons pe_int pa_nil)) (pa_cons (pe_lst (pa_cons pe_int pa_nil)) (pa_cons (pe_lst (pa_cons pe_int (pa_cons pe_int pa_nil))) (pa_cons (pe_lst (pa_cons pe_non pa_nil)) (pa_cons (pe_op op_strmulX pe_str pe_int) pa_nil))))))))))))))) pa_nil))))))))))),
    (simS_seq (simS_par3 (i := 2) (j := 3) (m := 4) (k := false) (l := false) (o := true) (sim_NS (sim_call okN (simA_cons (sim_var rfl) (simA_cons (sim_NS sim_int) simA_nil)))) (sim_NS (sim_call okN (simA_cons (sim_var rfl) (simA_cons (sim_NS (sim_cb okN cas_len (simAW_cons (sim_SW (sim_var rfl)) simAW_nil))) simA_nil)))) (sim_cb okN cas_listOf (simAW_cons (sim_SW (sim_var rfl)) simAW_nil)))
      (simS_seq (simS_if (simT_val (simT_test (sim_NS (sim_op okN (ops_IB (g := fun i j => decide (i < j))) (sim_SW (sim_var rfl)) (sim_NW sim_int))))) (simS_seq (simS_sub (i := 4) rfl (sim_call okS (simA_cons (sim_var rfl) (simA_cons (sim_NS (sim_lst (simA_cons (sim_NS sim_non) (simA_cons (sim_NS sim_bl) (simA_cons (sim_NS sim_bl) (simA_cons (sim_NS (sim_un uns_neg (sim_NW sim_int))) (simA_cons (sim_NS sim_str) (simA_cons (sim_NS (sim_tup (simA_cons (sim_NS sim_int) simA_nil))) (simA_cons (sim_NS (sim_lst simA_nil)) (simA_cons (sim_NS sim_dct0) (simA_cons (sim_NS sim_int) (simA_cons (sim_NS (sim_op okN (ops_II (C := CPow) (g := fun i j => i ^ j.toNat)) (sim_NW sim_int) (sim_NW sim_int))) (simA_cons (sim_NS sim_int) simA_nil))))))))))))) simA_nil))) (sim_SW (sim_var rfl)))
      (simS_conv (ts1 := [.sh, .sh, .sh, .sh, .sh]) rfl (simS_ret okS (sim_var rfl)))) simS_nil)
      (simS_seq (simS_if (simT_val (simT_test (sim_NS (sim_op okN ops_eq (sim_SW (sim_var rfl)) (sim_NW sim_int))))) (simS_ret okS (sim_NS (sim_cb okN cas_tupOf (simAW_cons (sim_varO rfl) simAW_nil)))) simS_nil)
      (simS_seq (simS_if (simT_val (simT_test (sim_NS (sim_op okN ops_eq (sim_SW (sim_var rfl)) (sim_NW sim_int))))) (simS_ret okS (sim_NS (sim_op okN ops_add (sim_NW (sim_sl (sim_varO rfl) simO_none (simO_some (sim_SW (sim_var rfl))))) (sim_NW (sim_sl (sim_varO rfl) (simO_some (sim_NW (sim_op okN ops_add (sim_SW (sim_var rfl)) (sim_NW sim_int)))) simO_none))))) simS_nil)
      (simS_seq (simS_if (simT_val (simT_test (sim_NS (sim_op okN ops_eq (sim_SW (sim_var rfl)) (sim_NW sim_int))))) (simS_ret okS (sim_NS (sim_revL (sim_varO rfl)))) simS_nil)
      (simS_seq (simS_if (simT_val (simT_test (sim_NS (sim_op okN ops_eq (sim_SW (sim_var rfl)) (sim_NW sim_int))))) (simS_ret okS (sim_NS (sim_op okN ops_add (sim_varO rfl) (sim_NW (sim_op okN ops_mul (sim_NW (sim_lst (simA_cons (sim_op okS ops_ix (sim_varO rfl) (sim_NW (sim_un uns_neg (sim_NW sim_int)))) simA_nil))) (sim_NW sim_int)))))) simS_nil)
      (simS_ret okS (sim_call okS (simA_cons (sim_var rfl) (simA_cons (sim_NS (sim_lst (simA_cons (sim_NS sim_non) (simA_cons (sim_NS (sim_tup simA_nil)) (simA_cons (sim_NS (sim_lst simA_nil)) (simA_cons (sim_NS sim_dct0) (simA_cons (sim_NS sim_int) (simA_cons (sim_NS sim_bl) (simA_cons (sim_NS sim_str) (simA_cons (sim_NS (sim_dct (kvs := [(.inl 0, 1)]))) (simA_cons (sim_NS (sim_lst (simA_cons (sim_NS (sim_lst (simA_cons (sim_NS sim_int) (simA_cons (sim_NS sim_int) simA_nil)))) simA_nil))) (simA_cons (sim_NS (sim_tup (simA_cons (sim_NS sim_int) simA_nil))) (simA_cons (sim_NS (sim_lst (simA_cons (sim_NS sim_int) simA_nil))) (simA_cons (sim_NS (sim_lst (simA_cons (sim_NS sim_int) (simA_cons (sim_NS sim_int) simA_nil)))) (simA_cons (sim_NS (sim_lst (simA_cons (sim_NS sim_non) simA_nil))) (simA_cons (sim_NS (sim_op okN ops_strmulX (sim_NW sim_str) (sim_NW sim_int))) simA_nil)))))))))))))))) simA_nil))))))))))⟩
def t__law_are_counts : WS := (wSeq (wIfS (wTor (wTnot (wTest (wIsiT (wVar 0) "list" "tuple"))) (wTnot (wTest (wChain (wIB fun i j => decide (i ≤ j)) (wIB fun i j => decide (i ≤ j)) (wVar 1) (wCB wLen (wCons (wVar 0) wNil)) (wVar 2))))) (wRet (wC (.bl false))) (fun D ρ => D.nx ρ))
      (wRet (wOp (wEqE false) (wLc (wSeqI (wVar 0)) (wgName 3) (wTor (wTnot (wTest (wCB wIsi (wCons (wVar 3) (wCons (wC (.ty "int")) wNil))))) (wTor (wTest (wCB wIsi (wCons (wVar 3) (wCons (wC (.ty "bool")) wNil)))) (wTest (wOp (wIB fun i j => decide (i < j)) (wVar 3) (wC (.int 0)))))) (wVar 3)) (wLst wNil))))
def w__law_are_counts : WF := wDef 3 1 t__law_are_counts
theorem scw__law_are_counts : FnScope ["_law_thing", "_law_least", "_law_most", "_law_one_here"] ["_law_thing", "_law_least", "_law_most"] (defScope s__law_are_counts) := ⟨rfl, rfl, rfl, by decide +kernel, rfl, by decide +kernel, by decide +kernel⟩
set_option maxHeartbeats 4000000 in
theorem ow__law_are_counts (T : Tx P base K mg d) : Okf P w K mg base 1 d.f__law_are_counts ["_law_thing", "_law_least", "_law_most"] (spW K (cnA d) (rN K (cnA d)) w__law_are_counts) :=
  okw_of (ts' := [.sh, .sh, .sh, .no]) T.d__law_are_counts scw__law_are_counts rfl rfl rnonN fun cdv A outer s H E hr =>
    ⟨_, (pss_cons (ps_if (PW.pt (pw_or (pt_not (pt_val (pe_callB (k_isiT (K := K) rfl) (by rfl) T.z_isinstance (by decide +kernel) (pa_cons (pv 0) (pa_cons (pe_tup (pa_cons (pe_bty (n := "list") (by rfl) T.z_list (by decide +kernel)) (pa_cons (pe_bty (n := "tuple") (by rfl) T.z_tuple (by decide +kernel)) pa_nil))) pa_nil))))) (pw_or1 (pt_not (pt_chain op_le op_le (pv 1) (pe_callB (u_len (K := K) rfl) (by rfl) T.z_len (by decide +kernel) (pa_cons (pv 0) pa_nil)) (pv 2)))))) (pss_one (ps_ret pe_bl)) pss_nil)
      (pss_one (ps_ret (pe_cmpR (u_eqE (K := K) rfl hr.units) (pe_lc (own := [("_law_one_here", 3)]) rfl scw__law_are_counts.nd (k_piS (K := K) rfl (pv 0)) (blkOk_by (by kernel_rfl)) (fun _ _ _ _ _ => (pg_name (i := 3) scw__law_are_counts.nd rfl (by first | exact Or.inl rfl | exact Or.inr rfl))) (fun _ _ _ _ _ => (pts_one (PW.pt (pw_or (pt_not (pt_val (pe_callB (k_isi (K := K) rfl) (by rfl) T.z_isinstance (by decide +kernel) (pa_cons (pv 3) (pa_cons (pe_bty (n := "int") (by rfl) T.z_int (by decide +kernel)) pa_nil))))) (pw_or (pt_val (pe_callB (k_isi (K := K) rfl) (by rfl) T.z_isinstance (by decide +kernel) (pa_cons (pv 3) (pa_cons (pe_bty (n := "bool") (by rfl) T.z_bool (by decide +kernel)) pa_nil)))) (pw_or1 (pt_cmpR op_lt (pv 3) pe_int (nomark _)))))))) (fun _ _ _ _ _ => (pv 3))) (pe_lst pa_nil) (nomark _))))),
    (simS_seq (simS_if (simT_or (simT_not (simT_B (sim_NS (sim_isiT (sim_SW (sim_var rfl)))))) (simT_not (simT_test (sim_NS (sim_chain (ops_IB (g := fun i j => decide (i ≤ j))) (ops_IB (g := fun i j => decide (i ≤ j))) (sim_SW (sim_var rfl)) (sim_NW (sim_cb okN cas_len (simAW_cons (sim_SW (sim_var rfl)) simAW_nil))) (sim_SW (sim_var rfl))))))) (simS_ret okN sim_bl) simS_nil)
      (simS_ret okN (sim_op okN ops_eqE (sim_NW (sim_lc (vs := [3]) (simI_seq (lp := false) (sim_SW (sim_var rfl))) (simG_name (i := 3)) (simT_or (simT_not (simT_B (sim_NS (sim_cb okN cas_isi (simAW_cons (sim_SW (sim_var rfl)) (simAW_cons (sim_NW sim_ty) simAW_nil)))))) (simT_or (simT_B (sim_NS (sim_cb okN cas_isi (simAW_cons (sim_SW (sim_var rfl)) (simAW_cons (sim_NW sim_ty) simAW_nil))))) (simT_test (sim_NS (sim_op okN (ops_IB (g := fun i j => decide (i < j))) (sim_SW (sim_var rfl)) (sim_NW sim_int)))))) (sim_var rfl))) (sim_NW (sim_lst simA_nil)))))⟩
def t_are_sums : WS := (wSeq (wIfS (wTor (wTnot (wTest (wIsiTG [(.Plan, "int"), (.Plan, "list"), (.Plan, "tuple"), (.Needs, "list"), (.Needs, "tuple")] (wVar 0) "list" "tuple"))) (wTnot (wTest (wChain (wIB fun i j => decide (i ≤ j)) (wIB fun i j => decide (i ≤ j)) (wC (.int 2)) (wCB wLen (wCons (wVar 0) wNil)) (wOp wAdd (wC (.int 48)) (wC (.int 1))))))) (wRet (wC (.bl false))) (fun D ρ => D.nx ρ))
      (wSeq (wIfS (wTor (wTnot (wTest (wCB wAll (wCons (wLc (wSeqI (wVar 0)) (wgName 1) wTyes (wCall w_is_count (wCons (wVar 1) wNil))) wNil)))) (wTest (wOp wNe (wOp wIx (wVar 0) (wC (.int 0))) (wC (.int 0))))) (wRet (wC (.bl false))) (fun D ρ => D.nx ρ))
      (wRet (wCB wAll (wCons (wLc (wZip (wCons (wVar 0) (wCons (wSl (wVar 0) (wPart (wC (.int 1))) wNoPart) wNil))) (wgTup 2 (wgCons (wgName 2) (wgCons (wgName 3) wgNil))) wTyes (wOp (wIB fun i j => decide (i ≤ j)) (wVar 2) (wVar 3))) wNil)))))
def w_are_sums : WF := wDef 1 3 t_are_sums
theorem scw_are_sums : FnScope ["thing", "number", "elder", "later"] ["thing"] (defScope s_are_sums) := ⟨rfl, rfl, rfl, by decide +kernel, rfl, by decide +kernel, by decide +kernel⟩
set_option maxHeartbeats 4000000 in
theorem ow_are_sums (T : Tx P base K mg d) : Okf P w K mg base 3 d.f_are_sums ["thing"] (spW K (cnA d) (rN K (cnA d)) w_are_sums) :=
  okw_of (ts' := [.sh, .no, .no, .no]) T.d_are_sums scw_are_sums rfl rfl rnonN fun cdv A outer s H E hr =>
    ⟨_, (pss_cons (ps_if (PW.pt (pw_or (pt_not (pt_val (pe_callB (k_isiT (K := K) rfl) (by rfl) T.z_isinstance (by decide +kernel) (pa_cons (pv 0) (pa_cons (pe_tup (pa_cons (pe_bty (n := "list") (by rfl) T.z_list (by decide +kernel)) (pa_cons (pe_bty (n := "tuple") (by rfl) T.z_tuple (by decide +kernel)) pa_nil))) pa_nil))))) (pw_or1 (pt_not (pt_chain op_le op_le pe_int (pe_callB (u_len (K := K) rfl) (by rfl) T.z_len (by decide +kernel) (pa_cons (pv 0) pa_nil)) (pe_op (u_add (K := K) rfl) (pe_gint (by rfl) T.k_MOST_HOURS) pe_int)))))) (pss_one (ps_ret pe_bl)) pss_nil)
      (pss_cons (ps_if (PW.pt (pw_or (pt_not (pt_val (pe_callB (k_all (K := K) rfl rfl) (by rfl) T.z_all (by decide +kernel) (pa_cons (pe_lc (own := [("number", 1)]) rfl scw_are_sums.nd (k_piS (K := K) rfl (pv 0)) (blkOk_by (by kernel_rfl)) (fun _ _ _ _ _ => (pg_name (i := 1) scw_are_sums.nd rfl (by first | exact Or.inl rfl | exact Or.inr rfl))) (fun _ _ _ _ _ => pts_nil) (fun _ _ _ _ _ => (pf_call (ow_is_count T) (hr.mono (by decide)) (by rfl) T.g_is_count T.d_is_count.kp (pa_cons (pv 1) pa_nil)))) pa_nil)))) (pw_or1 (pt_cmpR (u_ne (K := K) rfl hr.units) (pe_ix (k_ixS (K := K) rfl) (pv 0) pe_int (fun _ _ => rfl)) pe_int (nomark _))))) (pss_one (ps_ret pe_bl)) pss_nil)
      (pss_one (ps_ret (pe_callB (k_all (K := K) rfl rfl) (by rfl) T.z_all (by decide +kernel) (pa_cons (pe_lc (own := [("elder", 2), ("later", 3)]) rfl scw_are_sums.nd (k_piZA (K := K) rfl (by rfl) T.z_zip (pa_cons (pv 0) (pa_cons (pe_slice (u_sl (K := K) rfl) (pv 0) (po_some pe_int) po_none) pa_nil))) (blkOk_by (by kernel_rfl)) (fun _ _ _ _ _ => (k_gtup (K := K) (n := 2) rfl rfl (pgs_cons (pg_name (i := 2) scw_are_sums.nd rfl (by first | exact Or.inl rfl | exact Or.inr rfl)) (pgs_cons (pg_name (i := 3) scw_are_sums.nd rfl (by first | exact Or.inl rfl | exact Or.inr rfl)) pgs_nil)))) (fun _ _ _ _ _ => pts_nil) (fun _ _ _ _ _ => (pe_cmpR op_le (pv 2) (pv 3) (nomark _)))) pa_nil)))))),
    (simS_seq (simS_if (simT_or (simT_not (simT_B (sim_NS (sim_isiTG (ps := [(.Plan, "int"), (.Plan, "list"), (.Plan, "tuple"), (.Needs, "list"), (.Needs, "tuple")]) (ki_cons (c := .Plan) T.ic_Plan T.kx_Plan_int (ki_cons (c := .Plan) T.ic_Plan T.kx_Plan_list (ki_cons (c := .Plan) T.ic_Plan T.kx_Plan_tuple (ki_cons (c := .Needs) T.ic_Needs T.kx_Needs_list (ki_cons (c := .Needs) T.ic_Needs T.kx_Needs_tuple ki_nil))))) (sim_SW (sim_var rfl)))))) (simT_not (simT_test (sim_NS (sim_chain (ops_IB (g := fun i j => decide (i ≤ j))) (ops_IB (g := fun i j => decide (i ≤ j))) (sim_NW sim_int) (sim_NW (sim_cb okN cas_len (simAW_cons (sim_SW (sim_var rfl)) simAW_nil))) (sim_NW (sim_op okN ops_add (sim_NW sim_int) (sim_NW sim_int)))))))) (simS_ret okN sim_bl) simS_nil)
      (simS_seq (simS_if (simT_or (simT_not (simT_B (sim_NS (sim_cb okN cas_all (simAW_cons (sim_NW (sim_lc (vs := [1]) (simI_seq (lp := false) (sim_SW (sim_var rfl))) (simG_name (i := 1)) simT_yes (sim_NS (sim_call okN (simA_cons (sim_var rfl) simA_nil))))) simAW_nil))))) (simT_test (sim_NS (sim_op okN ops_ne (sim_SW (sim_op okS ops_ix (sim_SW (sim_var rfl)) (sim_NW sim_int))) (sim_NW sim_int))))) (simS_ret okN sim_bl) simS_nil)
      (simS_ret okN (sim_cb okN cas_all (simAW_cons (sim_NW (sim_lc (vs := [2, 3]) (simI_zip (simA_cons (sim_var rfl) (simA_cons (sim_NS (sim_sl (sim_SW (sim_var rfl)) (simO_some (sim_NW sim_int)) simO_none)) simA_nil))) (simG_tup (simGs_cons (simG_name (i := 2)) (simGs_cons (simG_name (i := 3)) simGs_nil))) simT_yes (sim_NS (sim_op okN (ops_IB (g := fun i j => decide (i ≤ j))) (sim_SW (sim_var rfl)) (sim_SW (sim_var rfl)))))) simAW_nil)))))⟩
def t_Plan_of_sums (EX : List PV → En → Fs → Prop) : WS := (wSeq (wIfS (wTnot (wTest (wCall w_are_sums (wCons (wVar 0) wNil)))) (wRaise EX .Wrong "place" (wC (.int 0))) (fun D ρ => D.nx ρ))
      (wRet (wCallX EX w_Plan___init__ (wCons (wCall w_row_of (wCons (wVar 0) wNil)) wNil))))
def w_Plan_of_sums : WFX := wDefX 1 0 t_Plan_of_sums
theorem scw_Plan_of_sums : FnScope ["sums"] ["sums"] (defScope s_Plan_of_sums) := ⟨rfl, rfl, rfl, by decide +kernel, rfl, by decide +kernel, by decide +kernel⟩
set_option maxHeartbeats 4000000 in
theorem ow_Plan_of_sums (T : Tx P base K mg d) : Okf P w K mg base 7 d.f_Plan_of_sums ["sums"] (spWX K (cnA d) (eaA d) (rN K (cnA d)) w_Plan_of_sums) :=
  okwX_of (tx := [.no]) (ts' := [.sh]) T.d_Plan_of_sums scw_Plan_of_sums rfl rfl rnonN fun cdv A outer s H E hr =>
    ⟨_, (pss_cons (ps_if (pt_not (pt_val (pf_call (ow_are_sums T) (hr.mono (by decide)) (by rfl) T.g_are_sums T.d_are_sums.kp (pa_cons (pv 0) pa_nil)))) (pss_one (ps_raiseE (W := (fun c o _ H' => E c o H')) (k := 1) rfl T.er_Wrong (hr.mono (by decide)) (takes_of rfl rfl rfl rfl) (pa_cons pe_int pa_nil) (by rfl))) pss_nil)
      (pss_one (ps_ret (pf_makeS (E := fun σ c o H => (fun c o _ H' => E c o H') c o σ H) (ow_Plan___init__ T) (hr.mono (by decide)) T.mk_Plan (by rfl) T.g_Plan (fun σ pins H s e s' I h => passes_call (takes_of rfl rfl rfl rfl) (fun _ _ _ _ h => h) pins σ H s e s' I h) (pa_cons (pf_call (ow_row_of T) (hr.mono (by decide)) (by rfl) T.g_row_of T.d_row_of.kp (pa_cons (pv 0) pa_nil)) pa_nil))))),
    fun EX => (letI : XC := (xcOf K (cnA d) (eaA d) (fun c o _ H' => E c o H') EX [.no]); (simS_seq (simS_if (simT_not (simT_B (sim_NS (sim_call okN (simA_cons (sim_var rfl) simA_nil))))) (simS_raise (n := .Wrong) rfl rfl rfl rfl (sim_NS sim_int)) simS_nil)
      (simS_ret okN (sim_makeX (cn := .Plan) mkI rfl rfl (simA_cons (sim_NS (sim_call okN (simA_cons (sim_var rfl) simA_nil))) simA_nil)))))⟩
def t__law_are_sums : WS := (wSeq (wIfS (wTor (wTnot (wTest (wCall w__law_are_counts (wCons (wVar 0) (wCons (wC (.int 2)) (wCons (wC (.int 49)) wNil)))))) (wTest (wOp wNe (wOp wIx (wVar 0) (wC (.int 0))) (wC (.int 0))))) (wRet (wC (.bl false))) (fun D ρ => D.nx ρ))
      (wRet (wOp (wEqE false) (wLc (wRng1 (wCons (wOp (wI0 fun i j => i - j) (wCB wLen (wCons (wVar 0) wNil)) (wC (.int 1))) wNil)) (wgName 1) (wTest (wOp (wIB fun i j => decide (j < i)) (wOp wIx (wVar 0) (wVar 1)) (wOp wIx (wVar 0) (wOp wAdd (wVar 1) (wC (.int 1)))))) (wVar 1)) (wLst wNil))))
def w__law_are_sums : WF := wDef 1 1 t__law_are_sums
theorem scw__law_are_sums : FnScope ["_law_thing", "_law_mark"] ["_law_thing"] (defScope s__law_are_sums) := ⟨rfl, rfl, rfl, by decide +kernel, rfl, by decide +kernel, by decide +kernel⟩
set_option maxHeartbeats 4000000 in
theorem ow__law_are_sums (T : Tx P base K mg d) : Okf P w K mg base 2 d.f__law_are_sums ["_law_thing"] (spW K (cnA d) (rN K (cnA d)) w__law_are_sums) :=
  okw_of (ts' := [.sh, .no]) T.d__law_are_sums scw__law_are_sums rfl rfl rnonN fun cdv A outer s H E hr =>
    ⟨_, (pss_cons (ps_if (PW.pt (pw_or (pt_not (pt_val (pf_call (ow__law_are_counts T) (hr.mono (by decide)) (by rfl) T.g__law_are_counts T.d__law_are_counts.kp (pa_cons (pv 0) (pa_cons pe_int (pa_cons pe_int pa_nil)))))) (pw_or1 (pt_cmpR (u_ne (K := K) rfl hr.units) (pe_ix (k_ixS (K := K) rfl) (pv 0) pe_int (fun _ _ => rfl)) pe_int (nomark _))))) (pss_one (ps_ret pe_bl)) pss_nil)
      (pss_one (ps_ret (pe_cmpR (u_eqE (K := K) rfl hr.units) (pe_lc (own := [("_law_mark", 1)]) rfl scw__law_are_sums.nd (pi_range1 (by rfl) T.z_range (pa_cons (pe_op op_sub (pe_callB (u_len (K := K) rfl) (by rfl) T.z_len (by decide +kernel) (pa_cons (pv 0) pa_nil)) pe_int) pa_nil)) (blkOk_by (by kernel_rfl)) (fun _ _ _ _ _ => (pg_name (i := 1) scw__law_are_sums.nd rfl (by first | exact Or.inl rfl | exact Or.inr rfl))) (fun _ _ _ _ _ => (pts_one (pt_cmpR op_gt (pe_ix (k_ixS (K := K) rfl) (pv 0) (pv 1) (fun _ _ => rfl)) (pe_ix (k_ixS (K := K) rfl) (pv 0) (pe_op (u_add (K := K) rfl) (pv 1) pe_int) (fun _ _ => rfl)) (nomark _)))) (fun _ _ _ _ _ => (pv 1))) (pe_lst pa_nil) (nomark _))))),
    (simS_seq (simS_if (simT_or (simT_not (simT_B (sim_NS (sim_call okN (simA_cons (sim_var rfl) (simA_cons (sim_NS sim_int) (simA_cons (sim_NS sim_int) simA_nil))))))) (simT_test (sim_NS (sim_op okN ops_ne (sim_SW (sim_op okS ops_ix (sim_SW (sim_var rfl)) (sim_NW sim_int))) (sim_NW sim_int))))) (simS_ret okN sim_bl) simS_nil)
      (simS_ret okN (sim_op okN ops_eqE (sim_NW (sim_lc (vs := [1]) (simI_rng1 (simAW_cons (sim_NW (sim_op okN (ops_I0 (g := fun i j => i - j)) (sim_NW (sim_cb okN cas_len (simAW_cons (sim_SW (sim_var rfl)) simAW_nil))) (sim_NW sim_int))) simAW_nil)) (simG_name (i := 1)) (simT_test (sim_NS (sim_op okN (ops_IB (g := fun i j => decide (j < i))) (sim_SW (sim_op okS ops_ix (sim_SW (sim_var rfl)) (sim_SW (sim_var rfl)))) (sim_SW (sim_op okS ops_ix (sim_SW (sim_var rfl)) (sim_NW (sim_op okN ops_add (sim_SW (sim_var rfl)) (sim_NW sim_int)))))))) (sim_var rfl))) (sim_NW (sim_lst simA_nil)))))⟩
def t_Needs___init__ (a : Addr) (EX : List PV → En → Fs → Prop) : WS := (wSeq (wIfS (wTnot (wTest (wCall w_is_row (wCons (wVar 1) wNil)))) (wRaise EX .Wrong "place" (wC (.int 0))) (fun D ρ => D.nx ρ))
      (wFldS a .Needs "kept_row" (wCB wTupOf (wCons (wVar 1) wNil))))
def w_Needs___init__ : WFX := wInit .Needs 1 0 t_Needs___init__
theorem scw_Needs___init__ : FnScope ["self", "row"] ["self", "row"] (defScope s_Needs___init__) := ⟨rfl, rfl, rfl, by decide +kernel, rfl, by decide +kernel, by decide +kernel⟩
set_option maxHeartbeats 4000000 in
theorem ow_Needs___init__ (T : Tx P base K mg d) : Okf P w K mg base 5 d.f_Needs___init__ ["self", "row"] (spI K (cnA d) (eaA d) .Needs w_Needs___init__) :=
  okwI_of (tx := [.no, .no]) (ts' := [.sh, .sh]) T.d_Needs___init__ scw_Needs___init__ rfl rfl rfl fun cdv A outer s H E hr =>
    ⟨_, (pss_cons (ps_if (pt_not (pt_val (pf_call (ow_is_row T) (hr.mono (by decide)) (by rfl) T.g_is_row T.d_is_row.kp (pa_cons (pv 1) pa_nil)))) (pss_one (ps_raiseE (W := (fun c o _ H' => E c o H')) (k := 1) rfl T.er_Wrong (hr.mono (by decide)) (takes_of rfl rfl rfl rfl) (pa_cons pe_int pa_nil) (by rfl))) pss_nil)
      (pss_one (k_sfld (K := K) rfl (pv 0) (pe_callTy (k_tupOf (K := K) rfl) (by rfl) T.z_tuple (by decide +kernel) (pa_cons (pv 1) pa_nil))))),
    fun a EX => (letI : XC := (xcOf K (cnA d) (eaA d) (fun c o _ H' => E c o H') EX [.no, .no]); (simZ_seq (simZ_of (simS_if (simT_not (simT_B (sim_NS (sim_call okN (simA_cons (sim_var rfl) simA_nil))))) (simS_raise (n := .Wrong) rfl rfl rfl rfl (sim_NS sim_int)) simS_nil))
      (simZ_fld (c := .Needs) rfl rfl T.cl_Needs T.n_Needs_kept_row (sim_NS (sim_cb okN cas_tupOf (simAW_cons (sim_SW (sim_var rfl)) simAW_nil))))))⟩
theorem sc_Plan___eq__ : FnScope ["self", "other"] ["self", "other"] (defScope s_Plan___eq__) := ⟨rfl, rfl, rfl, by decide +kernel, rfl, by decide +kernel, by decide +kernel⟩
def sp_Plan___eq__ (K : PySem.W.Frag) (d : Ads) : Sp := fun vs H Q _ => ∃ (v w : V) (s t : List Int), vs = [v, w] ∧ Pn K d H v s ∧ Pn K d H w t ∧ Q (.bl (decide (s = t))) H
set_option maxHeartbeats 4000000 in
theorem ok_Plan___eq__ (T : Tx P base K mg d) : Okf P w K mg base 1 d.f_Plan___eq__ ["self", "other"] (sp_Plan___eq__ K d) := by
  refine okf_of T.d_Plan___eq__ sc_Plan___eq__ (fun vs H Q E h => ?_) (fun cdv A outer s H vs Q E hr h => ?_)
  · obtain ⟨v, w, s, t, rfl, hN, hM, k⟩ := h
    rfl
  · obtain ⟨v, w, s, t, rfl, hN, hM, k⟩ := h
    refine ⟨_, (pss_one (ps_ret (pe_and (pe_callB (k_isi (K := K) rfl) (by rfl) T.z_isinstance (by decide +kernel) (pa_cons (pv 1) (pa_cons (pe_glob (v := .ref d.c_Plan) (by rfl) T.g_Plan rfl) pa_nil))) (pe_one (pe_cmpR (k_eqD (K := K) rfl hr.units) (k_fld (K := K) rfl (pv 0)) (k_fld (K := K) rfl (pv 1)) (nomark _)))))), ?_⟩
    obtain ⟨q, dq, b, rfl, hq, _⟩ := id hM
    walk_at "rd"
    refine r_isiOwn T.ic_Plan hq ?_
    walk_at "rd"
    refine iteT ?_
    walk_at "rd"
    refine r_rwF hN T.cl_Plan T.n_Plan_kept_begins fun a ha => ?_
    walk_at "rd"
    refine r_rwF hM T.cl_Plan T.n_Plan_kept_begins fun c hc => ?_
    exact r_eqT ha hc k
def w_Plan___eq__ : WF := fun xs P => ∃ (s t : List Int), xs = [pnP s, pnP t] ∧ GoodN s ∧ GoodN t ∧ P (.bl (decide (s = t)))
theorem ow_Plan___eq__ (T : Tx P base K mg d) : Okf P w K mg base 1 d.f_Plan___eq__ ["self", "other"] (spW K (cnA d) (rN K (cnA d)) w_Plan___eq__) := okw_imp (ok_Plan___eq__ T) (fun vs H Q E ⟨F, xs, P, dm, r, ⟨s, t, ex, c1, c2, p⟩, k⟩ => by
  subst ex
  obtain ⟨v1, v2, rfl, r1, r2⟩ := r.two
  exact ⟨v1, v2, s, t, rfl, pn_of r1 c1, pn_of r2 c2, ret_bl dm k p (Ex.refl _)⟩)
def t_law_b0 : WS := (wMut 8 wAppend (wCons (wOp wAdd (wOp wIx (wVar 8) (wUn wNeg (wC (.int 1)))) (wVar 9)) wNil))
def t_law_b1 : WS := (wSeq (wSet 5 (wCall w__law_bent (wCons (wVar 1) (wCons (wVar 3) wNil))))
      (wSeq (wPar 6 7 false false (wCB wReprG (wCons (wVar 5) wNil)) (wLam noEX 0 w__law_heard (fun EX => (wCallX EX w_Plan___init__ (wCons (wVar 5) wNil))) wNil))
      (wSeq (wIfS (wTor (wTest (wOp wNe (wOp wEq (wOp wIx (wVar 7) (wC (.int 0))) (wC (.str "told"))) (wCall w__law_are_counts (wCons (wVar 5) (wCons (wC (.int 1)) (wCons (wC (.int 48)) wNil)))))) (wTand (wTest (wOp wNe (wOp wIx (wVar 7) (wC (.int 0))) (wC (.str "told")))) (wTest (wOp wNeG (wVar 7) (wTup (wCons (wC (.str "wrong")) (wCons (wC (.int 0)) wNil))))))) (wRet (wC (.bl false))) (fun D ρ => D.nx ρ))
      (wSeq (wSetO 8 (wLst (wCons (wC (.int 0)) wNil)))
      (wSeq (wFor (wSeqI (wVar 3)) (wgName 9) t_law_b0)
      (wSeq (wSet 10 (wIf (wTest (wOp wEq (wCall w_take (wCons (wVar 1) (wCons (wC (.int 3)) wNil))) (wC (.int 0)))) (wVar 5) (wCall w__law_bent (wCons (wVar 1) (wCons (wVar 8) wNil)))))
      (wSeq (wSet 7 (wLam noEX 0 w__law_heard (fun EX => (wStatX EX w_Plan_of_sums (wC (.cls .Plan)) (wCons (wVar 10) wNil) .Plan)) wNil))
      (wSeq (wIfS (wTor (wTest (wOp wNe (wOp wEq (wOp wIx (wVar 7) (wC (.int 0))) (wC (.str "told"))) (wCall w__law_are_sums (wCons (wVar 10) wNil)))) (wTand (wTest (wOp wNe (wOp wIx (wVar 7) (wC (.int 0))) (wC (.str "told")))) (wTest (wOp wNeG (wVar 7) (wTup (wCons (wC (.str "wrong")) (wCons (wC (.int 0)) wNil))))))) (wRet (wC (.bl false))) (fun D ρ => D.nx ρ))
      (wIfS (wTest (wOp wNe (wCB wReprG (wCons (wVar 5) wNil)) (wVar 6))) (wRet (wC (.bl false))) (fun D ρ => D.nx ρ))))))))))
def t_law_b2 : WS := (wSeq (wSet 3 (wCall w__law_drawn_row (wCons (wVar 1) (wCons (wC (.int 12)) wNil))))
      (wSeq (wIfS (wTnot (wTest (wCall w__law_doors_right (wCons (wCall (wNoE w_Plan___init__) (wCons (wVar 3) wNil)) (wCons (wVar 3) wNil))))) (wRet (wC (.bl false))) (fun D ρ => D.nx ρ))
      (wFor (wRng1 (wCons (wC (.int 5)) wNil)) (wgName 4) t_law_b1)))
def t_law_b3 : WS := (wIfS (wTest (wOp wNeG (wLam noEX 0 w__law_heard (fun EX => (wStatX EX w_Plan_of_sums (wC (.cls .Plan)) (wCons (wVar 5) wNil) .Plan)) wNil) (wTup (wCons (wC (.str "wrong")) (wCons (wC (.int 0)) wNil))))) (wRet (wC (.bl false))) (fun D ρ => D.nx ρ))
def t_law_b4 : WS := (wIfS (wTest (wOp wNeG (wLam noEX 0 w__law_heard (fun EX => (wCallX EX w_Plan___init__ (wCons (wVar 5) wNil))) wNil) (wTup (wCons (wC (.str "wrong")) (wCons (wC (.int 0)) wNil))))) (wRet (wC (.bl false))) (fun D ρ => D.nx ρ))
def t_law : WS := (wSeq (wSet 1 (wCall w_bag (wCons (wVar 0) wNil)))
      (wSeq (wFor (wRng1 (wCons (wC (.int 5)) wNil)) (wgName 2) t_law_b2)
      (wSeq (wFor (wSeqI (wTup (wCons (wCall (wNoE w_Plan___init__) (wCons (wLst (wCons (wC (.int 0)) (wCons (wC (.int 1)) wNil))) wNil)) (wCons (wCall (wNoE w_Needs___init__) (wCons (wLst (wCons (wC (.int 0)) (wCons (wC (.int 2)) wNil))) wNil)) (wCons (wDct [(.inl 0, 1), (.inl 1, 2)]) wNil))))) (wgName 5) t_law_b3)
      (wSeq (wFor (wSeqI (wTup (wCons (wCall (wNoE w_Plan___init__) (wCons (wLst (wCons (wC (.int 1)) wNil)) wNil)) (wCons (wCall (wNoE w_Needs___init__) (wCons (wLst (wCons (wC (.int 1)) wNil)) wNil)) (wCons (wOp wMul (wLst (wCons (wC (.int 0)) wNil)) (wC (.int 49))) wNil))))) (wgName 5) t_law_b4)
      (wRet (wAndV (wOp wEqG (wLam noEX 0 w__law_heard (fun EX => (wStatX EX w_Plan_of_sums (wC (.cls .Plan)) (wCons (wCallX EX w_Plan___init__ (wCons (wLst (wCons (wC (.int 1)) wNil)) wNil)) wNil) .Plan)) wNil) (wTup (wCons (wC (.str "wrong")) (wCons (wC (.int 0)) wNil)))) (wOp (wOwn .Plan w_Plan___eq__) (wStatX noEX w_Plan_of_sums (wC (.cls .Plan)) (wCons (wOp wMul (wLst (wCons (wC (.int 0)) wNil)) (wC (.int 49))) wNil) .Plan) (wCall (wNoE w_Plan___init__) (wCons (wOp wMul (wLst (wCons (wC (.int 0)) wNil)) (wC (.int 48))) wNil)))))))))
def w_law : WF := wDef 1 10 t_law
theorem scw_law : FnScope ["_law_script", "_law_bag_here", "_law_turn", "_law_row", "_law_k", "_law_thing", "_law_shown", "_law_heard_here", "_law_sums", "_law_number_here", "_law_other"] ["_law_script"] (defScope s_law) := ⟨rfl, rfl, rfl, by decide +kernel, rfl, by decide +kernel, by decide +kernel⟩
set_option maxHeartbeats 4000000 in
theorem ow_law (T : Tx P base K mg d) : OkP NoG P w K mg base 12 d.f_law ["_law_script"] (spW K (cnA d) (rN K (cnA d)) w_law) :=
  okwGC_of (ts' := [.sh, .sh, .no, .no, .no, .no, .no, .no, .no, .no, .no]) T.dc_law scw_law rfl rfl rnonN (fun _ _ => trivial) fun A outer s H E hg hr =>
    ⟨_, (pss_cons (ps_set (i := 1) scw_law.nd rfl (by first | exact Or.inl rfl | exact Or.inr rfl) (pf_call (ow__law_bag T) (hr.mono (by decide)) (by rfl) T.g__law_bag T.d__law_bag.kp (pa_cons (pv 0) pa_nil)))
      (pss_cons (ps_for PassesOwn.never rfl (pi_range1 (by rfl) T.z_range (pa_cons pe_int pa_nil)) (pg_name (i := 2) scw_law.nd rfl (by first | exact Or.inl rfl | exact Or.inr rfl)) (pss_cons (ps_set (i := 3) scw_law.nd rfl (by first | exact Or.inl rfl | exact Or.inr rfl) (pf_call (ow__law_drawn_row T) (hr.mono (by decide)) (by rfl) T.g__law_drawn_row T.d__law_drawn_row.kp (pa_cons (pv 1) (pa_cons pe_int pa_nil))))
      (pss_cons (ps_if (pt_not (pt_val (pg_call (ow__law_doors_right T) (fun _ => hg) (hr.mono (by decide)) (by rfl) T.g__law_doors_right T.d__law_doors_right.kp (pa_cons (pf_make (ow_Plan___init__ T) (hr.mono (by decide)) T.mk_Plan (by rfl) T.g_Plan (pa_cons (pv 3) pa_nil)) (pa_cons (pv 3) pa_nil))))) (pss_one (ps_ret pe_bl)) pss_nil)
      (pss_one (ps_for PassesOwn.never rfl (pi_range1 (by rfl) T.z_range (pa_cons pe_int pa_nil)) (pg_name (i := 4) scw_law.nd rfl (by first | exact Or.inl rfl | exact Or.inr rfl)) (pss_cons (ps_set (i := 5) scw_law.nd rfl (by first | exact Or.inl rfl | exact Or.inr rfl) (pf_call (ow__law_bent T) (hr.mono (by decide)) (by rfl) T.g__law_bent T.d__law_bent.kp (pa_cons (pv 1) (pa_cons (pv 3) pa_nil))))
      (pss_cons (ps_par (i := 6) (j := 7) (by rfl) scw_law.nd rfl rfl (by decide) rfl rfl (pa_cons (pe_callB (k_reprG (K := K) (k := 0) rfl hg (hr.mono (by decide))) (by rfl) T.z_repr (by decide +kernel) (pa_cons (pv 5) pa_nil)) (pa_cons (pe_lam (k := 6) (ps := []) (E := fun _ _ _ _ => False) (ow__law_heard T) (hr.mono (by decide)) (by decide) (by rfl) T.g__law_heard T.d__law_heard.kp (lamP_by (by kernel_rfl)) (fun _ _ _ _ _ us hl => match us, hl with | [], _ => rfl) (fun A out s H E f dd hr => (pf_makeS (E := fun σ c o H => (fun c o _ H' => E c o H') c o σ H) (ow_Plan___init__ T) (hr.mono (by decide)) T.mk_Plan (by rfl) T.g_Plan (fun σ pins H s e s' I h => passes_call (takes_of rfl rfl rfl rfl) (fun _ _ _ _ h => h) pins σ H s e s' I h) (pa_cons (pv 5) pa_nil))) passes_no (pal_last T.tb_law rfl T.ti_law T.tu_law (N := []) (ps := []) (lamP_by (by kernel_rfl)))) pa_nil)) (by rfl))
      (pss_cons (ps_if (PW.pt (pw_or (pt_cmpR (u_ne (K := K) rfl hr.units) (pe_cmpR (u_eq (K := K) rfl hr.units) (pe_ix (k_ixS (K := K) rfl) (pv 7) pe_int (fun _ _ => rfl)) pe_str (nomark _)) (pf_call (ow__law_are_counts T) (hr.mono (by decide)) (by rfl) T.g__law_are_counts T.d__law_are_counts.kp (pa_cons (pv 5) (pa_cons pe_int (pa_cons pe_int pa_nil)))) (nomark _)) (pw_or1 (PW.pt (pw_and (pt_cmpR (u_ne (K := K) rfl hr.units) (pe_ix (k_ixS (K := K) rfl) (pv 7) pe_int (fun _ _ => rfl)) pe_str (nomark _)) (pw_and1 (pt_cmpR (u_neG (K := K) rfl hr.units) (pv 7) (pe_tup (pa_cons pe_str (pa_cons pe_int pa_nil))) (nomark _)))))))) (pss_one (ps_ret pe_bl)) pss_nil)
      (pss_cons (ps_set (i := 8) scw_law.nd rfl (by first | exact Or.inl rfl | exact Or.inr rfl) (pe_lst (pa_cons pe_int pa_nil)))
      (pss_cons (ps_for PassesOwn.never rfl (k_piS (K := K) rfl (pv 3)) (pg_name (i := 9) scw_law.nd rfl (by first | exact Or.inl rfl | exact Or.inr rfl)) (pss_one (ps_expr (pe_bm PySem.F.plainAttrs_list PySem.F.slot_list_append PySem.F.type_list_append mt_append (pv 8) (pa_cons (pe_op (u_add (K := K) rfl) (pe_ix (k_ixS (K := K) rfl) (pv 8) (pe_un un_neg pe_int) (fun _ _ => rfl)) (pv 9)) pa_nil)))))
      (pss_cons (ps_set (i := 10) scw_law.nd rfl (by first | exact Or.inl rfl | exact Or.inr rfl) (pe_ifExp (pt_cmpR (u_eq (K := K) rfl hr.units) (pf_call (ow__law_take T) (hr.mono (by decide)) (by rfl) T.g__law_take T.d__law_take.kp (pa_cons (pv 1) (pa_cons pe_int pa_nil))) pe_int (nomark _)) (pv 5) (pf_call (ow__law_bent T) (hr.mono (by decide)) (by rfl) T.g__law_bent T.d__law_bent.kp (pa_cons (pv 1) (pa_cons (pv 8) pa_nil)))))
      (pss_cons (ps_set (i := 7) scw_law.nd rfl (by first | exact Or.inl rfl | exact Or.inr rfl) (pe_lam (k := 7) (ps := []) (E := fun _ _ _ _ => False) (ow__law_heard T) (hr.mono (by decide)) (by decide) (by rfl) T.g__law_heard T.d__law_heard.kp (lamP_by (by kernel_rfl)) (fun _ _ _ _ _ us hl => match us, hl with | [], _ => rfl) (fun A out s H E f dd hr => (pf_staticS (E := fun σ c o H => (fun c o _ H' => E c o H') c o σ H) (pe_glob (v := .ref d.c_Plan) (by rfl) T.g_Plan rfl) T.st_Plan_of_sums T.d_Plan_of_sums.kp (ow_Plan_of_sums T) (hr.mono (by decide)) (fun σ pins H s e s' I h => passes_call (takes_of rfl rfl rfl rfl) (fun _ _ _ _ h => h) pins σ H s e s' I h) (pa_cons (pv 10) pa_nil))) passes_no (pal_last T.tb_law rfl T.ti_law T.tu_law (N := []) (ps := []) (lamP_by (by kernel_rfl)))))
      (pss_cons (ps_if (PW.pt (pw_or (pt_cmpR (u_ne (K := K) rfl hr.units) (pe_cmpR (u_eq (K := K) rfl hr.units) (pe_ix (k_ixS (K := K) rfl) (pv 7) pe_int (fun _ _ => rfl)) pe_str (nomark _)) (pf_call (ow__law_are_sums T) (hr.mono (by decide)) (by rfl) T.g__law_are_sums T.d__law_are_sums.kp (pa_cons (pv 10) pa_nil)) (nomark _)) (pw_or1 (PW.pt (pw_and (pt_cmpR (u_ne (K := K) rfl hr.units) (pe_ix (k_ixS (K := K) rfl) (pv 7) pe_int (fun _ _ => rfl)) pe_str (nomark _)) (pw_and1 (pt_cmpR (u_neG (K := K) rfl hr.units) (pv 7) (pe_tup (pa_cons pe_str (pa_cons pe_int pa_nil))) (nomark _)))))))) (pss_one (ps_ret pe_bl)) pss_nil)
      (pss_one (ps_if (pt_cmpR (u_ne (K := K) rfl hr.units) (pe_callB (k_reprG (K := K) (k := 0) rfl hg (hr.mono (by decide))) (by rfl) T.z_repr (by decide +kernel) (pa_cons (pv 5) pa_nil)) (pv 6) (nomark _)) (pss_one (ps_ret pe_bl)) pss_nil)))))))))))))))
      (pss_cons (ps_for PassesOwn.never rfl (k_piS (K := K) rfl (pe_tup (pa_cons (pf_make (ow_Plan___init__ T) (hr.mono (by decide)) T.mk_Plan (by rfl) T.g_Plan (pa_cons (pe_lst (pa_cons pe_int (pa_cons pe_int pa_nil))) pa_nil)) (pa_cons (pf_make (ow_Needs___init__ T) (hr.mono (by decide)) T.mk_Needs (by rfl) T.g_Needs (pa_cons (pe_lst (pa_cons pe_int (pa_cons pe_int pa_nil))) pa_nil)) (pa_cons (pe_disp (pps_cons pe_int pe_int (pps_cons pe_int pe_int pps_nil)) (by rfl) (by rfl) (by intro z; cases z) (by decide)) pa_nil))))) (pg_name (i := 5) scw_law.nd rfl (by first | exact Or.inl rfl | exact Or.inr rfl)) (pss_one (ps_if (pt_cmpR (u_neG (K := K) rfl hr.units) (pe_lam (k := 7) (ps := []) (E := fun _ _ _ _ => False) (ow__law_heard T) (hr.mono (by decide)) (by decide) (by rfl) T.g__law_heard T.d__law_heard.kp (lamP_by (by kernel_rfl)) (fun _ _ _ _ _ us hl => match us, hl with | [], _ => rfl) (fun A out s H E f dd hr => (pf_staticS (E := fun σ c o H => (fun c o _ H' => E c o H') c o σ H) (pe_glob (v := .ref d.c_Plan) (by rfl) T.g_Plan rfl) T.st_Plan_of_sums T.d_Plan_of_sums.kp (ow_Plan_of_sums T) (hr.mono (by decide)) (fun σ pins H s e s' I h => passes_call (takes_of rfl rfl rfl rfl) (fun _ _ _ _ h => h) pins σ H s e s' I h) (pa_cons (pv 5) pa_nil))) passes_no (pal_last T.tb_law rfl T.ti_law T.tu_law (N := []) (ps := []) (lamP_by (by kernel_rfl)))) (pe_tup (pa_cons pe_str (pa_cons pe_int pa_nil))) (nomark _)) (pss_one (ps_ret pe_bl)) pss_nil)))
      (pss_cons (ps_for PassesOwn.never rfl (k_piS (K := K) rfl (pe_tup (pa_cons (pf_make (ow_Plan___init__ T) (hr.mono (by decide)) T.mk_Plan (by rfl) T.g_Plan (pa_cons (pe_lst (pa_cons pe_int pa_nil)) pa_nil)) (pa_cons (pf_make (ow_Needs___init__ T) (hr.mono (by decide)) T.mk_Needs (by rfl) T.g_Needs (pa_cons (pe_lst (pa_cons pe_int pa_nil)) pa_nil)) (pa_cons (pe_op u_mul (pe_lst (pa_cons pe_int pa_nil)) pe_int) pa_nil))))) (pg_name (i := 5) scw_law.nd rfl (by first | exact Or.inl rfl | exact Or.inr rfl)) (pss_one (ps_if (pt_cmpR (u_neG (K := K) rfl hr.units) (pe_lam (k := 6) (ps := []) (E := fun _ _ _ _ => False) (ow__law_heard T) (hr.mono (by decide)) (by decide) (by rfl) T.g__law_heard T.d__law_heard.kp (lamP_by (by kernel_rfl)) (fun _ _ _ _ _ us hl => match us, hl with | [], _ => rfl) (fun A out s H E f dd hr => (pf_makeS (E := fun σ c o H => (fun c o _ H' => E c o H') c o σ H) (ow_Plan___init__ T) (hr.mono (by decide)) T.mk_Plan (by rfl) T.g_Plan (fun σ pins H s e s' I h => passes_call (takes_of rfl rfl rfl rfl) (fun _ _ _ _ h => h) pins σ H s e s' I h) (pa_cons (pv 5) pa_nil))) passes_no (pal_last T.tb_law rfl T.ti_law T.tu_law (N := []) (ps := []) (lamP_by (by kernel_rfl)))) (pe_tup (pa_cons pe_str (pa_cons pe_int pa_nil))) (nomark _)) (pss_one (ps_ret pe_bl)) pss_nil)))
      (pss_one (ps_ret (pe_and (pe_cmpR (u_eqG (K := K) rfl hr.units) (pe_lam (k := 7) (ps := []) (E := fun _ _ _ _ => False) (ow__law_heard T) (hr.mono (by decide)) (by decide) (by rfl) T.g__law_heard T.d__law_heard.kp (lamP_by (by kernel_rfl)) (fun _ _ _ _ _ us hl => match us, hl with | [], _ => rfl) (fun A out s H E f dd hr => (pf_staticS (E := fun σ c o H => (fun c o _ H' => E c o H') c o σ H) (pe_glob (v := .ref d.c_Plan) (by rfl) T.g_Plan rfl) T.st_Plan_of_sums T.d_Plan_of_sums.kp (ow_Plan_of_sums T) (hr.mono (by decide)) (fun σ pins H s e s' I h => passes_call (takes_of rfl rfl rfl rfl) (fun _ _ _ _ h => h) pins σ H s e s' I h) (pa_cons (pf_makeS (E := fun σ c o H => (fun c o _ H' => E c o H') c o σ H) (ow_Plan___init__ T) (hr.mono (by decide)) T.mk_Plan (by rfl) T.g_Plan (fun σ pins H s e s' I h => passes_call (takes_of rfl rfl rfl rfl) (fun _ _ _ _ h => h) pins σ H s e s' I h) (pa_cons (pe_lst (pa_cons pe_int pa_nil)) pa_nil)) pa_nil))) passes_no (pal_last T.tb_law rfl T.ti_law T.tu_law (N := []) (ps := []) (lamP_by (by kernel_rfl)))) (pe_tup (pa_cons pe_str (pa_cons pe_int pa_nil))) (nomark _)) (pe_one (pe_cmpR (op_eqB (ow_Plan___eq__ T) (hr.mono (by decide)) T.m_Plan___eq__.at_ T.m_Plan___eq__.fn) (pe_static (pe_glob (v := .ref d.c_Plan) (by rfl) T.g_Plan rfl) T.st_Plan_of_sums T.d_Plan_of_sums.kp (ow_Plan_of_sums T) (hr.mono (by decide)) (pa_cons (pe_op u_mul (pe_lst (pa_cons pe_int pa_nil)) pe_int) pa_nil)) (pf_make (ow_Plan___init__ T) (hr.mono (by decide)) T.mk_Plan (by rfl) T.g_Plan (pa_cons (pe_op u_mul (pe_lst (pa_cons pe_int pa_nil)) pe_int) pa_nil)) (nomark _)))))))))),
    (simS_seq (simS_set (i := 1) (sim_NS (sim_call okN (simA_cons (sim_var rfl) simA_nil))))
      (simS_seq (simS_for (ts := [.sh, .sh, .no, .no, .no, .no, .no, .no, .no, .no, .no]) (simI_rng1 (simAW_cons (sim_NW sim_int) simAW_nil)) (simG_name (i := 2)) (simS_seq (simS_set (i := 3) (sim_NS (sim_call okN (simA_cons (sim_var rfl) (simA_cons (sim_NS sim_int) simA_nil)))))
      (simS_seq (simS_if (simT_not (simT_B (sim_NS (sim_call okN (simA_cons (sim_NS (sim_make (c := .Plan) mkIE (simA_cons (sim_var rfl) simA_nil))) (simA_cons (sim_var rfl) simA_nil)))))) (simS_ret okN sim_bl) simS_nil)
      (simS_for (ts := [.sh, .sh, .sh, .sh, .no, .no, .no, .no, .no, .no, .no]) (simI_rng1 (simAW_cons (sim_NW sim_int) simAW_nil)) (simG_name (i := 4)) (simS_seq (simS_set (i := 5) (sim_call okS (simA_cons (sim_var rfl) (simA_cons (sim_var rfl) simA_nil))))
      (simS_seq (simS_par (i := 6) (j := 7) (k := false) (l := false) (sim_NS (sim_cb okN (cas_reprG T.sm) (simAW_cons (sim_SW (sim_var rfl)) simAW_nil))) (sim_NS (sim_lam0 (n := 0) okN simL_last rfl (fun E EX => (letI : XC := (xcOf K (cnA d) (eaA d) (fun c o _ H' => E c o H') EX [.no, .no, .no, .no, .no, .no, .no, .no, .no, .no, .no]); (sim_NS (sim_makeX (cn := .Plan) mkI rfl rfl (simA_cons (sim_var rfl) simA_nil))))))))
      (simS_seq (simS_if (simT_or (simT_test (sim_NS (sim_op okN ops_ne (sim_NW (sim_op okN ops_eq (sim_SW (sim_op okS ops_ix (sim_SW (sim_var rfl)) (sim_NW sim_int))) (sim_NW sim_str))) (sim_NW (sim_call okN (simA_cons (sim_var rfl) (simA_cons (sim_NS sim_int) (simA_cons (sim_NS sim_int) simA_nil)))))))) (simT_and (simT_test (sim_NS (sim_op okN ops_ne (sim_SW (sim_op okS ops_ix (sim_SW (sim_var rfl)) (sim_NW sim_int))) (sim_NW sim_str)))) (simT_test (sim_NS (sim_op okN ops_neG (sim_SW (sim_var rfl)) (sim_NW (sim_tup (simA_cons (sim_NS sim_str) (simA_cons (sim_NS sim_int) simA_nil))))))))) (simS_ret okN sim_bl) simS_nil)
      (simS_seq (simS_setO (i := 8) (sim_lst (simA_cons (sim_NS sim_int) simA_nil)))
      (simS_seq (simS_for (ts := [.sh, .sh, .sh, .sh, .sh, .sh, .sh, .sh, .ow, .no, .no]) (simI_seq (lp := true) (sim_var rfl)) (simG_name (i := 9)) (simS_mut (i := 8) rfl rfl mus_append (simA_cons (sim_NS (sim_op okN ops_add (sim_SW (sim_op okS ops_ix (sim_varO rfl) (sim_NW (sim_un uns_neg (sim_NW sim_int))))) (sim_SW (sim_var rfl)))) simA_nil)) rfl)
      (simS_seq (simS_conv (ts1 := [.sh, .sh, .sh, .sh, .sh, .sh, .sh, .sh, .sh, .no, .no]) rfl (simS_set (i := 10) (sim_if okS (simT_test (sim_NS (sim_op okN ops_eq (sim_NW (sim_call okN (simA_cons (sim_var rfl) (simA_cons (sim_NS sim_int) simA_nil)))) (sim_NW sim_int)))) (sim_var rfl) (sim_call okS (simA_cons (sim_var rfl) (simA_cons (sim_var rfl) simA_nil))))))
      (simS_seq (simS_set (i := 7) (sim_NS (sim_lam0 (n := 0) okN simL_last rfl (fun E EX => (letI : XC := (xcOf K (cnA d) (eaA d) (fun c o _ H' => E c o H') EX [.no, .no, .no, .no, .no, .no, .no, .no, .no, .no, .no]); (sim_NS (sim_statX .Plan okN rfl rfl (sim_NS (sim_cls .Plan)) (simA_cons (sim_var rfl) simA_nil))))))))
      (simS_seq (simS_if (simT_or (simT_test (sim_NS (sim_op okN ops_ne (sim_NW (sim_op okN ops_eq (sim_SW (sim_op okS ops_ix (sim_SW (sim_var rfl)) (sim_NW sim_int))) (sim_NW sim_str))) (sim_NW (sim_call okN (simA_cons (sim_var rfl) simA_nil)))))) (simT_and (simT_test (sim_NS (sim_op okN ops_ne (sim_SW (sim_op okS ops_ix (sim_SW (sim_var rfl)) (sim_NW sim_int))) (sim_NW sim_str)))) (simT_test (sim_NS (sim_op okN ops_neG (sim_SW (sim_var rfl)) (sim_NW (sim_tup (simA_cons (sim_NS sim_str) (simA_cons (sim_NS sim_int) simA_nil))))))))) (simS_ret okN sim_bl) simS_nil)
      (simS_if (simT_test (sim_NS (sim_op okN ops_ne (sim_NW (sim_cb okN (cas_reprG T.sm) (simAW_cons (sim_SW (sim_var rfl)) simAW_nil))) (sim_SW (sim_var rfl))))) (simS_ret okN sim_bl) simS_nil))))))))) rfl))) rfl)
      (simS_seq (simS_for (ts := [.sh, .sh, .no, .no, .no, .no, .no, .no, .no, .no, .no]) (simI_seq (lp := true) (sim_NS (sim_tup (simA_cons (sim_NS (sim_make (c := .Plan) mkIE (simA_cons (sim_NS (sim_lst (simA_cons (sim_NS sim_int) (simA_cons (sim_NS sim_int) simA_nil)))) simA_nil))) (simA_cons (sim_NS (sim_make (c := .Needs) mkIE (simA_cons (sim_NS (sim_lst (simA_cons (sim_NS sim_int) (simA_cons (sim_NS sim_int) simA_nil)))) simA_nil))) (simA_cons (sim_NS (sim_dct (kvs := [(.inl 0, 1), (.inl 1, 2)]))) simA_nil)))))) (simG_name (i := 5)) (simS_if (simT_test (sim_NS (sim_op okN ops_neG (sim_NW (sim_lam0 (n := 0) okN simL_last rfl (fun E EX => (letI : XC := (xcOf K (cnA d) (eaA d) (fun c o _ H' => E c o H') EX [.no, .no, .no, .no, .no, .no, .no, .no, .no, .no, .no]); (sim_NS (sim_statX .Plan okN rfl rfl (sim_NS (sim_cls .Plan)) (simA_cons (sim_var rfl) simA_nil))))))) (sim_NW (sim_tup (simA_cons (sim_NS sim_str) (simA_cons (sim_NS sim_int) simA_nil))))))) (simS_ret okN sim_bl) simS_nil) rfl)
      (simS_seq (simS_for (ts := [.sh, .sh, .no, .no, .no, .no, .no, .no, .no, .no, .no]) (simI_seq (lp := true) (sim_NS (sim_tup (simA_cons (sim_NS (sim_make (c := .Plan) mkIE (simA_cons (sim_NS (sim_lst (simA_cons (sim_NS sim_int) simA_nil))) simA_nil))) (simA_cons (sim_NS (sim_make (c := .Needs) mkIE (simA_cons (sim_NS (sim_lst (simA_cons (sim_NS sim_int) simA_nil))) simA_nil))) (simA_cons (sim_NS (sim_op okN ops_mul (sim_NW (sim_lst (simA_cons (sim_NS sim_int) simA_nil))) (sim_NW sim_int))) simA_nil)))))) (simG_name (i := 5)) (simS_if (simT_test (sim_NS (sim_op okN ops_neG (sim_NW (sim_lam0 (n := 0) okN simL_last rfl (fun E EX => (letI : XC := (xcOf K (cnA d) (eaA d) (fun c o _ H' => E c o H') EX [.no, .no, .no, .no, .no, .no, .no, .no, .no, .no, .no]); (sim_NS (sim_makeX (cn := .Plan) mkI rfl rfl (simA_cons (sim_var rfl) simA_nil))))))) (sim_NW (sim_tup (simA_cons (sim_NS sim_str) (simA_cons (sim_NS sim_int) simA_nil))))))) (simS_ret okN sim_bl) simS_nil) rfl)
      (simS_ret okN (sim_andV (sim_NS (sim_op okN ops_eqG (sim_NW (sim_lam0 (n := 0) okN simL_last rfl (fun E EX => (letI : XC := (xcOf K (cnA d) (eaA d) (fun c o _ H' => E c o H') EX [.no, .no, .no, .no, .no, .no, .no, .no, .no, .no, .no]); (sim_NS (sim_statX .Plan okN rfl rfl (sim_NS (sim_cls .Plan)) (simA_cons (sim_NS (sim_makeX (cn := .Plan) mkI rfl rfl (simA_cons (sim_NS (sim_lst (simA_cons (sim_NS sim_int) simA_nil))) simA_nil))) simA_nil))))))) (sim_NW (sim_tup (simA_cons (sim_NS sim_str) (simA_cons (sim_NS sim_int) simA_nil)))))) (sim_own okN (ows_own .Plan) (sim_NS (sim_stat0 .Plan okN (sim_NS (sim_cls .Plan)) (simA_cons (sim_NS (sim_op okN ops_mul (sim_NW (sim_lst (simA_cons (sim_NS sim_int) simA_nil))) (sim_NW sim_int))) simA_nil))) (sim_NS (sim_make (c := .Plan) mkIE (simA_cons (sim_NS (sim_op okN ops_mul (sim_NW (sim_lst (simA_cons (sim_NS sim_int) simA_nil))) (sim_NW sim_int))) simA_nil))))))))))⟩
end
section
variable [TabC]
local macro_rules | `(tactic| walk_at "wz") => `(tactic| ((try dsimp only); try simp only [wTry, wLam, wAct, wCount, wCountP, wOwnX, wOwn0, wRaise0, wDct, wMulX, wRepT, wInit, wFldS, wNoE, wIxX, wStatX, wTryC, noEX, wCallX, wMethX, wRaise, wIsX, wExF, wDefX, wDef, wSeq, wCut, wSet, wSetO, wPar, wPar3, wTupO, wAsg, wAug, wAugS, wSub, wSubN, wMut, wDrop, wRet, wIfS, wFor, wVar, wC, wOp, wUn, wNeg, wII, wI0, wIB, wAdd, wMul, wIsN, wIx, wTest, wTand, wTor, wTnot, wTyes, wAndV, wOrV, wNotV, wIf, wChain, wChain3, wNil, wCons, wLst, wTup, wNL, wScal, wSl, wNoPart, wPart, wSl1, wRev, wRevT, wFld, wFldC, wCB, wLen, wListOf, wTupOf, wAbs, wInt1, wMin2, wMax2, wStrI, wCall, wCallL, wMeth, wProp, wStat, wOwn, wOwnNe, wOwnI, wOwnR, wIxO, wLenO, wEq, wNe, wInT, wIsB, wIsnB, wLstRg, wMakeK, wMakeKg, wDict3, wSeqI, wEnum, wZip, wRng1, wRng2, wgName, wgSub, wgNil, wgCons, wgTup, wgLst, wListZip, wAppend, wExtend, wInsert, wClear, wLc, wLc2, wIsi, wIsiT, isL, tyP, notL, scalP, and_true, true_and, if_true, Bool.true_eq_false, Bool.false_eq_true, if_false, reduceIte, reduceCtorEq, false_implies, implies_true, List.set, List.replicate, List.cons_append, List.nil_append, List.append_nil, List.getD_cons_zero, List.getD_cons_succ, List.length_cons, List.length_nil, List.length_map, Nat.reduceAdd, Nat.reduceLeDiff, Bool.and_self, Bool.not_true, Bool.not_false, Bool.not_not, decide_true, decide_false, SimP.isLs, putR, rep1, List.set_cons_zero, List.set_cons_succ, at0, at1, at2, at3, at4, Option.some.injEq, exists_eq_left', stP]))
local macro_rules | `(tactic| walk_at "s1") => `(tactic| first | omega | exact fun _ => ⟨_, rfl⟩ | exact ⟨_, rfl⟩ | exact trivial | (intro q; exact nomatch q) | decide | (refine ⟨?_, ?_⟩ <;> first | omega | exact fun _ => ⟨_, rfl⟩ | exact ⟨_, rfl⟩ | (intro q; exact nomatch q)) | (refine ⟨?_, ?_, ?_⟩ <;> first | omega | exact fun _ => ⟨_, rfl⟩ | exact ⟨_, rfl⟩ | (intro q; exact nomatch q)) | (simp only [List.length_map, List.length_range, List.length_append, List.length_singleton, List.length_take, List.length_drop, List.nil_append]; omega))
local macro_rules | `(tactic| walk_at "sd") => `(tactic| repeat ((with_reducible refine And.intro ?_ ?_); · walk_at "s1"))
theorem p__law_one {P : PV → Prop} {xs : List PV} (h0 : 0 < xs.length) (h1 : xs.length < 1073741824) (p : ∀ x ∈ xs, P x) : w__law_one [.bag, .lst xs] P := by
  unfold w__law_one t__law_one
  walk_at "wz"
  refine tk (by omega) (by omega) fun u u0 u1 => ⟨_, at_any u0 (by omega), p _ ?_⟩
  rw [List.getD_eq_getElem?_getD, List.getElem?_eq_getElem (by omega)]
  exact List.getElem_mem _
def Odd (x : PV) : Prop := PvG x 40000 58
theorem sml_lit (s : String) {n : Nat} (h : (Str.ofString s).length ≤ n := by decide) : Sml (Str.ofString s) n := ⟨h, sml_of s⟩
theorem odd_str (s : String) (h : (Str.ofString s).length ≤ 1000 := by decide) : PvG (.str (Str.ofString s)) 1000 0 := pg_str (sml_lit s h)
theorem pg_lst1 {x : PV} {w k : Nat} (h : PvG x w k) : PvG (.lst [x]) (w + 1) (k + 1) := (pg_lst (n := 1) (fun y hy => by rw [List.mem_singleton.mp hy]; exact h) (Nat.le_refl _)).mono (by omega) (Nat.le_refl _)
theorem all_nil {p : PV → Prop} : ∀ x ∈ ([] : List PV), p x := fun _ h => nomatch h
theorem all_cons {p : PV → Prop} {x : PV} {xs : List PV} (h : p x) (t : ∀ y ∈ xs, p y) : ∀ y ∈ x :: xs, p y := fun y hy => by
  rcases List.mem_cons.mp hy with rfl | hy
  · exact h
  · exact t y hy
theorem all_app {p : PV → Prop} {xs ys : List PV} (h : ∀ y ∈ xs, p y) (t : ∀ y ∈ ys, p y) : ∀ y ∈ xs ++ ys, p y := fun y hy => (List.mem_append.mp hy).elim (h y) (t y)
def OddE (we : WE) (ρ : List PV) : Prop := ∀ K : PV → Prop, (∀ x, Odd x → K x) → we ρ K
theorem oe_c {ρ : List PV} {x : PV} (h : Odd x) : OddE (wC x) ρ := fun K k => k x h
theorem oe_int {ρ : List PV} {i : Int} (h : i.natAbs < 1000 := by decide) : OddE (wC (.int i)) ρ := oe_c ((pg_small h).mono (by decide) (by decide))
theorem oe_str {ρ : List PV} (s : String) (h : (Str.ofString s).length ≤ 1000 := by decide) : OddE (wC (.str (Str.ofString s))) ρ := oe_c ((odd_str s h).mono (by decide) (by decide))
theorem oe_bl {ρ : List PV} {b : Bool} : OddE (wC (.bl b)) ρ := oe_c (pg_bl.mono (by decide) (by decide))
theorem oe_non {ρ : List PV} : OddE (wC .non) ρ := oe_c (pg_non.mono (by decide) (by decide))
theorem oe_dct {ρ : List PV} {kvs : List (Key × Int)} (h : ∀ a, Odd (.dct a kvs)) : OddE (wDct kvs) ρ := fun K k a => k _ (h a)
def Tiny (x : PV) : Prop := PvG x 1100 2
def TinE (we : WE) (ρ : List PV) : Prop := ∀ K : PV → Prop, (∀ x, Tiny x → K x) → we ρ K
def TinA (n : Nat) (wa : WA) (ρ : List PV) : Prop := ∀ K : List PV → Prop, (∀ xs, xs.length = n → (∀ x ∈ xs, Tiny x) → K xs) → wa ρ K
theorem ta_nil {ρ : List PV} : TinA 0 wNil ρ := fun K h => h [] rfl all_nil
theorem ta_cons {ρ : List PV} {n : Nat} {we : WE} {wa : WA} (h : TinE we ρ) (t : TinA n wa ρ) : TinA (n + 1) (wCons we wa) ρ := fun K k => h _ fun x hx => t _ fun xs hl ha => k (x :: xs) (by rw [List.length_cons, hl]) (all_cons hx ha)
theorem te_c {ρ : List PV} {x : PV} (h : Tiny x) : TinE (wC x) ρ := fun K k => k x h
theorem te_int {ρ : List PV} {i : Int} (h : i.natAbs < 1000 := by decide) : TinE (wC (.int i)) ρ := te_c ((pg_small h).mono (by decide) (by decide))
theorem te_str {ρ : List PV} (s : String) (h : (Str.ofString s).length ≤ 1000 := by decide) : TinE (wC (.str (Str.ofString s))) ρ := te_c ((odd_str s h).mono (by decide) (by decide))
theorem te_bl {ρ : List PV} {b : Bool} : TinE (wC (.bl b)) ρ := te_c (pg_bl.mono (by decide) (by decide))
theorem te_non {ρ : List PV} : TinE (wC .non) ρ := te_c (pg_non.mono (by decide) (by decide))
theorem te_neg {ρ : List PV} {i : Int} (h : i.natAbs < 1000 := by decide) : TinE (wUn wNeg (wC (.int i))) ρ := fun K k => k (.int (-i)) ((pg_small (by omega)).mono (by decide) (by decide))
theorem oe_neg {ρ : List PV} {i : Int} (h : i.natAbs < 1000 := by decide) : OddE (wUn wNeg (wC (.int i))) ρ := fun K k => k (.int (-i)) ((pg_small (by omega)).mono (by decide) (by decide))
theorem tiny_in {xs : List PV} (h : ∀ x ∈ xs, Tiny x) {n : Nat} (hl : xs.length = n) (hn : n ≤ 4) : Odd (.lst xs) ∧ Odd (.tup xs) := by
  have hw : xs.length ≤ 4 := by omega
  exact ⟨(pg_lst h hw).mono (by decide) (by decide), (pg_tup h hw).mono (by decide) (by decide)⟩
theorem oe_lst {ρ : List PV} {n : Nat} {wa : WA} (h : TinA n wa ρ) (hn : n ≤ 4 := by decide) : OddE (wLst wa) ρ := fun K k => h _ fun xs hl ha => ⟨by omega, k _ (tiny_in ha hl hn).1⟩
theorem oe_tup {ρ : List PV} {n : Nat} {wa : WA} (h : TinA n wa ρ) (hn : n ≤ 4 := by decide) : OddE (wTup wa) ρ := fun K k => h _ fun xs hl ha => ⟨by omega, k _ (tiny_in ha hl hn).2⟩
theorem te_lst1 {ρ : List PV} {we : WE} (x : PV) (h : PvG x 1000 0) (e : ∀ K : PV → Prop, K x → we ρ K) : TinE (wLst (wCons we wNil)) ρ := fun K k => e _ ⟨by simp, k _ ((pg_lst1 h).mono (by decide) (by decide))⟩
theorem te_tup2 {ρ : List PV} {s : String} {i : Int} (hs : (Str.ofString s).length ≤ 500 := by decide) (h : i.natAbs < 1000 := by decide) : TinE (wTup (wCons (wC (.str (Str.ofString s))) (wCons (wC (.int i)) wNil))) ρ := fun K k => ⟨by simp, k _ ((pg_tup (w := 500) (k := 0) (n := 2) (all_cons (pg_str (sml_lit s hs)) (all_cons ((pg_small h).mono (by decide) (by decide)) all_nil)) (by simp)).mono (by decide) (by decide))⟩
theorem oe_rep {ρ : List PV} {i m : Int} (h : i.natAbs < 2) (m0 : 0 ≤ m) (hm : m ≤ 3000) : OddE (wOp wMul (wLst (wCons (wC (.int i)) wNil)) (wC (.int m))) ρ := fun K k => ⟨by simp, by
  show _ ≤ _ ∧ _ < _ ∧ _ ∧ _
  refine ⟨by omega, by omega, by simp only [List.length_singleton]; omega, k _ ?_⟩
  refine (pg_lst (w := 11) (k := 0) (n := 3000) (fun x hx => ?_) ?_).mono (by decide) (by decide)
  · simp only [List.mem_flatten, List.mem_replicate] at hx
    obtain ⟨l, ⟨_, rfl⟩, hx⟩ := hx
    rw [List.mem_singleton.mp hx]
    exact pg_small (by omega)
  · rw [List.length_flatten, List.map_replicate, List.sum_replicate_nat]
    simp only [List.length_singleton]
    omega⟩
local macro_rules | `(tactic| walk_at "te") => `(tactic| first | exact te_int | exact te_bl | exact te_non | exact te_str _ | exact te_neg | exact te_tup2 | exact te_lst1 _ (pg_small (by decide) |>.mono (by decide) (by decide)) (fun _ k => k) | exact te_lst1 _ (odd_str _ |>.mono (by decide) (by decide)) (fun _ k => k))
local macro_rules | `(tactic| walk_at "oe") => `(tactic| first | exact oe_int | exact oe_bl | exact oe_non | exact oe_str _ | exact oe_neg | exact oe_dct (fun _ => pg_dct) | exact oe_lst (n := 0) ta_nil | exact oe_tup (n := 0) ta_nil | (refine oe_lst (n := 1) (ta_cons ?_ ta_nil); all_goals (walk_at "te")) | (refine oe_tup (n := 1) (ta_cons ?_ ta_nil); all_goals (walk_at "te")) | (refine oe_lst (n := 2) (ta_cons ?_ (ta_cons ?_ ta_nil)); all_goals (walk_at "te")) | (refine oe_tup (n := 2) (ta_cons ?_ (ta_cons ?_ ta_nil)); all_goals (walk_at "te")) | (refine oe_lst (n := 3) (ta_cons ?_ (ta_cons ?_ (ta_cons ?_ ta_nil))); all_goals (walk_at "te")) | (refine oe_tup (n := 3) (ta_cons ?_ (ta_cons ?_ (ta_cons ?_ ta_nil))); all_goals (walk_at "te")) | exact oe_rep (by decide) (by decide) (by decide))
theorem p_is_integer_g {P : PV → Prop} {x : PV} (h : (∃ e, toG x = some e) ∨ insC x = some .Plan) (p : P (.bl (isW x))) : w_is_integer [x] P := by
  unfold w_is_integer t_is_integer
  rcases h with ⟨e, h⟩ | h
  · cases x with
    | int i =>
      walk_at "wz"
      refine ⟨_, _, rfl, .inr ⟨"int", true, rfl, by decide +kernel, ?_⟩⟩
      walk_at "wz"
      exact ⟨_, _, rfl, .inr ⟨"int", false, rfl, by decide +kernel, p⟩⟩
    | bl b =>
      walk_at "wz"
      refine ⟨_, _, rfl, .inr ⟨"bool", true, rfl, by decide +kernel, ?_⟩⟩
      walk_at "wz"
      exact ⟨_, _, rfl, .inr ⟨"bool", true, rfl, by decide +kernel, p⟩⟩
    | non =>
      walk_at "wz"
      refine ⟨_, _, rfl, .inr ⟨"NoneType", false, rfl, by decide +kernel, ?_⟩⟩
      walk_at "wz"
      exact p
    | str s =>
      walk_at "wz"
      refine ⟨_, _, rfl, .inr ⟨"str", false, rfl, by decide +kernel, ?_⟩⟩
      walk_at "wz"
      exact p
    | lst s =>
      walk_at "wz"
      refine ⟨_, _, rfl, .inr ⟨"list", false, rfl, by decide +kernel, ?_⟩⟩
      walk_at "wz"
      exact p
    | tup s =>
      walk_at "wz"
      refine ⟨_, _, rfl, .inr ⟨"tuple", false, rfl, by decide +kernel, ?_⟩⟩
      walk_at "wz"
      exact p
    | dct a s =>
      walk_at "wz"
      refine ⟨_, _, rfl, .inr ⟨"dict", false, rfl, by decide +kernel, ?_⟩⟩
      walk_at "wz"
      exact p
    | _ => simp only [toG, reduceCtorEq] at h
  · have e : isW x = false := by cases x <;> first | rfl | cases h
    rw [e] at p
    walk_at "wz"
    refine ⟨_, _, rfl, .inl ⟨.Plan, h, by simp, ?_⟩⟩
    walk_at "wz"
    exact p
theorem p_is_hour_g {P : PV → Prop} {x : PV} {n : Int} (h : (∃ e, toG x = some e) ∨ insC x = some .Plan) (p : P (.bl (isH n x))) : w_is_hour [.int n, x] P := by
  unfold w_is_hour t_is_hour
  walk_at "wz"
  refine p_is_integer_g h ?_
  cases x with
  | int i =>
    walk_at "wz"
    have p : P (.bl (decide (0 ≤ i) && decide (i < n))) := p
    refine r_ite (fun h => ?_) (fun h => ?_)
    · rw [decide_eq_true h] at p
      exact p
    · rw [decide_eq_false h] at p
      exact p
  | _ => walk_at "wz"; exact p
def isC : PV → Bool
  | .int i => decide (0 ≤ i)
  | _ => false
theorem toGs_mem : ∀ {xs : List PV} {es : List PyData}, toGs xs = some es → ∀ x ∈ xs, ∃ e, toG x = some e
  | [], _, _, x, hx => nomatch hx
  | y :: ys, es, h, x, hx => by
    obtain ⟨a, b, h1, h2, rfl⟩ := toGs_cons h
    rcases List.mem_cons.mp hx with rfl | hx
    · exact ⟨a, h1⟩
    · exact toGs_mem h2 x hx
theorem p_is_count_g {P : PV → Prop} {x : PV} (h : ∃ e, toG x = some e) (p : P (.bl (isC x))) : w_is_count [x] P := by
  unfold w_is_count t_is_count
  walk_at "wz"
  refine p_is_integer_g (.inl h) ?_
  cases x with
  | int i => walk_at "wz"; exact p
  | _ => walk_at "wz"; exact p
def itemsP : PV → Option (List PV)
  | .lst xs => some xs
  | .tup xs => some xs
  | _ => none
def rowB (x : PV) : Bool := match itemsP x with
  | some xs => decide (1 ≤ xs.length) && decide (xs.length ≤ 48) && xs.all isC
  | none => false
theorem items_g {x : PV} {xs : List PV} (h : ∃ e, toG x = some e) (hx : itemsP x = some xs) : ∀ y ∈ xs, ∃ e, toG y = some e := by
  obtain ⟨e, h⟩ := h
  cases x with
  | lst ys =>
    cases hx
    simp only [toG, Option.map_eq_some_iff] at h
    obtain ⟨es, h, _⟩ := h
    exact toGs_mem h
  | tup ys =>
    cases hx
    simp only [toG, Option.map_eq_some_iff] at h
    obtain ⟨es, h, _⟩ := h
    exact toGs_mem h
  | _ => cases hx
theorem p_are_counts_g {P : PV → Prop} {x : PV} {xs : List PV} (h : ∃ e, toG x = some e) (hx : itemsP x = some xs) (hl : xs.length ≤ 48) (p : P (.bl (xs.all isC))) : w_are_counts [.int (xs.length : Int), x] P := by
  have ig := items_g h hx
  have go : ∀ (acc : PV) (Q : PV → Prop), Q (.lst (xs.map fun y => .bl (isC y))) → wLcL (wgName 2) wTyes (wCall w_is_count (wCons (wVar 2) wNil)) [.int (xs.length : Int), x, .non] xs [] fun ys => Q (.lst ys) := fun acc Q q => by
    have := lcm (ρ := [.int (xs.length : Int), x, .non]) (wg := wgName 2) (we := wCall w_is_count (wCons (wVar 2) wNil)) (acc := []) (P := fun ys => Q (.lst ys)) (ys := xs) (g := id) (fun y => .bl (isC y)) (fun y hy Kt hk => by
      walk_at "wz"
      exact p_is_count_g (ig y hy) hk) (by simpa using q)
    rw [List.map_id] at this
    exact this
  unfold w_are_counts t_are_counts
  cases x with
  | lst ys =>
    cases hx
    walk_at "wz"
    refine .inr ⟨"list", true, false, rfl, by decide +kernel, by decide +kernel, ?_⟩
    walk_at "wz"
    refine ⟨by omega, go .non (fun y => wAll [y] P) ?_⟩
    exact all_of p
  | tup ys =>
    cases hx
    walk_at "wz"
    refine .inr ⟨"tuple", false, true, rfl, by decide +kernel, by decide +kernel, ?_⟩
    walk_at "wz"
    refine ⟨by omega, go .non (fun y => wAll [y] P) ?_⟩
    exact all_of p
  | _ => cases hx
def Rowd (x : PV) : Prop := (∃ e, toG x = some e) ∨ ∃ c fs, x = .ins c fs ∧ (c = .Needs ∨ c = .Plan)
theorem row_if {n : Int} {A B : Prop} (a : ¬ (1 ≤ n ∧ n ≤ 48) → A) (b : (1 ≤ n ∧ n ≤ 48) → B) : (if decide (1 ≤ n) = true then (if (!decide (n ≤ 48)) = true then A else B) else A) := by
  split
  · next h1 =>
    have h1 := of_decide_eq_true h1
    split
    · next h2 =>
      refine a fun z => ?_
      rw [decide_eq_true z.2] at h2
      cases h2
    · next h2 =>
      refine b ⟨h1, ?_⟩
      by_cases h : n ≤ 48
      · exact h
      · rw [decide_eq_false h] at h2
        exact absurd rfl h2
  · next h1 => exact a fun z => h1 (decide_eq_true z.1)
theorem rowB_of {x : PV} {xs : List PV} (hx : itemsP x = some xs) : rowB x = (decide (1 ≤ xs.length) && decide (xs.length ≤ 48) && xs.all isC) := by
  unfold rowB
  rw [hx]
theorem row_fin {P : PV → Prop} {x : PV} {xs : List PV} (h : ∃ e, toG x = some e) (hx : itemsP x = some xs) (p : P (.bl (rowB x))) : (if decide (1 ≤ (xs.length : Int)) = true then (if (!decide ((xs.length : Int) ≤ 48)) = true then P (.bl false) else w_are_counts [.int (xs.length : Int), x] P) else P (.bl false)) := by
  rw [rowB_of hx] at p
  refine row_if (fun z => ?_) (fun z => ?_)
  · have e : (decide (1 ≤ xs.length) && decide (xs.length ≤ 48)) = false := by
      rw [Bool.and_eq_false_iff, decide_eq_false_iff_not, decide_eq_false_iff_not]
      omega
    rw [e] at p
    exact p
  · refine p_are_counts_g h hx (by omega) ?_
    rw [decide_eq_true (show 1 ≤ xs.length by omega), decide_eq_true (show xs.length ≤ 48 by omega)] at p
    exact p
theorem p_is_row_g {P : PV → Prop} {x : PV} (h : Rowd x) (hs : ∀ xs, itemsP x = some xs → xs.length ≤ 100000) (p : P (.bl (rowB x))) : w_is_row [x] P := by
  rcases h with h | ⟨c, fs, rfl, hc⟩
  · unfold w_is_row t_is_row
    cases x with
    | lst ys =>
      have hl := hs ys rfl
      walk_at "wz"
      refine .inr ⟨"list", true, false, rfl, by decide +kernel, by decide +kernel, ?_⟩
      simp only [Bool.or_false, Bool.or_true, Bool.true_or, Bool.not_true, Bool.false_eq_true, if_false]
      exact row_fin h rfl p
    | tup ys =>
      have hl := hs ys rfl
      walk_at "wz"
      refine .inr ⟨"tuple", false, true, rfl, by decide +kernel, by decide +kernel, ?_⟩
      simp only [Bool.or_false, Bool.or_true, Bool.true_or, Bool.not_true, Bool.false_eq_true, if_false]
      exact row_fin h rfl p
    | non =>
      walk_at "wz"
      refine .inr ⟨"NoneType", false, false, rfl, by decide +kernel, by decide +kernel, ?_⟩
      walk_at "wz"
      exact p
    | bl b =>
      walk_at "wz"
      refine .inr ⟨"bool", false, false, rfl, by decide +kernel, by decide +kernel, ?_⟩
      walk_at "wz"
      exact p
    | int b =>
      walk_at "wz"
      refine .inr ⟨"int", false, false, rfl, by decide +kernel, by decide +kernel, ?_⟩
      walk_at "wz"
      exact p
    | str b =>
      walk_at "wz"
      refine .inr ⟨"str", false, false, rfl, by decide +kernel, by decide +kernel, ?_⟩
      walk_at "wz"
      exact p
    | dct a b =>
      walk_at "wz"
      refine .inr ⟨"dict", false, false, rfl, by decide +kernel, by decide +kernel, ?_⟩
      walk_at "wz"
      exact p
    | _ =>
      obtain ⟨e, h⟩ := h
      simp only [toG, reduceCtorEq] at h
  · unfold w_is_row t_is_row
    walk_at "wz"
    rcases hc with rfl | rfl
    · refine .inl ⟨.Needs, rfl, by simp, by simp, ?_⟩
      walk_at "wz"
      exact p
    · refine .inl ⟨.Plan, rfl, by simp, by simp, ?_⟩
      walk_at "wz"
      exact p
theorem noKs_cnt {ks : List Str} : ∀ {xs : List PV}, xs.all isC = true → noKs ks xs = true
  | [], _ => by simp only [noKs]
  | x :: xs, h => by
    rw [List.all_cons, Bool.and_eq_true] at h
    have hx : noK ks x = true := by
      cases x with
      | int i => simp only [noK]
      | _ => cases h.1
    simp only [noKs, hx, noKs_cnt h.2, Bool.and_self]
theorem p_mkNeeds {P : PV → Prop} {EX : En → Fs → Prop} {x : PV} (h : Rowd x) (hs : ∀ xs, itemsP x = some xs → xs.length ≤ 100000) (p : ∀ xs, itemsP x = some xs → rowB x = true → P (.ins .Needs [("kept_row", .tup xs)])) (q : rowB x = false → EX .Wrong [("place", .int 0)]) : w_Needs___init__ [x] P EX := by
  unfold w_Needs___init__ wInit
  refine ⟨rfl, fun a => ?_⟩
  unfold t_Needs___init__
  walk_at "wz"
  refine p_is_row_g h hs ?_
  cases e : rowB x with
  | false =>
    walk_at "wz"
    exact q e
  | true =>
    walk_at "wz"
    have al : ∀ xs, itemsP x = some xs → xs.all isC = true := fun xs hx => by
      rw [rowB_of hx] at e
      exact (Bool.and_eq_true_iff.mp e).2
    cases x with
    | lst ys =>
      have n := noKs_cnt (ks := []) (al ys rfl)
      refine ⟨[], rfl, by decide, ?_, rfl, ?_, _, rfl, p ys rfl e⟩
      · show noK [] (.tup ys) = true
        simp only [noK]
        exact n
      · show noKs [] [.lst ys] = true
        simp only [noKs, noK, n, Bool.and_self]
    | tup ys =>
      have n := noKs_cnt (ks := []) (al ys rfl)
      refine ⟨[], rfl, by decide, ?_, rfl, ?_, _, rfl, p ys rfl e⟩
      · show noK [] (.tup ys) = true
        simp only [noK]
        exact n
      · show noKs [] [.tup ys] = true
        simp only [noKs, noK, n, Bool.and_self]
    | _ => cases e
theorem p_mkPlan {P : PV → Prop} {EX : En → Fs → Prop} {x : PV} (h : Rowd x) (hs : ∀ xs, itemsP x = some xs → xs.length ≤ 100000) (p : ∀ xs, itemsP x = some xs → rowB x = true → P (.ins .Plan [("kept_begins", .tup xs)])) (q : rowB x = false → EX .Wrong [("place", .int 0)]) : w_Plan___init__ [x] P EX := by
  unfold w_Plan___init__ wInit
  refine ⟨rfl, fun a => ?_⟩
  unfold t_Plan___init__
  walk_at "wz"
  refine p_is_row_g h hs ?_
  cases e : rowB x with
  | false =>
    walk_at "wz"
    exact q e
  | true =>
    walk_at "wz"
    have al : ∀ xs, itemsP x = some xs → xs.all isC = true := fun xs hx => by
      rw [rowB_of hx] at e
      exact (Bool.and_eq_true_iff.mp e).2
    cases x with
    | lst ys =>
      have n := noKs_cnt (ks := []) (al ys rfl)
      refine ⟨[], rfl, by decide, ?_, rfl, ?_, _, rfl, p ys rfl e⟩
      · show noK [] (.tup ys) = true
        simp only [noK]
        exact n
      · show noKs [] [.lst ys] = true
        simp only [noKs, noK, n, Bool.and_self]
    | tup ys =>
      have n := noKs_cnt (ks := []) (al ys rfl)
      refine ⟨[], rfl, by decide, ?_, rfl, ?_, _, rfl, p ys rfl e⟩
      · show noK [] (.tup ys) = true
        simp only [noK]
        exact n
      · show noKs [] [.tup ys] = true
        simp only [noKs, noK, n, Bool.and_self]
    | _ => cases e
theorem p__law_drawn_row {P : PV → Prop} (p : ∀ s : List Int, 1 ≤ s.length → s.length ≤ 12 → (∀ z ∈ s, 0 ≤ z ∧ z < 10 ^ 30) → P (.lst (iL s))) : w__law_drawn_row [.bag, .int 12] P := by
  unfold w__law_drawn_row t__law_drawn_row
  walk_at "wz"
  refine tk (by omega) (by omega) fun u u0 u1 => ?_
  walk_at "wz"
  have rl : (rangeP 0 (1 + u).toNat).length = (1 + u).toNat := by rw [rangeP0, List.length_map, List.length_range]
  refine ⟨by omega, by omega, by rw [rl]; omega, ?_⟩
  refine lci (fun z => 0 ≤ z ∧ z < 10 ^ 30) (fun x hx Kt hk => ?_) fun ns hl hr => ?_
  · rw [rangeP0] at hx
    obtain ⟨j, hj, rfl⟩ := List.mem_map.mp hx
    walk_at "wz"
    exact ⟨rfl, fun n n0 n1 => hk n ⟨n0, n1⟩⟩
  · rw [rl] at hl
    exact p ns (by omega) (by omega) hr
theorem isH_out {n i : Int} (h : i < 0 ∨ n ≤ i) : isH n (.int i) = false := by
  show (decide (0 ≤ i) && decide (i < n)) = false
  rw [Bool.and_eq_false_iff, decide_eq_false_iff_not, decide_eq_false_iff_not]
  omega
def AllA (p : PV → Prop) (n : Nat) (wa : WA) (ρ : List PV) : Prop := ∀ K : List PV → Prop, (∀ xs, xs.length = n → (∀ x ∈ xs, p x) → K xs) → wa ρ K
theorem aa_nil {p : PV → Prop} {ρ : List PV} : AllA p 0 wNil ρ := fun K h => h [] rfl all_nil
theorem aa_cons {p : PV → Prop} {ρ : List PV} {n : Nat} {we : WE} {wa : WA} (h : ∀ K : PV → Prop, (∀ x, p x → K x) → we ρ K) (t : AllA p n wa ρ) : AllA p (n + 1) (wCons we wa) ρ := fun K k => h _ fun x hx => t _ fun xs hl ha => k (x :: xs) (by rw [List.length_cons, hl]) (all_cons hx ha)
theorem for_all {p : PV → Prop} {n : Nat} {wa : WA} {g : WG} {B : WS} {D : WEnds} {ρ : List PV} (h : AllA p n wa ρ) (hn : n ≤ 1000) (k : ∀ xs, (∀ x ∈ xs, p x) → wForL g B D xs ρ) : wFor (wSeqI (wTup wa)) g B D ρ := h _ fun xs hl ha => ⟨by omega, k xs ha⟩
theorem odd_ten {i : Int} (h : i = 10 ^ 40) : Odd (.int i) := by
  subst h
  exact (pg_int (by decide)).mono (by decide) (by decide)
theorem one_all {p : PV → Prop} {n : Nat} {wa : WA} {ρ : List PV} {K : PV → Prop} (e0 : ρ.getD 0 .non = .bag) (h : AllA p n wa ρ) (hn : 0 < n ∧ n ≤ 100) (k : ∀ x, p x → K x) : wCall w__law_one (wCons (wVar 0) (wCons (wLst wa) wNil)) ρ K := by
  simp only [wCall, wCons, wVar, wNil, wLst, e0]
  exact h _ fun xs hl ha => ⟨by omega, p__law_one (by omega) (by omega) fun x hx => k x (ha x hx)⟩
def Bent (x : PV) : Prop := Odd x ∧ ∀ xs, itemsP x = some xs → xs.length ≤ 100
theorem bent_no {x : PV} (o : Odd x) (h : itemsP x = none) : Bent x := ⟨o, fun xs e => by rw [h] at e; cases e⟩
theorem bent_lst {xs : List PV} (h : ∀ x ∈ xs, Tiny x) (hl : xs.length ≤ 30) : Bent (.lst xs) := ⟨(pg_lst h hl).mono (by decide) (by decide), fun ys e => by cases e; omega⟩
theorem bent_tup {xs : List PV} (h : ∀ x ∈ xs, Tiny x) (hl : xs.length ≤ 30) : Bent (.tup xs) := ⟨(pg_tup h hl).mono (by decide) (by decide), fun ys e => by cases e; omega⟩
theorem bent_lst2 {xs : List PV} (h : ∀ x ∈ xs, PvG x 206 0) (hl : xs.length ≤ 100) : Bent (.lst xs) := ⟨(pg_lst h hl).mono (by decide) (by decide), fun ys e => by cases e; omega⟩
theorem aaa : Sml (Txt.mul (Str.ofString "a") 4000) 4000 := by
  have e : ∀ c ∈ (Txt.mul (Str.ofString "a") 4000).cps.toList, c = 97 := by
    have : ((Txt.mul (Str.ofString "a") 4000).cps.toList.all fun c => c == 97) = true := by decide +kernel
    intro c hc
    exact eq_of_beq (List.all_eq_true.mp this c hc)
  exact ⟨by decide +kernel, fun c hc => by rw [e c hc]; decide⟩
theorem filt_row {xs : List PV} : (xs.filter fun x => !isC x).isEmpty = xs.all isC := by
  induction xs with
  | nil => rfl
  | cons x xs ih =>
    rw [List.all_cons, List.filter_cons]
    cases isC x with
    | true => simpa using ih
    | false => rfl
theorem heard_told {z : PV} {wa : WAc} {Q : PV → Prop} {EX : En → Fs → Prop} {x : PV} (hl : ∀ ys P E, wa ys P E → ys.length = 0) (h : ∀ (P : PV → Prop) (E : En → Fs → Prop), P x → wa [] P E) (q : Q (.tup [.str "told", x])) : w__law_heard z wa [z] Q EX := by
  unfold w__law_heard t__law_heard
  refine ⟨hl, rfl, ?_⟩
  walk_at "wz"
  refine h _ _ ?_
  walk_at "wz"
  exact q
theorem good_n {s : List Int} (h1 : 1 ≤ s.length) (h2 : s.length ≤ 48) (hs : ∀ z ∈ s, 0 ≤ z) : GoodN s := ⟨h1, h2, fun i => by
  have n : (0 : Int) < (s.length : Int) := by omega
  unfold cyc
  have h0 := Int.emod_nonneg i (show (s.length : Int) ≠ 0 by omega)
  have h3 := Int.emod_lt_of_pos i n
  have hk : (i % (s.length : Int)).toNat < s.length := by omega
  rw [List.getD_eq_getElem?_getD, List.getElem?_eq_getElem hk]
  exact hs _ (List.getElem_mem _)⟩
theorem rowB_iL {s : List Int} (h1 : 1 ≤ s.length) (h2 : s.length ≤ 48) (hs : ∀ z ∈ s, 0 ≤ z) : rowB (.lst (iL s)) = true := by
  have il : (iL s).length = s.length := by unfold iL; rw [List.length_map]
  rw [rowB_of (xs := iL s) rfl, il, decide_eq_true h1, decide_eq_true h2]
  rw [Bool.true_and, Bool.true_and, List.all_eq_true]
  intro x hx
  obtain ⟨z, hz, rfl⟩ := List.mem_map.mp hx
  exact decide_eq_true (hs z hz)
theorem mk_row {P : PV → Prop} {EX : En → Fs → Prop} {s : List Int} {x : PV} (hx : x = .lst (iL s) ∨ x = .tup (iL s)) (h1 : 1 ≤ s.length) (h2 : s.length ≤ 48) (hs : ∀ z ∈ s, 0 ≤ z ∧ z.natAbs < 10 ^ 62) (p : P (ndP s)) : w_Needs___init__ [x] P EX := by
  have il : (iL s).length = s.length := by unfold iL; rw [List.length_map]
  have rb := rowB_iL h1 h2 fun z hz => (hs z hz).1
  have hi : itemsP x = some (iL s) := by rcases hx with rfl | rfl <;> rfl
  have rb2 : rowB x = true := by rw [rowB_of hi, ← rowB_of (x := .lst (iL s)) rfl]; exact rb
  have hv : ∀ y ∈ iL s, PvG y 206 0 := fun y hy => by
    obtain ⟨z, hz, rfl⟩ := List.mem_map.mp hy
    exact pg_int (hs z hz).2
  have hg : ∃ e, toG x = some e := by
    rcases hx with rfl | rfl
    · obtain ⟨e, he, _⟩ := pg_lst hv (Nat.le_refl _)
      exact ⟨e, he⟩
    · obtain ⟨e, he, _⟩ := pg_tup hv (Nat.le_refl _)
      exact ⟨e, he⟩
  exact p_mkNeeds (.inl hg) (fun xs hx => by rw [hi] at hx; cases hx; omega) (fun xs hx _ => by rw [hi] at hx; cases hx; exact p) fun e => by rw [rb2] at e; cases e
theorem same_tup {P : PV → Prop} {s : String} {x : PV} (hs : (Str.ofString s).length ≤ 1000) (ox : Odd x) (p : P (.bl true)) : w__law_same [.tup [.str (Str.ofString s), x], .tup [.str (Str.ofString s), x]] P := by
  have al : ∀ y ∈ [PV.str (Str.ofString s), x], PvG y 40000 58 := all_cons ((odd_str s hs).mono (by decide) (by decide)) (all_cons ox all_nil)
  unfold w__law_same t__law_same
  walk_at "wz"
  refine .inr (eqT_self (.inr rfl) al (by decide) ?_)
  walk_at "wz"
  have hg : PvG (.tup [.str (Str.ofString s), x]) 80002 59 := pg_tup al (Nat.le_refl 2)
  refine repr_G hg (by decide) (by decide) ?_
  refine repr_G hg (by decide) (by decide) ?_
  simpa using p
theorem heard_hour {z : PV} {wa : WAc} {Q : PV → Prop} {EX : En → Fs → Prop} {x : PV} (hl : ∀ ys P E, wa ys P E → ys.length = 0) (h : ∀ (P : PV → Prop) (E : En → Fs → Prop), E .NoHour [("hour", x)] → wa [] P E) (q : Q (.tup [.str "hour", x])) : w__law_heard z wa [z] Q EX := by
  unfold w__law_heard t__law_heard
  refine ⟨hl, rfl, ?_⟩
  walk_at "wz"
  refine h _ _ ?_
  walk_at "wz"
  refine ⟨_, rfl, _, _, _, rfl, rfl, rfl, r_itn (fun z => absurd rfl z) fun _ => ?_⟩
  refine ⟨_, rfl, _, _, 1, .bl true, _, rfl, rfl, rfl, rfl, rfl, fun m z' hm hz => ?_, ?_⟩
  · obtain rfl : m = 0 := by omega
    cases hz
    rfl
  · walk_at "wz"
    exact ⟨_, rfl, rfl, _, rfl, q⟩
theorem heard_wrong {z : PV} {wa : WAc} {Q : PV → Prop} {EX : En → Fs → Prop} {i : Int} (hl : ∀ ys P E, wa ys P E → ys.length = 0) (h : ∀ (P : PV → Prop) (E : En → Fs → Prop), E .Wrong [("place", .int i)] → wa [] P E) (q : Q (.tup [.str "wrong", .int i])) : w__law_heard z wa [z] Q EX := by
  unfold w__law_heard t__law_heard
  refine ⟨hl, rfl, ?_⟩
  walk_at "wz"
  refine h _ _ ?_
  walk_at "wz"
  refine ⟨_, rfl, _, _, _, rfl, rfl, rfl, r_itn (fun z => absurd rfl z) fun _ => ?_⟩
  exact ⟨rfl, _, rfl, q⟩
theorem p__law_bent {s : List Int} (h1 : 1 ≤ s.length) (h2 : s.length ≤ 13) (hs : ∀ z ∈ s, 0 ≤ z ∧ z < 10 ^ 33) {P : PV → Prop} (p : ∀ x, Bent x → P x) : w__law_bent [.bag, .lst (iL s)] P := by
  have il : (iL s).length = s.length := by unfold iL; rw [List.length_map]
  have ivs : ∀ x ∈ iL s, PvG x 206 0 := fun x hx => by
    obtain ⟨z, hz, rfl⟩ := List.mem_map.mp hx
    have := hs z hz
    have h30 : z.natAbs < 10 ^ 33 := by omega
    exact pg_int (Nat.lt_trans h30 (by decide))
  have iv : ∀ x ∈ iL s, Tiny x := fun x hx => (ivs x hx).mono (by decide) (by decide)
  unfold w__law_bent t__law_bent
  refine ⟨rfl, ?_⟩
  refine seq_two (fun ρ => ∃ (w : Int) (a : Nat), a < s.length ∧ ρ = [.bag, .lst (iL s), .int w, .int (a : Int), .lst (iL s)]) (fun N hN => ?_) (fun ρ hρ => ?_)
  · walk_at "wz"
    refine tk (by omega) (by omega) fun w w0 w1 => ?_
    refine tk (by omega) (by omega) fun a a0 a1 => ?_
    walk_at "wz"
    exact ⟨fun _ => ⟨_, rfl⟩, hN _ ⟨w, a.toNat, by omega, by rw [show ((a.toNat : Nat) : Int) = a by omega]⟩⟩
  obtain ⟨w, a, ha, rfl⟩ := hρ
  refine seq_id (fun N hN => ?_) ?_
  · show (if decide (w < 3) = true then _ else _)
    refine r_ite (fun h => ?_) (fun h => hN)
    have go : ∀ K : PV → Prop, (∀ x, Tiny x → K x) → wCall w__law_one (wCons (wVar 0) (wCons (wLst (wCons (wC .non) (wCons (wC (.bl true)) (wCons (wC (.bl false)) (wCons (wUn wNeg (wC (.int 1))) (wCons (wC (.str "1")) (wCons (wTup (wCons (wC (.int 1)) wNil)) (wCons (wLst wNil) (wCons (wDct []) (wCons (wC (.int 0)) (wCons (wOp (wII CPow fun i j => i ^ j.toNat) (wC (.int 10)) (wC (.int 30))) (wCons (wC (.int 1)) wNil)))))))))))) wNil)) [.bag, .lst (iL s), .int w, .int (a : Int), .lst (iL s)] K := fun K k => by
      refine one_all (p := Tiny) (n := 11) rfl ?_ (by decide) k
      refine aa_cons (fun K k => k _ (pg_non.mono (by decide) (by decide))) ?_
      refine aa_cons (fun K k => k _ (pg_bl.mono (by decide) (by decide))) ?_
      refine aa_cons (fun K k => k _ (pg_bl.mono (by decide) (by decide))) ?_
      refine aa_cons (fun K k => k _ ((pg_small (i := -1) (by decide)).mono (by decide) (by decide))) ?_
      refine aa_cons (fun K k => k _ ((odd_str "1").mono (by decide) (by decide))) ?_
      refine aa_cons (fun K k => ⟨by decide, k _ ((pg_tup (w := 11) (k := 0) (n := 1) (all_cons (pg_small (by decide)) all_nil) (by decide)).mono (by decide) (by decide))⟩) ?_
      refine aa_cons (fun K k => ⟨by decide, k _ ((pg_lst (w := 0) (k := 0) (n := 0) all_nil (by decide)).mono (by decide) (by decide))⟩) ?_
      refine aa_cons (fun K k a => k _ pg_dct) ?_
      refine aa_cons (fun K k => k _ ((pg_small (i := 0) (by decide)).mono (by decide) (by decide))) ?_
      refine aa_cons (fun K k => ⟨⟨by decide, by decide, by decide⟩, k _ ((pg_int (i := 10 ^ 30) (by decide)).mono (by decide) (by decide))⟩) ?_
      exact aa_cons (fun K k => k _ ((pg_small (i := 1) (by decide)).mono (by decide) (by decide))) aa_nil
    refine go _ fun o oo => ?_
    refine ⟨a, ixN_in (by rw [il]; exact ha), ?_⟩
    refine p _ (bent_lst (fun y hy => ?_) (by rw [List.length_set]; omega))
    rcases List.mem_or_eq_of_mem_set hy with hy | rfl
    · exact iv y hy
    · exact oo
  refine seq_id (fun N hN => ?_) ?_
  · walk_at "wz"
    exact r_ite (fun h => p _ (bent_tup iv (by omega))) (fun h => hN)
  refine seq_id (fun N hN => ?_) ?_
  · walk_at "wz"
    refine r_ite (fun h => ?_) (fun h => hN)
    rw [show ((a : Int) + 1) = ((a + 1 : Nat) : Int) by omega, show cutP (iL s) none (some (a : Int)) = (iL s).take a from cutP_take, show cutP (iL s) (some ((a + 1 : Nat) : Int)) none = (iL s).drop (a + 1) from cutP_drop]
    refine ⟨by rw [List.length_take, List.length_drop]; omega, p _ (bent_lst (all_app (fun y hy => iv y (List.mem_of_mem_take hy)) (fun y hy => iv y (List.mem_of_mem_drop hy))) ?_)⟩
    rw [List.length_append, List.length_take, List.length_drop]
    omega
  refine seq_id (fun N hN => ?_) ?_
  · walk_at "wz"
    refine r_ite (fun h => ?_) (fun h => hN)
    refine p _ (bent_lst (fun y hy => iv y (List.mem_reverse.mp hy)) ?_)
    rw [List.length_reverse]
    omega
  refine seq_id (fun N hN => ?_) ?_
  · walk_at "wz"
    refine r_ite (fun h => ?_) (fun h => hN)
    refine ix_cycZ (by omega) (by omega) ?_
    have cm : PvG (.int (cyc s (-1))) 206 0 := ivs _ (List.mem_map.mpr ⟨_, cyc_mem h1 (-1), rfl⟩)
    refine ⟨by decide, by decide, by decide, by rw [List.length_replicate]; omega, p _ (bent_lst2 (all_app ivs fun y hy => ?_) ?_)⟩
    · rw [(List.mem_replicate.mp hy).2]
      exact cm
    · rw [List.length_append, List.length_replicate]
      omega
  refine one_all (p := Bent) (n := 14) rfl ?_ (by decide) fun x ox => p x ox
  refine aa_cons (fun K k => k _ (bent_no (pg_non.mono (by decide) (by decide)) rfl)) ?_
  refine aa_cons (fun K k => ⟨by decide, k _ (bent_tup all_nil (by decide))⟩) ?_
  refine aa_cons (fun K k => ⟨by decide, k _ (bent_lst all_nil (by decide))⟩) ?_
  refine aa_cons (fun K k a => k _ (bent_no pg_dct rfl)) ?_
  refine aa_cons (fun K k => k _ (bent_no ((pg_small (by decide)).mono (by decide) (by decide)) rfl)) ?_
  refine aa_cons (fun K k => k _ (bent_no (pg_bl.mono (by decide) (by decide)) rfl)) ?_
  refine aa_cons (fun K k => k _ (bent_no ((odd_str "01").mono (by decide) (by decide)) rfl)) ?_
  refine aa_cons (fun K k a => k _ (bent_no pg_dct rfl)) ?_
  have ti : ∀ {i : Int}, i.natAbs < 1000 → Tiny (.int i) := fun h => (pg_small h).mono (by decide) (by decide)
  refine aa_cons (fun K k => ⟨by decide, by decide, k _ (bent_lst (all_cons ((pg_lst (w := 11) (k := 0) (n := 2) (all_cons (pg_small (by decide)) (all_cons (pg_small (by decide)) all_nil)) (by decide)).mono (by decide) (by decide)) all_nil) (by decide))⟩) ?_
  refine aa_cons (fun K k => ⟨by decide, k _ (bent_tup (all_cons (ti (by decide)) all_nil) (by decide))⟩) ?_
  refine aa_cons (fun K k => ⟨by decide, k _ (bent_lst (all_cons (ti (by decide)) all_nil) (by decide))⟩) ?_
  refine aa_cons (fun K k => ⟨by decide, k _ (bent_lst (all_cons (ti (by decide)) (all_cons (ti (by decide)) all_nil)) (by decide))⟩) ?_
  refine aa_cons (fun K k => ⟨by decide, k _ (bent_lst (all_cons (pg_non.mono (by decide) (by decide)) all_nil) (by decide))⟩) ?_
  exact aa_cons (fun K k => ⟨_, _, rfl, rfl, by decide, by decide, by decide, k _ (bent_no ((pg_str aaa).mono (by decide) (by decide)) rfl)⟩) aa_nil
def cntB (lo hi : Nat) (x : PV) : Bool := match itemsP x with
  | some xs => decide (lo ≤ xs.length) && decide (xs.length ≤ hi) && xs.all isC
  | none => false
theorem cntB_of {lo hi : Nat} {x : PV} {xs : List PV} (hx : itemsP x = some xs) : cntB lo hi x = (decide (lo ≤ xs.length) && decide (xs.length ≤ hi) && xs.all isC) := by
  unfold cntB
  rw [hx]
theorem lc_row {ρ xs : List PV} {P : List PV → Prop} (h : ∀ x ∈ xs, ∃ e, toG x = some e) (hρ : ρ.length = 4) (q : P (xs.filter fun x => !isC x)) :
    wLcL (wgName 3) (wTor (wTnot (wTest (wCB wIsi (wCons (wVar 3) (wCons (wC (.ty "int")) wNil))))) (wTor (wTest (wCB wIsi (wCons (wVar 3) (wCons (wC (.ty "bool")) wNil)))) (wTest (wOp (wIB fun i j => decide (i < j)) (wVar 3) (wC (.int 0)))))) (wVar 3) ρ xs [] P := by
  obtain ⟨a, b, c, d, rfl⟩ : ∃ a b c d, ρ = [a, b, c, d] := by
    match ρ, hρ with
    | [a, b, c, d], _ => exact ⟨a, b, c, d, rfl⟩
  have := lcl (ρ := [a, b, c, d]) (wg := wgName 3) (wt := wTor (wTnot (wTest (wCB wIsi (wCons (wVar 3) (wCons (wC (.ty "int")) wNil))))) (wTor (wTest (wCB wIsi (wCons (wVar 3) (wCons (wC (.ty "bool")) wNil)))) (wTest (wOp (wIB fun i j => decide (i < j)) (wVar 3) (wC (.int 0)))))) (we := wVar 3) (acc := []) (P := P) (ys := xs) (g := id) (fun x => !isC x) (fun x => x) (fun x hx Kt Kf a b => by
    have hg := h x hx
    cases x with
    | int i =>
      walk_at "wz"
      refine ⟨"int", true, rfl, by decide +kernel, ?_⟩
      walk_at "wz"
      refine ⟨"int", false, rfl, by decide +kernel, ?_⟩
      walk_at "wz"
      refine r_ite (fun z => a ?_) (fun z => b ?_)
      · show (!decide (0 ≤ i)) = true
        rw [decide_eq_false (by omega)]
        rfl
      · show (!decide (0 ≤ i)) = false
        rw [decide_eq_true (by omega)]
        rfl
    | bl i =>
      walk_at "wz"
      refine ⟨"bool", true, rfl, by decide +kernel, ?_⟩
      walk_at "wz"
      refine ⟨"bool", true, rfl, by decide +kernel, ?_⟩
      walk_at "wz"
      exact a rfl
    | non =>
      walk_at "wz"
      refine ⟨"NoneType", false, rfl, by decide +kernel, ?_⟩
      walk_at "wz"
      exact a rfl
    | str z =>
      walk_at "wz"
      refine ⟨"str", false, rfl, by decide +kernel, ?_⟩
      walk_at "wz"
      exact a rfl
    | lst z =>
      walk_at "wz"
      refine ⟨"list", false, rfl, by decide +kernel, ?_⟩
      walk_at "wz"
      exact a rfl
    | tup z =>
      walk_at "wz"
      refine ⟨"tuple", false, rfl, by decide +kernel, ?_⟩
      walk_at "wz"
      exact a rfl
    | dct y z =>
      walk_at "wz"
      refine ⟨"dict", false, rfl, by decide +kernel, ?_⟩
      walk_at "wz"
      exact a rfl
    | _ =>
      obtain ⟨e, hg⟩ := hg
      simp only [toG, reduceCtorEq] at hg) (by simpa using q)
  rw [List.map_id] at this
  exact this
theorem cnt_if {n lo hi : Int} {A B : Prop} (a : ¬ (lo ≤ n ∧ n ≤ hi) → A) (b : (lo ≤ n ∧ n ≤ hi) → B) : (if decide (lo ≤ n) = true then (if (!decide (n ≤ hi)) = true then A else B) else A) := by
  split
  · next h1 =>
    have h1 := of_decide_eq_true h1
    split
    · next h2 =>
      refine a fun z => ?_
      rw [decide_eq_true z.2] at h2
      cases h2
    · next h2 =>
      refine b ⟨h1, ?_⟩
      by_cases h : n ≤ hi
      · exact h
      · rw [decide_eq_false h] at h2
        exact absurd rfl h2
  · next h1 => exact a fun z => h1 (decide_eq_true z.1)
theorem p__law_are_counts {P : PV → Prop} {x : PV} {lo hi : Nat} (h : ∃ e, toG x = some e) (hs : ∀ xs, itemsP x = some xs → xs.length ≤ 100000) (p : P (.bl (cntB lo hi x))) : w__law_are_counts [x, .int (lo : Int), .int (hi : Int)] P := by
  have fin : ∀ xs, itemsP x = some xs → ¬ ((lo : Int) ≤ (xs.length : Int) ∧ (xs.length : Int) ≤ (hi : Int)) → P (.bl false) := fun xs hx z => by
    rw [cntB_of hx] at p
    have e : (decide (lo ≤ xs.length) && decide (xs.length ≤ hi)) = false := by
      rw [Bool.and_eq_false_iff, decide_eq_false_iff_not, decide_eq_false_iff_not]
      omega
    rw [e] at p
    exact p
  have fin2 : ∀ xs, itemsP x = some xs → ((lo : Int) ≤ (xs.length : Int) ∧ (xs.length : Int) ≤ (hi : Int)) → P (.bl (xs.filter fun x => !isC x).isEmpty) := fun xs hx z => by
    rw [cntB_of hx, decide_eq_true (show lo ≤ xs.length by omega), decide_eq_true (show xs.length ≤ hi by omega)] at p
    rw [filt_row]
    exact p
  unfold w__law_are_counts t__law_are_counts
  cases x with
  | lst ys =>
    have hl := hs ys rfl
    walk_at "wz"
    refine ⟨"list", true, false, rfl, by decide +kernel, by decide +kernel, ?_⟩
    simp only [Bool.or_false, Bool.or_true, Bool.true_or, Bool.not_true, Bool.false_eq_true, if_false]
    refine cnt_if (fin ys rfl) (fun z => ?_)
    exact ⟨hl, lc_row (items_g h rfl) rfl ⟨_, rfl, rfl, fin2 ys rfl z⟩⟩
  | tup ys =>
    have hl := hs ys rfl
    walk_at "wz"
    refine ⟨"tuple", false, true, rfl, by decide +kernel, by decide +kernel, ?_⟩
    simp only [Bool.or_false, Bool.or_true, Bool.true_or, Bool.not_true, Bool.false_eq_true, if_false]
    refine cnt_if (fin ys rfl) (fun z => ?_)
    exact ⟨hl, lc_row (items_g h rfl) rfl ⟨_, rfl, rfl, fin2 ys rfl z⟩⟩
  | non =>
    walk_at "wz"
    refine ⟨"NoneType", false, false, rfl, by decide +kernel, by decide +kernel, ?_⟩
    walk_at "wz"
    exact p
  | bl z =>
    walk_at "wz"
    refine ⟨"bool", false, false, rfl, by decide +kernel, by decide +kernel, ?_⟩
    walk_at "wz"
    exact p
  | int z =>
    walk_at "wz"
    refine ⟨"int", false, false, rfl, by decide +kernel, by decide +kernel, ?_⟩
    walk_at "wz"
    exact p
  | str z =>
    walk_at "wz"
    refine ⟨"str", false, false, rfl, by decide +kernel, by decide +kernel, ?_⟩
    walk_at "wz"
    exact p
  | dct y z =>
    walk_at "wz"
    refine ⟨"dict", false, false, rfl, by decide +kernel, by decide +kernel, ?_⟩
    walk_at "wz"
    exact p
  | _ =>
    obtain ⟨e, h⟩ := h
    simp only [toG, reduceCtorEq] at h
def intOf : PV → Int
  | .int i => i
  | _ => 0
theorem all_cnt : ∀ {xs : List PV}, xs.all isC = true → xs = iL (xs.map intOf) ∧ ∀ k ∈ xs.map intOf, 0 ≤ k
  | [], _ => ⟨rfl, fun k h => nomatch h⟩
  | x :: xs, h => by
    rw [List.all_cons, Bool.and_eq_true] at h
    obtain ⟨e, a⟩ := all_cnt h.2
    cases x with
    | int i =>
      have hi : 0 ≤ i := of_decide_eq_true h.1
      refine ⟨by rw [List.map_cons]; show _ = PV.int i :: iL _; rw [← e], fun k hk => ?_⟩
      rcases List.mem_cons.mp hk with rfl | hk
      · exact hi
      · exact a k hk
    | _ => cases h.1
def sumB (x : PV) : Bool := match itemsP x with
  | some xs => xs.all isC && okSums (xs.map intOf)
  | none => false
theorem sum_cnt {x : PV} {xs : List PV} (hx : itemsP x = some xs) : sumB x = (cntB 2 49 x && (decide ((xs.map intOf).getD 0 0 = 0) && ((List.range (xs.length - 1)).all fun i => decide ((xs.map intOf).getD i 0 ≤ (xs.map intOf).getD (i + 1) 0)))) := by
  unfold sumB okSums
  rw [cntB_of hx, hx]
  simp only [List.length_map]
  cases e : xs.all isC with
  | false => simp only [Bool.and_false, Bool.false_and]
  | true =>
    have : ((xs.map intOf).all fun x => decide (0 ≤ x)) = true := List.all_eq_true.mpr fun k hk => decide_eq_true ((all_cnt e).2 k hk)
    rw [this]
    simp only [Bool.true_and, Bool.and_true, Bool.and_assoc]
theorem asc_filt {n : Nat} {f : Nat → Int} : ((List.range n).filter fun i => decide (f (i + 1) < f i)).isEmpty = (List.range n).all fun i => decide (f i ≤ f (i + 1)) := by
  rw [Bool.eq_iff_iff, List.isEmpty_iff, List.filter_eq_nil_iff, List.all_eq_true]
  constructor
  · intro h i hi
    have := h i hi
    rw [decide_eq_true_iff] at this
    exact decide_eq_true (by omega)
  · intro h i hi
    have := of_decide_eq_true (h i hi)
    rw [decide_eq_true_iff]
    omega
theorem cnt_get {lo hi : Nat} {x : PV} (h : cntB lo hi x = true) : ∃ ns : List Int, itemsP x = some (iL ns) ∧ (iL ns).map intOf = ns ∧ lo ≤ ns.length ∧ ns.length ≤ hi ∧ (∀ k ∈ ns, 0 ≤ k) ∧ (x = .lst (iL ns) ∨ x = .tup (iL ns)) := by
  cases e : itemsP x with
  | none => unfold cntB at h; rw [e] at h; cases h
  | some xs =>
    rw [cntB_of e] at h
    simp only [Bool.and_eq_true, decide_eq_true_eq] at h
    obtain ⟨⟨h1, h2⟩, h3⟩ := h
    obtain ⟨e2, h4⟩ := all_cnt h3
    have l : (xs.map intOf).length = xs.length := List.length_map _
    refine ⟨xs.map intOf, by rw [← e2], by rw [← e2], by omega, by omega, h4, ?_⟩
    rw [← e2]
    cases x with
    | lst ys => cases e; exact .inl rfl
    | tup ys => cases e; exact .inr rfl
    | _ => cases e
theorem sum_false {x : PV} (h : cntB 2 49 x = false) : sumB x = false := by
  cases e : itemsP x with
  | none => unfold sumB; rw [e]
  | some xs => rw [sum_cnt e, h]; rfl
theorem sum_true {x : PV} {ns : List Int} (h : cntB 2 49 x = true) (hx : itemsP x = some (iL ns)) (hm : (iL ns).map intOf = ns) : sumB x = (decide (ns.getD 0 0 = 0) && ((List.range (ns.length - 1)).all fun i => decide (ns.getD i 0 ≤ ns.getD (i + 1) 0))) := by
  have il : (iL ns).length = ns.length := by unfold iL; rw [List.length_map]
  rw [sum_cnt hx, h, hm, il, Bool.true_and]
theorem p__law_are_sums {P : PV → Prop} {x : PV} (h : ∃ e, toG x = some e) (hs : ∀ xs, itemsP x = some xs → xs.length ≤ 100000) (p : P (.bl (sumB x))) : w__law_are_sums [x] P := by
  unfold w__law_are_sums t__law_are_sums
  cases e : cntB 2 49 x with
  | false =>
    rw [sum_false e] at p
    walk_at "wz"
    refine p__law_are_counts (lo := 2) (hi := 49) h hs ?_
    rw [e]
    walk_at "wz"
    exact p
  | true =>
    obtain ⟨ns, hx, hm, n2, n49, hn, hxx⟩ := cnt_get e
    rw [sum_true e hx hm] at p
    have il : (iL ns).length = ns.length := by unfold iL; rw [List.length_map]
    have ix : ∀ (i : Nat) (K : PV → Prop), i < ns.length → K (.int (ns.getD i 0)) → ∃ z, L2.atI (iL ns) (i : Int) = some z ∧ K z := fun i K hi k => ix_iL (by omega) (by omega) (by rw [Int.toNat_natCast]; exact k)
    refine ⟨rfl, ?_⟩
    refine seq_two (fun ρ => ρ = [x, .non] ∧ ns.getD 0 0 = 0) (fun N hN => ?_) (fun ρ hρ => ?_)
    · rcases hxx with rfl | rfl
      · walk_at "wz"
        refine p__law_are_counts (lo := 2) (hi := 49) h hs ?_
        rw [e]
        walk_at "wz"
        refine ix 0 _ (by omega) ?_
        walk_at "wz"
        refine r_itn (fun z => ?_) (fun z => hN _ ⟨rfl, z⟩)
        rw [decide_eq_false z] at p
        exact p
      · walk_at "wz"
        refine p__law_are_counts (lo := 2) (hi := 49) h hs ?_
        rw [e]
        walk_at "wz"
        refine ix 0 _ (by omega) ?_
        walk_at "wz"
        refine r_itn (fun z => ?_) (fun z => hN _ ⟨rfl, z⟩)
        rw [decide_eq_false z] at p
        exact p
    obtain ⟨rfl, z0⟩ := hρ
    rw [decide_eq_true z0, Bool.true_and, ← asc_filt (f := fun i => ns.getD i 0)] at p
    rcases hxx with rfl | rfl
    · walk_at "wz"
      rw [show ((ns.length : Int) - 1).toNat = ns.length - 1 by omega, rangeP0]
      refine ⟨by omega, by omega, by rw [List.length_map, List.length_range]; omega, ?_⟩
      refine lcl (fun (i : Nat) => decide (ns.getD (i + 1) 0 < ns.getD i 0)) (fun (i : Nat) => .int (i : Int)) (fun i hi Kt Kf a b => ?_) ?_
      · have hi := List.mem_range.mp hi
        walk_at "wz"
        refine ix i _ (by omega) ?_
        rw [show ((i : Int) + 1) = ((i + 1 : Nat) : Int) by omega]
        refine ix (i + 1) _ (by omega) ?_
        walk_at "wz"
        by_cases z : ns.getD (i + 1) 0 < ns.getD i 0
        · rw [if_pos (decide_eq_true z)]
          exact a (decide_eq_true z)
        · rw [if_neg (by rw [decide_eq_false z]; exact Bool.false_ne_true)]
          exact b (decide_eq_false z)
      · have em : ∀ l : List Nat, (l.map fun (i : Nat) => PV.int (i : Int)).isEmpty = l.isEmpty := fun l => by cases l <;> rfl
        refine ⟨_, rfl, rfl, ?_⟩
        rw [if_neg Bool.false_ne_true, List.nil_append, em]
        exact p
    · walk_at "wz"
      rw [show ((ns.length : Int) - 1).toNat = ns.length - 1 by omega, rangeP0]
      refine ⟨by omega, by omega, by rw [List.length_map, List.length_range]; omega, ?_⟩
      refine lcl (fun (i : Nat) => decide (ns.getD (i + 1) 0 < ns.getD i 0)) (fun (i : Nat) => .int (i : Int)) (fun i hi Kt Kf a b => ?_) ?_
      · have hi := List.mem_range.mp hi
        walk_at "wz"
        refine ix i _ (by omega) ?_
        rw [show ((i : Int) + 1) = ((i + 1 : Nat) : Int) by omega]
        refine ix (i + 1) _ (by omega) ?_
        walk_at "wz"
        by_cases z : ns.getD (i + 1) 0 < ns.getD i 0
        · rw [if_pos (decide_eq_true z)]
          exact a (decide_eq_true z)
        · rw [if_neg (by rw [decide_eq_false z]; exact Bool.false_ne_true)]
          exact b (decide_eq_false z)
      · have em : ∀ l : List Nat, (l.map fun (i : Nat) => PV.int (i : Int)).isEmpty = l.isEmpty := fun l => by cases l <;> rfl
        refine ⟨_, rfl, rfl, ?_⟩
        rw [if_neg Bool.false_ne_true, List.nil_append, em]
        exact p
theorem zip_up {ns : List Int} (h : 1 ≤ ns.length) : zipP (iL ns) (cutP (iL ns) (some 1) none) = (List.range (ns.length - 1)).map fun (i : Nat) => .tup [.int (ns.getD i 0), .int (ns.getD (i + 1) 0)] := by
  have il : (iL ns).length = ns.length := by unfold iL; rw [List.length_map]
  have gd : ∀ i, i < ns.length → (iL ns).getD i .non = .int (ns.getD i 0) := fun i hi => by
    rw [List.getD_eq_getElem?_getD, List.getD_eq_getElem?_getD, List.getElem?_eq_getElem hi, List.getElem?_eq_getElem (by rw [il]; exact hi)]
    unfold iL
    rw [List.getElem_map]
    rfl
  rw [show cutP (iL ns) (some 1) none = (iL ns).drop 1 from cutP_drop (k := 1)]
  unfold zipP
  rw [il, List.length_drop, il, show min ns.length (ns.length - 1) = ns.length - 1 by omega]
  refine List.map_congr_left fun i hi => ?_
  have hi := List.mem_range.mp hi
  rw [gd i (by omega), show ((iL ns).drop 1).getD i .non = (iL ns).getD (i + 1) .non from by rw [List.getD_eq_getElem?_getD, List.getD_eq_getElem?_getD, List.getElem?_drop, Nat.add_comm], gd (i + 1) (by omega)]
theorem p_are_sums {P : PV → Prop} {x : PV} (h : Rowd x) (hs : ∀ xs, itemsP x = some xs → xs.length ≤ 100000) (p : P (.bl (sumB x))) : w_are_sums [x] P := by
  rcases h with h | ⟨c, fs, rfl, hc⟩
  case inr =>
    unfold w_are_sums t_are_sums
    walk_at "wz"
    rcases hc with rfl | rfl
    · refine .inl ⟨.Needs, rfl, by simp, by simp, ?_⟩
      walk_at "wz"
      exact p
    · refine .inl ⟨.Plan, rfl, by simp, by simp, ?_⟩
      walk_at "wz"
      exact p
  have no : itemsP x = none → P (.bl false) := fun e => by
    have : sumB x = false := by unfold sumB; rw [e]
    rw [this] at p
    exact p
  have fin : ∀ xs, itemsP x = some xs → ¬ ((2 : Int) ≤ (xs.length : Int) ∧ (xs.length : Int) ≤ (49 : Int)) → P (.bl false) := fun xs hx z => by
    rw [sum_cnt hx, cntB_of hx] at p
    have e : (decide (2 ≤ xs.length) && decide (xs.length ≤ 49)) = false := by
      rw [Bool.and_eq_false_iff, decide_eq_false_iff_not, decide_eq_false_iff_not]
      omega
    rw [e] at p
    exact p
  have hall : ∀ xs, itemsP x = some xs → ∀ Q : PV → Prop, Q (.bl (xs.all isC)) → wLcL (wgName 1) wTyes (wCall w_is_count (wCons (wVar 1) wNil)) [x, .non, .non, .non] xs [] fun ys => wAll [.lst ys] Q := fun xs hx Q q => by
    have ig := items_g h hx
    have := lcm (ρ := [x, .non, .non, .non]) (wg := wgName 1) (we := wCall w_is_count (wCons (wVar 1) wNil)) (acc := []) (P := fun ys => wAll [.lst ys] Q) (ys := xs) (g := id) (fun y => .bl (isC y)) (fun y hy Kt hk => by
      walk_at "wz"
      exact p_is_count_g (ig y hy) hk) (all_of q)
    rw [List.map_id] at this
    exact this
  unfold w_are_sums t_are_sums
  cases x with
  | lst ys =>
    have hl := hs ys rfl
    walk_at "wz"
    refine .inr ⟨"list", true, false, rfl, by decide +kernel, by decide +kernel, ?_⟩
    simp only [Bool.or_false, Bool.or_true, Bool.true_or, Bool.not_true, Bool.false_eq_true, if_false]
    refine cnt_if (fin ys rfl) (fun z => ?_)
    refine ⟨hl, hall ys rfl _ ?_⟩
    cases ec : ys.all isC with
    | false =>
      have : sumB (.lst ys) = false := by
        show (ys.all isC && okSums (ys.map intOf)) = false
        rw [ec]
        rfl
      rw [this] at p
      exact p
    | true =>
      obtain ⟨e2, hn⟩ := all_cnt ec
      obtain ⟨ns, rfl, hm⟩ : ∃ ns, ys = iL ns ∧ (iL ns).map intOf = ns := ⟨ys.map intOf, e2, by rw [← e2]⟩
      have il : (iL ns).length = ns.length := by unfold iL; rw [List.length_map]
      have z1 := z.1
      have z2 := z.2
      rw [il] at z1 z2
      rw [show sumB (.lst (iL ns)) = (decide (ns.getD 0 0 = 0) && ((List.range (ns.length - 1)).all fun i => decide (ns.getD i 0 ≤ ns.getD (i + 1) 0))) from by
        rw [sum_cnt (x := .lst (iL ns)) rfl, cntB_of (x := .lst (iL ns)) rfl, ec, hm, il, decide_eq_true (show 2 ≤ ns.length by omega), decide_eq_true (show ns.length ≤ 49 by omega)]
        rfl] at p
      walk_at "wz"
      refine ix_iL (by omega) (by omega) ?_
      walk_at "wz"
      refine r_itn (fun z => ?_) (fun z => ?_)
      · rw [decide_eq_false (show ¬ ns.getD 0 0 = 0 from z)] at p
        exact p
      · rw [decide_eq_true (show ns.getD 0 0 = 0 from z), Bool.true_and] at p
        rw [zip_up (by omega)]
        refine ⟨by rw [List.length_map, List.length_range]; omega, ?_⟩
        refine lcm (fun (i : Nat) => .bl (decide (ns.getD i 0 ≤ ns.getD (i + 1) 0))) (fun i hi Kt hk => ?_) ?_
        · walk_at "wz"
          exact hk
        · rw [List.nil_append]
          exact all_of p
  | tup ys =>
    have hl := hs ys rfl
    walk_at "wz"
    refine .inr ⟨"tuple", false, true, rfl, by decide +kernel, by decide +kernel, ?_⟩
    simp only [Bool.or_false, Bool.or_true, Bool.true_or, Bool.not_true, Bool.false_eq_true, if_false]
    refine cnt_if (fin ys rfl) (fun z => ?_)
    refine ⟨hl, hall ys rfl _ ?_⟩
    cases ec : ys.all isC with
    | false =>
      have : sumB (.tup ys) = false := by
        show (ys.all isC && okSums (ys.map intOf)) = false
        rw [ec]
        rfl
      rw [this] at p
      exact p
    | true =>
      obtain ⟨e2, hn⟩ := all_cnt ec
      obtain ⟨ns, rfl, hm⟩ : ∃ ns, ys = iL ns ∧ (iL ns).map intOf = ns := ⟨ys.map intOf, e2, by rw [← e2]⟩
      have il : (iL ns).length = ns.length := by unfold iL; rw [List.length_map]
      have z1 := z.1
      have z2 := z.2
      rw [il] at z1 z2
      rw [show sumB (.tup (iL ns)) = (decide (ns.getD 0 0 = 0) && ((List.range (ns.length - 1)).all fun i => decide (ns.getD i 0 ≤ ns.getD (i + 1) 0))) from by
        rw [sum_cnt (x := .tup (iL ns)) rfl, cntB_of (x := .tup (iL ns)) rfl, ec, hm, il, decide_eq_true (show 2 ≤ ns.length by omega), decide_eq_true (show ns.length ≤ 49 by omega)]
        rfl] at p
      walk_at "wz"
      refine ix_iL (by omega) (by omega) ?_
      walk_at "wz"
      refine r_itn (fun z => ?_) (fun z => ?_)
      · rw [decide_eq_false (show ¬ ns.getD 0 0 = 0 from z)] at p
        exact p
      · rw [decide_eq_true (show ns.getD 0 0 = 0 from z), Bool.true_and] at p
        rw [zip_up (by omega)]
        refine ⟨by rw [List.length_map, List.length_range]; omega, ?_⟩
        refine lcm (fun (i : Nat) => .bl (decide (ns.getD i 0 ≤ ns.getD (i + 1) 0))) (fun i hi Kt hk => ?_) ?_
        · walk_at "wz"
          exact hk
        · rw [List.nil_append]
          exact all_of p
  | non =>
    walk_at "wz"
    refine .inr ⟨"NoneType", false, false, rfl, by decide +kernel, by decide +kernel, ?_⟩
    walk_at "wz"
    exact no rfl
  | bl b =>
    walk_at "wz"
    refine .inr ⟨"bool", false, false, rfl, by decide +kernel, by decide +kernel, ?_⟩
    walk_at "wz"
    exact no rfl
  | int b =>
    walk_at "wz"
    refine .inr ⟨"int", false, false, rfl, by decide +kernel, by decide +kernel, ?_⟩
    walk_at "wz"
    exact no rfl
  | str b =>
    walk_at "wz"
    refine .inr ⟨"str", false, false, rfl, by decide +kernel, by decide +kernel, ?_⟩
    walk_at "wz"
    exact no rfl
  | dct a b =>
    walk_at "wz"
    refine .inr ⟨"dict", false, false, rfl, by decide +kernel, by decide +kernel, ?_⟩
    walk_at "wz"
    exact no rfl
  | _ =>
    obtain ⟨e, h⟩ := h
    simp only [toG, reduceCtorEq] at h
theorem toG_ints : ∀ s : List Int, toGs (iL s) = some (s.map PyData.int)
  | [] => by simp only [iL, List.map_nil, toGs]
  | i :: s => by
    have := toG_ints s
    show toGs (.int i :: iL s) = _
    simp only [toGs, toG, this, List.map_cons]
theorem mk_rowQ {P : PV → Prop} {EX : En → Fs → Prop} {s : List Int} {x : PV} (hx : x = .lst (iL s) ∨ x = .tup (iL s)) (g : GoodN s) (p : P (pnP s)) : w_Plan___init__ [x] P EX := by
  have il : (iL s).length = s.length := by unfold iL; rw [List.length_map]
  have rb := rowB_iL g.ne g.le g.mem
  have hi : itemsP x = some (iL s) := by rcases hx with rfl | rfl <;> rfl
  have rb2 : rowB x = true := by rw [rowB_of hi, ← rowB_of (x := .lst (iL s)) rfl]; exact rb
  have gl := g.le
  have hg : ∃ e, toG x = some e := by
    rcases hx with rfl | rfl
    · exact ⟨_, by simp only [toG, toG_ints, Option.map_some]; rfl⟩
    · exact ⟨_, by simp only [toG, toG_ints, Option.map_some]; rfl⟩
  exact p_mkPlan (.inl hg) (fun xs hx => by rw [hi] at hx; cases hx; omega) (fun xs hx _ => by rw [hi] at hx; cases hx; exact p) fun e => by rw [rb2] at e; cases e
theorem p_of_sums {P : PV → Prop} {EX : En → Fs → Prop} {x : PV} (h : Rowd x) (hs : ∀ xs, itemsP x = some xs → xs.length ≤ 100000) (p : ∀ ns, sumB x = true → itemsP x = some (iL ns) → P (pnP (diffR ns))) (q : sumB x = false → EX .Wrong [("place", .int 0)]) : w_Plan_of_sums [x] P EX := by
  unfold w_Plan_of_sums t_Plan_of_sums
  cases e : sumB x with
  | false =>
    walk_at "wz"
    refine p_are_sums h hs ?_
    rw [e]
    walk_at "wz"
    exact q e
  | true =>
    have e' := e
    cases hi : itemsP x with
    | none => unfold sumB at e'; rw [hi] at e'; cases e'
    | some xs =>
      unfold sumB at e'
      rw [hi] at e'
      have e' : (xs.all isC && okSums (xs.map intOf)) = true := e'
      rw [Bool.and_eq_true] at e'
      obtain ⟨ea, eo⟩ := e'
      obtain ⟨e2, hn⟩ := all_cnt ea
      obtain ⟨ns, rfl, hm⟩ : ∃ ns, xs = iL ns ∧ (iL ns).map intOf = ns := ⟨xs.map intOf, e2, by rw [← e2]⟩
      rw [hm] at eo
      have il : (iL ns).length = ns.length := by unfold iL; rw [List.length_map]
      have gd := good_diff eo
      have ol : 2 ≤ ns.length ∧ ns.length ≤ 49 := by
        unfold okSums at eo
        simp only [Bool.and_eq_true, decide_eq_true_eq] at eo
        exact ⟨eo.1.1.1.1, eo.1.1.1.2⟩
      have hxx : seqP x ns := by
        cases x with
        | lst ys => cases hi; exact .inl rfl
        | tup ys => cases hi; exact .inr rfl
        | _ => cases hi
      walk_at "wz"
      refine p_are_sums h hs ?_
      rw [e]
      walk_at "wz"
      refine ⟨x, ns, rfl, hxx, by omega, by omega, ?_⟩
      exact mk_rowQ (.inl rfl) gd (p ns e hi)
theorem heard_begin {z : PV} {wa : WAc} {Q : PV → Prop} {EX : En → Fs → Prop} {x : PV} (hl : ∀ ys P E, wa ys P E → ys.length = 0) (h : ∀ (P : PV → Prop) (E : En → Fs → Prop), E .NoBegin [("hour", x)] → wa [] P E) (q : Q (.tup [.str "begin", x])) : w__law_heard z wa [z] Q EX := by
  unfold w__law_heard t__law_heard
  refine ⟨hl, rfl, ?_⟩
  walk_at "wz"
  refine h _ _ ?_
  walk_at "wz"
  refine ⟨_, rfl, _, _, _, rfl, rfl, rfl, r_itn (fun z => absurd rfl z) fun _ => ?_⟩
  refine ⟨_, rfl, _, _, 2, .bl true, _, rfl, rfl, rfl, rfl, rfl, fun m z' hm hz => ?_, ?_⟩
  · match m, hm, hz with
    | 0, _, hz => cases hz; rfl
    | 1, _, hz => cases hz; rfl
  · walk_at "wz"
    exact ⟨_, rfl, rfl, _, rfl, q⟩
theorem heard_unlike {z : PV} {wa : WAc} {Q : PV → Prop} {EX : En → Fs → Prop} (hl : ∀ ys P E, wa ys P E → ys.length = 0) (h : ∀ (P : PV → Prop) (E : En → Fs → Prop), E .Unlike [] → wa [] P E) (q : Q (.tup [.str "unlike", .non])) : w__law_heard z wa [z] Q EX := by
  unfold w__law_heard t__law_heard
  refine ⟨hl, rfl, ?_⟩
  walk_at "wz"
  refine h _ _ ?_
  walk_at "wz"
  refine ⟨_, rfl, _, _, _, rfl, rfl, rfl, r_itn (fun z => absurd rfl z) fun _ => ?_⟩
  exact q
def AskP (x : PV) : Prop := (∃ e, toG x = some e) ∨ insC x = some .Plan
theorem p_pget_no {P : PV → Prop} {EX : En → Fs → Prop} {s : List Int} {x : PV} (hx : AskP x) (hb : isH (s.length : Int) x = false) (q : EX .NoHour [("hour", x)]) : w_Plan___getitem__ [pnP s, x] P EX := by
  have il : (iL s).length = s.length := by unfold iL; rw [List.length_map]
  unfold w_Plan___getitem__ t_Plan___getitem__
  walk_at "wz"
  refine ⟨⟨_, rfl⟩, .tup (iL s), rfl, ?_⟩
  show w_is_hour [.int ((iL s).length : Int), x] _
  rw [il]
  refine p_is_hour_g hx ?_
  rw [hb]
  walk_at "wz"
  exact q
theorem p_moved_no {P : PV → Prop} {EX : En → Fs → Prop} {s : List Int} {x y : PV} (g : GoodN s) (hx : AskP x) (hb : isH (s.length : Int) x = false) (q : EX .NoHour [("hour", x)]) : w_Plan_moved [pnP s, x, y] P EX := by
  unfold w_Plan_moved t_Plan_moved
  refine ⟨rfl, ?_⟩
  refine ⟨⟨_, rfl⟩, s, rfl, g, ?_⟩
  refine p_is_hour_g hx ?_
  have hb' : isH (s.length : Int) (([pnP s, x, y] ++ List.replicate 1 PV.non).getD 1 PV.non) = false := hb
  rw [hb']
  exact q
theorem p_moved_begin {P : PV → Prop} {EX : En → Fs → Prop} {s : List Int} {h : Nat} {y : PV} (g : GoodN s) (hh : h < s.length) (h0 : s.getD h 0 = 0) (q : EX .NoBegin [("hour", .int (h : Int))]) : w_Plan_moved [pnP s, .int (h : Int), y] P EX := by
  unfold w_Plan_moved t_Plan_moved
  refine ⟨rfl, ?_⟩
  refine seq_id (fun N hN => ?_) ?_
  · refine ⟨⟨_, rfl⟩, s, rfl, g, ?_⟩
    refine p_is_hour_g (x := .int (h : Int)) (.inl ⟨.int (h : Int), by simp only [toG]⟩) ?_
    have e : isH (s.length : Int) (.int (h : Int)) = true := by
      show (decide (0 ≤ (h : Int)) && decide ((h : Int) < (s.length : Int))) = true
      rw [decide_eq_true (by omega), decide_eq_true (by omega)]
      rfl
    rw [e]
    exact hN
  refine ⟨⟨_, rfl⟩, .tup (iL s), rfl, ?_⟩
  show ∃ z, L2.atI (iL s) (h : Int) = some z ∧ _
  refine ix_iL (by omega) (by omega) ?_
  show (if decide (s.getD (h : Int).toNat 0 = 0) = true then _ else _)
  rw [if_pos (decide_eq_true (by rw [Int.toNat_natCast]; exact h0))]
  exact q
theorem p_later_no {P : PV → Prop} {EX : En → Fs → Prop} {s : List Int} {x : PV} (g : GoodN s) (hx : AskP x) (hb : isH (s.length : Int) x = false) (q : EX .NoHour [("hour", x)]) : w_Plan_later [pnP s, x] P EX := by
  unfold w_Plan_later t_Plan_later
  walk_at "wz"
  exact ⟨⟨_, rfl, rfl⟩, p_moved_no g hx hb q⟩
theorem p_earlier_no {P : PV → Prop} {EX : En → Fs → Prop} {s : List Int} {x : PV} (g : GoodN s) (hx : AskP x) (hb : isH (s.length : Int) x = false) (q : EX .NoHour [("hour", x)]) : w_Plan_earlier [pnP s, x] P EX := by
  unfold w_Plan_earlier t_Plan_earlier
  walk_at "wz"
  exact ⟨⟨_, rfl, rfl⟩, p_moved_no g hx hb q⟩
theorem p_later_begin {P : PV → Prop} {EX : En → Fs → Prop} {s : List Int} {h : Nat} (g : GoodN s) (hh : h < s.length) (h0 : s.getD h 0 = 0) (q : EX .NoBegin [("hour", .int (h : Int))]) : w_Plan_later [pnP s, .int (h : Int)] P EX := by
  unfold w_Plan_later t_Plan_later
  walk_at "wz"
  exact ⟨⟨_, rfl, rfl⟩, p_moved_begin g hh h0 q⟩
theorem p_earlier_begin {P : PV → Prop} {EX : En → Fs → Prop} {s : List Int} {h : Nat} (g : GoodN s) (hh : h < s.length) (h0 : s.getD h 0 = 0) (q : EX .NoBegin [("hour", .int (h : Int))]) : w_Plan_earlier [pnP s, .int (h : Int)] P EX := by
  unfold w_Plan_earlier t_Plan_earlier
  walk_at "wz"
  exact ⟨⟨_, rfl, rfl⟩, p_moved_begin g hh h0 q⟩
theorem last_sum {s : List Int} : cyc (sumsR s) (-1) = s.sum := by
  have hl := sumsR_length s
  have e : cyc (sumsR s) (-1) = (sumsR s).getD s.length 0 := by
    unfold cyc
    rw [show (-1 % ((sumsR s).length : Int)) = (s.length : Int) from by
      rw [hl, ← Int.add_emod_right, show (-1 : Int) + ((s.length + 1 : Nat) : Int) = (s.length : Int) by omega]
      exact Int.emod_eq_of_lt (by omega) (by omega), Int.toNat_natCast]
  rw [e, sumsR_getD (Nat.le_refl _), List.take_length]
theorem p_pairs_no {P : PV → Prop} {EX : En → Fs → Prop} {xs ys : List PV} {x y : PV} (hx : x = .lst xs ∨ x = .tup xs) (hy : y = .lst ys ∨ y = .tup ys) (hl : xs.length ≠ ys.length) (q : EX .Unlike []) : w_pairs_of [x, y] P EX := by
  unfold w_pairs_of t_pairs_of
  rcases hx with rfl | rfl <;> rcases hy with rfl | rfl
  all_goals
    walk_at "wz"
    exact r_itn (fun _ => q) (fun z => absurd (by omega) hl)
theorem p_pairs {P : PV → Prop} {EX : En → Fs → Prop} {xs ys : List PV} {x y : PV} (hx : x = .lst xs ∨ x = .tup xs) (hy : y = .lst ys ∨ y = .tup ys) (h1 : 1 ≤ xs.length) (hl : xs.length = ys.length) (p : P (.lst (zipP xs ys))) : w_pairs_of [x, y] P EX := by
  unfold w_pairs_of t_pairs_of
  rcases hx with rfl | rfl <;> rcases hy with rfl | rfl
  all_goals
    walk_at "wz"
    exact r_itn (fun z => absurd (by omega) z) (fun _ => ⟨hl, h1, p⟩)
theorem zip_last {a b : List Int} (h1 : 1 ≤ a.length) (hl : a.length = b.length) : L2.atI (zipP (iL a) (iL b)) (-1) = some (.tup [.int (cyc a (-1)), .int (cyc b (-1))]) := by
  have il : ∀ u : List Int, (iL u).length = u.length := fun u => by unfold iL; rw [List.length_map]
  have ca : ∀ u : List Int, 1 ≤ u.length → cyc u (-1) = u.getD (u.length - 1) 0 := fun u hu => by
    unfold cyc
    rw [show (-1 % (u.length : Int)) = ((u.length - 1 : Nat) : Int) from by
      rw [← Int.add_emod_right, show (-1 : Int) + (u.length : Int) = ((u.length - 1 : Nat) : Int) by omega]
      exact Int.emod_eq_of_lt (by omega) (by omega), Int.toNat_natCast]
  have gd : ∀ u : List Int, 1 ≤ u.length → (iL u).getD (u.length - 1) .non = .int (u.getD (u.length - 1) 0) := fun u hu => by
    rw [List.getD_eq_getElem?_getD, List.getD_eq_getElem?_getD, List.getElem?_eq_getElem (show u.length - 1 < u.length by omega), List.getElem?_eq_getElem (by rw [il]; omega)]
    unfold iL
    rw [List.getElem_map]
    rfl
  have zl : (zipP (iL a) (iL b)).length = a.length := by unfold zipP; rw [List.length_map, List.length_range, il, il]; omega
  have e : L2.ixN (zipP (iL a) (iL b)).length (-1) = some (a.length - 1) := by
    rw [zl]
    unfold L2.ixN
    rw [if_neg (by decide)]
    split
    · congr 1
      omega
    · omega
  unfold L2.atI
  rw [e]
  show (zipP (iL a) (iL b))[a.length - 1]? = _
  unfold zipP
  rw [List.getElem?_map, List.getElem?_range (by rw [il, il]; omega)]
  show some (PV.tup [(iL a).getD (a.length - 1) .non, (iL b).getD (a.length - 1) .non]) = _
  rw [gd a h1, ca a h1, ca b (by omega), hl, gd b (by omega)]
theorem p_both_no {P : PV → Prop} {EX : En → Fs → Prop} {s t : List Int} {x y : PV} (hx : seqP x s) (hy : seqP y t) (h1 : 1 ≤ s.length) (l1 : s.length ≤ 49) (l2 : t.length ≤ 49) (hl : s.length ≠ t.length ∨ s.sum ≠ t.sum) (q : EX .Unlike []) : w_both_sums [x, y] P EX := by
  have sl := sumsR_length s
  have tl := sumsR_length t
  have il : ∀ u : List Int, (iL u).length = u.length := fun u => by unfold iL; rw [List.length_map]
  unfold w_both_sums t_both_sums
  refine ⟨rfl, ?_⟩
  refine ⟨x, s, rfl, hx, by omega, ?_⟩
  refine ⟨y, t, rfl, hy, by omega, ?_⟩
  by_cases e : s.length = t.length
  · refine p_pairs (.inl rfl) (.inl rfl) (by rw [il]; omega) (by rw [il, il]; omega) ?_
    have ns : s.sum ≠ t.sum := hl.elim (fun z => absurd e z) id
    refine ⟨_, zip_last (by omega) (by omega), ?_⟩
    refine ⟨_, at0, ?_⟩
    refine ⟨_, zip_last (by omega) (by omega), ?_⟩
    refine ⟨_, at1, ?_⟩
    show (if (!decide (cyc (sumsR s) (-1) = cyc (sumsR t) (-1))) = true then _ else _)
    rw [last_sum, last_sum]
    exact r_itn (fun _ => q) (fun z => absurd z ns)
  · exact p_pairs_no (.inl rfl) (.inl rfl) (by rw [il, il]; omega) q
theorem row_two {P : PV → Prop} {EX : En → Fs → Prop} {s t : List Int} (gs : GoodN s) (gt : GoodN t) (hl : s.length ≠ t.length ∨ s.sum ≠ t.sum) (q : EX .Unlike []) : w_Plan___and__ [pnP s, pnP t] P EX ∧ w_Plan___or__ [pnP s, pnP t] P EX ∧ w_Plan_within [pnP s, pnP t] P EX := by
  have l1 := gs.le
  have l2 := gt.le
  refine ⟨?_, ?_, ?_⟩
  · unfold w_Plan___and__ t_Plan___and__
    refine ⟨rfl, ?_⟩
    refine ⟨⟨_, rfl⟩, .tup (iL s), rfl, ⟨_, rfl⟩, .tup (iL t), rfl, ?_⟩
    exact p_both_no (.inr rfl) (.inr rfl) gs.ne (by omega) (by omega) hl q
  · unfold w_Plan___or__ t_Plan___or__
    refine ⟨rfl, ?_⟩
    refine ⟨⟨_, rfl⟩, .tup (iL s), rfl, ⟨_, rfl⟩, .tup (iL t), rfl, ?_⟩
    exact p_both_no (.inr rfl) (.inr rfl) gs.ne (by omega) (by omega) hl q
  · unfold w_Plan_within t_Plan_within
    refine ⟨rfl, ?_⟩
    refine ⟨⟨_, rfl⟩, .tup (iL s), rfl, ⟨_, rfl⟩, .tup (iL t), rfl, ?_⟩
    exact p_both_no (.inr rfl) (.inr rfl) gs.ne (by omega) (by omega) hl q
theorem p_add_no {P : PV → Prop} {EX : En → Fs → Prop} {s t : List Int} (hl : s.length ≠ t.length) (q : EX .Unlike []) : w_Plan___add__ [pnP s, pnP t] P EX := by
  have il : ∀ u : List Int, (iL u).length = u.length := fun u => by unfold iL; rw [List.length_map]
  unfold w_Plan___add__ t_Plan___add__
  refine ⟨rfl, ?_⟩
  refine ⟨⟨_, rfl⟩, .tup (iL s), rfl, ⟨_, rfl⟩, .tup (iL t), rfl, ?_⟩
  exact p_pairs_no (.inr rfl) (.inr rfl) (by rw [il, il]; exact hl) q
theorem tg {x : PV} (ox : Odd x) : ∃ e, toG x = some e := let ⟨e, h, _⟩ := ox; ⟨e, h⟩
theorem door_b0 {s : List Int} (g : GoodN s) {x : PV} (ox : Odd x) (hb : isH (s.length : Int) x = false) {D : WEnds} {x1 x2 x4 x5 x6 x7 x8 x9 x10 : PV} (q : D.nx [pnP s, x1, x2, x, x4, x5, x6, x7, x8, x9, x10]) : t__law_doors_right_b0 D [pnP s, x1, x2, x, x4, x5, x6, x7, x8, x9, x10] := by
  unfold t__law_doors_right_b0
  refine seq_id (fun N hN => ?_) ?_
  · walk_at "wz"
    intro z
    refine heard_hour (fun ys P E hh => hh.1) (fun P E e => ⟨rfl, ⟨_, rfl⟩, p_pget_no (.inl (tg ox)) hb e⟩) ?_
    refine same_tup (by decide) ox ?_
    walk_at "wz"
    exact hN
  refine seq_id (fun N hN => ?_) ?_
  · walk_at "wz"
    intro z
    refine heard_hour (fun ys P E hh => hh.1) (fun P E e => ⟨rfl, ⟨_, rfl, rfl⟩, p_later_no g (.inl (tg ox)) hb e⟩) ?_
    refine same_tup (by decide) ox ?_
    walk_at "wz"
    exact hN
  · walk_at "wz"
    intro z
    refine heard_hour (fun ys P E hh => hh.1) (fun P E e => ⟨rfl, ⟨_, rfl, rfl⟩, p_earlier_no g (.inl (tg ox)) hb e⟩) ?_
    refine same_tup (by decide) ox ?_
    walk_at "wz"
    exact q
theorem door_b1 {s : List Int} (g : GoodN s) {h : Nat} (hh : h < s.length) (h0 : s.getD h 0 = 0) {D : WEnds} {x1 x2 x4 x5 x6 x7 x8 x9 x10 : PV} (q : D.nx [pnP s, x1, x2, .int (h : Int), x4, x5, x6, x7, x8, x9, x10]) : t__law_doors_right_b1 D [pnP s, x1, x2, .int (h : Int), x4, x5, x6, x7, x8, x9, x10] := by
  have gl := g.le
  have ox : Odd (.int (h : Int)) := (pg_small (by omega)).mono (by decide) (by decide)
  unfold t__law_doors_right_b1
  refine seq_id (fun N hN => ?_) ?_
  · walk_at "wz"
    intro z
    refine heard_begin (fun ys P E hh => hh.1) (fun P E e => ⟨rfl, ⟨_, rfl, rfl⟩, p_later_begin g hh h0 e⟩) ?_
    refine same_tup (by decide) ox ?_
    walk_at "wz"
    exact hN
  · walk_at "wz"
    intro z
    refine heard_begin (fun ys P E hh => hh.1) (fun P E e => ⟨rfl, ⟨_, rfl, rfl⟩, p_earlier_begin g hh h0 e⟩) ?_
    refine same_tup (by decide) ox ?_
    walk_at "wz"
    exact q
theorem ne_un {P : PV → Prop} (p : P (.bl false)) : wNeG (.tup [.str "unlike", .non]) (.tup [.str "unlike", .non]) P :=
  .inr ⟨1, by decide, ⟨_, _, .inr ⟨rfl, rfl⟩, .cons (.inl ⟨_, rfl, rfl⟩) (.cons (.inl ⟨_, rfl, rfl⟩) .nil)⟩, p⟩
theorem door_b2 {s t : List Int} (gs : GoodN s) (gt : GoodN t) (hl : s.length ≠ t.length ∨ s.sum ≠ t.sum) {D : WEnds} {x0 x1 x2 x3 x4 x5 x6 x9 x10 : PV} (q : D.nx [x0, x1, x2, x3, x4, x5, x6, pnP s, pnP t, x9, x10]) : t__law_doors_right_b2 D [x0, x1, x2, x3, x4, x5, x6, pnP s, pnP t, x9, x10] := by
  have l1 := gs.le
  have l2 := gt.le
  unfold t__law_doors_right_b2
  refine seq_id (fun N hN => ?_) ?_
  · walk_at "wz"
    intro z
    refine heard_unlike (fun ys P E hh => hh.1) (fun P E e => ⟨rfl, ⟨_, _, rfl, rfl⟩, (row_two gs gt hl e).1⟩) ?_
    exact ne_un hN
  refine seq_id (fun N hN => ?_) ?_
  · walk_at "wz"
    intro z
    refine heard_unlike (fun ys P E hh => hh.1) (fun P E e => ⟨rfl, ⟨_, _, rfl, rfl⟩, (row_two gs gt hl e).2.1⟩) ?_
    exact ne_un hN
  refine seq_id (fun N hN => ?_) ?_
  · walk_at "wz"
    intro z
    refine heard_unlike (fun ys P E hh => hh.1) (fun P E e => ⟨rfl, ⟨_, rfl, rfl⟩, (row_two gs gt hl e).2.2⟩) ?_
    exact ne_un hN
  · walk_at "wz"
    refine ⟨_, rfl, s, rfl, gs, by omega, by omega, ?_⟩
    refine ⟨_, rfl, t, rfl, gt, by omega, by omega, ?_⟩
    walk_at "wz"
    refine r_itn (fun h => ?_) (fun _ => q)
    intro z
    refine heard_unlike (fun ys P E hh => hh.1) (fun P E e => ⟨rfl, ⟨_, _, rfl, rfl⟩, p_add_no (fun z => h (by omega)) e⟩) ?_
    exact ne_un q
theorem iL_app {a b : List Int} : iL a ++ iL b = iL (a ++ b) := by unfold iL; rw [List.map_append]
theorem good_app {r : List Int} {z : Int} (g : GoodN r) (hz : 0 ≤ z) (hl : r.length + 1 ≤ 48) : GoodN (r ++ [z]) :=
  good_n (by rw [List.length_append, List.length_singleton]; omega) (by rw [List.length_append, List.length_singleton]; omega) fun y hy => by
    rcases List.mem_append.mp hy with hy | hy
    · exact g.mem y hy
    · rw [List.mem_singleton.mp hy]; exact hz
theorem p_add_last {P : PV → Prop} {EX : En → Fs → Prop} {r : List Int} {z : Int} (g : GoodN (r ++ [z])) (g2 : GoodN (r ++ [z + 1])) (p : GoodN ((r.map fun y => 2 * y) ++ [2 * z + 1]) → P (pnP ((r.map fun y => 2 * y) ++ [2 * z + 1]))) : w_Plan___add__ [pnP (r ++ [z]), pnP (r ++ [z + 1])] P EX := by
  have il : ∀ u : List Int, (iL u).length = u.length := fun u => by unfold iL; rw [List.length_map]
  have gl := g.le
  have gm := g.mem
  have ln : (r ++ [z]).length = r.length + 1 := by rw [List.length_append, List.length_singleton]
  have ln2 : (r ++ [z + 1]).length = r.length + 1 := by rw [List.length_append, List.length_singleton]
  unfold w_Plan___add__ t_Plan___add__
  refine ⟨rfl, ?_⟩
  refine ⟨⟨_, rfl⟩, .tup (iL (r ++ [z])), rfl, ⟨_, rfl⟩, .tup (iL (r ++ [z + 1])), rfl, ?_⟩
  refine p_pairs (.inr rfl) (.inr rfl) (by rw [il, ln]; omega) (by rw [il, il, ln, ln2]) ?_
  have gd : ∀ (u : List Int) (i : Nat), i < u.length → (iL u).getD i .non = .int (u.getD i 0) := fun u i hi => by
    rw [List.getD_eq_getElem?_getD, List.getD_eq_getElem?_getD, List.getElem?_eq_getElem hi, List.getElem?_eq_getElem (by rw [il]; exact hi)]
    unfold iL
    rw [List.getElem_map]
    rfl
  have ze : zipP (iL (r ++ [z])) (iL (r ++ [z + 1])) = (List.range (r.length + 1)).map fun (i : Nat) => .tup [.int ((r ++ [z]).getD i 0), .int ((r ++ [z + 1]).getD i 0)] := by
    unfold zipP
    rw [il, il, ln, ln2, Nat.min_self]
    refine List.map_congr_left fun i hi => ?_
    have hi := List.mem_range.mp hi
    rw [gd _ i (by omega), gd _ i (by omega)]
  have rs : ((List.range (r.length + 1)).map fun (i : Nat) => PV.int ((r ++ [z]).getD i 0 + (r ++ [z + 1]).getD i 0)) = iL ((r.map fun y => 2 * y) ++ [2 * z + 1]) := by
    unfold iL
    refine List.ext_getElem (by simp) fun i h1 h2 => ?_
    rw [List.getElem_map, List.getElem_map, List.getElem_range]
    rw [List.length_map, List.length_range] at h1
    congr 1
    rw [List.getD_eq_getElem?_getD, List.getD_eq_getElem?_getD, List.getElem?_append, List.getElem?_append, List.getElem_append]
    by_cases hi : i < r.length
    · rw [if_pos hi, if_pos hi, dif_pos (by rw [List.length_map]; exact hi), List.getElem?_eq_getElem hi, List.getElem_map]
      simp only [Option.getD_some]
      omega
    · obtain rfl : i = r.length := by omega
      rw [if_neg hi, if_neg hi, dif_neg (by rw [List.length_map]; exact hi)]
      simp only [Nat.sub_self, List.getElem?_cons_zero, Option.getD_some, List.length_map, List.getElem_cons_zero]
      omega
  have gg : GoodN ((r.map fun y => 2 * y) ++ [2 * z + 1]) := good_n (by simp) (by simp only [List.length_append, List.length_map, List.length_singleton]; omega) fun y hy => by
    rcases List.mem_append.mp hy with hy | hy
    · obtain ⟨w, hw, rfl⟩ := List.mem_map.mp hy
      have := gm w (List.mem_append_left _ hw)
      omega
    · rw [List.mem_singleton.mp hy]
      have := gm z (List.mem_append_right _ (List.mem_singleton.mpr rfl))
      omega
  show (zipP (iL (r ++ [z])) (iL (r ++ [z + 1]))).length ≤ 100000 ∧ _
  rw [ze]
  refine ⟨by rw [List.length_map, List.length_range]; omega, ?_⟩
  refine lcm (fun (i : Nat) => .int ((r ++ [z]).getD i 0 + (r ++ [z + 1]).getD i 0)) (fun i hi Kt hk => ?_) ?_
  · walk_at "wz"
    exact hk
  · rw [List.nil_append, rs]
    exact mk_rowQ (.inl rfl) gg (p gg)
theorem last_cyc {r : List Int} {z : Int} : cyc (r ++ [z]) (-1) = z := by
  have ln : (r ++ [z]).length = r.length + 1 := by rw [List.length_append, List.length_singleton]
  unfold cyc
  rw [show (-1 % ((r ++ [z]).length : Int)) = (r.length : Int) from by
    rw [ln, ← Int.add_emod_right, show (-1 : Int) + ((r.length + 1 : Nat) : Int) = (r.length : Int) by omega]
    exact Int.emod_eq_of_lt (by omega) (by omega), Int.toNat_natCast]
  rw [List.getD_eq_getElem?_getD, List.getElem?_append_right (Nat.le_refl _), Nat.sub_self]
  rfl
theorem cut_last {r : List Int} {z : Int} : cutP (iL (r ++ [z])) none (some (-1)) = iL r := by
  have il : ∀ u : List Int, (iL u).length = u.length := fun u => by unfold iL; rw [List.length_map]
  have ln : (r ++ [z]).length = r.length + 1 := by rw [List.length_append, List.length_singleton]
  rw [cut_im1 (by rw [il, ln]; omega), il, ln, Nat.add_sub_cancel, ← iL_app]
  rw [List.take_append_of_le_length (by rw [il]; omega), List.take_of_length_le (by rw [il]; omega)]
theorem p__law_doors_right {P : PV → Prop} {r : List Int} {z : Int} (g : GoodN (r ++ [z])) (hl : r.length ≤ 11) (hb : ∀ y ∈ r ++ [z], y.natAbs < 10 ^ 31) (p : P (.bl true)) : w__law_doors_right [pnP (r ++ [z]), .lst (iL (r ++ [z]))] P := by
  obtain ⟨s, hs⟩ : ∃ s, s = r ++ [z] := ⟨_, rfl⟩
  have il : ∀ u : List Int, (iL u).length = u.length := fun u => by unfold iL; rw [List.length_map]
  have ln : s.length = r.length + 1 := by rw [hs, List.length_append, List.length_singleton]
  rw [← hs] at g hb ⊢
  have n1 := g.ne
  have n2 := g.le
  have gz : 0 ≤ z := g.mem z (by rw [hs]; exact List.mem_append_right _ (List.mem_singleton.mpr rfl))
  have gr : ∀ y ∈ r, 0 ≤ y := fun y hy => g.mem y (by rw [hs]; exact List.mem_append_left _ hy)
  have gm : GoodN (r ++ [z + 1]) := good_n (by simp) (by simp only [List.length_append, List.length_singleton]; omega) fun y hy => by
    rcases List.mem_append.mp hy with hy | hy
    · exact gr y hy
    · rw [List.mem_singleton.mp hy]; omega
  have gw : GoodN (s ++ [0]) := good_app g (by decide) (by omega)
  have gb : GoodN (s ++ [1]) := good_app g (by decide) (by omega)
  have smr : s.sum ≠ (r ++ [z + 1]).sum := by
    rw [hs, List.sum_append_int, List.sum_append_int]
    simp only [List.sum_cons, List.sum_nil]
    omega
  have hn : ∀ i : Int, (i < 0 ∨ (s.length : Int) ≤ i) → isH (s.length : Int) (.int i) = false := fun i h => isH_out h
  unfold w__law_doors_right t__law_doors_right
  refine ⟨rfl, ?_⟩
  refine seq_two (fun ρ => ρ = [pnP s, .lst (iL s), .int (s.length : Int), .non, .non, .non, .non, .non, .non, .non, .non]) (fun N hN => ?_) (fun ρ hρ => ?_)
  · walk_at "wz"
    exact hN _ rfl
  subst hρ
  refine seq_two (fun ρ => ∃ x3, ρ = [pnP s, .lst (iL s), .int (s.length : Int), x3, .non, .non, .non, .non, .non, .non, .non]) (fun N hN => ?_) (fun ρ hρ => ?_)
  · refine for_all (p := fun x => Odd x ∧ isH (s.length : Int) x = false) (n := 10) ?_ (by decide) fun xs hx => ?_
    · refine aa_cons (fun K k => k _ ⟨pg_non.mono (by decide) (by decide), rfl⟩) ?_
      refine aa_cons (fun K k => k _ ⟨pg_bl.mono (by decide) (by decide), rfl⟩) ?_
      refine aa_cons (fun K k => k _ ⟨pg_bl.mono (by decide) (by decide), rfl⟩) ?_
      refine aa_cons (fun K k => k _ ⟨(pg_small (i := -1) (by decide)).mono (by decide) (by decide), hn _ (.inl (by decide))⟩) ?_
      refine aa_cons (fun K k => k _ ⟨(pg_small (i := (s.length : Int)) (by omega)).mono (by decide) (by decide), hn _ (.inr (by omega))⟩) ?_
      refine aa_cons (fun K k => k _ ⟨(odd_str "0").mono (by decide) (by decide), rfl⟩) ?_
      refine aa_cons (fun K k => ⟨by decide, k _ ⟨(pg_tup (w := 11) (k := 0) (n := 1) (all_cons (pg_small (by decide)) all_nil) (by decide)).mono (by decide) (by decide), rfl⟩⟩) ?_
      refine aa_cons (fun K k => ⟨by decide, k _ ⟨(pg_lst1 (pg_small (by decide))).mono (by decide) (by decide), rfl⟩⟩) ?_
      refine aa_cons (fun K k a => k _ ⟨pg_dct, rfl⟩) ?_
      exact aa_cons (fun K k => ⟨⟨by decide, by decide, by decide⟩, k _ ⟨odd_ten rfl, hn _ (.inr (by
        have : (s.length : Int) ≤ 10 ^ 40 := by omega
        exact this))⟩⟩) aa_nil
    · refine forv (fun i ρ => ∃ x3, ρ = [pnP s, .lst (iL s), .int (s.length : Int), x3, .non, .non, .non, .non, .non, .non, .non]) ⟨_, rfl⟩ (fun i y ρ N' hy hI hN' => ?_) (fun ρ hI => ?_)
      · obtain ⟨y3, rfl⟩ := hI
        obtain ⟨o, h⟩ := hx y (List.mem_of_getElem? hy)
        exact door_b0 g o h (hN' _ ⟨_, rfl⟩)
      · obtain ⟨y3, rfl⟩ := hI
        exact hN _ ⟨_, rfl⟩
  obtain ⟨y3, rfl⟩ := hρ
  refine seq_two (fun ρ => ∃ x3, ρ = [pnP s, .lst (iL s), .int (s.length : Int), x3, .non, .non, .non, .non, .non, .non, .non]) (fun N hN => ?_) (fun ρ hρ => ?_)
  · walk_at "wz"
    rw [rangeP0, show ((s.length : Nat) : Int).toNat = s.length from Int.toNat_natCast _]
    refine ⟨by omega, by omega, by rw [List.length_map, List.length_range]; omega, ?_⟩
    refine lcl (fun (i : Nat) => decide (s.getD i 0 = 0)) (fun (i : Nat) => .int (i : Int)) (fun i hi Kt Kf a b => ?_) ?_
    · have hi := List.mem_range.mp hi
      walk_at "wz"
      refine ix_iL (by omega) (by omega) ?_
      rw [Int.toNat_natCast]
      walk_at "wz"
      by_cases e : s.getD i 0 = 0
      · rw [if_pos (decide_eq_true e)]
        exact a (decide_eq_true e)
      · rw [if_neg (by rw [decide_eq_false e]; exact Bool.false_ne_true)]
        exact b (decide_eq_false e)
    · rw [List.nil_append]
      refine forv (fun i ρ => ∃ x3, ρ = [pnP s, .lst (iL s), .int (s.length : Int), x3, .non, .non, .non, .non, .non, .non, .non]) ⟨_, rfl⟩ (fun i y ρ N' hy hI hN' => ?_) (fun ρ hI => ?_)
      · obtain ⟨y3, rfl⟩ := hI
        obtain ⟨k, hk, rfl⟩ := List.mem_map.mp (List.mem_of_getElem? hy)
        obtain ⟨h1, h2⟩ := List.mem_filter.mp hk
        exact door_b1 g (List.mem_range.mp h1) (of_decide_eq_true h2) (hN' _ ⟨_, rfl⟩)
      · obtain ⟨y3, rfl⟩ := hI
        exact hN _ ⟨_, rfl⟩
  obtain ⟨z3, rfl⟩ := hρ
  have ne : ∀ (a : Addr) (P : PV → Prop), P (.bl false) → wNeG (.tup [.str "hour", .idv a (pnP s)]) (.tup [.str "hour", .idv a (pnP s)]) P := fun a P p =>
    .inr ⟨1, by decide, ⟨_, _, .inr ⟨rfl, rfl⟩, .cons (.inl ⟨_, rfl, rfl⟩) (.cons (.inr (.inr (.inl ⟨a, _, _, rfl, rfl⟩))) .nil)⟩, p⟩
  refine seq_id (fun N hN => ?_) ?_
  · refine ⟨pnP s, rfl, trivial, fun a => ?_⟩
    unfold wIfS wTest wOp wLam
    intro z
    refine heard_hour (x := .idv a (pnP s)) (fun ys P E hh => hh.1) (fun P E e => ⟨rfl, a, pnP s, rfl, ⟨_, rfl, rfl⟩, p_later_no g (.inr rfl) rfl e⟩) ?_
    refine ⟨Nat.le_of_ble_eq_true rfl, ?_⟩
    refine ne _ _ ?_
    simp only [Bool.false_eq_true, if_false]
    exact ⟨rfl, hN⟩
  refine seq_id (fun N hN => ?_) ?_
  · refine ⟨pnP s, rfl, trivial, fun a => ?_⟩
    unfold wIfS wTest wOp wLam
    intro z
    refine heard_hour (x := .idv a (pnP s)) (fun ys P E hh => hh.1) (fun P E e => ⟨rfl, a, pnP s, rfl, ⟨_, rfl⟩, p_pget_no (.inr rfl) rfl e⟩) ?_
    refine ⟨Nat.le_of_ble_eq_true rfl, ?_⟩
    refine ne _ _ ?_
    simp only [Bool.false_eq_true, if_false]
    exact ⟨rfl, hN⟩
  refine seq_id (fun N hN => ?_) ?_
  · refine ⟨pnP s, rfl, trivial, fun a => ?_⟩
    unfold wIfS wTest wOp wLam
    intro z
    refine heard_hour (x := .idv a (pnP s)) (fun ys P E hh => hh.1) (fun P E e => ⟨rfl, a, pnP s, rfl, ⟨_, rfl, rfl⟩, p_earlier_no g (.inr rfl) rfl e⟩) ?_
    refine ⟨Nat.le_of_ble_eq_true rfl, ?_⟩
    refine ne _ _ ?_
    simp only [Bool.false_eq_true, if_false]
    exact ⟨rfl, hN⟩
  refine seq_two (fun ρ => ρ = [pnP s, .lst (iL s), .int (s.length : Int), z3, pnP (r ++ [z + 1]), pnP (s ++ [0]), .non, .non, .non, .non, .non]) (fun N hN => ?_) (fun ρ hρ => ?_)
  · have cz : cyc s (-1) = z := by rw [hs]; exact last_cyc
    have cl : cutP (iL s) none (some (-1)) = iL r := by rw [hs]; exact cut_last
    walk_at "wz"
    refine ix_cycZ (by omega) (by omega) ?_
    rw [cz, cl]
    show (iL r).length ≤ 99999 ∧ _
    refine ⟨by rw [il]; omega, ?_⟩
    rw [show iL r ++ [PV.int (z + 1)] = iL (r ++ [z + 1]) from iL_app (b := [z + 1])]
    refine mk_rowQ (.inl rfl) gm ⟨by omega, ?_⟩
    rw [show iL s ++ [PV.int 0] = iL (s ++ [0]) from iL_app (b := [0])]
    exact mk_rowQ (.inl rfl) gw (hN _ rfl)
  subst hρ
  refine seq_two (fun ρ => ρ = [pnP s, .lst (iL s), .int (s.length : Int), z3, pnP (r ++ [z + 1]), pnP (s ++ [0]), pnP (s ++ [1]), .non, .non, .non, .non]) (fun N hN => ?_) (fun ρ hρ => ?_)
  · walk_at "wz"
    refine ⟨by omega, ?_⟩
    rw [show iL s ++ [PV.int 1] = iL (s ++ [1]) from iL_app (b := [1])]
    exact mk_rowQ (.inl rfl) gb (hN _ rfl)
  subst hρ
  refine seq_two (fun ρ => ∃ x7 x8, ρ = [pnP s, .lst (iL s), .int (s.length : Int), z3, pnP (r ++ [z + 1]), pnP (s ++ [0]), pnP (s ++ [1]), x7, x8, .non, .non]) (fun N hN => ?_) (fun ρ hρ => ?_)
  · walk_at "wz"
    have lw : s.length ≠ (s ++ [0]).length := by rw [List.length_append, List.length_singleton]; omega
    have lb : s.length ≠ (s ++ [1]).length := by rw [List.length_append, List.length_singleton]; omega
    have hm : ∀ y ∈ [PV.tup [pnP s, pnP (r ++ [z + 1])], .tup [pnP (r ++ [z + 1]), pnP s], .tup [pnP s, pnP (s ++ [0])], .tup [pnP (s ++ [0]), pnP s], .tup [pnP s, pnP (s ++ [1])], .tup [pnP (s ++ [1]), pnP s]], ∃ u v, y = .tup [pnP u, pnP v] ∧ GoodN u ∧ GoodN v ∧ (u.length ≠ v.length ∨ u.sum ≠ v.sum) := fun y hy => by
      simp only [List.mem_cons, List.not_mem_nil, or_false] at hy
      rcases hy with rfl | rfl | rfl | rfl | rfl | rfl
      · exact ⟨_, _, rfl, g, gm, .inr smr⟩
      · exact ⟨_, _, rfl, gm, g, .inr smr.symm⟩
      · exact ⟨_, _, rfl, g, gw, .inl lw⟩
      · exact ⟨_, _, rfl, gw, g, .inl lw.symm⟩
      · exact ⟨_, _, rfl, g, gb, .inl lb⟩
      · exact ⟨_, _, rfl, gb, g, .inl lb.symm⟩
    refine forv (fun i ρ => ∃ x7 x8, ρ = [pnP s, .lst (iL s), .int (s.length : Int), z3, pnP (r ++ [z + 1]), pnP (s ++ [0]), pnP (s ++ [1]), x7, x8, .non, .non]) ⟨_, _, rfl⟩ (fun i y ρ N' hy hI hN' => ?_) (fun ρ hI => ?_)
    · obtain ⟨y7, y8, rfl⟩ := hI
      obtain ⟨u, v, rfl, gu, gv, h⟩ := hm y (List.mem_of_getElem? hy)
      exact ⟨rfl, rfl, door_b2 gu gv h (hN' _ ⟨_, _, rfl⟩)⟩
    · obtain ⟨y7, y8, rfl⟩ := hI
      exact hN _ ⟨_, _, rfl⟩
  obtain ⟨y7, y8, rfl⟩ := hρ
  refine seq_two (fun ρ => ∃ x10, ρ = [pnP s, .lst (iL s), .int (s.length : Int), z3, pnP (r ++ [z + 1]), pnP (s ++ [0]), pnP (s ++ [1]), y7, y8, .lst (iL (s.map fun y => 2 * y)), x10]) (fun N hN => ?_) (fun ρ hρ => ?_)
  · walk_at "wz"
    refine ⟨by omega, ?_⟩
    have := lcm (ρ := [pnP s, .lst (iL s), .int (s.length : Int), z3, pnP (r ++ [z + 1]), pnP (s ++ [0]), pnP (s ++ [1]), y7, y8, .non, .non]) (wg := wgName 10) (we := wOp wMul (wC (.int 2)) (wVar 10)) (acc := []) (P := fun ys => (True → ∃ xs, PV.lst ys = .lst xs) ∧ N [pnP s, .lst (iL s), .int (s.length : Int), z3, pnP (r ++ [z + 1]), pnP (s ++ [0]), pnP (s ++ [1]), y7, y8, .lst ys, .non]) (ys := s) (g := PV.int) (fun y => .int (2 * y)) (fun y hy Kt hk => by
      walk_at "wz"
      exact ⟨cmulB (by decide) (Nat.lt_of_lt_of_le (hb y hy) (by decide)), hk⟩) ⟨fun _ => ⟨_, rfl⟩, hN _ ⟨_, by rw [List.nil_append]; unfold iL; rw [List.map_map]; rfl⟩⟩
    exact this
  obtain ⟨y10, rfl⟩ := hρ
  refine seq_two (fun ρ => ρ = [pnP s, .lst (iL s), .int (s.length : Int), z3, pnP (r ++ [z + 1]), pnP (s ++ [0]), pnP (s ++ [1]), y7, y8, .lst (iL ((r.map fun y => 2 * y) ++ [2 * z + 1])), y10]) (fun N hN => ?_) (fun ρ hρ => ?_)
  · walk_at "wz"
    have lm : (iL (r.map fun y => 2 * y)).length = r.length := by rw [il, List.length_map]
    have e9 : iL (s.map fun y => 2 * y) = iL (r.map fun y => 2 * y) ++ [.int (2 * z)] := by
      rw [hs, List.map_append, ← iL_app]
      rfl
    have e10 : iL ((r.map fun y => 2 * y) ++ [2 * z + 1]) = iL (r.map fun y => 2 * y) ++ [.int (2 * z + 1)] := by
      rw [← iL_app]
      rfl
    rw [e9]
    rw [e10] at hN
    refine ⟨r.length, 2 * z, ?_, ?_, ?_⟩
    · unfold L2.ixN
      rw [if_neg (by decide)]
      split
      · congr 1
        omega
      · omega
    · rw [List.getElem?_append_right (by omega), lm, Nat.sub_self]
      rfl
    · have : ∀ {A : List PV} {w v : PV}, (A ++ [w]).set A.length v = A ++ [v] := fun {A w v} => by
        induction A with
        | nil => rfl
        | cons a A ih => rw [List.cons_append, List.length_cons, List.set_cons_succ, ih]; rfl
      have e11 := this (A := iL (r.map fun y => 2 * y)) (w := .int (2 * z)) (v := .int (2 * z + 1))
      rw [lm] at e11
      rw [e11]
      exact hN _ rfl
  subst hρ
  subst hs
  walk_at "wz"
  refine ⟨⟨_, _, rfl, rfl⟩, p_add_last g gm fun gg => ?_⟩
  refine ⟨_, rfl, gg, ?_⟩
  refine .inr (eqT_self (.inl rfl) (w := 206) (k := 0) (fun y hy => ?_) (by decide) ?_)
  · obtain ⟨w, hw, rfl⟩ := List.mem_map.mp hy
    refine pg_int ?_
    rcases List.mem_append.mp hw with hw | hw
    · obtain ⟨u, hu, rfl⟩ := List.mem_map.mp hw
      have := hb u (List.mem_append_left _ hu)
      omega
    · rw [List.mem_singleton.mp hw]
      have := hb z (List.mem_append_right _ (List.mem_singleton.mpr rfl))
      omega
  refine ⟨_, rfl, g, ?_⟩
  refine .inr (eqT_self (.inl rfl) (w := 206) (k := 0) (fun y hy => ?_) (by decide) ?_)
  · obtain ⟨w, hw, rfl⟩ := List.mem_map.mp hy
    have := hb w hw
    exact pg_int (by omega)
  · exact p
theorem law_b0 {us : List Int} {v : Int} (h1 : 1 ≤ us.length) (h2 : us.length ≤ 1000) {D : WEnds} {x0 x1 x2 x3 x4 x5 x6 x7 x10 : PV} (q : D.nx [x0, x1, x2, x3, x4, x5, x6, x7, .lst (iL (us ++ [cyc us (-1) + v])), .int v, x10]) : t_law_b0 D [x0, x1, x2, x3, x4, x5, x6, x7, .lst (iL us), .int v, x10] := by
  have il : (iL us).length = us.length := by unfold iL; rw [List.length_map]
  unfold t_law_b0
  walk_at "wz"
  refine ix_cycZ (by omega) (by omega) ?_
  exact ⟨_, rfl, by rw [il]; omega, by rw [show iL us ++ [PV.int (cyc us (-1) + v)] = iL (us ++ [cyc us (-1) + v]) from iL_app (b := [_])]; exact q⟩
theorem iL_map (q : List Int) : (iL q).map intOf = q := by
  unfold iL
  rw [List.map_map]
  exact List.map_id'' (fun _ => rfl) q
theorem iL_inj {a b : List Int} (h : iL a = iL b) : a = b := by rw [← iL_map a, h, iL_map]
theorem wr_self {P : PV → Prop} (p : P (.bl false)) : wNeG (.tup [.str "wrong", .int 0]) (.tup [.str "wrong", .int 0]) P :=
  .inr ⟨1, by decide, ⟨_, _, .inr ⟨rfl, rfl⟩, .cons (.inl ⟨_, rfl, rfl⟩) (.cons (.inl ⟨_, rfl, rfl⟩) .nil)⟩, p⟩
def Hrd (b : Bool) (y : PV) : Prop := (b = true ∧ ∃ y1, y = .tup [.str "told", y1]) ∨ (b = false ∧ y = .tup [.str "wrong", .int 0])
theorem law_b1 {s : List Int} (h1 : 1 ≤ s.length) (h2 : s.length ≤ 12) (hs : ∀ z ∈ s, 0 ≤ z ∧ z < 10 ^ 30) {D : WEnds} {x0 x2 x4 x5 x6 x7 x8 x9 x10 : PV} (q : ∀ x5 x6 x7 x8 x9 x10, D.nx [x0, .bag, x2, .lst (iL s), x4, x5, x6, x7, x8, x9, x10]) : t_law_b1 D [x0, .bag, x2, .lst (iL s), x4, x5, x6, x7, x8, x9, x10] := by
  have sz : ∀ {x : PV}, Bent x → (∃ e, toG x = some e) ∧ ∀ xs, itemsP x = some xs → xs.length ≤ 100000 := fun b => ⟨let ⟨e, h, _⟩ := b.1; ⟨e, h⟩, fun xs e => Nat.le_trans (b.2 xs e) (by decide)⟩
  unfold t_law_b1
  refine seq_two (fun ρ => ∃ x, Bent x ∧ ρ = [x0, .bag, x2, .lst (iL s), x4, x, x6, x7, x8, x9, x10]) (fun N hN => ?_) (fun ρ hρ => ?_)
  · walk_at "wz"
    exact p__law_bent h1 (by omega) (fun z hz => ⟨(hs z hz).1, by have := (hs z hz).2; omega⟩) fun x b => hN _ ⟨x, b, rfl⟩
  obtain ⟨x, b, rfl⟩ := hρ
  obtain ⟨hg, hl⟩ := sz b
  refine seq_two (fun ρ => ∃ y, ρ = [x0, .bag, x2, .lst (iL s), x4, x, .str (shG x), y, x8, x9, x10] ∧ Hrd (cntB 1 48 x) y) (fun N hN => ?_) (fun ρ hρ => ?_)
  · walk_at "wz"
    refine repr_G b.1 (by decide) (by decide) ?_
    intro z
    cases e : rowB x with
    | false =>
      refine heard_wrong (i := 0) (fun ys P E hh => hh.1) (fun P E e2 => ⟨rfl, p_mkPlan (.inl hg) hl (fun xs _ e3 => by rw [e] at e3; cases e3) fun _ => e2⟩) ?_
      walk_at "wz"
      exact hN _ ⟨_, rfl, .inr ⟨e, rfl⟩⟩
    | true =>
      obtain ⟨xs, hx⟩ : ∃ xs, itemsP x = some xs := by
        cases e1 : itemsP x with
        | some xs => exact ⟨xs, rfl⟩
        | none => unfold rowB at e; rw [e1] at e; cases e
      refine heard_told (x := .ins .Plan [("kept_begins", .tup xs)]) (fun ys P E hh => hh.1) (fun P E e2 => ⟨rfl, p_mkPlan (.inl hg) hl (fun xs2 e3 e4 => by rw [hx] at e3; cases e3; exact e2) fun e3 => by rw [e] at e3; cases e3⟩) ?_
      walk_at "wz"
      exact hN _ ⟨_, rfl, .inl ⟨e, _, rfl⟩⟩
  obtain ⟨y, rfl, hy⟩ := hρ
  refine seq_id (fun N hN => ?_) ?_
  · rcases hy with ⟨e, y1, rfl⟩ | ⟨e, rfl⟩
    · walk_at "wz"
      refine p__law_are_counts (lo := 1) (hi := 48) hg hl ?_
      rw [e]
      exact hN
    · walk_at "wz"
      refine p__law_are_counts (lo := 1) (hi := 48) hg hl ?_
      rw [e]
      walk_at "wz"
      have e1 : decide (Str.ofString "wrong" = Str.ofString "told") = false := by decide +kernel
      simp only [e1, decide_true, Bool.not_true, Bool.false_eq_true, if_false, Bool.not_false, if_true]
      exact wr_self hN
  refine seq_two (fun ρ => ρ = [x0, .bag, x2, .lst (iL s), x4, x, .str (shG x), y, .lst (iL [0]), x9, x10]) (fun N hN => ?_) (fun ρ hρ => ?_)
  · walk_at "wz"
    exact ⟨fun _ => ⟨_, rfl⟩, hN _ rfl⟩
  subst hρ
  refine seq_two (fun ρ => ∃ us x9, 1 ≤ us.length ∧ us.length ≤ 13 ∧ (∀ z ∈ us, 0 ≤ z ∧ z < 10 ^ 33) ∧ ρ = [x0, .bag, x2, .lst (iL s), x4, x, .str (shG x), y, .lst (iL us), x9, x10]) (fun N hN => ?_) (fun ρ hρ => ?_)
  · walk_at "wz"
    refine forl (ys := s) (g := PV.int) (fun i ρ => ∃ us x9, us.length = 1 + i ∧ (∀ z : Int, z ∈ us → 0 ≤ z ∧ z ≤ (i : Int) * 10 ^ 30) ∧ ρ = [x0, .bag, x2, .lst (iL s), x4, x, .str (shG x), y, .lst (iL us), x9, x10]) ⟨[0], _, rfl, fun z hz => by rw [List.mem_singleton.mp hz]; omega, rfl⟩ (fun i v ρ N' hv hI hN' => ?_) (fun ρ hI => ?_)
    · obtain ⟨us, y9, ul, ub, rfl⟩ := hI
      have hi : i < s.length := by have := (List.getElem?_eq_some_iff.mp hv).1; exact this
      have vb := hs v (List.mem_of_getElem? hv)
      have lb := ub _ (cyc_mem (s := us) (by omega) (-1))
      refine law_b0 (by omega) (by omega) (hN' _ ⟨_, _, by rw [List.length_append, List.length_singleton]; omega, fun z hz => ?_, rfl⟩)
      rcases List.mem_append.mp hz with hz | hz
      · have := ub z hz
        omega
      · rw [List.mem_singleton.mp hz]
        omega
    · obtain ⟨us, y9, ul, ub, rfl⟩ := hI
      exact hN _ ⟨us, _, by omega, by omega, fun z hz => by have := ub z hz; omega, rfl⟩
  obtain ⟨us, y9, u1, u2, ub, rfl⟩ := hρ
  refine seq_two (fun ρ => ∃ o, Bent o ∧ ρ = [x0, .bag, x2, .lst (iL s), x4, x, .str (shG x), y, .lst (iL us), y9, o]) (fun N hN => ?_) (fun ρ hρ => ?_)
  · walk_at "wz"
    refine tk (by omega) (by omega) fun w w0 w1 => ?_
    walk_at "wz"
    refine r_ite (fun _ => hN _ ⟨x, b, rfl⟩) (fun _ => ?_)
    exact p__law_bent u1 (by omega) ub fun o bo => hN _ ⟨o, bo, rfl⟩
  obtain ⟨o, bo, rfl⟩ := hρ
  obtain ⟨og, ol⟩ := sz bo
  refine seq_two (fun ρ => ∃ y, ρ = [x0, .bag, x2, .lst (iL s), x4, x, .str (shG x), y, .lst (iL us), y9, o] ∧ Hrd (sumB o) y) (fun N hN => ?_) (fun ρ hρ => ?_)
  · walk_at "wz"
    intro z
    cases e : sumB o with
    | false =>
      refine heard_wrong (i := 0) (fun ys P E hh => hh.1) (fun P E e2 => ⟨rfl, p_of_sums (.inl og) ol (fun ns e3 => by rw [e] at e3; cases e3) fun _ => e2⟩) ?_
      walk_at "wz"
      exact hN _ ⟨_, rfl, .inr ⟨e, rfl⟩⟩
    | true =>
      obtain ⟨ns, hi⟩ : ∃ ns, itemsP o = some (iL ns) := by
        have e' := e
        unfold sumB at e'
        cases hi : itemsP o with
        | none => rw [hi] at e'; cases e'
        | some xs =>
          rw [hi] at e'
          have e' : (xs.all isC && okSums (xs.map intOf)) = true := e'
          rw [Bool.and_eq_true] at e'
          exact ⟨xs.map intOf, by rw [← (all_cnt e'.1).1]⟩
      refine heard_told (x := pnP (diffR ns)) (fun ys P E hh => hh.1) (fun P E e2 => ⟨rfl, p_of_sums (.inl og) ol (fun ns2 _ e4 => by
        rw [hi] at e4
        rw [← iL_inj (Option.some.inj e4)]
        exact e2) fun e3 => by rw [e] at e3; cases e3⟩) ?_
      walk_at "wz"
      exact hN _ ⟨_, rfl, .inl ⟨e, _, rfl⟩⟩
  obtain ⟨y', rfl, hy'⟩ := hρ
  refine seq_id (fun N hN => ?_) ?_
  · rcases hy' with ⟨e, y1, rfl⟩ | ⟨e, rfl⟩
    · walk_at "wz"
      refine p__law_are_sums og ol ?_
      rw [e]
      exact hN
    · walk_at "wz"
      refine p__law_are_sums og ol ?_
      rw [e]
      walk_at "wz"
      have e1 : decide (Str.ofString "wrong" = Str.ofString "told") = false := by decide +kernel
      simp only [e1, decide_true, Bool.not_true, Bool.false_eq_true, if_false, Bool.not_false, if_true]
      exact wr_self hN
  · walk_at "wz"
    refine repr_G b.1 (by decide) (by decide) ?_
    walk_at "wz"
    exact q _ _ _ _ _ _
theorem drawn_last {s : List Int} (h : 1 ≤ s.length) : ∃ r z, s = r ++ [z] ∧ r.length = s.length - 1 := ⟨s.dropLast, s.getLast (fun e => by rw [e] at h; cases h), (List.dropLast_concat_getLast _).symm, List.length_dropLast⟩
theorem law_b2 {D : WEnds} {x0 x2 x3 x4 x5 x6 x7 x8 x9 x10 : PV} (q : ∀ x3 x4 x5 x6 x7 x8 x9 x10, D.nx [x0, .bag, x2, x3, x4, x5, x6, x7, x8, x9, x10]) : t_law_b2 D [x0, .bag, x2, x3, x4, x5, x6, x7, x8, x9, x10] := by
  unfold t_law_b2
  refine seq_two (fun ρ => ∃ s : List Int, 1 ≤ s.length ∧ s.length ≤ 12 ∧ (∀ z ∈ s, 0 ≤ z ∧ z < 10 ^ 30) ∧ ρ = [x0, .bag, x2, .lst (iL s), x4, x5, x6, x7, x8, x9, x10]) (fun N hN => ?_) (fun ρ hρ => ?_)
  · walk_at "wz"
    exact p__law_drawn_row fun s h1 h2 hs => hN _ ⟨s, h1, h2, hs, rfl⟩
  obtain ⟨s, h1, h2, hs, rfl⟩ := hρ
  have g : GoodN s := good_n h1 (by omega) fun z hz => (hs z hz).1
  refine seq_id (fun N hN => ?_) ?_
  · walk_at "wz"
    refine mk_rowQ (.inl rfl) g ?_
    obtain ⟨r, z, e, rl⟩ := drawn_last h1
    have hb : ∀ y ∈ s, y.natAbs < 10 ^ 31 := fun y hy => by
      have := hs y hy
      omega
    rw [e] at g hb ⊢
    rw [e] at hN
    refine p__law_doors_right g (by omega) hb ?_
    walk_at "wz"
    exact hN
  · walk_at "wz"
    refine ⟨by decide, by decide, ?_⟩
    refine forr (n := 5) (fun i ρ => ∃ x4 x5 x6 x7 x8 x9 x10, ρ = [x0, .bag, x2, .lst (iL s), x4, x5, x6, x7, x8, x9, x10]) ⟨_, _, _, _, _, _, _, rfl⟩ (fun i ρ N hi hI hN => ?_) (fun ρ hI => ?_)
    · obtain ⟨y4, y5, y6, y7, y8, y9, y10, rfl⟩ := hI
      exact law_b1 h1 h2 hs fun x5 x6 x7 x8 x9 x10 => hN _ ⟨_, _, _, _, _, _, _, rfl⟩
    · obtain ⟨y4, y5, y6, y7, y8, y9, y10, rfl⟩ := hI
      exact q _ _ _ _ _ _ _ _
theorem law_b3 {x : PV} (hr : Rowd x) (hl : ∀ xs, itemsP x = some xs → xs.length ≤ 100000) (hb : sumB x = false) {D : WEnds} {x0 x1 x2 x3 x4 x6 x7 x8 x9 x10 : PV} (q : D.nx [x0, x1, x2, x3, x4, x, x6, x7, x8, x9, x10]) : t_law_b3 D [x0, x1, x2, x3, x4, x, x6, x7, x8, x9, x10] := by
  unfold t_law_b3
  walk_at "wz"
  intro z
  refine heard_wrong (i := 0) (fun ys P E hh => hh.1) (fun P E e2 => ⟨rfl, p_of_sums hr hl (fun ns e3 => by rw [hb] at e3; cases e3) fun _ => e2⟩) ?_
  exact wr_self q
theorem law_b4 {x : PV} (hr : Rowd x) (hl : ∀ xs, itemsP x = some xs → xs.length ≤ 100000) (hb : rowB x = false) {D : WEnds} {x0 x1 x2 x3 x4 x6 x7 x8 x9 x10 : PV} (q : D.nx [x0, x1, x2, x3, x4, x, x6, x7, x8, x9, x10]) : t_law_b4 D [x0, x1, x2, x3, x4, x, x6, x7, x8, x9, x10] := by
  unfold t_law_b4
  walk_at "wz"
  intro z
  refine heard_wrong (i := 0) (fun ys P E hh => hh.1) (fun P E e2 => ⟨rfl, p_mkPlan hr hl (fun xs _ e3 => by rw [hb] at e3; cases e3) fun _ => e2⟩) ?_
  exact wr_self q
theorem iL_rep {n : Nat} {i : Int} : (List.replicate n [PV.int i]).flatten = iL (List.replicate n i) := by
  induction n with
  | zero => rfl
  | succ n ih => rw [List.replicate_succ, List.flatten_cons, ih]; rfl
theorem law_true (ns : List Int) (hn : ns.length ≤ 63) : w_law [.scr ns] fun x => x = .bl true := by
  have one : GoodN [1] := good_n (by decide) (by decide) (by decide)
  have pl : ∀ s, GoodN s → Rowd (pnP s) ∧ (∀ xs, itemsP (pnP s) = some xs → xs.length ≤ 100000) ∧ rowB (pnP s) = false ∧ sumB (pnP s) = false := fun s _ => ⟨.inr ⟨_, _, rfl, .inr rfl⟩, (fun xs e => nomatch e), rfl, rfl⟩
  unfold w_law t_law wDef
  refine ⟨rfl, ?_⟩
  refine seq_two (fun ρ => ρ = [.scr ns, .bag, .non, .non, .non, .non, .non, .non, .non, .non, .non]) (fun N hN => ?_) (fun ρ hρ => ?_)
  · walk_at "wz"
    exact ⟨ns, rfl, hN _ rfl⟩
  subst hρ
  refine seq_two (fun ρ => ∃ x2 x3 x4 x5 x6 x7 x8 x9 x10, ρ = [.scr ns, .bag, x2, x3, x4, x5, x6, x7, x8, x9, x10]) (fun N hN => ?_) (fun ρ hρ => ?_)
  · walk_at "wz"
    refine ⟨by decide, by decide, ?_⟩
    refine forr (n := 5) (fun i ρ => ∃ x2 x3 x4 x5 x6 x7 x8 x9 x10, ρ = [.scr ns, .bag, x2, x3, x4, x5, x6, x7, x8, x9, x10]) ⟨_, _, _, _, _, _, _, _, _, rfl⟩ (fun i ρ N' hi hI hN' => ?_) (fun ρ hI => ?_)
    · obtain ⟨x2, x3, x4, x5, x6, x7, x8, x9, x10, rfl⟩ := hI
      exact law_b2 fun x3 x4 x5 x6 x7 x8 x9 x10 => hN' _ ⟨_, _, _, _, _, _, _, _, _, rfl⟩
    · obtain ⟨x2, x3, x4, x5, x6, x7, x8, x9, x10, rfl⟩ := hI
      exact hN _ ⟨_, _, _, _, _, _, _, _, _, rfl⟩
  obtain ⟨x2, x3, x4, x5, x6, x7, x8, x9, x10, rfl⟩ := hρ
  refine seq_two (fun ρ => ∃ x5, ρ = [.scr ns, .bag, x2, x3, x4, x5, x6, x7, x8, x9, x10]) (fun N hN => ?_) (fun ρ hρ => ?_)
  · refine for_all (p := fun x => Rowd x ∧ (∀ xs, itemsP x = some xs → xs.length ≤ 100000) ∧ sumB x = false) (n := 3) ?_ (by decide) fun xs hx => ?_
    · refine aa_cons (fun K k => ⟨by decide, ?_⟩) (aa_cons (fun K k => ⟨by decide, ?_⟩) (aa_cons (fun K k a => k _ ⟨.inl ⟨_, by simp only [toG]; rfl⟩, (fun xs e => nomatch e), rfl⟩) aa_nil))
      · exact mk_rowQ (s := [0, 1]) (.inl rfl) (good_n (by decide) (by decide) (by decide)) (k _ ⟨.inr ⟨_, _, rfl, .inr rfl⟩, (fun xs e => nomatch e), rfl⟩)
      · exact mk_row (s := [0, 2]) (.inl rfl) (by decide) (by decide) (by decide) (k _ ⟨.inr ⟨_, _, rfl, .inl rfl⟩, (fun xs e => nomatch e), rfl⟩)
    · refine forv (fun i ρ => ∃ x5, ρ = [.scr ns, .bag, x2, x3, x4, x5, x6, x7, x8, x9, x10]) ⟨_, rfl⟩ (fun i y ρ N' hy hI hN' => ?_) (fun ρ hI => ?_)
      · obtain ⟨y5, rfl⟩ := hI
        obtain ⟨a, b, c⟩ := hx y (List.mem_of_getElem? hy)
        exact law_b3 a b c (hN' _ ⟨_, rfl⟩)
      · obtain ⟨y5, rfl⟩ := hI
        exact hN _ ⟨_, rfl⟩
  obtain ⟨y5, rfl⟩ := hρ
  refine seq_two (fun ρ => ∃ x5, ρ = [.scr ns, .bag, x2, x3, x4, x5, x6, x7, x8, x9, x10]) (fun N hN => ?_) (fun ρ hρ => ?_)
  · refine for_all (p := fun x => Rowd x ∧ (∀ xs, itemsP x = some xs → xs.length ≤ 100000) ∧ rowB x = false) (n := 3) ?_ (by decide) fun xs hx => ?_
    · refine aa_cons (fun K k => ⟨by decide, ?_⟩) (aa_cons (fun K k => ⟨by decide, ?_⟩) (aa_cons (fun K k => ⟨by decide, by decide, by decide, by decide, k _ ?_⟩) aa_nil))
      · exact mk_rowQ (s := [1]) (.inl rfl) one (k _ ⟨.inr ⟨_, _, rfl, .inr rfl⟩, (fun xs e => nomatch e), rfl⟩)
      · exact mk_row (s := [1]) (.inl rfl) (by decide) (by decide) (by decide) (k _ ⟨.inr ⟨_, _, rfl, .inl rfl⟩, (fun xs e => nomatch e), rfl⟩)
      · refine ⟨.inl ?_, fun xs e => by cases e; decide, by decide +kernel⟩
        rw [show (List.replicate (Int.toNat 49) [PV.int 0]).flatten = iL (List.replicate 49 0) from iL_rep]
        exact ⟨_, by simp only [toG, toG_ints, Option.map_some]; rfl⟩
    · refine forv (fun i ρ => ∃ x5, ρ = [.scr ns, .bag, x2, x3, x4, x5, x6, x7, x8, x9, x10]) ⟨_, rfl⟩ (fun i y ρ N' hy hI hN' => ?_) (fun ρ hI => ?_)
      · obtain ⟨y5, rfl⟩ := hI
        obtain ⟨a, b, c⟩ := hx y (List.mem_of_getElem? hy)
        exact law_b4 a b c (hN' _ ⟨_, rfl⟩)
      · obtain ⟨y5, rfl⟩ := hI
        exact hN _ ⟨_, rfl⟩
  obtain ⟨z5, rfl⟩ := hρ
  walk_at "wz"
  intro z
  refine heard_wrong (i := 0) (fun ys P E hh => hh.1) (fun P E e2 => ⟨rfl, mk_rowQ (s := [1]) (.inl rfl) one (p_of_sums (pl _ one).1 (pl _ one).2.1 (fun ns e3 => by rw [(pl _ one).2.2.2] at e3; cases e3) fun _ => e2)⟩) ?_
  refine .inr ⟨1, by decide, ⟨_, _, .inr ⟨rfl, rfl⟩, .cons (.inl ⟨_, rfl, rfl⟩) (.cons (.inl ⟨_, rfl, rfl⟩) .nil)⟩, ?_⟩
  show (if true = true then _ else _)
  rw [if_pos rfl]
  have r49 : List.replicate (Int.toNat 49) (PV.int 0) = iL (List.replicate 49 0) := by unfold iL; rw [List.map_replicate]; rfl
  have r48 : List.replicate (Int.toNat 48) (PV.int 0) = iL (List.replicate 48 0) := by unfold iL; rw [List.map_replicate]; rfl
  have s49 : sumB (.lst (iL (List.replicate 49 0))) = true := by decide +kernel
  have g48 : GoodN (List.replicate 48 0) := good_n (by decide) (by decide) (by decide)
  rw [r49, r48]
  refine ⟨by decide, by decide, by decide, ?_⟩
  refine p_of_sums (x := .lst (iL (List.replicate 49 0))) (.inl ⟨_, by simp only [toG, toG_ints, Option.map_some]; rfl⟩) (fun xs e => by cases e; decide) (fun ns2 _ hi => ?_) (fun e => by rw [s49] at e; cases e)
  obtain rfl : List.replicate 49 0 = ns2 := iL_inj (Option.some.inj hi)
  refine ⟨by decide, by decide, by decide, ?_⟩
  refine mk_rowQ (.inl rfl) g48 ⟨⟨_, _, rfl, rfl⟩, _, _, rfl, ?_, g48, ?_⟩
  · exact good_diff (by decide +kernel)
  · have : decide (diffR (List.replicate 49 0) = List.replicate 48 0) = true := by decide +kernel
    rw [this]
end
theorem all_mk {P : Program} {w : World} {K : PySem.W.Frag} {h : Heap} {mg : Str → Option Value} {fa : Addr} (X : K.In h) (G : h.Ns mainGlobals mg) (hfa : mg "law" = some (.ref fa))
    {c_Needs c_Plan f__law_bag f__law_take f__law_number f__law_drawn_row f__law_same f__law_heard f_is_integer f_is_hour f_Plan___getitem__ f_Plan_hours q_Plan_hours f_is_count f_are_counts f_is_row f_Plan___init__ f_Plan_moved f_Plan_later f_Plan_earlier f_row_of f_pairs_of f_sums_of f_both_sums f_Plan___and__ f_Plan___or__ f_Plan_within f_Plan___len__ f_Plan___add__ f_Plan___iter__ f__law_doors_right f__law_one f__law_bent f__law_are_counts f_are_sums f_Plan_of_sums p_Plan_of_sums f__law_are_sums f_Needs___init__ f_Plan___eq__ f_law cc__law_doors_right tt__law_doors_right cc_law tt_law c_NeedError c_NoBegin fi_NoBegin c_NoHour fi_NoHour c_Unlike fi_Unlike c_Wrong fi_Wrong : Addr}
    {od__law_bag an__law_bag : Option Addr} {sl__law_bag : Array (Option Value)} {oc__law_bag kV__law_bag dc__law_bag pm__law_bag cd__law_bag ct__law_bag : Value}
    {od__law_take an__law_take : Option Addr} {sl__law_take : Array (Option Value)} {oc__law_take kV__law_take dc__law_take pm__law_take cd__law_take ct__law_take : Value}
    {od__law_number an__law_number : Option Addr} {sl__law_number : Array (Option Value)} {oc__law_number kV__law_number dc__law_number pm__law_number cd__law_number ct__law_number : Value}
    {od__law_drawn_row an__law_drawn_row : Option Addr} {sl__law_drawn_row : Array (Option Value)} {oc__law_drawn_row kV__law_drawn_row dc__law_drawn_row pm__law_drawn_row cd__law_drawn_row ct__law_drawn_row : Value}
    {od__law_same an__law_same : Option Addr} {sl__law_same : Array (Option Value)} {oc__law_same kV__law_same dc__law_same pm__law_same cd__law_same ct__law_same : Value}
    {od__law_heard an__law_heard : Option Addr} {sl__law_heard : Array (Option Value)} {oc__law_heard kV__law_heard dc__law_heard pm__law_heard cd__law_heard ct__law_heard : Value}
    {od_is_integer an_is_integer : Option Addr} {sl_is_integer : Array (Option Value)} {oc_is_integer kV_is_integer dc_is_integer pm_is_integer cd_is_integer ct_is_integer : Value}
    {od_is_hour an_is_hour : Option Addr} {sl_is_hour : Array (Option Value)} {oc_is_hour kV_is_hour dc_is_hour pm_is_hour cd_is_hour ct_is_hour : Value}
    {od_Plan___getitem__ an_Plan___getitem__ : Option Addr} {sl_Plan___getitem__ : Array (Option Value)} {oc_Plan___getitem__ kV_Plan___getitem__ dc_Plan___getitem__ pm_Plan___getitem__ cd_Plan___getitem__ ct_Plan___getitem__ : Value}
    {od_Plan_hours an_Plan_hours : Option Addr} {sl_Plan_hours : Array (Option Value)} {oc_Plan_hours kV_Plan_hours dc_Plan_hours pm_Plan_hours cd_Plan_hours ct_Plan_hours : Value}
    {rest_Plan_hours : List Value}
    {od_is_count an_is_count : Option Addr} {sl_is_count : Array (Option Value)} {oc_is_count kV_is_count dc_is_count pm_is_count cd_is_count ct_is_count : Value}
    {od_are_counts an_are_counts : Option Addr} {sl_are_counts : Array (Option Value)} {oc_are_counts kV_are_counts dc_are_counts pm_are_counts cd_are_counts ct_are_counts : Value}
    {od_is_row an_is_row : Option Addr} {sl_is_row : Array (Option Value)} {oc_is_row kV_is_row dc_is_row pm_is_row cd_is_row ct_is_row : Value}
    {od_Plan___init__ an_Plan___init__ : Option Addr} {sl_Plan___init__ : Array (Option Value)} {oc_Plan___init__ kV_Plan___init__ dc_Plan___init__ pm_Plan___init__ cd_Plan___init__ ct_Plan___init__ : Value}
    {od_Plan_moved an_Plan_moved : Option Addr} {sl_Plan_moved : Array (Option Value)} {oc_Plan_moved kV_Plan_moved dc_Plan_moved pm_Plan_moved cd_Plan_moved ct_Plan_moved : Value}
    {od_Plan_later an_Plan_later : Option Addr} {sl_Plan_later : Array (Option Value)} {oc_Plan_later kV_Plan_later dc_Plan_later pm_Plan_later cd_Plan_later ct_Plan_later : Value}
    {od_Plan_earlier an_Plan_earlier : Option Addr} {sl_Plan_earlier : Array (Option Value)} {oc_Plan_earlier kV_Plan_earlier dc_Plan_earlier pm_Plan_earlier cd_Plan_earlier ct_Plan_earlier : Value}
    {od_row_of an_row_of : Option Addr} {sl_row_of : Array (Option Value)} {oc_row_of kV_row_of dc_row_of pm_row_of cd_row_of ct_row_of : Value}
    {od_pairs_of an_pairs_of : Option Addr} {sl_pairs_of : Array (Option Value)} {oc_pairs_of kV_pairs_of dc_pairs_of pm_pairs_of cd_pairs_of ct_pairs_of : Value}
    {od_sums_of an_sums_of : Option Addr} {sl_sums_of : Array (Option Value)} {oc_sums_of kV_sums_of dc_sums_of pm_sums_of cd_sums_of ct_sums_of : Value}
    {od_both_sums an_both_sums : Option Addr} {sl_both_sums : Array (Option Value)} {oc_both_sums kV_both_sums dc_both_sums pm_both_sums cd_both_sums ct_both_sums : Value}
    {od_Plan___and__ an_Plan___and__ : Option Addr} {sl_Plan___and__ : Array (Option Value)} {oc_Plan___and__ kV_Plan___and__ dc_Plan___and__ pm_Plan___and__ cd_Plan___and__ ct_Plan___and__ : Value}
    {od_Plan___or__ an_Plan___or__ : Option Addr} {sl_Plan___or__ : Array (Option Value)} {oc_Plan___or__ kV_Plan___or__ dc_Plan___or__ pm_Plan___or__ cd_Plan___or__ ct_Plan___or__ : Value}
    {od_Plan_within an_Plan_within : Option Addr} {sl_Plan_within : Array (Option Value)} {oc_Plan_within kV_Plan_within dc_Plan_within pm_Plan_within cd_Plan_within ct_Plan_within : Value}
    {od_Plan___len__ an_Plan___len__ : Option Addr} {sl_Plan___len__ : Array (Option Value)} {oc_Plan___len__ kV_Plan___len__ dc_Plan___len__ pm_Plan___len__ cd_Plan___len__ ct_Plan___len__ : Value}
    {od_Plan___add__ an_Plan___add__ : Option Addr} {sl_Plan___add__ : Array (Option Value)} {oc_Plan___add__ kV_Plan___add__ dc_Plan___add__ pm_Plan___add__ cd_Plan___add__ ct_Plan___add__ : Value}
    {od_Plan___iter__ an_Plan___iter__ : Option Addr} {sl_Plan___iter__ : Array (Option Value)} {oc_Plan___iter__ kV_Plan___iter__ dc_Plan___iter__ pm_Plan___iter__ cd_Plan___iter__ ct_Plan___iter__ : Value}
    {od__law_doors_right an__law_doors_right : Option Addr} {sl__law_doors_right : Array (Option Value)} {oc__law_doors_right kV__law_doors_right dc__law_doors_right pm__law_doors_right cd__law_doors_right ct__law_doors_right : Value}
    {od__law_one an__law_one : Option Addr} {sl__law_one : Array (Option Value)} {oc__law_one kV__law_one dc__law_one pm__law_one cd__law_one ct__law_one : Value}
    {od__law_bent an__law_bent : Option Addr} {sl__law_bent : Array (Option Value)} {oc__law_bent kV__law_bent dc__law_bent pm__law_bent cd__law_bent ct__law_bent : Value}
    {od__law_are_counts an__law_are_counts : Option Addr} {sl__law_are_counts : Array (Option Value)} {oc__law_are_counts kV__law_are_counts dc__law_are_counts pm__law_are_counts cd__law_are_counts ct__law_are_counts : Value}
    {od_are_sums an_are_sums : Option Addr} {sl_are_sums : Array (Option Value)} {oc_are_sums kV_are_sums dc_are_sums pm_are_sums cd_are_sums ct_are_sums : Value}
    {od_Plan_of_sums an_Plan_of_sums : Option Addr} {sl_Plan_of_sums : Array (Option Value)} {oc_Plan_of_sums kV_Plan_of_sums dc_Plan_of_sums pm_Plan_of_sums cd_Plan_of_sums ct_Plan_of_sums : Value}
    {rest_Plan_of_sums : List Value}
    {od__law_are_sums an__law_are_sums : Option Addr} {sl__law_are_sums : Array (Option Value)} {oc__law_are_sums kV__law_are_sums dc__law_are_sums pm__law_are_sums cd__law_are_sums ct__law_are_sums : Value}
    {od_Needs___init__ an_Needs___init__ : Option Addr} {sl_Needs___init__ : Array (Option Value)} {oc_Needs___init__ kV_Needs___init__ dc_Needs___init__ pm_Needs___init__ cd_Needs___init__ ct_Needs___init__ : Value}
    {od_Plan___eq__ an_Plan___eq__ : Option Addr} {sl_Plan___eq__ : Array (Option Value)} {oc_Plan___eq__ kV_Plan___eq__ dc_Plan___eq__ pm_Plan___eq__ cd_Plan___eq__ ct_Plan___eq__ : Value}
    {od_law an_law : Option Addr} {sl_law : Array (Option Value)} {oc_law kV_law dc_law pm_law cd_law ct_law : Value}
    {t_MOST_HOURS : Tok}
    {cda_NoBegin cc_NoBegin N_NoBegin : Addr}
    {nm_NoBegin qn_NoBegin fl_NoBegin : Str} {bs_NoBegin sub_NoBegin : List Value} {sn_NoBegin : List Str} {ab_NoBegin : Bool} {col_NoBegin : Option Bool} {dd_NoBegin ods_NoBegin ans_NoBegin cdd_NoBegin cld_NoBegin : Option Addr} {m0_NoBegin m1_NoBegin m2_NoBegin m3_NoBegin m5_NoBegin : Option Value} {ocs_NoBegin dcs_NoBegin pms_NoBegin cts_NoBegin ccl_NoBegin cl_NoBegin : Value} {sls_NoBegin ccs_NoBegin csl_NoBegin : Array (Option Value)} {vs_NoBegin : Array Value} {tf_NoBegin : Tok}
    {cda_NoHour cc_NoHour N_NoHour : Addr}
    {nm_NoHour qn_NoHour fl_NoHour : Str} {bs_NoHour sub_NoHour : List Value} {sn_NoHour : List Str} {ab_NoHour : Bool} {col_NoHour : Option Bool} {dd_NoHour ods_NoHour ans_NoHour cdd_NoHour cld_NoHour : Option Addr} {m0_NoHour m1_NoHour m2_NoHour m3_NoHour m5_NoHour : Option Value} {ocs_NoHour dcs_NoHour pms_NoHour cts_NoHour ccl_NoHour cl_NoHour : Value} {sls_NoHour ccs_NoHour csl_NoHour : Array (Option Value)} {vs_NoHour : Array Value} {tf_NoHour : Tok}
    {cda_Unlike cc_Unlike N_Unlike : Addr}
    {nm_Unlike qn_Unlike fl_Unlike : Str} {bs_Unlike sub_Unlike : List Value} {sn_Unlike : List Str} {ab_Unlike : Bool} {col_Unlike : Option Bool} {dd_Unlike ods_Unlike ans_Unlike cdd_Unlike cld_Unlike : Option Addr} {m0_Unlike m1_Unlike m2_Unlike m3_Unlike m5_Unlike : Option Value} {ocs_Unlike dcs_Unlike pms_Unlike cts_Unlike ccl_Unlike cl_Unlike : Value} {sls_Unlike ccs_Unlike csl_Unlike : Array (Option Value)} {vs_Unlike : Array Value} {tf_Unlike : Tok}
    {cda_Wrong cc_Wrong N_Wrong : Addr}
    {nm_Wrong qn_Wrong fl_Wrong : Str} {bs_Wrong sub_Wrong : List Value} {sn_Wrong : List Str} {ab_Wrong : Bool} {col_Wrong : Option Bool} {dd_Wrong ods_Wrong ans_Wrong cdd_Wrong cld_Wrong : Option Addr} {m0_Wrong m1_Wrong m2_Wrong m3_Wrong m5_Wrong : Option Value} {ocs_Wrong dcs_Wrong pms_Wrong cts_Wrong ccl_Wrong cl_Wrong : Value} {sls_Wrong ccs_Wrong csl_Wrong : Array (Option Value)} {vs_Wrong : Array Value} {tf_Wrong : Tok}
    (a_Needs : PySem.W.nsIn K mainGlobals "Needs" = some (some (.ref c_Needs)))
    (pg_Needs : PySem.W.plainGet K c_Needs Str.empty = true)
    (hd_Needs : PySem.W.hasDictIn K c_Needs = true)
    (po_Needs : PySem.W.plainOver K c_Needs = true)
    (sa_Needs : PySem.W.findIn K (.ref c_Needs) "__setattr__" = some (some (.builtin "object.__setattr__")))
    (sf_Needs : PySem.W.selfFirst K c_Needs = true)
    (a_Plan : PySem.W.nsIn K mainGlobals "Plan" = some (some (.ref c_Plan)))
    (pg_Plan : PySem.W.plainGet K c_Plan Str.empty = true)
    (hd_Plan : PySem.W.hasDictIn K c_Plan = true)
    (po_Plan : PySem.W.plainOver K c_Plan = true)
    (sa_Plan : PySem.W.findIn K (.ref c_Plan) "__setattr__" = some (some (.builtin "object.__setattr__")))
    (sf_Plan : PySem.W.selfFirst K c_Plan = true)
    (n_Needs_kept_row : PySem.W.findIn K (.ref c_Needs) "kept_row" = some none)
    (n_Plan_kept_begins : PySem.W.findIn K (.ref c_Plan) "kept_begins" = some none)
    (a__law_bag : PySem.W.nsIn K mainGlobals "_law_bag" = some (some (.ref f__law_bag)))
    (l__law_bag : K.lookup f__law_bag = some ⟨oc__law_bag, od__law_bag, .func (PySem.W.fnOf "_law_bag" "_law_bag" (defArgs s__law_bag) (defBody s__law_bag) (defScope s__law_bag) .none kV__law_bag dc__law_bag pm__law_bag an__law_bag cd__law_bag ct__law_bag), sl__law_bag⟩)
    (c__law_bag : PySem.W.codeIn K cd__law_bag "_law_bag" = true)
    (k__law_bag : PySem.W.keepIn K (.ref f__law_bag) = true)
    (a__law_take : PySem.W.nsIn K mainGlobals "_law_take" = some (some (.ref f__law_take)))
    (l__law_take : K.lookup f__law_take = some ⟨oc__law_take, od__law_take, .func (PySem.W.fnOf "_law_take" "_law_take" (defArgs s__law_take) (defBody s__law_take) (defScope s__law_take) .none kV__law_take dc__law_take pm__law_take an__law_take cd__law_take ct__law_take), sl__law_take⟩)
    (c__law_take : PySem.W.codeIn K cd__law_take "_law_take" = true)
    (k__law_take : PySem.W.keepIn K (.ref f__law_take) = true)
    (a__law_number : PySem.W.nsIn K mainGlobals "_law_number" = some (some (.ref f__law_number)))
    (l__law_number : K.lookup f__law_number = some ⟨oc__law_number, od__law_number, .func (PySem.W.fnOf "_law_number" "_law_number" (defArgs s__law_number) (defBody s__law_number) (defScope s__law_number) .none kV__law_number dc__law_number pm__law_number an__law_number cd__law_number ct__law_number), sl__law_number⟩)
    (c__law_number : PySem.W.codeIn K cd__law_number "_law_number" = true)
    (k__law_number : PySem.W.keepIn K (.ref f__law_number) = true)
    (a__law_drawn_row : PySem.W.nsIn K mainGlobals "_law_drawn_row" = some (some (.ref f__law_drawn_row)))
    (l__law_drawn_row : K.lookup f__law_drawn_row = some ⟨oc__law_drawn_row, od__law_drawn_row, .func (PySem.W.fnOf "_law_drawn_row" "_law_drawn_row" (defArgs s__law_drawn_row) (defBody s__law_drawn_row) (defScope s__law_drawn_row) .none kV__law_drawn_row dc__law_drawn_row pm__law_drawn_row an__law_drawn_row cd__law_drawn_row ct__law_drawn_row), sl__law_drawn_row⟩)
    (c__law_drawn_row : PySem.W.codeIn K cd__law_drawn_row "_law_drawn_row" = true)
    (k__law_drawn_row : PySem.W.keepIn K (.ref f__law_drawn_row) = true)
    (a__law_same : PySem.W.nsIn K mainGlobals "_law_same" = some (some (.ref f__law_same)))
    (l__law_same : K.lookup f__law_same = some ⟨oc__law_same, od__law_same, .func (PySem.W.fnOf "_law_same" "_law_same" (defArgs s__law_same) (defBody s__law_same) (defScope s__law_same) .none kV__law_same dc__law_same pm__law_same an__law_same cd__law_same ct__law_same), sl__law_same⟩)
    (c__law_same : PySem.W.codeIn K cd__law_same "_law_same" = true)
    (k__law_same : PySem.W.keepIn K (.ref f__law_same) = true)
    (a__law_heard : PySem.W.nsIn K mainGlobals "_law_heard" = some (some (.ref f__law_heard)))
    (l__law_heard : K.lookup f__law_heard = some ⟨oc__law_heard, od__law_heard, .func (PySem.W.fnOf "_law_heard" "_law_heard" (defArgs s__law_heard) (defBody s__law_heard) (defScope s__law_heard) .none kV__law_heard dc__law_heard pm__law_heard an__law_heard cd__law_heard ct__law_heard), sl__law_heard⟩)
    (c__law_heard : PySem.W.codeIn K cd__law_heard "_law_heard" = true)
    (k__law_heard : PySem.W.keepIn K (.ref f__law_heard) = true)
    (a_is_integer : PySem.W.nsIn K mainGlobals "is_integer" = some (some (.ref f_is_integer)))
    (l_is_integer : K.lookup f_is_integer = some ⟨oc_is_integer, od_is_integer, .func (PySem.W.fnOf "is_integer" "is_integer" (defArgs s_is_integer) (defBody s_is_integer) (defScope s_is_integer) .none kV_is_integer dc_is_integer pm_is_integer an_is_integer cd_is_integer ct_is_integer), sl_is_integer⟩)
    (c_is_integer : PySem.W.codeIn K cd_is_integer "is_integer" = true)
    (k_is_integer : PySem.W.keepIn K (.ref f_is_integer) = true)
    (a_is_hour : PySem.W.nsIn K mainGlobals "is_hour" = some (some (.ref f_is_hour)))
    (l_is_hour : K.lookup f_is_hour = some ⟨oc_is_hour, od_is_hour, .func (PySem.W.fnOf "is_hour" "is_hour" (defArgs s_is_hour) (defBody s_is_hour) (defScope s_is_hour) .none kV_is_hour dc_is_hour pm_is_hour an_is_hour cd_is_hour ct_is_hour), sl_is_hour⟩)
    (c_is_hour : PySem.W.codeIn K cd_is_hour "is_hour" = true)
    (k_is_hour : PySem.W.keepIn K (.ref f_is_hour) = true)
    (a_Plan___getitem__ : PySem.W.findIn K (.ref c_Plan) "__getitem__" = some (some (.ref f_Plan___getitem__)))
    (i_Plan___getitem__ : PySem.W.isFn K (.ref f_Plan___getitem__) = true)
    (fi_Plan___getitem__ : PySem.W.fnIn K f_Plan___getitem__ = true)
    (l_Plan___getitem__ : K.lookup f_Plan___getitem__ = some ⟨oc_Plan___getitem__, od_Plan___getitem__, .func (PySem.W.fnOf "__getitem__" "Plan.__getitem__" (defArgs s_Plan___getitem__) (defBody s_Plan___getitem__) (defScope s_Plan___getitem__) .none kV_Plan___getitem__ dc_Plan___getitem__ pm_Plan___getitem__ an_Plan___getitem__ cd_Plan___getitem__ ct_Plan___getitem__), sl_Plan___getitem__⟩)
    (c_Plan___getitem__ : PySem.W.codeIn K cd_Plan___getitem__ "Plan.__getitem__" = true)
    (k_Plan___getitem__ : PySem.W.keepIn K (.ref f_Plan___getitem__) = true)
    (pa_Plan_hours : PySem.W.findIn K (.ref c_Plan) "hours" = some (some (.ref q_Plan_hours)))
    (pb_Plan_hours : PySem.W.specialIn K (.ref q_Plan_hours) "__get__" = some (some (.builtin "property.__get__")))
    (pc_Plan_hours : PySem.W.takesIn K (.ref q_Plan_hours) = some true)
    (pd_Plan_hours : PySem.W.recIn K q_Plan_hours "property" = some (.ref f_Plan_hours :: rest_Plan_hours))
    (l_Plan_hours : K.lookup f_Plan_hours = some ⟨oc_Plan_hours, od_Plan_hours, .func (PySem.W.fnOf "hours" "Plan.hours" (defArgs s_Plan_hours) (defBody s_Plan_hours) (defScope s_Plan_hours) .none kV_Plan_hours dc_Plan_hours pm_Plan_hours an_Plan_hours cd_Plan_hours ct_Plan_hours), sl_Plan_hours⟩)
    (c_Plan_hours : PySem.W.codeIn K cd_Plan_hours "Plan.hours" = true)
    (k_Plan_hours : PySem.W.keepIn K (.ref f_Plan_hours) = true)
    (a_is_count : PySem.W.nsIn K mainGlobals "is_count" = some (some (.ref f_is_count)))
    (l_is_count : K.lookup f_is_count = some ⟨oc_is_count, od_is_count, .func (PySem.W.fnOf "is_count" "is_count" (defArgs s_is_count) (defBody s_is_count) (defScope s_is_count) .none kV_is_count dc_is_count pm_is_count an_is_count cd_is_count ct_is_count), sl_is_count⟩)
    (c_is_count : PySem.W.codeIn K cd_is_count "is_count" = true)
    (k_is_count : PySem.W.keepIn K (.ref f_is_count) = true)
    (a_are_counts : PySem.W.nsIn K mainGlobals "are_counts" = some (some (.ref f_are_counts)))
    (l_are_counts : K.lookup f_are_counts = some ⟨oc_are_counts, od_are_counts, .func (PySem.W.fnOf "are_counts" "are_counts" (defArgs s_are_counts) (defBody s_are_counts) (defScope s_are_counts) .none kV_are_counts dc_are_counts pm_are_counts an_are_counts cd_are_counts ct_are_counts), sl_are_counts⟩)
    (c_are_counts : PySem.W.codeIn K cd_are_counts "are_counts" = true)
    (k_are_counts : PySem.W.keepIn K (.ref f_are_counts) = true)
    (a_is_row : PySem.W.nsIn K mainGlobals "is_row" = some (some (.ref f_is_row)))
    (l_is_row : K.lookup f_is_row = some ⟨oc_is_row, od_is_row, .func (PySem.W.fnOf "is_row" "is_row" (defArgs s_is_row) (defBody s_is_row) (defScope s_is_row) .none kV_is_row dc_is_row pm_is_row an_is_row cd_is_row ct_is_row), sl_is_row⟩)
    (c_is_row : PySem.W.codeIn K cd_is_row "is_row" = true)
    (k_is_row : PySem.W.keepIn K (.ref f_is_row) = true)
    (a_Plan___init__ : PySem.W.findIn K (.ref c_Plan) "__init__" = some (some (.ref f_Plan___init__)))
    (i_Plan___init__ : PySem.W.isFn K (.ref f_Plan___init__) = true)
    (mm_Plan : PySem.W.makesIn K c_Plan = true)
    (mc_Plan : PySem.W.keepIn K (.ref c_Plan) = true)
    (l_Plan___init__ : K.lookup f_Plan___init__ = some ⟨oc_Plan___init__, od_Plan___init__, .func (PySem.W.fnOf "__init__" "Plan.__init__" (defArgs s_Plan___init__) (defBody s_Plan___init__) (defScope s_Plan___init__) .none kV_Plan___init__ dc_Plan___init__ pm_Plan___init__ an_Plan___init__ cd_Plan___init__ ct_Plan___init__), sl_Plan___init__⟩)
    (c_Plan___init__ : PySem.W.codeIn K cd_Plan___init__ "Plan.__init__" = true)
    (k_Plan___init__ : PySem.W.keepIn K (.ref f_Plan___init__) = true)
    (a_Plan_moved : PySem.W.findIn K (.ref c_Plan) "moved" = some (some (.ref f_Plan_moved)))
    (i_Plan_moved : PySem.W.isFn K (.ref f_Plan_moved) = true)
    (l_Plan_moved : K.lookup f_Plan_moved = some ⟨oc_Plan_moved, od_Plan_moved, .func (PySem.W.fnOf "moved" "Plan.moved" (defArgs s_Plan_moved) (defBody s_Plan_moved) (defScope s_Plan_moved) .none kV_Plan_moved dc_Plan_moved pm_Plan_moved an_Plan_moved cd_Plan_moved ct_Plan_moved), sl_Plan_moved⟩)
    (c_Plan_moved : PySem.W.codeIn K cd_Plan_moved "Plan.moved" = true)
    (k_Plan_moved : PySem.W.keepIn K (.ref f_Plan_moved) = true)
    (a_Plan_later : PySem.W.findIn K (.ref c_Plan) "later" = some (some (.ref f_Plan_later)))
    (i_Plan_later : PySem.W.isFn K (.ref f_Plan_later) = true)
    (l_Plan_later : K.lookup f_Plan_later = some ⟨oc_Plan_later, od_Plan_later, .func (PySem.W.fnOf "later" "Plan.later" (defArgs s_Plan_later) (defBody s_Plan_later) (defScope s_Plan_later) .none kV_Plan_later dc_Plan_later pm_Plan_later an_Plan_later cd_Plan_later ct_Plan_later), sl_Plan_later⟩)
    (c_Plan_later : PySem.W.codeIn K cd_Plan_later "Plan.later" = true)
    (k_Plan_later : PySem.W.keepIn K (.ref f_Plan_later) = true)
    (a_Plan_earlier : PySem.W.findIn K (.ref c_Plan) "earlier" = some (some (.ref f_Plan_earlier)))
    (i_Plan_earlier : PySem.W.isFn K (.ref f_Plan_earlier) = true)
    (l_Plan_earlier : K.lookup f_Plan_earlier = some ⟨oc_Plan_earlier, od_Plan_earlier, .func (PySem.W.fnOf "earlier" "Plan.earlier" (defArgs s_Plan_earlier) (defBody s_Plan_earlier) (defScope s_Plan_earlier) .none kV_Plan_earlier dc_Plan_earlier pm_Plan_earlier an_Plan_earlier cd_Plan_earlier ct_Plan_earlier), sl_Plan_earlier⟩)
    (c_Plan_earlier : PySem.W.codeIn K cd_Plan_earlier "Plan.earlier" = true)
    (k_Plan_earlier : PySem.W.keepIn K (.ref f_Plan_earlier) = true)
    (a_row_of : PySem.W.nsIn K mainGlobals "row_of" = some (some (.ref f_row_of)))
    (l_row_of : K.lookup f_row_of = some ⟨oc_row_of, od_row_of, .func (PySem.W.fnOf "row_of" "row_of" (defArgs s_row_of) (defBody s_row_of) (defScope s_row_of) .none kV_row_of dc_row_of pm_row_of an_row_of cd_row_of ct_row_of), sl_row_of⟩)
    (c_row_of : PySem.W.codeIn K cd_row_of "row_of" = true)
    (k_row_of : PySem.W.keepIn K (.ref f_row_of) = true)
    (a_pairs_of : PySem.W.nsIn K mainGlobals "pairs_of" = some (some (.ref f_pairs_of)))
    (l_pairs_of : K.lookup f_pairs_of = some ⟨oc_pairs_of, od_pairs_of, .func (PySem.W.fnOf "pairs_of" "pairs_of" (defArgs s_pairs_of) (defBody s_pairs_of) (defScope s_pairs_of) .none kV_pairs_of dc_pairs_of pm_pairs_of an_pairs_of cd_pairs_of ct_pairs_of), sl_pairs_of⟩)
    (c_pairs_of : PySem.W.codeIn K cd_pairs_of "pairs_of" = true)
    (k_pairs_of : PySem.W.keepIn K (.ref f_pairs_of) = true)
    (a_sums_of : PySem.W.nsIn K mainGlobals "sums_of" = some (some (.ref f_sums_of)))
    (l_sums_of : K.lookup f_sums_of = some ⟨oc_sums_of, od_sums_of, .func (PySem.W.fnOf "sums_of" "sums_of" (defArgs s_sums_of) (defBody s_sums_of) (defScope s_sums_of) .none kV_sums_of dc_sums_of pm_sums_of an_sums_of cd_sums_of ct_sums_of), sl_sums_of⟩)
    (c_sums_of : PySem.W.codeIn K cd_sums_of "sums_of" = true)
    (k_sums_of : PySem.W.keepIn K (.ref f_sums_of) = true)
    (a_both_sums : PySem.W.nsIn K mainGlobals "both_sums" = some (some (.ref f_both_sums)))
    (l_both_sums : K.lookup f_both_sums = some ⟨oc_both_sums, od_both_sums, .func (PySem.W.fnOf "both_sums" "both_sums" (defArgs s_both_sums) (defBody s_both_sums) (defScope s_both_sums) .none kV_both_sums dc_both_sums pm_both_sums an_both_sums cd_both_sums ct_both_sums), sl_both_sums⟩)
    (c_both_sums : PySem.W.codeIn K cd_both_sums "both_sums" = true)
    (k_both_sums : PySem.W.keepIn K (.ref f_both_sums) = true)
    (a_Plan___and__ : PySem.W.findIn K (.ref c_Plan) "__and__" = some (some (.ref f_Plan___and__)))
    (i_Plan___and__ : PySem.W.isFn K (.ref f_Plan___and__) = true)
    (l_Plan___and__ : K.lookup f_Plan___and__ = some ⟨oc_Plan___and__, od_Plan___and__, .func (PySem.W.fnOf "__and__" "Plan.__and__" (defArgs s_Plan___and__) (defBody s_Plan___and__) (defScope s_Plan___and__) .none kV_Plan___and__ dc_Plan___and__ pm_Plan___and__ an_Plan___and__ cd_Plan___and__ ct_Plan___and__), sl_Plan___and__⟩)
    (c_Plan___and__ : PySem.W.codeIn K cd_Plan___and__ "Plan.__and__" = true)
    (k_Plan___and__ : PySem.W.keepIn K (.ref f_Plan___and__) = true)
    (a_Plan___or__ : PySem.W.findIn K (.ref c_Plan) "__or__" = some (some (.ref f_Plan___or__)))
    (i_Plan___or__ : PySem.W.isFn K (.ref f_Plan___or__) = true)
    (l_Plan___or__ : K.lookup f_Plan___or__ = some ⟨oc_Plan___or__, od_Plan___or__, .func (PySem.W.fnOf "__or__" "Plan.__or__" (defArgs s_Plan___or__) (defBody s_Plan___or__) (defScope s_Plan___or__) .none kV_Plan___or__ dc_Plan___or__ pm_Plan___or__ an_Plan___or__ cd_Plan___or__ ct_Plan___or__), sl_Plan___or__⟩)
    (c_Plan___or__ : PySem.W.codeIn K cd_Plan___or__ "Plan.__or__" = true)
    (k_Plan___or__ : PySem.W.keepIn K (.ref f_Plan___or__) = true)
    (a_Plan_within : PySem.W.findIn K (.ref c_Plan) "within" = some (some (.ref f_Plan_within)))
    (i_Plan_within : PySem.W.isFn K (.ref f_Plan_within) = true)
    (l_Plan_within : K.lookup f_Plan_within = some ⟨oc_Plan_within, od_Plan_within, .func (PySem.W.fnOf "within" "Plan.within" (defArgs s_Plan_within) (defBody s_Plan_within) (defScope s_Plan_within) .none kV_Plan_within dc_Plan_within pm_Plan_within an_Plan_within cd_Plan_within ct_Plan_within), sl_Plan_within⟩)
    (c_Plan_within : PySem.W.codeIn K cd_Plan_within "Plan.within" = true)
    (k_Plan_within : PySem.W.keepIn K (.ref f_Plan_within) = true)
    (a_Plan___len__ : PySem.W.findIn K (.ref c_Plan) "__len__" = some (some (.ref f_Plan___len__)))
    (i_Plan___len__ : PySem.W.isFn K (.ref f_Plan___len__) = true)
    (l_Plan___len__ : K.lookup f_Plan___len__ = some ⟨oc_Plan___len__, od_Plan___len__, .func (PySem.W.fnOf "__len__" "Plan.__len__" (defArgs s_Plan___len__) (defBody s_Plan___len__) (defScope s_Plan___len__) .none kV_Plan___len__ dc_Plan___len__ pm_Plan___len__ an_Plan___len__ cd_Plan___len__ ct_Plan___len__), sl_Plan___len__⟩)
    (c_Plan___len__ : PySem.W.codeIn K cd_Plan___len__ "Plan.__len__" = true)
    (k_Plan___len__ : PySem.W.keepIn K (.ref f_Plan___len__) = true)
    (a_Plan___add__ : PySem.W.findIn K (.ref c_Plan) "__add__" = some (some (.ref f_Plan___add__)))
    (i_Plan___add__ : PySem.W.isFn K (.ref f_Plan___add__) = true)
    (l_Plan___add__ : K.lookup f_Plan___add__ = some ⟨oc_Plan___add__, od_Plan___add__, .func (PySem.W.fnOf "__add__" "Plan.__add__" (defArgs s_Plan___add__) (defBody s_Plan___add__) (defScope s_Plan___add__) .none kV_Plan___add__ dc_Plan___add__ pm_Plan___add__ an_Plan___add__ cd_Plan___add__ ct_Plan___add__), sl_Plan___add__⟩)
    (c_Plan___add__ : PySem.W.codeIn K cd_Plan___add__ "Plan.__add__" = true)
    (k_Plan___add__ : PySem.W.keepIn K (.ref f_Plan___add__) = true)
    (a_Plan___iter__ : PySem.W.findIn K (.ref c_Plan) "__iter__" = some (some (.ref f_Plan___iter__)))
    (i_Plan___iter__ : PySem.W.isFn K (.ref f_Plan___iter__) = true)
    (l_Plan___iter__ : K.lookup f_Plan___iter__ = some ⟨oc_Plan___iter__, od_Plan___iter__, .func (PySem.W.fnOf "__iter__" "Plan.__iter__" (defArgs s_Plan___iter__) (defBody s_Plan___iter__) (defScope s_Plan___iter__) .none kV_Plan___iter__ dc_Plan___iter__ pm_Plan___iter__ an_Plan___iter__ cd_Plan___iter__ ct_Plan___iter__), sl_Plan___iter__⟩)
    (c_Plan___iter__ : PySem.W.codeIn K cd_Plan___iter__ "Plan.__iter__" = true)
    (k_Plan___iter__ : PySem.W.keepIn K (.ref f_Plan___iter__) = true)
    (a__law_doors_right : PySem.W.nsIn K mainGlobals "_law_doors_right" = some (some (.ref f__law_doors_right)))
    (l__law_doors_right : K.lookup f__law_doors_right = some ⟨oc__law_doors_right, od__law_doors_right, .func (PySem.W.fnOf "_law_doors_right" "_law_doors_right" (defArgs s__law_doors_right) (defBody s__law_doors_right) (defScope s__law_doors_right) .none kV__law_doors_right dc__law_doors_right pm__law_doors_right an__law_doors_right cd__law_doors_right ct__law_doors_right), sl__law_doors_right⟩)
    (c__law_doors_right : PySem.W.codeIn K cd__law_doors_right "_law_doors_right" = true)
    (k__law_doors_right : PySem.W.keepIn K (.ref f__law_doors_right) = true)
    (ce__law_doors_right : cd__law_doors_right = .ref cc__law_doors_right)
    (ch__law_doors_right : PySem.W.codeHdIn K cc__law_doors_right tt__law_doors_right = true)
    (cn__law_doors_right : (K.lookup tt__law_doors_right).isNone = true)
    (a__law_one : PySem.W.nsIn K mainGlobals "_law_one" = some (some (.ref f__law_one)))
    (l__law_one : K.lookup f__law_one = some ⟨oc__law_one, od__law_one, .func (PySem.W.fnOf "_law_one" "_law_one" (defArgs s__law_one) (defBody s__law_one) (defScope s__law_one) .none kV__law_one dc__law_one pm__law_one an__law_one cd__law_one ct__law_one), sl__law_one⟩)
    (c__law_one : PySem.W.codeIn K cd__law_one "_law_one" = true)
    (k__law_one : PySem.W.keepIn K (.ref f__law_one) = true)
    (a__law_bent : PySem.W.nsIn K mainGlobals "_law_bent" = some (some (.ref f__law_bent)))
    (l__law_bent : K.lookup f__law_bent = some ⟨oc__law_bent, od__law_bent, .func (PySem.W.fnOf "_law_bent" "_law_bent" (defArgs s__law_bent) (defBody s__law_bent) (defScope s__law_bent) .none kV__law_bent dc__law_bent pm__law_bent an__law_bent cd__law_bent ct__law_bent), sl__law_bent⟩)
    (c__law_bent : PySem.W.codeIn K cd__law_bent "_law_bent" = true)
    (k__law_bent : PySem.W.keepIn K (.ref f__law_bent) = true)
    (a__law_are_counts : PySem.W.nsIn K mainGlobals "_law_are_counts" = some (some (.ref f__law_are_counts)))
    (l__law_are_counts : K.lookup f__law_are_counts = some ⟨oc__law_are_counts, od__law_are_counts, .func (PySem.W.fnOf "_law_are_counts" "_law_are_counts" (defArgs s__law_are_counts) (defBody s__law_are_counts) (defScope s__law_are_counts) .none kV__law_are_counts dc__law_are_counts pm__law_are_counts an__law_are_counts cd__law_are_counts ct__law_are_counts), sl__law_are_counts⟩)
    (c__law_are_counts : PySem.W.codeIn K cd__law_are_counts "_law_are_counts" = true)
    (k__law_are_counts : PySem.W.keepIn K (.ref f__law_are_counts) = true)
    (a_are_sums : PySem.W.nsIn K mainGlobals "are_sums" = some (some (.ref f_are_sums)))
    (l_are_sums : K.lookup f_are_sums = some ⟨oc_are_sums, od_are_sums, .func (PySem.W.fnOf "are_sums" "are_sums" (defArgs s_are_sums) (defBody s_are_sums) (defScope s_are_sums) .none kV_are_sums dc_are_sums pm_are_sums an_are_sums cd_are_sums ct_are_sums), sl_are_sums⟩)
    (c_are_sums : PySem.W.codeIn K cd_are_sums "are_sums" = true)
    (k_are_sums : PySem.W.keepIn K (.ref f_are_sums) = true)
    (sr_Plan_of_sums : PySem.W.readsIn K c_Plan (.type "type") = true)
    (sg_Plan_of_sums : PySem.W.specialIn K (.ref c_Plan) "__getattribute__" = some (some (.builtin "type.__getattribute__")))
    (sa_Plan_of_sums : PySem.W.findCls K (.ref c_Plan) (.type "type") "of_sums" = some (.get (.builtin "staticmethod.__get__") (.ref p_Plan_of_sums) .none (.ref c_Plan)))
    (sc_Plan_of_sums : PySem.W.recIn K p_Plan_of_sums "staticmethod" = some (.ref f_Plan_of_sums :: rest_Plan_of_sums))
    (l_Plan_of_sums : K.lookup f_Plan_of_sums = some ⟨oc_Plan_of_sums, od_Plan_of_sums, .func (PySem.W.fnOf "of_sums" "Plan.of_sums" (defArgs s_Plan_of_sums) (defBody s_Plan_of_sums) (defScope s_Plan_of_sums) .none kV_Plan_of_sums dc_Plan_of_sums pm_Plan_of_sums an_Plan_of_sums cd_Plan_of_sums ct_Plan_of_sums), sl_Plan_of_sums⟩)
    (c_Plan_of_sums : PySem.W.codeIn K cd_Plan_of_sums "Plan.of_sums" = true)
    (k_Plan_of_sums : PySem.W.keepIn K (.ref f_Plan_of_sums) = true)
    (a__law_are_sums : PySem.W.nsIn K mainGlobals "_law_are_sums" = some (some (.ref f__law_are_sums)))
    (l__law_are_sums : K.lookup f__law_are_sums = some ⟨oc__law_are_sums, od__law_are_sums, .func (PySem.W.fnOf "_law_are_sums" "_law_are_sums" (defArgs s__law_are_sums) (defBody s__law_are_sums) (defScope s__law_are_sums) .none kV__law_are_sums dc__law_are_sums pm__law_are_sums an__law_are_sums cd__law_are_sums ct__law_are_sums), sl__law_are_sums⟩)
    (c__law_are_sums : PySem.W.codeIn K cd__law_are_sums "_law_are_sums" = true)
    (k__law_are_sums : PySem.W.keepIn K (.ref f__law_are_sums) = true)
    (a_Needs___init__ : PySem.W.findIn K (.ref c_Needs) "__init__" = some (some (.ref f_Needs___init__)))
    (i_Needs___init__ : PySem.W.isFn K (.ref f_Needs___init__) = true)
    (mm_Needs : PySem.W.makesIn K c_Needs = true)
    (mc_Needs : PySem.W.keepIn K (.ref c_Needs) = true)
    (l_Needs___init__ : K.lookup f_Needs___init__ = some ⟨oc_Needs___init__, od_Needs___init__, .func (PySem.W.fnOf "__init__" "Needs.__init__" (defArgs s_Needs___init__) (defBody s_Needs___init__) (defScope s_Needs___init__) .none kV_Needs___init__ dc_Needs___init__ pm_Needs___init__ an_Needs___init__ cd_Needs___init__ ct_Needs___init__), sl_Needs___init__⟩)
    (c_Needs___init__ : PySem.W.codeIn K cd_Needs___init__ "Needs.__init__" = true)
    (k_Needs___init__ : PySem.W.keepIn K (.ref f_Needs___init__) = true)
    (a_Plan___eq__ : PySem.W.findIn K (.ref c_Plan) "__eq__" = some (some (.ref f_Plan___eq__)))
    (i_Plan___eq__ : PySem.W.isFn K (.ref f_Plan___eq__) = true)
    (l_Plan___eq__ : K.lookup f_Plan___eq__ = some ⟨oc_Plan___eq__, od_Plan___eq__, .func (PySem.W.fnOf "__eq__" "Plan.__eq__" (defArgs s_Plan___eq__) (defBody s_Plan___eq__) (defScope s_Plan___eq__) .none kV_Plan___eq__ dc_Plan___eq__ pm_Plan___eq__ an_Plan___eq__ cd_Plan___eq__ ct_Plan___eq__), sl_Plan___eq__⟩)
    (c_Plan___eq__ : PySem.W.codeIn K cd_Plan___eq__ "Plan.__eq__" = true)
    (k_Plan___eq__ : PySem.W.keepIn K (.ref f_Plan___eq__) = true)
    (a_law : PySem.W.nsIn K mainGlobals "law" = some (some (.ref f_law)))
    (l_law : K.lookup f_law = some ⟨oc_law, od_law, .func (PySem.W.fnOf "law" "law" (defArgs s_law) (defBody s_law) (defScope s_law) .none kV_law dc_law pm_law an_law cd_law ct_law), sl_law⟩)
    (c_law : PySem.W.codeIn K cd_law "law" = true)
    (k_law : PySem.W.keepIn K (.ref f_law) = true)
    (ce_law : cd_law = .ref cc_law)
    (ch_law : PySem.W.codeHdIn K cc_law tt_law = true)
    (cn_law : (K.lookup tt_law).isNone = true)
    (tn : decide ([tt__law_doors_right, tt_law].Nodup) = true)
    (z_abs : PySem.W.nsIn K mainGlobals "abs" = some none)
    (z_all : PySem.W.nsIn K mainGlobals "all" = some none)
    (z_bool : PySem.W.nsIn K mainGlobals "bool" = some none)
    (z_int : PySem.W.nsIn K mainGlobals "int" = some none)
    (z_isinstance : PySem.W.nsIn K mainGlobals "isinstance" = some none)
    (z_iter : PySem.W.nsIn K mainGlobals "iter" = some none)
    (z_len : PySem.W.nsIn K mainGlobals "len" = some none)
    (z_list : PySem.W.nsIn K mainGlobals "list" = some none)
    (z_max : PySem.W.nsIn K mainGlobals "max" = some none)
    (z_min : PySem.W.nsIn K mainGlobals "min" = some none)
    (z_range : PySem.W.nsIn K mainGlobals "range" = some none)
    (z_repr : PySem.W.nsIn K mainGlobals "repr" = some none)
    (z_tuple : PySem.W.nsIn K mainGlobals "tuple" = some none)
    (z_zip : PySem.W.nsIn K mainGlobals "zip" = some none)
    (k_MOST_HOURS : PySem.W.nsIn K mainGlobals "MOST_HOURS" = some (some (.int 48 t_MOST_HOURS)))
    (ia_Needs : PySem.W.findIn K (.ref c_Needs) "__class__" = some (some (.builtin "object.__class__")))
    (gn_obj : PySem.W.specialIn K (.builtin "object.__class__") "__get__" = some (some (.builtin "getset_descriptor.__get__")))
    (tk_obj : PySem.W.takesIn K (.builtin "object.__class__") = some true)
    (im_Needs : PySem.W.mroIn K c_Needs (.type "object") = some true)
    (ia_Plan : PySem.W.findIn K (.ref c_Plan) "__class__" = some (some (.builtin "object.__class__")))
    (im_Plan : PySem.W.mroIn K c_Plan (.type "object") = some true)
    (kx_Needs_list : PySem.W.kitOne K (.ref c_Needs) (.type "list") = some false)
    (kx_Needs_tuple : PySem.W.kitOne K (.ref c_Needs) (.type "tuple") = some false)
    (kx_Plan_int : PySem.W.kitOne K (.ref c_Plan) (.type "int") = some false)
    (kx_Plan_list : PySem.W.kitOne K (.ref c_Plan) (.type "list") = some false)
    (kx_Plan_tuple : PySem.W.kitOne K (.ref c_Plan) (.type "tuple") = some false)
    (sm : Wx.smB K = true)
    (ba_n : PySem.W.nsIn K mainGlobals "NeedError" = some (some (.ref c_NeedError)))
    (bs_n : PySem.W.subIn K (.ref c_NeedError) (.type "BaseException") = some true)
    (bd_n : PySem.W.hasDictIn K c_NeedError = true)
    (bt_n : PySem.W.typeIn K (.ref c_NeedError) = some (.type "type"))
    (noT : PySem.W.nsIn K cStatics "thirdparty.any" = some none)
    (z_super : PySem.W.nsIn K mainGlobals "super" = some none)
    (tp_s : (P.main.scope.names.lookup ("super" : Str)).isSome = false)
    (ea_NoBegin : PySem.W.nsIn K mainGlobals "NoBegin" = some (some (.ref c_NoBegin)))
    (el_NoBegin : K.lookup c_NoBegin = some (excClassObj nm_NoBegin qn_NoBegin c_NoBegin N_NoBegin bs_NoBegin [.ref c_NeedError, .type "ValueError", .type "Exception", .type "BaseException", .type "object"] true sn_NoBegin sub_NoBegin ab_NoBegin col_NoBegin dd_NoBegin m0_NoBegin m1_NoBegin m2_NoBegin m3_NoBegin m5_NoBegin "ValueError.__new__"))
    (es_NoBegin : PySem.W.findIn K (.ref c_NoBegin) "__setattr__" = some (some (.builtin "object.__setattr__")))
    (eg_NoBegin : PySem.W.findIn K (.ref c_NoBegin) "__getattribute__" = some (some (.builtin "BaseException.__getattribute__")))
    (eh_NoBegin : PySem.W.findIn K (.ref c_NoBegin) "__getattr__" = some none)
    (en_NoBegin : PySem.W.findIn K (.ref c_NoBegin) "hour" = some none)
    (ei_NoBegin : PySem.W.findIn K (.ref c_NoBegin) "__init__" = some (some (.ref fi_NoBegin)))
    (eC_NoBegin : PySem.W.findIn K (.ref c_NoBegin) "__class__" = some (some (.builtin "object.__class__")))
    (et_NoBegin : PySem.W.typeIn K (.ref fi_NoBegin) = some (.type "function"))
    (ek_NoBegin : PySem.W.keepIn K (.ref c_NoBegin) = true)
    (ee_NoBegin : PySem.W.subIn K (.ref c_NoBegin) (.type "BaseException") = some true)
    (ev_NoBegin : PySem.W.subIn K (.ref c_NoBegin) (.type "ValueError") = some true)
    (eN_NoBegin : PySem.W.subIn K (.ref c_NoBegin) (.ref c_NeedError) = some true)
    (ey_NoBegin : PySem.W.typeIn K (.ref c_NoBegin) = some (.type "type"))
    (ed_NoBegin : PySem.W.hasDictIn K c_NoBegin = true)
    (em_NoBegin : PySem.W.mroIn K c_NoBegin (.ref c_NoBegin) = some true)
    (eO_NoBegin : PySem.W.mroIn K c_NoBegin (.type "object") = some true)
    (eu_NoBegin : PySem.W.ks_superIn K c_NoBegin c_NoBegin "__init__" = some (some (.builtin "ValueError.__init__")))
    (ef_NoBegin : K.lookup fi_NoBegin = some ⟨ocs_NoBegin, ods_NoBegin, .func (PySem.W.ksFn "__init__" "NoBegin.__init__" (defArgs (inClass (top 6) 0)) (defBody (inClass (top 6) 0)) (defScope (inClass (top 6) 0)) .none .none dcs_NoBegin pms_NoBegin ans_NoBegin (.ref cda_NoBegin) cts_NoBegin cc_NoBegin), sls_NoBegin⟩)
    (ec_NoBegin : PySem.W.codeIn K (.ref cda_NoBegin) "NoBegin.__init__" = true)
    (eo_NoBegin : K.lookup cda_NoBegin = some ⟨ccl_NoBegin, cdd_NoBegin, .fields vs_NoBegin, ccs_NoBegin⟩)
    (ew_NoBegin : vs_NoBegin[2]? = some (.str fl_NoBegin tf_NoBegin))
    (eF_NoBegin : ((P.main.file : Str) == fl_NoBegin) = true)
    (eq_NoBegin : K.lookup cc_NoBegin = some ⟨cl_NoBegin, cld_NoBegin, .cell (some (.ref c_NoBegin)), csl_NoBegin⟩)
    (ea_NoHour : PySem.W.nsIn K mainGlobals "NoHour" = some (some (.ref c_NoHour)))
    (el_NoHour : K.lookup c_NoHour = some (excClassObj nm_NoHour qn_NoHour c_NoHour N_NoHour bs_NoHour [.ref c_NeedError, .type "ValueError", .type "Exception", .type "BaseException", .type "object"] true sn_NoHour sub_NoHour ab_NoHour col_NoHour dd_NoHour m0_NoHour m1_NoHour m2_NoHour m3_NoHour m5_NoHour "ValueError.__new__"))
    (es_NoHour : PySem.W.findIn K (.ref c_NoHour) "__setattr__" = some (some (.builtin "object.__setattr__")))
    (eg_NoHour : PySem.W.findIn K (.ref c_NoHour) "__getattribute__" = some (some (.builtin "BaseException.__getattribute__")))
    (eh_NoHour : PySem.W.findIn K (.ref c_NoHour) "__getattr__" = some none)
    (en_NoHour : PySem.W.findIn K (.ref c_NoHour) "hour" = some none)
    (ei_NoHour : PySem.W.findIn K (.ref c_NoHour) "__init__" = some (some (.ref fi_NoHour)))
    (eC_NoHour : PySem.W.findIn K (.ref c_NoHour) "__class__" = some (some (.builtin "object.__class__")))
    (et_NoHour : PySem.W.typeIn K (.ref fi_NoHour) = some (.type "function"))
    (ek_NoHour : PySem.W.keepIn K (.ref c_NoHour) = true)
    (ee_NoHour : PySem.W.subIn K (.ref c_NoHour) (.type "BaseException") = some true)
    (ev_NoHour : PySem.W.subIn K (.ref c_NoHour) (.type "ValueError") = some true)
    (eN_NoHour : PySem.W.subIn K (.ref c_NoHour) (.ref c_NeedError) = some true)
    (ey_NoHour : PySem.W.typeIn K (.ref c_NoHour) = some (.type "type"))
    (ed_NoHour : PySem.W.hasDictIn K c_NoHour = true)
    (em_NoHour : PySem.W.mroIn K c_NoHour (.ref c_NoHour) = some true)
    (eO_NoHour : PySem.W.mroIn K c_NoHour (.type "object") = some true)
    (eu_NoHour : PySem.W.ks_superIn K c_NoHour c_NoHour "__init__" = some (some (.builtin "ValueError.__init__")))
    (ef_NoHour : K.lookup fi_NoHour = some ⟨ocs_NoHour, ods_NoHour, .func (PySem.W.ksFn "__init__" "NoHour.__init__" (defArgs (inClass (top 4) 0)) (defBody (inClass (top 4) 0)) (defScope (inClass (top 4) 0)) .none .none dcs_NoHour pms_NoHour ans_NoHour (.ref cda_NoHour) cts_NoHour cc_NoHour), sls_NoHour⟩)
    (ec_NoHour : PySem.W.codeIn K (.ref cda_NoHour) "NoHour.__init__" = true)
    (eo_NoHour : K.lookup cda_NoHour = some ⟨ccl_NoHour, cdd_NoHour, .fields vs_NoHour, ccs_NoHour⟩)
    (ew_NoHour : vs_NoHour[2]? = some (.str fl_NoHour tf_NoHour))
    (eF_NoHour : ((P.main.file : Str) == fl_NoHour) = true)
    (eq_NoHour : K.lookup cc_NoHour = some ⟨cl_NoHour, cld_NoHour, .cell (some (.ref c_NoHour)), csl_NoHour⟩)
    (ea_Unlike : PySem.W.nsIn K mainGlobals "Unlike" = some (some (.ref c_Unlike)))
    (el_Unlike : K.lookup c_Unlike = some (excClassObj nm_Unlike qn_Unlike c_Unlike N_Unlike bs_Unlike [.ref c_NeedError, .type "ValueError", .type "Exception", .type "BaseException", .type "object"] true sn_Unlike sub_Unlike ab_Unlike col_Unlike dd_Unlike m0_Unlike m1_Unlike m2_Unlike m3_Unlike m5_Unlike "ValueError.__new__"))
    (es_Unlike : PySem.W.findIn K (.ref c_Unlike) "__setattr__" = some (some (.builtin "object.__setattr__")))
    (eg_Unlike : PySem.W.findIn K (.ref c_Unlike) "__getattribute__" = some (some (.builtin "BaseException.__getattribute__")))
    (eh_Unlike : PySem.W.findIn K (.ref c_Unlike) "__getattr__" = some none)
    (ei_Unlike : PySem.W.findIn K (.ref c_Unlike) "__init__" = some (some (.ref fi_Unlike)))
    (eC_Unlike : PySem.W.findIn K (.ref c_Unlike) "__class__" = some (some (.builtin "object.__class__")))
    (et_Unlike : PySem.W.typeIn K (.ref fi_Unlike) = some (.type "function"))
    (ek_Unlike : PySem.W.keepIn K (.ref c_Unlike) = true)
    (ee_Unlike : PySem.W.subIn K (.ref c_Unlike) (.type "BaseException") = some true)
    (ev_Unlike : PySem.W.subIn K (.ref c_Unlike) (.type "ValueError") = some true)
    (eN_Unlike : PySem.W.subIn K (.ref c_Unlike) (.ref c_NeedError) = some true)
    (ey_Unlike : PySem.W.typeIn K (.ref c_Unlike) = some (.type "type"))
    (ed_Unlike : PySem.W.hasDictIn K c_Unlike = true)
    (em_Unlike : PySem.W.mroIn K c_Unlike (.ref c_Unlike) = some true)
    (eO_Unlike : PySem.W.mroIn K c_Unlike (.type "object") = some true)
    (eu_Unlike : PySem.W.ks_superIn K c_Unlike c_Unlike "__init__" = some (some (.builtin "ValueError.__init__")))
    (ef_Unlike : K.lookup fi_Unlike = some ⟨ocs_Unlike, ods_Unlike, .func (PySem.W.ksFn "__init__" "Unlike.__init__" (defArgs (inClass (top 5) 0)) (defBody (inClass (top 5) 0)) (defScope (inClass (top 5) 0)) .none .none dcs_Unlike pms_Unlike ans_Unlike (.ref cda_Unlike) cts_Unlike cc_Unlike), sls_Unlike⟩)
    (ec_Unlike : PySem.W.codeIn K (.ref cda_Unlike) "Unlike.__init__" = true)
    (eo_Unlike : K.lookup cda_Unlike = some ⟨ccl_Unlike, cdd_Unlike, .fields vs_Unlike, ccs_Unlike⟩)
    (ew_Unlike : vs_Unlike[2]? = some (.str fl_Unlike tf_Unlike))
    (eF_Unlike : ((P.main.file : Str) == fl_Unlike) = true)
    (eq_Unlike : K.lookup cc_Unlike = some ⟨cl_Unlike, cld_Unlike, .cell (some (.ref c_Unlike)), csl_Unlike⟩)
    (ea_Wrong : PySem.W.nsIn K mainGlobals "Wrong" = some (some (.ref c_Wrong)))
    (el_Wrong : K.lookup c_Wrong = some (excClassObj nm_Wrong qn_Wrong c_Wrong N_Wrong bs_Wrong [.ref c_NeedError, .type "ValueError", .type "Exception", .type "BaseException", .type "object"] true sn_Wrong sub_Wrong ab_Wrong col_Wrong dd_Wrong m0_Wrong m1_Wrong m2_Wrong m3_Wrong m5_Wrong "ValueError.__new__"))
    (es_Wrong : PySem.W.findIn K (.ref c_Wrong) "__setattr__" = some (some (.builtin "object.__setattr__")))
    (eg_Wrong : PySem.W.findIn K (.ref c_Wrong) "__getattribute__" = some (some (.builtin "BaseException.__getattribute__")))
    (eh_Wrong : PySem.W.findIn K (.ref c_Wrong) "__getattr__" = some none)
    (en_Wrong : PySem.W.findIn K (.ref c_Wrong) "place" = some none)
    (ei_Wrong : PySem.W.findIn K (.ref c_Wrong) "__init__" = some (some (.ref fi_Wrong)))
    (eC_Wrong : PySem.W.findIn K (.ref c_Wrong) "__class__" = some (some (.builtin "object.__class__")))
    (et_Wrong : PySem.W.typeIn K (.ref fi_Wrong) = some (.type "function"))
    (ek_Wrong : PySem.W.keepIn K (.ref c_Wrong) = true)
    (ee_Wrong : PySem.W.subIn K (.ref c_Wrong) (.type "BaseException") = some true)
    (ev_Wrong : PySem.W.subIn K (.ref c_Wrong) (.type "ValueError") = some true)
    (eN_Wrong : PySem.W.subIn K (.ref c_Wrong) (.ref c_NeedError) = some true)
    (ey_Wrong : PySem.W.typeIn K (.ref c_Wrong) = some (.type "type"))
    (ed_Wrong : PySem.W.hasDictIn K c_Wrong = true)
    (em_Wrong : PySem.W.mroIn K c_Wrong (.ref c_Wrong) = some true)
    (eO_Wrong : PySem.W.mroIn K c_Wrong (.type "object") = some true)
    (eu_Wrong : PySem.W.ks_superIn K c_Wrong c_Wrong "__init__" = some (some (.builtin "ValueError.__init__")))
    (ef_Wrong : K.lookup fi_Wrong = some ⟨ocs_Wrong, ods_Wrong, .func (PySem.W.ksFn "__init__" "Wrong.__init__" (defArgs (inClass (top 3) 0)) (defBody (inClass (top 3) 0)) (defScope (inClass (top 3) 0)) .none .none dcs_Wrong pms_Wrong ans_Wrong (.ref cda_Wrong) cts_Wrong cc_Wrong), sls_Wrong⟩)
    (ec_Wrong : PySem.W.codeIn K (.ref cda_Wrong) "Wrong.__init__" = true)
    (eo_Wrong : K.lookup cda_Wrong = some ⟨ccl_Wrong, cdd_Wrong, .fields vs_Wrong, ccs_Wrong⟩)
    (ew_Wrong : vs_Wrong[2]? = some (.str fl_Wrong tf_Wrong))
    (eF_Wrong : ((P.main.file : Str) == fl_Wrong) = true)
    (eq_Wrong : K.lookup cc_Wrong = some ⟨cl_Wrong, cld_Wrong, .cell (some (.ref c_Wrong)), csl_Wrong⟩)
    (kt_ix_NoBegin_NoBegin : PySem.W.kitOne K (.ref c_NoBegin) (.ref c_NoBegin) = some true)
    (kt_ix_NoBegin_NoHour : PySem.W.kitOne K (.ref c_NoBegin) (.ref c_NoHour) = some false)
    (kt_ix_NoBegin_Unlike : PySem.W.kitOne K (.ref c_NoBegin) (.ref c_Unlike) = some false)
    (kt_ix_NoBegin_Wrong : PySem.W.kitOne K (.ref c_NoBegin) (.ref c_Wrong) = some false)
    (kt_ix_NoHour_NoBegin : PySem.W.kitOne K (.ref c_NoHour) (.ref c_NoBegin) = some false)
    (kt_ix_NoHour_NoHour : PySem.W.kitOne K (.ref c_NoHour) (.ref c_NoHour) = some true)
    (kt_ix_NoHour_Unlike : PySem.W.kitOne K (.ref c_NoHour) (.ref c_Unlike) = some false)
    (kt_ix_NoHour_Wrong : PySem.W.kitOne K (.ref c_NoHour) (.ref c_Wrong) = some false)
    (kt_ix_Unlike_NoBegin : PySem.W.kitOne K (.ref c_Unlike) (.ref c_NoBegin) = some false)
    (kt_ix_Unlike_NoHour : PySem.W.kitOne K (.ref c_Unlike) (.ref c_NoHour) = some false)
    (kt_ix_Unlike_Unlike : PySem.W.kitOne K (.ref c_Unlike) (.ref c_Unlike) = some true)
    (kt_ix_Unlike_Wrong : PySem.W.kitOne K (.ref c_Unlike) (.ref c_Wrong) = some false)
    (kt_ix_Wrong_NoBegin : PySem.W.kitOne K (.ref c_Wrong) (.ref c_NoBegin) = some false)
    (kt_ix_Wrong_NoHour : PySem.W.kitOne K (.ref c_Wrong) (.ref c_NoHour) = some false)
    (kt_ix_Wrong_Unlike : PySem.W.kitOne K (.ref c_Wrong) (.ref c_Unlike) = some false)
    (kt_ix_Wrong_Wrong : PySem.W.kitOne K (.ref c_Wrong) (.ref c_Wrong) = some true) :
    ∀ base : Heap, K.In base → base.Ns mainGlobals mg → (∀ p ∈ ([(cc__law_doors_right, tt__law_doors_right), (cc_law, tt_law)] : List (Addr × Addr)), LamX.TabB base mg p.1 p.2) → OkP NoG P w K mg base 12 fa ["_law_script"] (fun vs H Q E => (∀ p ∈ ([(cc__law_doors_right, tt__law_doors_right), (cc_law, tt_law)] : List (Addr × Addr)), H p.2 = some (.tbl #[])) ∧ spLaw K vs H Q E) := by
  have e := hfa.symm.trans (PySem.W.mg_of X G a_law)
  cases e
  intro base _ _ ht
  letI : TabC := ⟨[(tt__law_doors_right, ("_law_doors_right" : Str) ++ ".<locals>." ++ "<lambda>"), (tt_law, ("law" : Str) ++ ".<locals>." ++ "<lambda>")]⟩
  have T : Tx P base K mg ⟨c_Needs, c_Plan, f__law_bag, f__law_take, f__law_number, f__law_drawn_row, f__law_same, f__law_heard, f_is_integer, f_is_hour, f_Plan___getitem__, f_Plan_hours, q_Plan_hours, f_is_count, f_are_counts, f_is_row, f_Plan___init__, f_Plan_moved, f_Plan_later, f_Plan_earlier, f_row_of, f_pairs_of, f_sums_of, f_both_sums, f_Plan___and__, f_Plan___or__, f_Plan_within, f_Plan___len__, f_Plan___add__, f_Plan___iter__, f__law_doors_right, f__law_one, f__law_bent, f__law_are_counts, f_are_sums, f_Plan_of_sums, p_Plan_of_sums, f__law_are_sums, f_Needs___init__, f_Plan___eq__, fa, cc__law_doors_right, tt__law_doors_right, cc_law, tt_law, c_NeedError, c_NoBegin, fi_NoBegin, c_NoHour, fi_NoHour, c_Unlike, fi_Unlike, c_Wrong, fi_Wrong⟩ := {
    g_Needs := PySem.W.mg_of X G a_Needs,
    cl_Needs := ⟨pg_Needs, hd_Needs, po_Needs, sa_Needs⟩,
    sf_Needs := sf_Needs,
    g_Plan := PySem.W.mg_of X G a_Plan,
    cl_Plan := ⟨pg_Plan, hd_Plan, po_Plan, sa_Plan⟩,
    sf_Plan := sf_Plan,
    n_Needs_kept_row := n_Needs_kept_row,
    n_Plan_kept_begins := n_Plan_kept_begins,
    g__law_bag := PySem.W.mg_of X G a__law_bag,
    d__law_bag := ⟨_, fun_mk l__law_bag c__law_bag k__law_bag, (fun_mk (st := s__law_bag) l__law_bag c__law_bag k__law_bag).binds (ps := ["_law_script"]) fun _ _ _ _ _ _ us hl => match us, hl with | [_], _ => rfl⟩,
    g__law_take := PySem.W.mg_of X G a__law_take,
    d__law_take := ⟨_, fun_mk l__law_take c__law_take k__law_take, (fun_mk (st := s__law_take) l__law_take c__law_take k__law_take).binds (ps := ["_law_bag_here", "_law_upto"]) fun _ _ _ _ _ _ us hl => match us, hl with | [_, _], _ => rfl⟩,
    g__law_number := PySem.W.mg_of X G a__law_number,
    d__law_number := ⟨_, fun_mk l__law_number c__law_number k__law_number, (fun_mk (st := s__law_number) l__law_number c__law_number k__law_number).binds (ps := ["_law_bag_here"]) fun _ _ _ _ _ _ us hl => match us, hl with | [_], _ => rfl⟩,
    g__law_drawn_row := PySem.W.mg_of X G a__law_drawn_row,
    d__law_drawn_row := ⟨_, fun_mk l__law_drawn_row c__law_drawn_row k__law_drawn_row, (fun_mk (st := s__law_drawn_row) l__law_drawn_row c__law_drawn_row k__law_drawn_row).binds (ps := ["_law_bag_here", "_law_most"]) fun _ _ _ _ _ _ us hl => match us, hl with | [_, _], _ => rfl⟩,
    g__law_same := PySem.W.mg_of X G a__law_same,
    d__law_same := ⟨_, fun_mk l__law_same c__law_same k__law_same, (fun_mk (st := s__law_same) l__law_same c__law_same k__law_same).binds (ps := ["_law_found", "_law_due"]) fun _ _ _ _ _ _ us hl => match us, hl with | [_, _], _ => rfl⟩,
    g__law_heard := PySem.W.mg_of X G a__law_heard,
    d__law_heard := ⟨_, fun_mk l__law_heard c__law_heard k__law_heard, (fun_mk (st := s__law_heard) l__law_heard c__law_heard k__law_heard).binds (ps := ["_law_act"]) fun _ _ _ _ _ _ us hl => match us, hl with | [_], _ => rfl⟩,
    g_is_integer := PySem.W.mg_of X G a_is_integer,
    d_is_integer := ⟨_, fun_mk l_is_integer c_is_integer k_is_integer, (fun_mk (st := s_is_integer) l_is_integer c_is_integer k_is_integer).binds (ps := ["thing"]) fun _ _ _ _ _ _ us hl => match us, hl with | [_], _ => rfl⟩,
    g_is_hour := PySem.W.mg_of X G a_is_hour,
    d_is_hour := ⟨_, fun_mk l_is_hour c_is_hour k_is_hour, (fun_mk (st := s_is_hour) l_is_hour c_is_hour k_is_hour).binds (ps := ["hours", "thing"]) fun _ _ _ _ _ _ us hl => match us, hl with | [_, _], _ => rfl⟩,
    m_Plan___getitem__ := ⟨a_Plan___getitem__, i_Plan___getitem__, k_Plan___getitem__⟩,
    fi_Plan___getitem__ := fi_Plan___getitem__,
    d_Plan___getitem__ := ⟨_, fun_mk l_Plan___getitem__ c_Plan___getitem__ k_Plan___getitem__, (fun_mk (st := s_Plan___getitem__) l_Plan___getitem__ c_Plan___getitem__ k_Plan___getitem__).binds (ps := ["self", "hour"]) fun _ _ _ _ _ _ us hl => match us, hl with | [_, _], _ => rfl⟩,
    p_Plan_hours := ⟨pa_Plan_hours, pb_Plan_hours, pc_Plan_hours, ⟨_, pd_Plan_hours⟩⟩,
    d_Plan_hours := ⟨_, fun_mk l_Plan_hours c_Plan_hours k_Plan_hours, (fun_mk (st := s_Plan_hours) l_Plan_hours c_Plan_hours k_Plan_hours).binds (ps := ["self"]) fun _ _ _ _ _ _ us hl => match us, hl with | [_], _ => rfl⟩,
    g_is_count := PySem.W.mg_of X G a_is_count,
    d_is_count := ⟨_, fun_mk l_is_count c_is_count k_is_count, (fun_mk (st := s_is_count) l_is_count c_is_count k_is_count).binds (ps := ["thing"]) fun _ _ _ _ _ _ us hl => match us, hl with | [_], _ => rfl⟩,
    g_are_counts := PySem.W.mg_of X G a_are_counts,
    d_are_counts := ⟨_, fun_mk l_are_counts c_are_counts k_are_counts, (fun_mk (st := s_are_counts) l_are_counts c_are_counts k_are_counts).binds (ps := ["hours", "thing"]) fun _ _ _ _ _ _ us hl => match us, hl with | [_, _], _ => rfl⟩,
    g_is_row := PySem.W.mg_of X G a_is_row,
    d_is_row := ⟨_, fun_mk l_is_row c_is_row k_is_row, (fun_mk (st := s_is_row) l_is_row c_is_row k_is_row).binds (ps := ["thing"]) fun _ _ _ _ _ _ us hl => match us, hl with | [_], _ => rfl⟩,
    mk_Plan := ⟨mm_Plan, a_Plan___init__, i_Plan___init__, mc_Plan⟩,
    d_Plan___init__ := ⟨_, fun_mk l_Plan___init__ c_Plan___init__ k_Plan___init__, (fun_mk (st := s_Plan___init__) l_Plan___init__ c_Plan___init__ k_Plan___init__).binds (ps := ["self", "begins"]) fun _ _ _ _ _ _ us hl => match us, hl with | [_, _], _ => rfl⟩,
    m_Plan_moved := ⟨a_Plan_moved, i_Plan_moved, k_Plan_moved⟩,
    d_Plan_moved := ⟨_, fun_mk l_Plan_moved c_Plan_moved k_Plan_moved, (fun_mk (st := s_Plan_moved) l_Plan_moved c_Plan_moved k_Plan_moved).binds (ps := ["self", "hour", "by"]) fun _ _ _ _ _ _ us hl => match us, hl with | [_, _, _], _ => rfl⟩,
    m_Plan_later := ⟨a_Plan_later, i_Plan_later, k_Plan_later⟩,
    d_Plan_later := ⟨_, fun_mk l_Plan_later c_Plan_later k_Plan_later, (fun_mk (st := s_Plan_later) l_Plan_later c_Plan_later k_Plan_later).binds (ps := ["self", "hour"]) fun _ _ _ _ _ _ us hl => match us, hl with | [_, _], _ => rfl⟩,
    m_Plan_earlier := ⟨a_Plan_earlier, i_Plan_earlier, k_Plan_earlier⟩,
    d_Plan_earlier := ⟨_, fun_mk l_Plan_earlier c_Plan_earlier k_Plan_earlier, (fun_mk (st := s_Plan_earlier) l_Plan_earlier c_Plan_earlier k_Plan_earlier).binds (ps := ["self", "hour"]) fun _ _ _ _ _ _ us hl => match us, hl with | [_, _], _ => rfl⟩,
    g_row_of := PySem.W.mg_of X G a_row_of,
    d_row_of := ⟨_, fun_mk l_row_of c_row_of k_row_of, (fun_mk (st := s_row_of) l_row_of c_row_of k_row_of).binds (ps := ["sums"]) fun _ _ _ _ _ _ us hl => match us, hl with | [_], _ => rfl⟩,
    g_pairs_of := PySem.W.mg_of X G a_pairs_of,
    d_pairs_of := ⟨_, fun_mk l_pairs_of c_pairs_of k_pairs_of, (fun_mk (st := s_pairs_of) l_pairs_of c_pairs_of k_pairs_of).binds (ps := ["one", "other"]) fun _ _ _ _ _ _ us hl => match us, hl with | [_, _], _ => rfl⟩,
    g_sums_of := PySem.W.mg_of X G a_sums_of,
    d_sums_of := ⟨_, fun_mk l_sums_of c_sums_of k_sums_of, (fun_mk (st := s_sums_of) l_sums_of c_sums_of k_sums_of).binds (ps := ["row"]) fun _ _ _ _ _ _ us hl => match us, hl with | [_], _ => rfl⟩,
    g_both_sums := PySem.W.mg_of X G a_both_sums,
    d_both_sums := ⟨_, fun_mk l_both_sums c_both_sums k_both_sums, (fun_mk (st := s_both_sums) l_both_sums c_both_sums k_both_sums).binds (ps := ["one", "other"]) fun _ _ _ _ _ _ us hl => match us, hl with | [_, _], _ => rfl⟩,
    m_Plan___and__ := ⟨a_Plan___and__, i_Plan___and__, k_Plan___and__⟩,
    d_Plan___and__ := ⟨_, fun_mk l_Plan___and__ c_Plan___and__ k_Plan___and__, (fun_mk (st := s_Plan___and__) l_Plan___and__ c_Plan___and__ k_Plan___and__).binds (ps := ["self", "other"]) fun _ _ _ _ _ _ us hl => match us, hl with | [_, _], _ => rfl⟩,
    m_Plan___or__ := ⟨a_Plan___or__, i_Plan___or__, k_Plan___or__⟩,
    d_Plan___or__ := ⟨_, fun_mk l_Plan___or__ c_Plan___or__ k_Plan___or__, (fun_mk (st := s_Plan___or__) l_Plan___or__ c_Plan___or__ k_Plan___or__).binds (ps := ["self", "other"]) fun _ _ _ _ _ _ us hl => match us, hl with | [_, _], _ => rfl⟩,
    m_Plan_within := ⟨a_Plan_within, i_Plan_within, k_Plan_within⟩,
    d_Plan_within := ⟨_, fun_mk l_Plan_within c_Plan_within k_Plan_within, (fun_mk (st := s_Plan_within) l_Plan_within c_Plan_within k_Plan_within).binds (ps := ["self", "other"]) fun _ _ _ _ _ _ us hl => match us, hl with | [_, _], _ => rfl⟩,
    m_Plan___len__ := ⟨a_Plan___len__, i_Plan___len__, k_Plan___len__⟩,
    d_Plan___len__ := ⟨_, fun_mk l_Plan___len__ c_Plan___len__ k_Plan___len__, (fun_mk (st := s_Plan___len__) l_Plan___len__ c_Plan___len__ k_Plan___len__).binds (ps := ["self"]) fun _ _ _ _ _ _ us hl => match us, hl with | [_], _ => rfl⟩,
    m_Plan___add__ := ⟨a_Plan___add__, i_Plan___add__, k_Plan___add__⟩,
    d_Plan___add__ := ⟨_, fun_mk l_Plan___add__ c_Plan___add__ k_Plan___add__, (fun_mk (st := s_Plan___add__) l_Plan___add__ c_Plan___add__ k_Plan___add__).binds (ps := ["self", "other"]) fun _ _ _ _ _ _ us hl => match us, hl with | [_, _], _ => rfl⟩,
    m_Plan___iter__ := ⟨a_Plan___iter__, i_Plan___iter__, k_Plan___iter__⟩,
    d_Plan___iter__ := ⟨_, fun_mk l_Plan___iter__ c_Plan___iter__ k_Plan___iter__, (fun_mk (st := s_Plan___iter__) l_Plan___iter__ c_Plan___iter__ k_Plan___iter__).binds (ps := ["self"]) fun _ _ _ _ _ _ us hl => match us, hl with | [_], _ => rfl⟩,
    g__law_doors_right := PySem.W.mg_of X G a__law_doors_right,
    dc__law_doors_right := ⟨⟨_, fun_mk l__law_doors_right c__law_doors_right k__law_doors_right, (fun_mk (st := s__law_doors_right) l__law_doors_right c__law_doors_right k__law_doors_right).binds (ps := ["_law_plan", "_law_row"]) fun _ _ _ _ _ _ us hl => match us, hl with | [_, _], _ => rfl⟩, ⟨_, _, _, _, l__law_doors_right, ce__law_doors_right⟩⟩,
    tb__law_doors_right := ht (cc__law_doors_right, tt__law_doors_right) (Wx.mem_at (i := 0) rfl),
    ti__law_doors_right := Wx.mem_at (i := 0) rfl,
    tu__law_doors_right := Wx.tab_tu (i := 0) tn rfl,
    d__law_doors_right := ⟨_, fun_mk l__law_doors_right c__law_doors_right k__law_doors_right, (fun_mk (st := s__law_doors_right) l__law_doors_right c__law_doors_right k__law_doors_right).binds (ps := ["_law_plan", "_law_row"]) fun _ _ _ _ _ _ us hl => match us, hl with | [_, _], _ => rfl⟩,
    g__law_one := PySem.W.mg_of X G a__law_one,
    d__law_one := ⟨_, fun_mk l__law_one c__law_one k__law_one, (fun_mk (st := s__law_one) l__law_one c__law_one k__law_one).binds (ps := ["_law_bag_here", "_law_some"]) fun _ _ _ _ _ _ us hl => match us, hl with | [_, _], _ => rfl⟩,
    g__law_bent := PySem.W.mg_of X G a__law_bent,
    d__law_bent := ⟨_, fun_mk l__law_bent c__law_bent k__law_bent, (fun_mk (st := s__law_bent) l__law_bent c__law_bent k__law_bent).binds (ps := ["_law_bag_here", "_law_row"]) fun _ _ _ _ _ _ us hl => match us, hl with | [_, _], _ => rfl⟩,
    g__law_are_counts := PySem.W.mg_of X G a__law_are_counts,
    d__law_are_counts := ⟨_, fun_mk l__law_are_counts c__law_are_counts k__law_are_counts, (fun_mk (st := s__law_are_counts) l__law_are_counts c__law_are_counts k__law_are_counts).binds (ps := ["_law_thing", "_law_least", "_law_most"]) fun _ _ _ _ _ _ us hl => match us, hl with | [_, _, _], _ => rfl⟩,
    g_are_sums := PySem.W.mg_of X G a_are_sums,
    d_are_sums := ⟨_, fun_mk l_are_sums c_are_sums k_are_sums, (fun_mk (st := s_are_sums) l_are_sums c_are_sums k_are_sums).binds (ps := ["thing"]) fun _ _ _ _ _ _ us hl => match us, hl with | [_], _ => rfl⟩,
    st_Plan_of_sums := ⟨sr_Plan_of_sums, sg_Plan_of_sums, sa_Plan_of_sums, ⟨_, sc_Plan_of_sums⟩⟩,
    d_Plan_of_sums := ⟨_, fun_mk l_Plan_of_sums c_Plan_of_sums k_Plan_of_sums, (fun_mk (st := s_Plan_of_sums) l_Plan_of_sums c_Plan_of_sums k_Plan_of_sums).binds (ps := ["sums"]) fun _ _ _ _ _ _ us hl => match us, hl with | [_], _ => rfl⟩,
    g__law_are_sums := PySem.W.mg_of X G a__law_are_sums,
    d__law_are_sums := ⟨_, fun_mk l__law_are_sums c__law_are_sums k__law_are_sums, (fun_mk (st := s__law_are_sums) l__law_are_sums c__law_are_sums k__law_are_sums).binds (ps := ["_law_thing"]) fun _ _ _ _ _ _ us hl => match us, hl with | [_], _ => rfl⟩,
    mk_Needs := ⟨mm_Needs, a_Needs___init__, i_Needs___init__, mc_Needs⟩,
    d_Needs___init__ := ⟨_, fun_mk l_Needs___init__ c_Needs___init__ k_Needs___init__, (fun_mk (st := s_Needs___init__) l_Needs___init__ c_Needs___init__ k_Needs___init__).binds (ps := ["self", "row"]) fun _ _ _ _ _ _ us hl => match us, hl with | [_, _], _ => rfl⟩,
    m_Plan___eq__ := ⟨a_Plan___eq__, i_Plan___eq__, k_Plan___eq__⟩,
    d_Plan___eq__ := ⟨_, fun_mk l_Plan___eq__ c_Plan___eq__ k_Plan___eq__, (fun_mk (st := s_Plan___eq__) l_Plan___eq__ c_Plan___eq__ k_Plan___eq__).binds (ps := ["self", "other"]) fun _ _ _ _ _ _ us hl => match us, hl with | [_, _], _ => rfl⟩,
    dc_law := ⟨⟨_, fun_mk l_law c_law k_law, (fun_mk (st := s_law) l_law c_law k_law).binds (ps := ["_law_script"]) fun _ _ _ _ _ _ us hl => match us, hl with | [_], _ => rfl⟩, ⟨_, _, _, _, l_law, ce_law⟩⟩,
    tb_law := ht (cc_law, tt_law) (Wx.mem_at (i := 1) rfl),
    ti_law := Wx.mem_at (i := 1) rfl,
    tu_law := Wx.tab_tu (i := 1) tn rfl,
    d_law := ⟨_, fun_mk l_law c_law k_law, (fun_mk (st := s_law) l_law c_law k_law).binds (ps := ["_law_script"]) fun _ _ _ _ _ _ us hl => match us, hl with | [_], _ => rfl⟩,
    z_abs := PySem.W.mg_none_of X G z_abs,
    z_all := PySem.W.mg_none_of X G z_all,
    z_bool := PySem.W.mg_none_of X G z_bool,
    z_int := PySem.W.mg_none_of X G z_int,
    z_isinstance := PySem.W.mg_none_of X G z_isinstance,
    z_iter := PySem.W.mg_none_of X G z_iter,
    z_len := PySem.W.mg_none_of X G z_len,
    z_list := PySem.W.mg_none_of X G z_list,
    z_max := PySem.W.mg_none_of X G z_max,
    z_min := PySem.W.mg_none_of X G z_min,
    z_range := PySem.W.mg_none_of X G z_range,
    z_repr := PySem.W.mg_none_of X G z_repr,
    z_tuple := PySem.W.mg_none_of X G z_tuple,
    z_zip := PySem.W.mg_none_of X G z_zip,
    k_MOST_HOURS := ⟨_, PySem.W.mg_of X G k_MOST_HOURS⟩,
    ic_Needs := ⟨⟨pg_Needs, hd_Needs, po_Needs, sa_Needs⟩, ia_Needs, gn_obj, tk_obj, im_Needs⟩,
    ic_Plan := ⟨⟨pg_Plan, hd_Plan, po_Plan, sa_Plan⟩, ia_Plan, gn_obj, tk_obj, im_Plan⟩,
    kx_Needs_list := kx_Needs_list,
    kx_Needs_tuple := kx_Needs_tuple,
    kx_Plan_int := kx_Plan_int,
    kx_Plan_list := kx_Plan_list,
    kx_Plan_tuple := kx_Plan_tuple,
    sm := sm,
    g_NeedError := PySem.W.mg_of X G ba_n,
    g_NoBegin := PySem.W.mg_of X G ea_NoBegin,
    er_NoBegin := { gC := PySem.W.mg_of X G ea_NoBegin, cls := ⟨_, _, _, _, _, _, _, _, _, _, _, _, _, _, _, el_NoBegin, rfl⟩, sa := es_NoBegin, ga := eg_NoBegin, gg := eh_NoBegin, noN := en_NoBegin, iC := ei_NoBegin, tC := et_NoBegin, kC := ek_NoBegin, exC := ee_NoBegin, vB := ev_NoBegin, tyC := ey_NoBegin, hdC := ed_NoBegin, mr := em_NoBegin, sup := eu_NoBegin, noT := noT, noS := PySem.W.mg_none_of X G z_super, sf := by decide +kernel, db := by decide +kernel, fn := ⟨_, _, _, _, _, _, _, _, _, _, _, _, _, _, _, _, _, _, _, _, _, _, _, _, _, _, _, _, _, _, _, _, ef_NoBegin, ec_NoBegin, eo_NoBegin, ew_NoBegin, eF_NoBegin, eq_NoBegin, by decide +kernel, by decide +kernel, by decide +kernel, by decide +kernel, by decide +kernel, tp_s, fun _ => ⟨_, rfl⟩, fun _ _ _ => .of_eq rfl⟩ },
    xc_NoBegin := ⟨eg_NoBegin, eh_NoBegin, ee_NoBegin, ed_NoBegin, eC_NoBegin, gn_obj, tk_obj, eO_NoBegin⟩,
    xm_NoBegin := PySem.W.exm_ref bs_n bd_n bt_n eN_NoBegin,
    ix_NoBegin_NoBegin := kt_ix_NoBegin_NoBegin,
    ix_NoBegin_NoHour := kt_ix_NoBegin_NoHour,
    ix_NoBegin_Unlike := kt_ix_NoBegin_Unlike,
    ix_NoBegin_Wrong := kt_ix_NoBegin_Wrong,
    g_NoHour := PySem.W.mg_of X G ea_NoHour,
    er_NoHour := { gC := PySem.W.mg_of X G ea_NoHour, cls := ⟨_, _, _, _, _, _, _, _, _, _, _, _, _, _, _, el_NoHour, rfl⟩, sa := es_NoHour, ga := eg_NoHour, gg := eh_NoHour, noN := en_NoHour, iC := ei_NoHour, tC := et_NoHour, kC := ek_NoHour, exC := ee_NoHour, vB := ev_NoHour, tyC := ey_NoHour, hdC := ed_NoHour, mr := em_NoHour, sup := eu_NoHour, noT := noT, noS := PySem.W.mg_none_of X G z_super, sf := by decide +kernel, db := by decide +kernel, fn := ⟨_, _, _, _, _, _, _, _, _, _, _, _, _, _, _, _, _, _, _, _, _, _, _, _, _, _, _, _, _, _, _, _, ef_NoHour, ec_NoHour, eo_NoHour, ew_NoHour, eF_NoHour, eq_NoHour, by decide +kernel, by decide +kernel, by decide +kernel, by decide +kernel, by decide +kernel, tp_s, fun _ => ⟨_, rfl⟩, fun _ _ _ => .of_eq rfl⟩ },
    xc_NoHour := ⟨eg_NoHour, eh_NoHour, ee_NoHour, ed_NoHour, eC_NoHour, gn_obj, tk_obj, eO_NoHour⟩,
    xm_NoHour := PySem.W.exm_ref bs_n bd_n bt_n eN_NoHour,
    ix_NoHour_NoBegin := kt_ix_NoHour_NoBegin,
    ix_NoHour_NoHour := kt_ix_NoHour_NoHour,
    ix_NoHour_Unlike := kt_ix_NoHour_Unlike,
    ix_NoHour_Wrong := kt_ix_NoHour_Wrong,
    g_Unlike := PySem.W.mg_of X G ea_Unlike,
    er_Unlike := { gC := PySem.W.mg_of X G ea_Unlike, cls := ⟨_, _, _, _, _, _, _, _, _, _, _, _, _, _, _, el_Unlike, rfl⟩, ga := eg_Unlike, gg := eh_Unlike, iC := ei_Unlike, tC := et_Unlike, kC := ek_Unlike, exC := ee_Unlike, vB := ev_Unlike, tyC := ey_Unlike, hdC := ed_Unlike, mr := em_Unlike, sup := eu_Unlike, noT := noT, noS := PySem.W.mg_none_of X G z_super, fn := ⟨_, _, _, _, _, _, _, _, _, _, _, _, _, _, _, _, _, _, _, _, _, _, _, _, _, _, ef_Unlike, ec_Unlike, eo_Unlike, ew_Unlike, eF_Unlike, eq_Unlike, by decide +kernel, by decide +kernel, by decide +kernel, by decide +kernel, tp_s, fun _ => ⟨_, rfl⟩, fun _ _ => .of_eq rfl⟩ },
    xc_Unlike := ⟨eg_Unlike, eh_Unlike, ee_Unlike, ed_Unlike, eC_Unlike, gn_obj, tk_obj, eO_Unlike⟩,
    xm_Unlike := PySem.W.exm_ref bs_n bd_n bt_n eN_Unlike,
    ix_Unlike_NoBegin := kt_ix_Unlike_NoBegin,
    ix_Unlike_NoHour := kt_ix_Unlike_NoHour,
    ix_Unlike_Unlike := kt_ix_Unlike_Unlike,
    ix_Unlike_Wrong := kt_ix_Unlike_Wrong,
    g_Wrong := PySem.W.mg_of X G ea_Wrong,
    er_Wrong := { gC := PySem.W.mg_of X G ea_Wrong, cls := ⟨_, _, _, _, _, _, _, _, _, _, _, _, _, _, _, el_Wrong, rfl⟩, sa := es_Wrong, ga := eg_Wrong, gg := eh_Wrong, noN := en_Wrong, iC := ei_Wrong, tC := et_Wrong, kC := ek_Wrong, exC := ee_Wrong, vB := ev_Wrong, tyC := ey_Wrong, hdC := ed_Wrong, mr := em_Wrong, sup := eu_Wrong, noT := noT, noS := PySem.W.mg_none_of X G z_super, sf := by decide +kernel, db := by decide +kernel, fn := ⟨_, _, _, _, _, _, _, _, _, _, _, _, _, _, _, _, _, _, _, _, _, _, _, _, _, _, _, _, _, _, _, _, ef_Wrong, ec_Wrong, eo_Wrong, ew_Wrong, eF_Wrong, eq_Wrong, by decide +kernel, by decide +kernel, by decide +kernel, by decide +kernel, by decide +kernel, tp_s, fun _ => ⟨_, rfl⟩, fun _ _ _ => .of_eq rfl⟩ },
    xc_Wrong := ⟨eg_Wrong, eh_Wrong, ee_Wrong, ed_Wrong, eC_Wrong, gn_obj, tk_obj, eO_Wrong⟩,
    xm_Wrong := PySem.W.exm_ref bs_n bd_n bt_n eN_Wrong,
    ix_Wrong_NoBegin := kt_ix_Wrong_NoBegin,
    ix_Wrong_NoHour := kt_ix_Wrong_NoHour,
    ix_Wrong_Unlike := kt_ix_Wrong_Unlike,
    ix_Wrong_Wrong := kt_ix_Wrong_Wrong }
  refine okP_imp (ow_law (d := ⟨c_Needs, c_Plan, f__law_bag, f__law_take, f__law_number, f__law_drawn_row, f__law_same, f__law_heard, f_is_integer, f_is_hour, f_Plan___getitem__, f_Plan_hours, q_Plan_hours, f_is_count, f_are_counts, f_is_row, f_Plan___init__, f_Plan_moved, f_Plan_later, f_Plan_earlier, f_row_of, f_pairs_of, f_sums_of, f_both_sums, f_Plan___and__, f_Plan___or__, f_Plan_within, f_Plan___len__, f_Plan___add__, f_Plan___iter__, f__law_doors_right, f__law_one, f__law_bent, f__law_are_counts, f_are_sums, f_Plan_of_sums, p_Plan_of_sums, f__law_are_sums, f_Needs___init__, f_Plan___eq__, fa, cc__law_doors_right, tt__law_doors_right, cc_law, tt_law, c_NeedError, c_NoBegin, fi_NoBegin, c_NoHour, fi_NoHour, c_Unlike, fi_Unlike, c_Wrong, fi_Wrong⟩) T) (law_tellsT (cs := [(cc__law_doors_right, tt__law_doors_right), (cc_law, tt_law)]) (fun q hq => ?_) law_true bl_N)
  replace hq : q ∈ ([(tt__law_doors_right, ("_law_doors_right" : Str) ++ ".<locals>." ++ "<lambda>"), (tt_law, ("law" : Str) ++ ".<locals>." ++ "<lambda>")] : List (Addr × Str)) := hq
  simp only [List.mem_cons, List.not_mem_nil, or_false] at hq
  rcases hq with rfl | rfl
  · exact ⟨(cc__law_doors_right, tt__law_doors_right), List.mem_of_getElem? (i := 0) rfl, rfl⟩
  · exact ⟨(cc_law, tt_law), List.mem_of_getElem? (i := 1) rfl, rfl⟩
theorem facts {P : Program} {w : World} {K : PySem.W.Frag} {h : Heap} {mg : Str → Option Value} {fa : Addr} (X : K.In h) (G : h.Ns mainGlobals mg) (hfa : mg "law" = some (.ref fa)) (c : SaysH fas fns K) (tp_s : (P.main.scope.names.lookup ("super" : Str)).isSome = false) (pF : P.main.file = flX) :
    (∀ p ∈ csK K, K.lookup p.2 = none) ∧ (∀ p ∈ csK K, PySem.W.codeHdIn K p.1 p.2 = true) ∧ ∀ base : Heap, K.In base → base.Ns mainGlobals mg → (∀ p ∈ csK K, LamX.TabB base mg p.1 p.2) → OkP NoG P w K mg base 12 fa ["_law_script"] (fun vs H Q E => (∀ p ∈ csK K, H p.2 = some (.tbl #[])) ∧ spLaw K vs H Q E) := by
  letI : TabC := ⟨[]⟩
  have a_Needs : PySem.W.nsIn K mainGlobals "Needs" = some (some (.ref (He.ga K "Needs"))) := dok (c.fact 0 rfl)
  have pg_Needs : PySem.W.plainGet K (He.ga K "Needs") Str.empty = true := (c.fact 1 rfl)
  have hd_Needs : PySem.W.hasDictIn K (He.ga K "Needs") = true := (c.fact 2 rfl)
  have po_Needs : PySem.W.plainOver K (He.ga K "Needs") = true := (c.fact 3 rfl)
  have sa_Needs : PySem.W.findIn K (.ref (He.ga K "Needs")) "__setattr__" = some (some (.builtin "object.__setattr__")) := dok (c.fact 4 rfl)
  have sf_Needs : PySem.W.selfFirst K (He.ga K "Needs") = true := (c.fact 5 rfl)
  have a_Plan : PySem.W.nsIn K mainGlobals "Plan" = some (some (.ref (He.ga K "Plan"))) := dok (c.fact 6 rfl)
  have pg_Plan : PySem.W.plainGet K (He.ga K "Plan") Str.empty = true := (c.fact 7 rfl)
  have hd_Plan : PySem.W.hasDictIn K (He.ga K "Plan") = true := (c.fact 8 rfl)
  have po_Plan : PySem.W.plainOver K (He.ga K "Plan") = true := (c.fact 9 rfl)
  have sa_Plan : PySem.W.findIn K (.ref (He.ga K "Plan")) "__setattr__" = some (some (.builtin "object.__setattr__")) := dok (c.fact 10 rfl)
  have sf_Plan : PySem.W.selfFirst K (He.ga K "Plan") = true := (c.fact 11 rfl)
  have n_Needs_kept_row : PySem.W.findIn K (.ref (He.ga K "Needs")) "kept_row" = some none := dok (c.fact 12 rfl)
  have n_Plan_kept_begins : PySem.W.findIn K (.ref (He.ga K "Plan")) "kept_begins" = some none := dok (c.fact 13 rfl)
  have a__law_bag : PySem.W.nsIn K mainGlobals "_law_bag" = some (some (.ref (He.ga K "_law_bag"))) := dok (c.fact 14 rfl)
  have a__law_take : PySem.W.nsIn K mainGlobals "_law_take" = some (some (.ref (He.ga K "_law_take"))) := dok (c.fact 15 rfl)
  have a__law_number : PySem.W.nsIn K mainGlobals "_law_number" = some (some (.ref (He.ga K "_law_number"))) := dok (c.fact 16 rfl)
  have a__law_drawn_row : PySem.W.nsIn K mainGlobals "_law_drawn_row" = some (some (.ref (He.ga K "_law_drawn_row"))) := dok (c.fact 17 rfl)
  have a__law_same : PySem.W.nsIn K mainGlobals "_law_same" = some (some (.ref (He.ga K "_law_same"))) := dok (c.fact 18 rfl)
  have a__law_heard : PySem.W.nsIn K mainGlobals "_law_heard" = some (some (.ref (He.ga K "_law_heard"))) := dok (c.fact 19 rfl)
  have a_is_integer : PySem.W.nsIn K mainGlobals "is_integer" = some (some (.ref (He.ga K "is_integer"))) := dok (c.fact 20 rfl)
  have a_is_hour : PySem.W.nsIn K mainGlobals "is_hour" = some (some (.ref (He.ga K "is_hour"))) := dok (c.fact 21 rfl)
  have a_Plan___getitem__ : PySem.W.findIn K (.ref (He.ga K "Plan")) "__getitem__" = some (some (.ref (He.ma K (He.ga K "Plan") "__getitem__"))) := dok (c.fact 22 rfl)
  have i_Plan___getitem__ : PySem.W.isFn K (.ref (He.ma K (He.ga K "Plan") "__getitem__")) = true := (c.fact 23 rfl)
  have fi_Plan___getitem__ : PySem.W.fnIn K (He.ma K (He.ga K "Plan") "__getitem__") = true := (c.fact 24 rfl)
  have pa_Plan_hours : PySem.W.findIn K (.ref (He.ga K "Plan")) "hours" = some (some (.ref (He.ma K (He.ga K "Plan") "hours"))) := dok (c.fact 25 rfl)
  have pb_Plan_hours : PySem.W.specialIn K (.ref (He.ma K (He.ga K "Plan") "hours")) "__get__" = some (some (.builtin "property.__get__")) := dok (c.fact 26 rfl)
  have pc_Plan_hours : PySem.W.takesIn K (.ref (He.ma K (He.ga K "Plan") "hours")) = some true := dok (c.fact 27 rfl)
  obtain ⟨_, pd_Plan_hours⟩ := rcB_ok (c.fact 28 rfl)
  have a_is_count : PySem.W.nsIn K mainGlobals "is_count" = some (some (.ref (He.ga K "is_count"))) := dok (c.fact 29 rfl)
  have a_are_counts : PySem.W.nsIn K mainGlobals "are_counts" = some (some (.ref (He.ga K "are_counts"))) := dok (c.fact 30 rfl)
  have a_is_row : PySem.W.nsIn K mainGlobals "is_row" = some (some (.ref (He.ga K "is_row"))) := dok (c.fact 31 rfl)
  have a_Plan___init__ : PySem.W.findIn K (.ref (He.ga K "Plan")) "__init__" = some (some (.ref (He.ma K (He.ga K "Plan") "__init__"))) := dok (c.fact 32 rfl)
  have i_Plan___init__ : PySem.W.isFn K (.ref (He.ma K (He.ga K "Plan") "__init__")) = true := (c.fact 33 rfl)
  have mm_Plan : PySem.W.makesIn K (He.ga K "Plan") = true := (c.fact 34 rfl)
  have mc_Plan : PySem.W.keepIn K (.ref (He.ga K "Plan")) = true := (c.fact 35 rfl)
  have a_Plan_moved : PySem.W.findIn K (.ref (He.ga K "Plan")) "moved" = some (some (.ref (He.ma K (He.ga K "Plan") "moved"))) := dok (c.fact 36 rfl)
  have i_Plan_moved : PySem.W.isFn K (.ref (He.ma K (He.ga K "Plan") "moved")) = true := (c.fact 37 rfl)
  have a_Plan_later : PySem.W.findIn K (.ref (He.ga K "Plan")) "later" = some (some (.ref (He.ma K (He.ga K "Plan") "later"))) := dok (c.fact 38 rfl)
  have i_Plan_later : PySem.W.isFn K (.ref (He.ma K (He.ga K "Plan") "later")) = true := (c.fact 39 rfl)
  have a_Plan_earlier : PySem.W.findIn K (.ref (He.ga K "Plan")) "earlier" = some (some (.ref (He.ma K (He.ga K "Plan") "earlier"))) := dok (c.fact 40 rfl)
  have i_Plan_earlier : PySem.W.isFn K (.ref (He.ma K (He.ga K "Plan") "earlier")) = true := (c.fact 41 rfl)
  have a_row_of : PySem.W.nsIn K mainGlobals "row_of" = some (some (.ref (He.ga K "row_of"))) := dok (c.fact 42 rfl)
  have a_pairs_of : PySem.W.nsIn K mainGlobals "pairs_of" = some (some (.ref (He.ga K "pairs_of"))) := dok (c.fact 43 rfl)
  have a_sums_of : PySem.W.nsIn K mainGlobals "sums_of" = some (some (.ref (He.ga K "sums_of"))) := dok (c.fact 44 rfl)
  have a_both_sums : PySem.W.nsIn K mainGlobals "both_sums" = some (some (.ref (He.ga K "both_sums"))) := dok (c.fact 45 rfl)
  have a_Plan___and__ : PySem.W.findIn K (.ref (He.ga K "Plan")) "__and__" = some (some (.ref (He.ma K (He.ga K "Plan") "__and__"))) := dok (c.fact 46 rfl)
  have i_Plan___and__ : PySem.W.isFn K (.ref (He.ma K (He.ga K "Plan") "__and__")) = true := (c.fact 47 rfl)
  have a_Plan___or__ : PySem.W.findIn K (.ref (He.ga K "Plan")) "__or__" = some (some (.ref (He.ma K (He.ga K "Plan") "__or__"))) := dok (c.fact 48 rfl)
  have i_Plan___or__ : PySem.W.isFn K (.ref (He.ma K (He.ga K "Plan") "__or__")) = true := (c.fact 49 rfl)
  have a_Plan_within : PySem.W.findIn K (.ref (He.ga K "Plan")) "within" = some (some (.ref (He.ma K (He.ga K "Plan") "within"))) := dok (c.fact 50 rfl)
  have i_Plan_within : PySem.W.isFn K (.ref (He.ma K (He.ga K "Plan") "within")) = true := (c.fact 51 rfl)
  have a_Plan___len__ : PySem.W.findIn K (.ref (He.ga K "Plan")) "__len__" = some (some (.ref (He.ma K (He.ga K "Plan") "__len__"))) := dok (c.fact 52 rfl)
  have i_Plan___len__ : PySem.W.isFn K (.ref (He.ma K (He.ga K "Plan") "__len__")) = true := (c.fact 53 rfl)
  have a_Plan___add__ : PySem.W.findIn K (.ref (He.ga K "Plan")) "__add__" = some (some (.ref (He.ma K (He.ga K "Plan") "__add__"))) := dok (c.fact 54 rfl)
  have i_Plan___add__ : PySem.W.isFn K (.ref (He.ma K (He.ga K "Plan") "__add__")) = true := (c.fact 55 rfl)
  have a_Plan___iter__ : PySem.W.findIn K (.ref (He.ga K "Plan")) "__iter__" = some (some (.ref (He.ma K (He.ga K "Plan") "__iter__"))) := dok (c.fact 56 rfl)
  have i_Plan___iter__ : PySem.W.isFn K (.ref (He.ma K (He.ga K "Plan") "__iter__")) = true := (c.fact 57 rfl)
  have a__law_doors_right : PySem.W.nsIn K mainGlobals "_law_doors_right" = some (some (.ref (He.ga K "_law_doors_right"))) := dok (c.fact 58 rfl)
  have ch__law_doors_right : PySem.W.codeHdIn K (coA K (He.ga K "_law_doors_right")) (tbA K (He.ga K "_law_doors_right")) = true := (c.fact 60 rfl)
  have cn__law_doors_right : (K.lookup (tbA K (He.ga K "_law_doors_right"))).isNone = true := (c.fact 61 rfl)
  have a__law_one : PySem.W.nsIn K mainGlobals "_law_one" = some (some (.ref (He.ga K "_law_one"))) := dok (c.fact 62 rfl)
  have a__law_bent : PySem.W.nsIn K mainGlobals "_law_bent" = some (some (.ref (He.ga K "_law_bent"))) := dok (c.fact 63 rfl)
  have a__law_are_counts : PySem.W.nsIn K mainGlobals "_law_are_counts" = some (some (.ref (He.ga K "_law_are_counts"))) := dok (c.fact 64 rfl)
  have a_are_sums : PySem.W.nsIn K mainGlobals "are_sums" = some (some (.ref (He.ga K "are_sums"))) := dok (c.fact 65 rfl)
  have sr_Plan_of_sums : PySem.W.readsIn K (He.ga K "Plan") (.type "type") = true := (c.fact 66 rfl)
  have sg_Plan_of_sums : PySem.W.specialIn K (.ref (He.ga K "Plan")) "__getattribute__" = some (some (.builtin "type.__getattribute__")) := dok (c.fact 67 rfl)
  have sa_Plan_of_sums := stB_ok (c.fact 68 rfl)
  obtain ⟨_, sc_Plan_of_sums⟩ := rcB_ok (c.fact 69 rfl)
  have a__law_are_sums : PySem.W.nsIn K mainGlobals "_law_are_sums" = some (some (.ref (He.ga K "_law_are_sums"))) := dok (c.fact 70 rfl)
  have a_Needs___init__ : PySem.W.findIn K (.ref (He.ga K "Needs")) "__init__" = some (some (.ref (He.ma K (He.ga K "Needs") "__init__"))) := dok (c.fact 71 rfl)
  have i_Needs___init__ : PySem.W.isFn K (.ref (He.ma K (He.ga K "Needs") "__init__")) = true := (c.fact 72 rfl)
  have mm_Needs : PySem.W.makesIn K (He.ga K "Needs") = true := (c.fact 73 rfl)
  have mc_Needs : PySem.W.keepIn K (.ref (He.ga K "Needs")) = true := (c.fact 74 rfl)
  have a_Plan___eq__ : PySem.W.findIn K (.ref (He.ga K "Plan")) "__eq__" = some (some (.ref (He.ma K (He.ga K "Plan") "__eq__"))) := dok (c.fact 75 rfl)
  have i_Plan___eq__ : PySem.W.isFn K (.ref (He.ma K (He.ga K "Plan") "__eq__")) = true := (c.fact 76 rfl)
  have a_law : PySem.W.nsIn K mainGlobals "law" = some (some (.ref (He.ga K "law"))) := dok (c.fact 77 rfl)
  have ch_law : PySem.W.codeHdIn K (coA K (He.ga K "law")) (tbA K (He.ga K "law")) = true := (c.fact 79 rfl)
  have cn_law : (K.lookup (tbA K (He.ga K "law"))).isNone = true := (c.fact 80 rfl)
  have tn : decide ([(tbA K (He.ga K "_law_doors_right")), (tbA K (He.ga K "law"))].Nodup) = true := (c.fact 81 rfl)
  have z_abs : PySem.W.nsIn K mainGlobals "abs" = some none := dok (c.fact 82 rfl)
  have z_all : PySem.W.nsIn K mainGlobals "all" = some none := dok (c.fact 83 rfl)
  have z_bool : PySem.W.nsIn K mainGlobals "bool" = some none := dok (c.fact 84 rfl)
  have z_int : PySem.W.nsIn K mainGlobals "int" = some none := dok (c.fact 85 rfl)
  have z_isinstance : PySem.W.nsIn K mainGlobals "isinstance" = some none := dok (c.fact 86 rfl)
  have z_iter : PySem.W.nsIn K mainGlobals "iter" = some none := dok (c.fact 87 rfl)
  have z_len : PySem.W.nsIn K mainGlobals "len" = some none := dok (c.fact 88 rfl)
  have z_list : PySem.W.nsIn K mainGlobals "list" = some none := dok (c.fact 89 rfl)
  have z_max : PySem.W.nsIn K mainGlobals "max" = some none := dok (c.fact 90 rfl)
  have z_min : PySem.W.nsIn K mainGlobals "min" = some none := dok (c.fact 91 rfl)
  have z_range : PySem.W.nsIn K mainGlobals "range" = some none := dok (c.fact 92 rfl)
  have z_repr : PySem.W.nsIn K mainGlobals "repr" = some none := dok (c.fact 93 rfl)
  have z_tuple : PySem.W.nsIn K mainGlobals "tuple" = some none := dok (c.fact 94 rfl)
  have z_zip : PySem.W.nsIn K mainGlobals "zip" = some none := dok (c.fact 95 rfl)
  obtain ⟨_, k_MOST_HOURS⟩ := itB_ok (c.fact 96 rfl)
  have ia_Needs : PySem.W.findIn K (.ref (He.ga K "Needs")) "__class__" = some (some (.builtin "object.__class__")) := dok (c.fact 97 rfl)
  have gn_obj : PySem.W.specialIn K (.builtin "object.__class__") "__get__" = some (some (.builtin "getset_descriptor.__get__")) := dok (c.fact 98 rfl)
  have tk_obj : PySem.W.takesIn K (.builtin "object.__class__") = some true := dok (c.fact 99 rfl)
  have im_Needs : PySem.W.mroIn K (He.ga K "Needs") (.type "object") = some true := dok (c.fact 100 rfl)
  have ia_Plan : PySem.W.findIn K (.ref (He.ga K "Plan")) "__class__" = some (some (.builtin "object.__class__")) := dok (c.fact 101 rfl)
  have im_Plan : PySem.W.mroIn K (He.ga K "Plan") (.type "object") = some true := dok (c.fact 102 rfl)
  have kx_Needs_list : PySem.W.kitOne K (.ref (He.ga K "Needs")) (.type "list") = some false := dok (c.fact 103 rfl)
  have kx_Needs_tuple : PySem.W.kitOne K (.ref (He.ga K "Needs")) (.type "tuple") = some false := dok (c.fact 104 rfl)
  have kx_Plan_int : PySem.W.kitOne K (.ref (He.ga K "Plan")) (.type "int") = some false := dok (c.fact 105 rfl)
  have kx_Plan_list : PySem.W.kitOne K (.ref (He.ga K "Plan")) (.type "list") = some false := dok (c.fact 106 rfl)
  have kx_Plan_tuple : PySem.W.kitOne K (.ref (He.ga K "Plan")) (.type "tuple") = some false := dok (c.fact 107 rfl)
  have sm : Wx.smB K = true := (c.fact 108 rfl)
  have ba_n : PySem.W.nsIn K mainGlobals "NeedError" = some (some (.ref (He.ga K "NeedError"))) := dok (c.fact 109 rfl)
  have bs_n : PySem.W.subIn K (.ref (He.ga K "NeedError")) (.type "BaseException") = some true := dok (c.fact 110 rfl)
  have bd_n : PySem.W.hasDictIn K (He.ga K "NeedError") = true := (c.fact 111 rfl)
  have bt_n : PySem.W.typeIn K (.ref (He.ga K "NeedError")) = some (.type "type") := dok (c.fact 112 rfl)
  have noT : PySem.W.nsIn K cStatics "thirdparty.any" = some none := dok (c.fact 113 rfl)
  have z_super : PySem.W.nsIn K mainGlobals "super" = some none := dok (c.fact 114 rfl)
  have ea_NoBegin : PySem.W.nsIn K mainGlobals "NoBegin" = some (some (.ref (He.ga K "NoBegin"))) := dok (c.fact 115 rfl)
  obtain ⟨_, _, _, _, _, _, _, _, _, _, _, _, _, _, el_NoBegin⟩ := exB_ok (c.fact 116 rfl)
  have es_NoBegin : PySem.W.findIn K (.ref (He.ga K "NoBegin")) "__setattr__" = some (some (.builtin "object.__setattr__")) := dok (c.fact 117 rfl)
  have eg_NoBegin : PySem.W.findIn K (.ref (He.ga K "NoBegin")) "__getattribute__" = some (some (.builtin "BaseException.__getattribute__")) := dok (c.fact 118 rfl)
  have eh_NoBegin : PySem.W.findIn K (.ref (He.ga K "NoBegin")) "__getattr__" = some none := dok (c.fact 119 rfl)
  have en_NoBegin : PySem.W.findIn K (.ref (He.ga K "NoBegin")) "hour" = some none := dok (c.fact 120 rfl)
  have ei_NoBegin : PySem.W.findIn K (.ref (He.ga K "NoBegin")) "__init__" = some (some (.ref (He.ma K (He.ga K "NoBegin") "__init__"))) := dok (c.fact 121 rfl)
  have eC_NoBegin : PySem.W.findIn K (.ref (He.ga K "NoBegin")) "__class__" = some (some (.builtin "object.__class__")) := dok (c.fact 122 rfl)
  have et_NoBegin : PySem.W.typeIn K (.ref (He.ma K (He.ga K "NoBegin") "__init__")) = some (.type "function") := dok (c.fact 123 rfl)
  have ek_NoBegin : PySem.W.keepIn K (.ref (He.ga K "NoBegin")) = true := (c.fact 124 rfl)
  have ee_NoBegin : PySem.W.subIn K (.ref (He.ga K "NoBegin")) (.type "BaseException") = some true := dok (c.fact 125 rfl)
  have ev_NoBegin : PySem.W.subIn K (.ref (He.ga K "NoBegin")) (.type "ValueError") = some true := dok (c.fact 126 rfl)
  have eN_NoBegin : PySem.W.subIn K (.ref (He.ga K "NoBegin")) (.ref (He.ga K "NeedError")) = some true := dok (c.fact 127 rfl)
  have ey_NoBegin : PySem.W.typeIn K (.ref (He.ga K "NoBegin")) = some (.type "type") := dok (c.fact 128 rfl)
  have ed_NoBegin : PySem.W.hasDictIn K (He.ga K "NoBegin") = true := (c.fact 129 rfl)
  have em_NoBegin : PySem.W.mroIn K (He.ga K "NoBegin") (.ref (He.ga K "NoBegin")) = some true := dok (c.fact 130 rfl)
  have eO_NoBegin : PySem.W.mroIn K (He.ga K "NoBegin") (.type "object") = some true := dok (c.fact 131 rfl)
  have eu_NoBegin : PySem.W.ks_superIn K (He.ga K "NoBegin") (He.ga K "NoBegin") "__init__" = some (some (.builtin "ValueError.__init__")) := dok (c.fact 132 rfl)
  obtain ⟨_, _, _, _, _, _, _, _, _, _, _, _, _, _, _, _, _, ef_NoBegin, ec_NoBegin, eo_NoBegin, ew_NoBegin, eq_NoBegin⟩ := c.sup_ 37 (d := ⟨fun K => (He.ma K (He.ga K "NoBegin") "__init__"), "__init__", "NoBegin.__init__", (inClass (top 6) 0), true⟩) (C := (He.ga K "NoBegin")) (file := flX) (c.fact 133 rfl) rfl
  have eF_NoBegin : ((P.main.file : Str) == flX) = true := by rw [pF]; decide +kernel
  have ea_NoHour : PySem.W.nsIn K mainGlobals "NoHour" = some (some (.ref (He.ga K "NoHour"))) := dok (c.fact 134 rfl)
  obtain ⟨_, _, _, _, _, _, _, _, _, _, _, _, _, _, el_NoHour⟩ := exB_ok (c.fact 135 rfl)
  have es_NoHour : PySem.W.findIn K (.ref (He.ga K "NoHour")) "__setattr__" = some (some (.builtin "object.__setattr__")) := dok (c.fact 136 rfl)
  have eg_NoHour : PySem.W.findIn K (.ref (He.ga K "NoHour")) "__getattribute__" = some (some (.builtin "BaseException.__getattribute__")) := dok (c.fact 137 rfl)
  have eh_NoHour : PySem.W.findIn K (.ref (He.ga K "NoHour")) "__getattr__" = some none := dok (c.fact 138 rfl)
  have en_NoHour : PySem.W.findIn K (.ref (He.ga K "NoHour")) "hour" = some none := dok (c.fact 139 rfl)
  have ei_NoHour : PySem.W.findIn K (.ref (He.ga K "NoHour")) "__init__" = some (some (.ref (He.ma K (He.ga K "NoHour") "__init__"))) := dok (c.fact 140 rfl)
  have eC_NoHour : PySem.W.findIn K (.ref (He.ga K "NoHour")) "__class__" = some (some (.builtin "object.__class__")) := dok (c.fact 141 rfl)
  have et_NoHour : PySem.W.typeIn K (.ref (He.ma K (He.ga K "NoHour") "__init__")) = some (.type "function") := dok (c.fact 142 rfl)
  have ek_NoHour : PySem.W.keepIn K (.ref (He.ga K "NoHour")) = true := (c.fact 143 rfl)
  have ee_NoHour : PySem.W.subIn K (.ref (He.ga K "NoHour")) (.type "BaseException") = some true := dok (c.fact 144 rfl)
  have ev_NoHour : PySem.W.subIn K (.ref (He.ga K "NoHour")) (.type "ValueError") = some true := dok (c.fact 145 rfl)
  have eN_NoHour : PySem.W.subIn K (.ref (He.ga K "NoHour")) (.ref (He.ga K "NeedError")) = some true := dok (c.fact 146 rfl)
  have ey_NoHour : PySem.W.typeIn K (.ref (He.ga K "NoHour")) = some (.type "type") := dok (c.fact 147 rfl)
  have ed_NoHour : PySem.W.hasDictIn K (He.ga K "NoHour") = true := (c.fact 148 rfl)
  have em_NoHour : PySem.W.mroIn K (He.ga K "NoHour") (.ref (He.ga K "NoHour")) = some true := dok (c.fact 149 rfl)
  have eO_NoHour : PySem.W.mroIn K (He.ga K "NoHour") (.type "object") = some true := dok (c.fact 150 rfl)
  have eu_NoHour : PySem.W.ks_superIn K (He.ga K "NoHour") (He.ga K "NoHour") "__init__" = some (some (.builtin "ValueError.__init__")) := dok (c.fact 151 rfl)
  obtain ⟨_, _, _, _, _, _, _, _, _, _, _, _, _, _, _, _, _, ef_NoHour, ec_NoHour, eo_NoHour, ew_NoHour, eq_NoHour⟩ := c.sup_ 38 (d := ⟨fun K => (He.ma K (He.ga K "NoHour") "__init__"), "__init__", "NoHour.__init__", (inClass (top 4) 0), true⟩) (C := (He.ga K "NoHour")) (file := flX) (c.fact 152 rfl) rfl
  have eF_NoHour : ((P.main.file : Str) == flX) = true := by rw [pF]; decide +kernel
  have ea_Unlike : PySem.W.nsIn K mainGlobals "Unlike" = some (some (.ref (He.ga K "Unlike"))) := dok (c.fact 153 rfl)
  obtain ⟨_, _, _, _, _, _, _, _, _, _, _, _, _, _, el_Unlike⟩ := exB_ok (c.fact 154 rfl)
  have es_Unlike : PySem.W.findIn K (.ref (He.ga K "Unlike")) "__setattr__" = some (some (.builtin "object.__setattr__")) := dok (c.fact 155 rfl)
  have eg_Unlike : PySem.W.findIn K (.ref (He.ga K "Unlike")) "__getattribute__" = some (some (.builtin "BaseException.__getattribute__")) := dok (c.fact 156 rfl)
  have eh_Unlike : PySem.W.findIn K (.ref (He.ga K "Unlike")) "__getattr__" = some none := dok (c.fact 157 rfl)
  have ei_Unlike : PySem.W.findIn K (.ref (He.ga K "Unlike")) "__init__" = some (some (.ref (He.ma K (He.ga K "Unlike") "__init__"))) := dok (c.fact 158 rfl)
  have eC_Unlike : PySem.W.findIn K (.ref (He.ga K "Unlike")) "__class__" = some (some (.builtin "object.__class__")) := dok (c.fact 159 rfl)
  have et_Unlike : PySem.W.typeIn K (.ref (He.ma K (He.ga K "Unlike") "__init__")) = some (.type "function") := dok (c.fact 160 rfl)
  have ek_Unlike : PySem.W.keepIn K (.ref (He.ga K "Unlike")) = true := (c.fact 161 rfl)
  have ee_Unlike : PySem.W.subIn K (.ref (He.ga K "Unlike")) (.type "BaseException") = some true := dok (c.fact 162 rfl)
  have ev_Unlike : PySem.W.subIn K (.ref (He.ga K "Unlike")) (.type "ValueError") = some true := dok (c.fact 163 rfl)
  have eN_Unlike : PySem.W.subIn K (.ref (He.ga K "Unlike")) (.ref (He.ga K "NeedError")) = some true := dok (c.fact 164 rfl)
  have ey_Unlike : PySem.W.typeIn K (.ref (He.ga K "Unlike")) = some (.type "type") := dok (c.fact 165 rfl)
  have ed_Unlike : PySem.W.hasDictIn K (He.ga K "Unlike") = true := (c.fact 166 rfl)
  have em_Unlike : PySem.W.mroIn K (He.ga K "Unlike") (.ref (He.ga K "Unlike")) = some true := dok (c.fact 167 rfl)
  have eO_Unlike : PySem.W.mroIn K (He.ga K "Unlike") (.type "object") = some true := dok (c.fact 168 rfl)
  have eu_Unlike : PySem.W.ks_superIn K (He.ga K "Unlike") (He.ga K "Unlike") "__init__" = some (some (.builtin "ValueError.__init__")) := dok (c.fact 169 rfl)
  obtain ⟨_, _, _, _, _, _, _, _, _, _, _, _, _, _, _, _, _, ef_Unlike, ec_Unlike, eo_Unlike, ew_Unlike, eq_Unlike⟩ := c.sup_ 39 (d := ⟨fun K => (He.ma K (He.ga K "Unlike") "__init__"), "__init__", "Unlike.__init__", (inClass (top 5) 0), true⟩) (C := (He.ga K "Unlike")) (file := flX) (c.fact 170 rfl) rfl
  have eF_Unlike : ((P.main.file : Str) == flX) = true := by rw [pF]; decide +kernel
  have ea_Wrong : PySem.W.nsIn K mainGlobals "Wrong" = some (some (.ref (He.ga K "Wrong"))) := dok (c.fact 171 rfl)
  obtain ⟨_, _, _, _, _, _, _, _, _, _, _, _, _, _, el_Wrong⟩ := exB_ok (c.fact 172 rfl)
  have es_Wrong : PySem.W.findIn K (.ref (He.ga K "Wrong")) "__setattr__" = some (some (.builtin "object.__setattr__")) := dok (c.fact 173 rfl)
  have eg_Wrong : PySem.W.findIn K (.ref (He.ga K "Wrong")) "__getattribute__" = some (some (.builtin "BaseException.__getattribute__")) := dok (c.fact 174 rfl)
  have eh_Wrong : PySem.W.findIn K (.ref (He.ga K "Wrong")) "__getattr__" = some none := dok (c.fact 175 rfl)
  have en_Wrong : PySem.W.findIn K (.ref (He.ga K "Wrong")) "place" = some none := dok (c.fact 176 rfl)
  have ei_Wrong : PySem.W.findIn K (.ref (He.ga K "Wrong")) "__init__" = some (some (.ref (He.ma K (He.ga K "Wrong") "__init__"))) := dok (c.fact 177 rfl)
  have eC_Wrong : PySem.W.findIn K (.ref (He.ga K "Wrong")) "__class__" = some (some (.builtin "object.__class__")) := dok (c.fact 178 rfl)
  have et_Wrong : PySem.W.typeIn K (.ref (He.ma K (He.ga K "Wrong") "__init__")) = some (.type "function") := dok (c.fact 179 rfl)
  have ek_Wrong : PySem.W.keepIn K (.ref (He.ga K "Wrong")) = true := (c.fact 180 rfl)
  have ee_Wrong : PySem.W.subIn K (.ref (He.ga K "Wrong")) (.type "BaseException") = some true := dok (c.fact 181 rfl)
  have ev_Wrong : PySem.W.subIn K (.ref (He.ga K "Wrong")) (.type "ValueError") = some true := dok (c.fact 182 rfl)
  have eN_Wrong : PySem.W.subIn K (.ref (He.ga K "Wrong")) (.ref (He.ga K "NeedError")) = some true := dok (c.fact 183 rfl)
  have ey_Wrong : PySem.W.typeIn K (.ref (He.ga K "Wrong")) = some (.type "type") := dok (c.fact 184 rfl)
  have ed_Wrong : PySem.W.hasDictIn K (He.ga K "Wrong") = true := (c.fact 185 rfl)
  have em_Wrong : PySem.W.mroIn K (He.ga K "Wrong") (.ref (He.ga K "Wrong")) = some true := dok (c.fact 186 rfl)
  have eO_Wrong : PySem.W.mroIn K (He.ga K "Wrong") (.type "object") = some true := dok (c.fact 187 rfl)
  have eu_Wrong : PySem.W.ks_superIn K (He.ga K "Wrong") (He.ga K "Wrong") "__init__" = some (some (.builtin "ValueError.__init__")) := dok (c.fact 188 rfl)
  obtain ⟨_, _, _, _, _, _, _, _, _, _, _, _, _, _, _, _, _, ef_Wrong, ec_Wrong, eo_Wrong, ew_Wrong, eq_Wrong⟩ := c.sup_ 40 (d := ⟨fun K => (He.ma K (He.ga K "Wrong") "__init__"), "__init__", "Wrong.__init__", (inClass (top 3) 0), true⟩) (C := (He.ga K "Wrong")) (file := flX) (c.fact 189 rfl) rfl
  have eF_Wrong : ((P.main.file : Str) == flX) = true := by rw [pF]; decide +kernel
  have kt_ix_NoBegin_NoBegin : PySem.W.kitOne K (.ref (He.ga K "NoBegin")) (.ref (He.ga K "NoBegin")) = some true := dok (c.fact 190 rfl)
  have kt_ix_NoBegin_NoHour : PySem.W.kitOne K (.ref (He.ga K "NoBegin")) (.ref (He.ga K "NoHour")) = some false := dok (c.fact 191 rfl)
  have kt_ix_NoBegin_Unlike : PySem.W.kitOne K (.ref (He.ga K "NoBegin")) (.ref (He.ga K "Unlike")) = some false := dok (c.fact 192 rfl)
  have kt_ix_NoBegin_Wrong : PySem.W.kitOne K (.ref (He.ga K "NoBegin")) (.ref (He.ga K "Wrong")) = some false := dok (c.fact 193 rfl)
  have kt_ix_NoHour_NoBegin : PySem.W.kitOne K (.ref (He.ga K "NoHour")) (.ref (He.ga K "NoBegin")) = some false := dok (c.fact 194 rfl)
  have kt_ix_NoHour_NoHour : PySem.W.kitOne K (.ref (He.ga K "NoHour")) (.ref (He.ga K "NoHour")) = some true := dok (c.fact 195 rfl)
  have kt_ix_NoHour_Unlike : PySem.W.kitOne K (.ref (He.ga K "NoHour")) (.ref (He.ga K "Unlike")) = some false := dok (c.fact 196 rfl)
  have kt_ix_NoHour_Wrong : PySem.W.kitOne K (.ref (He.ga K "NoHour")) (.ref (He.ga K "Wrong")) = some false := dok (c.fact 197 rfl)
  have kt_ix_Unlike_NoBegin : PySem.W.kitOne K (.ref (He.ga K "Unlike")) (.ref (He.ga K "NoBegin")) = some false := dok (c.fact 198 rfl)
  have kt_ix_Unlike_NoHour : PySem.W.kitOne K (.ref (He.ga K "Unlike")) (.ref (He.ga K "NoHour")) = some false := dok (c.fact 199 rfl)
  have kt_ix_Unlike_Unlike : PySem.W.kitOne K (.ref (He.ga K "Unlike")) (.ref (He.ga K "Unlike")) = some true := dok (c.fact 200 rfl)
  have kt_ix_Unlike_Wrong : PySem.W.kitOne K (.ref (He.ga K "Unlike")) (.ref (He.ga K "Wrong")) = some false := dok (c.fact 201 rfl)
  have kt_ix_Wrong_NoBegin : PySem.W.kitOne K (.ref (He.ga K "Wrong")) (.ref (He.ga K "NoBegin")) = some false := dok (c.fact 202 rfl)
  have kt_ix_Wrong_NoHour : PySem.W.kitOne K (.ref (He.ga K "Wrong")) (.ref (He.ga K "NoHour")) = some false := dok (c.fact 203 rfl)
  have kt_ix_Wrong_Unlike : PySem.W.kitOne K (.ref (He.ga K "Wrong")) (.ref (He.ga K "Unlike")) = some false := dok (c.fact 204 rfl)
  have kt_ix_Wrong_Wrong : PySem.W.kitOne K (.ref (He.ga K "Wrong")) (.ref (He.ga K "Wrong")) = some true := dok (c.fact 205 rfl)
  obtain ⟨_, _, _, _, _, _, _, _, _, l__law_bag, c__law_bag, k__law_bag⟩ := c.def_ 0 (d := ⟨fun K => (He.ga K "_law_bag"), "_law_bag", "_law_bag", s__law_bag, false⟩) rfl
  obtain ⟨_, _, _, _, _, _, _, _, _, l__law_take, c__law_take, k__law_take⟩ := c.def_ 1 (d := ⟨fun K => (He.ga K "_law_take"), "_law_take", "_law_take", s__law_take, false⟩) rfl
  obtain ⟨_, _, _, _, _, _, _, _, _, l__law_number, c__law_number, k__law_number⟩ := c.def_ 2 (d := ⟨fun K => (He.ga K "_law_number"), "_law_number", "_law_number", s__law_number, false⟩) rfl
  obtain ⟨_, _, _, _, _, _, _, _, _, l__law_drawn_row, c__law_drawn_row, k__law_drawn_row⟩ := c.def_ 3 (d := ⟨fun K => (He.ga K "_law_drawn_row"), "_law_drawn_row", "_law_drawn_row", s__law_drawn_row, false⟩) rfl
  obtain ⟨_, _, _, _, _, _, _, _, _, l__law_same, c__law_same, k__law_same⟩ := c.def_ 4 (d := ⟨fun K => (He.ga K "_law_same"), "_law_same", "_law_same", s__law_same, false⟩) rfl
  obtain ⟨_, _, _, _, _, _, _, _, _, l__law_heard, c__law_heard, k__law_heard⟩ := c.def_ 5 (d := ⟨fun K => (He.ga K "_law_heard"), "_law_heard", "_law_heard", s__law_heard, false⟩) rfl
  obtain ⟨_, _, _, _, _, _, _, _, _, l_is_integer, c_is_integer, k_is_integer⟩ := c.def_ 6 (d := ⟨fun K => (He.ga K "is_integer"), "is_integer", "is_integer", s_is_integer, false⟩) rfl
  obtain ⟨_, _, _, _, _, _, _, _, _, l_is_hour, c_is_hour, k_is_hour⟩ := c.def_ 7 (d := ⟨fun K => (He.ga K "is_hour"), "is_hour", "is_hour", s_is_hour, false⟩) rfl
  obtain ⟨_, _, _, _, _, _, _, _, _, l_Plan___getitem__, c_Plan___getitem__, k_Plan___getitem__⟩ := c.def_ 8 (d := ⟨fun K => (He.ma K (He.ga K "Plan") "__getitem__"), "__getitem__", "Plan.__getitem__", s_Plan___getitem__, false⟩) rfl
  obtain ⟨_, _, _, _, _, _, _, _, _, l_Plan_hours, c_Plan_hours, k_Plan_hours⟩ := c.def_ 9 (d := ⟨fun K => (rcA K (He.ma K (He.ga K "Plan") "hours") "property"), "hours", "Plan.hours", s_Plan_hours, false⟩) rfl
  obtain ⟨_, _, _, _, _, _, _, _, _, l_is_count, c_is_count, k_is_count⟩ := c.def_ 10 (d := ⟨fun K => (He.ga K "is_count"), "is_count", "is_count", s_is_count, false⟩) rfl
  obtain ⟨_, _, _, _, _, _, _, _, _, l_are_counts, c_are_counts, k_are_counts⟩ := c.def_ 11 (d := ⟨fun K => (He.ga K "are_counts"), "are_counts", "are_counts", s_are_counts, false⟩) rfl
  obtain ⟨_, _, _, _, _, _, _, _, _, l_is_row, c_is_row, k_is_row⟩ := c.def_ 12 (d := ⟨fun K => (He.ga K "is_row"), "is_row", "is_row", s_is_row, false⟩) rfl
  obtain ⟨_, _, _, _, _, _, _, _, _, l_Plan___init__, c_Plan___init__, k_Plan___init__⟩ := c.def_ 13 (d := ⟨fun K => (He.ma K (He.ga K "Plan") "__init__"), "__init__", "Plan.__init__", s_Plan___init__, false⟩) rfl
  obtain ⟨_, _, _, _, _, _, _, _, _, l_Plan_moved, c_Plan_moved, k_Plan_moved⟩ := c.def_ 14 (d := ⟨fun K => (He.ma K (He.ga K "Plan") "moved"), "moved", "Plan.moved", s_Plan_moved, false⟩) rfl
  obtain ⟨_, _, _, _, _, _, _, _, _, l_Plan_later, c_Plan_later, k_Plan_later⟩ := c.def_ 15 (d := ⟨fun K => (He.ma K (He.ga K "Plan") "later"), "later", "Plan.later", s_Plan_later, false⟩) rfl
  obtain ⟨_, _, _, _, _, _, _, _, _, l_Plan_earlier, c_Plan_earlier, k_Plan_earlier⟩ := c.def_ 16 (d := ⟨fun K => (He.ma K (He.ga K "Plan") "earlier"), "earlier", "Plan.earlier", s_Plan_earlier, false⟩) rfl
  obtain ⟨_, _, _, _, _, _, _, _, _, l_row_of, c_row_of, k_row_of⟩ := c.def_ 17 (d := ⟨fun K => (He.ga K "row_of"), "row_of", "row_of", s_row_of, false⟩) rfl
  obtain ⟨_, _, _, _, _, _, _, _, _, l_pairs_of, c_pairs_of, k_pairs_of⟩ := c.def_ 18 (d := ⟨fun K => (He.ga K "pairs_of"), "pairs_of", "pairs_of", s_pairs_of, false⟩) rfl
  obtain ⟨_, _, _, _, _, _, _, _, _, l_sums_of, c_sums_of, k_sums_of⟩ := c.def_ 19 (d := ⟨fun K => (He.ga K "sums_of"), "sums_of", "sums_of", s_sums_of, false⟩) rfl
  obtain ⟨_, _, _, _, _, _, _, _, _, l_both_sums, c_both_sums, k_both_sums⟩ := c.def_ 20 (d := ⟨fun K => (He.ga K "both_sums"), "both_sums", "both_sums", s_both_sums, false⟩) rfl
  obtain ⟨_, _, _, _, _, _, _, _, _, l_Plan___and__, c_Plan___and__, k_Plan___and__⟩ := c.def_ 21 (d := ⟨fun K => (He.ma K (He.ga K "Plan") "__and__"), "__and__", "Plan.__and__", s_Plan___and__, false⟩) rfl
  obtain ⟨_, _, _, _, _, _, _, _, _, l_Plan___or__, c_Plan___or__, k_Plan___or__⟩ := c.def_ 22 (d := ⟨fun K => (He.ma K (He.ga K "Plan") "__or__"), "__or__", "Plan.__or__", s_Plan___or__, false⟩) rfl
  obtain ⟨_, _, _, _, _, _, _, _, _, l_Plan_within, c_Plan_within, k_Plan_within⟩ := c.def_ 23 (d := ⟨fun K => (He.ma K (He.ga K "Plan") "within"), "within", "Plan.within", s_Plan_within, false⟩) rfl
  obtain ⟨_, _, _, _, _, _, _, _, _, l_Plan___len__, c_Plan___len__, k_Plan___len__⟩ := c.def_ 24 (d := ⟨fun K => (He.ma K (He.ga K "Plan") "__len__"), "__len__", "Plan.__len__", s_Plan___len__, false⟩) rfl
  obtain ⟨_, _, _, _, _, _, _, _, _, l_Plan___add__, c_Plan___add__, k_Plan___add__⟩ := c.def_ 25 (d := ⟨fun K => (He.ma K (He.ga K "Plan") "__add__"), "__add__", "Plan.__add__", s_Plan___add__, false⟩) rfl
  obtain ⟨_, _, _, _, _, _, _, _, _, l_Plan___iter__, c_Plan___iter__, k_Plan___iter__⟩ := c.def_ 26 (d := ⟨fun K => (He.ma K (He.ga K "Plan") "__iter__"), "__iter__", "Plan.__iter__", s_Plan___iter__, false⟩) rfl
  obtain ⟨_, _, _, _, _, _, _, _, _, l__law_doors_right, c__law_doors_right, k__law_doors_right⟩ := c.def_ 27 (d := ⟨fun K => (He.ga K "_law_doors_right"), "_law_doors_right", "_law_doors_right", s__law_doors_right, false⟩) rfl
  obtain ⟨_, _, _, _, _, _, _, _, _, l__law_one, c__law_one, k__law_one⟩ := c.def_ 28 (d := ⟨fun K => (He.ga K "_law_one"), "_law_one", "_law_one", s__law_one, false⟩) rfl
  obtain ⟨_, _, _, _, _, _, _, _, _, l__law_bent, c__law_bent, k__law_bent⟩ := c.def_ 29 (d := ⟨fun K => (He.ga K "_law_bent"), "_law_bent", "_law_bent", s__law_bent, false⟩) rfl
  obtain ⟨_, _, _, _, _, _, _, _, _, l__law_are_counts, c__law_are_counts, k__law_are_counts⟩ := c.def_ 30 (d := ⟨fun K => (He.ga K "_law_are_counts"), "_law_are_counts", "_law_are_counts", s__law_are_counts, false⟩) rfl
  obtain ⟨_, _, _, _, _, _, _, _, _, l_are_sums, c_are_sums, k_are_sums⟩ := c.def_ 31 (d := ⟨fun K => (He.ga K "are_sums"), "are_sums", "are_sums", s_are_sums, false⟩) rfl
  obtain ⟨_, _, _, _, _, _, _, _, _, l_Plan_of_sums, c_Plan_of_sums, k_Plan_of_sums⟩ := c.def_ 32 (d := ⟨fun K => (rcA K (stA K (He.ga K "Plan") "of_sums") "staticmethod"), "of_sums", "Plan.of_sums", s_Plan_of_sums, false⟩) rfl
  obtain ⟨_, _, _, _, _, _, _, _, _, l__law_are_sums, c__law_are_sums, k__law_are_sums⟩ := c.def_ 33 (d := ⟨fun K => (He.ga K "_law_are_sums"), "_law_are_sums", "_law_are_sums", s__law_are_sums, false⟩) rfl
  obtain ⟨_, _, _, _, _, _, _, _, _, l_Needs___init__, c_Needs___init__, k_Needs___init__⟩ := c.def_ 34 (d := ⟨fun K => (He.ma K (He.ga K "Needs") "__init__"), "__init__", "Needs.__init__", s_Needs___init__, false⟩) rfl
  obtain ⟨_, _, _, _, _, _, _, _, _, l_Plan___eq__, c_Plan___eq__, k_Plan___eq__⟩ := c.def_ 35 (d := ⟨fun K => (He.ma K (He.ga K "Plan") "__eq__"), "__eq__", "Plan.__eq__", s_Plan___eq__, false⟩) rfl
  obtain ⟨_, _, _, _, _, _, _, _, _, l_law, c_law, k_law⟩ := c.def_ 36 (d := ⟨fun K => (He.ga K "law"), "law", "law", s_law, false⟩) rfl
  have ce__law_doors_right := coB_ok (c.fact 59 rfl) l__law_doors_right
  have ce_law := coB_ok (c.fact 78 rfl) l_law
  refine ⟨fun p hp => by
    simp only [csK, List.mem_cons, List.not_mem_nil, or_false] at hp
    rcases hp with rfl | rfl <;> first | exact Option.isNone_iff_eq_none.mp cn__law_doors_right | exact Option.isNone_iff_eq_none.mp cn_law, fun p hp => by
    simp only [csK, List.mem_cons, List.not_mem_nil, or_false] at hp
    rcases hp with rfl | rfl <;> first | exact ch__law_doors_right | exact ch_law, ?_⟩
  exact all_mk X G hfa a_Needs pg_Needs hd_Needs po_Needs sa_Needs sf_Needs a_Plan pg_Plan hd_Plan po_Plan sa_Plan sf_Plan n_Needs_kept_row n_Plan_kept_begins a__law_bag l__law_bag c__law_bag k__law_bag a__law_take l__law_take c__law_take k__law_take a__law_number l__law_number c__law_number k__law_number a__law_drawn_row l__law_drawn_row c__law_drawn_row k__law_drawn_row a__law_same l__law_same c__law_same k__law_same a__law_heard l__law_heard c__law_heard k__law_heard a_is_integer l_is_integer c_is_integer k_is_integer a_is_hour l_is_hour c_is_hour k_is_hour a_Plan___getitem__ i_Plan___getitem__ fi_Plan___getitem__ l_Plan___getitem__ c_Plan___getitem__ k_Plan___getitem__ pa_Plan_hours pb_Plan_hours pc_Plan_hours pd_Plan_hours l_Plan_hours c_Plan_hours k_Plan_hours a_is_count l_is_count c_is_count k_is_count a_are_counts l_are_counts c_are_counts k_are_counts a_is_row l_is_row c_is_row k_is_row a_Plan___init__ i_Plan___init__ mm_Plan mc_Plan l_Plan___init__ c_Plan___init__ k_Plan___init__ a_Plan_moved i_Plan_moved l_Plan_moved c_Plan_moved k_Plan_moved a_Plan_later i_Plan_later l_Plan_later c_Plan_later k_Plan_later a_Plan_earlier i_Plan_earlier l_Plan_earlier c_Plan_earlier k_Plan_earlier a_row_of l_row_of c_row_of k_row_of a_pairs_of l_pairs_of c_pairs_of k_pairs_of a_sums_of l_sums_of c_sums_of k_sums_of a_both_sums l_both_sums c_both_sums k_both_sums a_Plan___and__ i_Plan___and__ l_Plan___and__ c_Plan___and__ k_Plan___and__ a_Plan___or__ i_Plan___or__ l_Plan___or__ c_Plan___or__ k_Plan___or__ a_Plan_within i_Plan_within l_Plan_within c_Plan_within k_Plan_within a_Plan___len__ i_Plan___len__ l_Plan___len__ c_Plan___len__ k_Plan___len__ a_Plan___add__ i_Plan___add__ l_Plan___add__ c_Plan___add__ k_Plan___add__ a_Plan___iter__ i_Plan___iter__ l_Plan___iter__ c_Plan___iter__ k_Plan___iter__ a__law_doors_right l__law_doors_right c__law_doors_right k__law_doors_right ce__law_doors_right ch__law_doors_right cn__law_doors_right a__law_one l__law_one c__law_one k__law_one a__law_bent l__law_bent c__law_bent k__law_bent a__law_are_counts l__law_are_counts c__law_are_counts k__law_are_counts a_are_sums l_are_sums c_are_sums k_are_sums sr_Plan_of_sums sg_Plan_of_sums sa_Plan_of_sums sc_Plan_of_sums l_Plan_of_sums c_Plan_of_sums k_Plan_of_sums a__law_are_sums l__law_are_sums c__law_are_sums k__law_are_sums a_Needs___init__ i_Needs___init__ mm_Needs mc_Needs l_Needs___init__ c_Needs___init__ k_Needs___init__ a_Plan___eq__ i_Plan___eq__ l_Plan___eq__ c_Plan___eq__ k_Plan___eq__ a_law l_law c_law k_law ce_law ch_law cn_law tn z_abs z_all z_bool z_int z_isinstance z_iter z_len z_list z_max z_min z_range z_repr z_tuple z_zip k_MOST_HOURS ia_Needs gn_obj tk_obj im_Needs ia_Plan im_Plan kx_Needs_list kx_Needs_tuple kx_Plan_int kx_Plan_list kx_Plan_tuple sm ba_n bs_n bd_n bt_n noT z_super tp_s ea_NoBegin el_NoBegin es_NoBegin eg_NoBegin eh_NoBegin en_NoBegin ei_NoBegin eC_NoBegin et_NoBegin ek_NoBegin ee_NoBegin ev_NoBegin eN_NoBegin ey_NoBegin ed_NoBegin em_NoBegin eO_NoBegin eu_NoBegin ef_NoBegin ec_NoBegin eo_NoBegin ew_NoBegin eF_NoBegin eq_NoBegin ea_NoHour el_NoHour es_NoHour eg_NoHour eh_NoHour en_NoHour ei_NoHour eC_NoHour et_NoHour ek_NoHour ee_NoHour ev_NoHour eN_NoHour ey_NoHour ed_NoHour em_NoHour eO_NoHour eu_NoHour ef_NoHour ec_NoHour eo_NoHour ew_NoHour eF_NoHour eq_NoHour ea_Unlike el_Unlike es_Unlike eg_Unlike eh_Unlike ei_Unlike eC_Unlike et_Unlike ek_Unlike ee_Unlike ev_Unlike eN_Unlike ey_Unlike ed_Unlike em_Unlike eO_Unlike eu_Unlike ef_Unlike ec_Unlike eo_Unlike ew_Unlike eF_Unlike eq_Unlike ea_Wrong el_Wrong es_Wrong eg_Wrong eh_Wrong en_Wrong ei_Wrong eC_Wrong et_Wrong ek_Wrong ee_Wrong ev_Wrong eN_Wrong ey_Wrong ed_Wrong em_Wrong eO_Wrong eu_Wrong ef_Wrong ec_Wrong eo_Wrong ew_Wrong eF_Wrong eq_Wrong kt_ix_NoBegin_NoBegin kt_ix_NoBegin_NoHour kt_ix_NoBegin_Unlike kt_ix_NoBegin_Wrong kt_ix_NoHour_NoBegin kt_ix_NoHour_NoHour kt_ix_NoHour_Unlike kt_ix_NoHour_Wrong kt_ix_Unlike_NoBegin kt_ix_Unlike_NoHour kt_ix_Unlike_Unlike kt_ix_Unlike_Wrong kt_ix_Wrong_NoBegin kt_ix_Wrong_NoHour kt_ix_Wrong_Unlike kt_ix_Wrong_Wrong
end Pf
open PySem PySem.W PySem.Calls PyProof.Rows in
set_option maxRecDepth 100000 in
set_option maxHeartbeats 0 in
theorem PySem.Challenge.cw_hourneeds_k26_plans_refused_holds : PySem.Challenge.rw_hourneeds_k26_plans_refused.Holds := by
  w_on; o_law
  refine HandSHeadRun.head_any (r := (PySem.W.OpenLaw.row PySem.Challenge.rw_hourneeds_k26_plans_refused)) (q := view (PySem.W.OpenLaw.row PySem.Challenge.rw_hourneeds_k26_plans_refused).prog [35]) (H := Pf.hk) (ob := Pf.ob) (M := 20000) (loose := Pf.loose) (d := HandSHeadRun.topDef (PySem.W.OpenLaw.row PySem.Challenge.rw_hourneeds_k26_plans_refused).prog 35) (kwd := []) Pf.ob_eq
    (by kernel_rfl) (fun s => by kernel_rfl) Pf.run (by kernel_rfl) (by kernel_rfl) (by kernel_rfl) (by rfl) (by first | assumption | decide +kernel) (by decide +kernel) ⟨rfl, rfl, rfl, rfl, rfl, by decide +kernel⟩ ?hw ?hc
  case hw => w_witness2
  case hc =>
    refine Hn.walkGT (l := PySem.Challenge.rw_hourneeds_k26_plans_refused) (n := 63) (k := 12) (x := "_law_script") rfl (by decide) (by kernel_rfl) ⟨rfl, by decide, by decide⟩ ?F
    intro w mg fa h Y G hmg0
    obtain ⟨K, KX, c, tb⟩ := Y
    have hmg : mg ("law" : PySem.Str) = some (.ref fa) := by
      have e : (HandSHeadRun.topDef (PySem.W.OpenLaw.row PySem.Challenge.rw_hourneeds_k26_plans_refused).prog 35).name = ("law" : PySem.Str) := by kernel_rfl
      rw [← e]
      exact hmg0
    obtain ⟨n1, n2, n3⟩ := Pf.facts (P := (PySem.Challenge.rw_hourneeds_k26_plans_refused).prog) (w := w) KX G hmg c (by decide +kernel) rfl
    refine ⟨K, Pf.csK K, _, KX, fun p hp => ?_, n1, n2, fun H a ns hl hT hS => ⟨hT, a, ns, rfl, hS, hl, fun _ => rfl⟩, n3⟩
    simp only [Pf.csK, List.mem_cons, List.not_mem_nil, or_false] at hp
    rcases hp with rfl | rfl
    · have z := tb _ (List.mem_of_getElem? (l := Pf.tbl) (i := 0) rfl)
      exact z
    · have z := tb _ (List.mem_of_getElem? (l := Pf.tbl) (i := 1) rfl)
      exact z
#print axioms PySem.Challenge.cw_hourneeds_k26_plans_refused_holds
