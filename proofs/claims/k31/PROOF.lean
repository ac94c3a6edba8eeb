import PyProof.Rows.All
import Wide.All
import OpenK.AllK
import Wide.FinOn
import HandS.ForMost
import HandS.ForExc
import HandS.Evl
import HandS.Walk
import HandS.Property
import HandS.IsInst
import HandS.Style
import HandS.More
import HandS.SetFor
import HandS.Zip
import HandS.TupAny
import HandS.Wide
import HandS.Deep
import KE.KOpsOwn
import KE.KDictZip
import KE.RegKIsAll
import KE.GoesEnum
import KE.Datum
import KE.IntTextLaws
import PyProof.StrBlock2
import KE.GoesMore
import KE.KItemsList
import HandS.ListItems
import KE.KTupSum
import OpenK.KOps
import HandS.OwnIter
import HandS.IterVal
import PyProof.ReprRoads
import PyProof.ReprLen
import PyProof.CallFns
import HandS.Conv
import HandS.ClsMeth
import HandS.TryOnly
import HandS.Text
import HandS.MakeKwOnly
import HandS.TupMul
import HandS.Defaults
import HandS.Lambda
import HandS.Dict
import HandS.Strs
import KE.GoesZip
import PyProof.P3Eq
import HandS.Exc
import KE.KExcSuper
import KE.KExcMake
import KE.KExcIs
import HandS.ExcIs
import HandS.WordsExc
import HandS.ExcOwn
import KE.LtData
import HandS.SortInts
import HandS.SortRule
import HandS.Words
import HandS.HeadHook2
import HandS.Head2
import HandS.HeadEnd
import PySem.Challenge.RW_hourneeds_k31_rings_measured
set_option Elab.async false
set_option linter.all false
set_option maxRecDepth 100000
set_option maxHeartbeats 2000000
namespace Hn
open PySem PySem.Spec PyProof.Rows L2 Evl
structure DefH where
  adr : PySem.W.Frag → Addr
  name : Str
  qual : Str
  st : Stmt
  sup : Bool
def fnA (K : PySem.W.Frag) (a : Addr) : He.FnW := match K.lookup a with
  | some ⟨_, _, .func fd, _⟩ => some (fd.name, fd.qualname, fd.params, fd.body, fd.scope, fd.globals, [], fd.builtins)
  | _ => none
def noC : List (Str × Addr) → Bool
  | [] => true
  | _ => false
def DefH.val (d : DefH) : He.FnW := some (d.name, d.qual, defArgs d.st, .stmts (defBody d.st), defScope d.st, mainGlobals, [], builtinsNs)
def nonV : Value → Bool
  | .none => true
  | _ => false
def DefH.ok (K : PySem.W.Frag) (d : DefH) : Bool := PySem.W.keepIn K (.ref (d.adr K)) && (match K.lookup (d.adr K) with
  | some ⟨_, _, .func fd, _⟩ => PySem.W.codeIn K fd.code d.qual && nonV fd.defaults && (d.sup || noC fd.closure)
  | _ => false)
theorem DefH.fun_ {K : PySem.W.Frag} {d : DefH} (e : fnA K (d.adr K) = d.val) (c : d.ok K = true) (hs : d.sup = false) : ∃ (oc : Value) (od : Option Addr) (kV doc pm : Value) (an : Option Addr) (cdv ct : Value) (osl : Array (Option Value)),
    K.lookup (d.adr K) = some ⟨oc, od, .func (PySem.W.fnOf d.name d.qual (defArgs d.st) (defBody d.st) (defScope d.st) .none kV doc pm an cdv ct), osl⟩ ∧ PySem.W.codeIn K cdv d.qual = true ∧ PySem.W.keepIn K (.ref (d.adr K)) = true := by
  obtain ⟨kp, c2⟩ := He.ba c
  unfold fnA at e
  cases q : K.lookup (d.adr K) with
  | none =>
    rw [q] at c2
    cases c2
  | some o =>
    obtain ⟨oc, od, dt, osl⟩ := o
    rw [q] at c2 e
    cases dt with
    | func fd =>
      obtain ⟨n1, n2, n3, n4, n5, n6, n7, n8, n9, n10, n11, n12, n13, n14, n15⟩ := fd
      have e2 : (some (n1, n2, n3, n4, n5, n6, [], n15) : He.FnW) = some (d.name, d.qual, defArgs d.st, .stmts (defBody d.st), defScope d.st, mainGlobals, [], builtinsNs) := e
      simp only [Option.some.injEq, Prod.mk.injEq] at e2
      obtain ⟨h1, h2, h3, h4, h5, h6, _, h8⟩ := e2
      subst h1 h2 h3 h4 h5 h6 h8
      have c3 : (PySem.W.codeIn K n13 d.qual && nonV n8 && (d.sup || noC n7)) = true := c2
      obtain ⟨c3, k3⟩ := He.ba c3
      obtain ⟨k1, k2⟩ := He.ba c3
      rw [hs] at k3
      cases n7 with
      | nil =>
        cases n8 with
        | none => exact ⟨oc, od, n9, n10, n11, n12, n13, n14, osl, rfl, k1, kp⟩
        | _ => cases k2
      | cons => cases k3
    | _ => cases c2
def flV (v : Option Value) (file : Str) : Bool := match v with
  | some (.str x _) => decide (x = file)
  | _ => false
def inB (K : PySem.W.Frag) (f c : Addr) (file : Str) : Bool := match K.lookup f with
  | some ⟨_, _, .func fd, _⟩ => nonV fd.kwdefaults && (match fd.closure with
    | [(x, a)] => decide (x = "__class__") && (match K.lookup a with
      | some ⟨_, _, .cell (some (.ref b)), _⟩ => decide (b = c)
      | _ => false)
    | _ => false) && (match fd.code with
    | .ref q => match K.lookup q with
      | some ⟨_, _, .fields vs, _⟩ => flV vs[2]? file
      | _ => false
    | _ => false)
  | _ => false
theorem DefH.sup_ {K : PySem.W.Frag} {d : DefH} {c : Addr} {file : Str} (e : fnA K (d.adr K) = d.val) (ok : d.ok K = true) (i : inB K (d.adr K) c file = true) :
    ∃ (oc : Value) (od : Option Addr) (doc pm : Value) (an : Option Addr) (q : Addr) (ct : Value) (osl : Array (Option Value)) (cc : Addr) (ccl cl : Value) (cdd cld : Option Addr) (vs : Array Value) (ccs csl : Array (Option Value)) (tf : Tok),
    K.lookup (d.adr K) = some ⟨oc, od, .func (PySem.W.ksFn d.name d.qual (defArgs d.st) (defBody d.st) (defScope d.st) .none .none doc pm an (.ref q) ct cc), osl⟩ ∧ PySem.W.codeIn K (.ref q) d.qual = true ∧
    K.lookup q = some ⟨ccl, cdd, .fields vs, ccs⟩ ∧ vs[2]? = some (.str file tf) ∧ K.lookup cc = some ⟨cl, cld, .cell (some (.ref c)), csl⟩ := by
  obtain ⟨kp, c2⟩ := He.ba ok
  unfold fnA at e
  unfold inB at i
  cases q : K.lookup (d.adr K) with
  | none =>
    rw [q] at c2
    cases c2
  | some o =>
    obtain ⟨oc, od, dt, osl⟩ := o
    rw [q] at c2 e i
    cases dt with
    | func fd =>
      obtain ⟨n1, n2, n3, n4, n5, n6, n7, n8, n9, n10, n11, n12, n13, n14, n15⟩ := fd
      have e2 : (some (n1, n2, n3, n4, n5, n6, [], n15) : He.FnW) = some (d.name, d.qual, defArgs d.st, .stmts (defBody d.st), defScope d.st, mainGlobals, [], builtinsNs) := e
      simp only [Option.some.injEq, Prod.mk.injEq] at e2
      obtain ⟨h1, h2, h3, h4, h5, h6, _, h8⟩ := e2
      subst h1 h2 h3 h4 h5 h6 h8
      have c3 : (PySem.W.codeIn K n13 d.qual && nonV n8 && (d.sup || noC n7)) = true := c2
      obtain ⟨c3, _⟩ := He.ba c3
      obtain ⟨k1, k2⟩ := He.ba c3
      simp only at i
      obtain ⟨i, i3⟩ := He.ba i
      obtain ⟨i1, i2⟩ := He.ba i
      cases n8 with
      | none =>
        cases n9 with
        | none =>
          match n7, i2 with
          | [(x, a)], i2 =>
            simp only at i2
            obtain ⟨j1, j2⟩ := He.ba i2
            obtain rfl : x = "__class__" := of_decide_eq_true j1
            split at j2
            · rename_i cl cld b csl qa
              obtain rfl : b = c := of_decide_eq_true j2
              cases n13 with
              | ref qq =>
                simp only at i3
                split at i3
                · rename_i ccl cdd vs ccs qc
                  unfold flV at i3
                  split at i3
                  · rename_i x tf qv
                    obtain rfl : x = file := of_decide_eq_true i3
                    exact ⟨oc, od, n10, n11, n12, qq, n14, osl, a, ccl, cl, cdd, cld, vs, ccs, csl, tf, rfl, k1, qc, qv, qa⟩
                  · cases i3
                · cases i3
              | _ => cases i3
            · cases j2
        | _ => cases i1
      | _ => cases k2
    | _ => cases c2
def exB (K : PySem.W.Frag) (c n : Addr) : Bool := match K.lookup c with
  | some ⟨t, _, .cls cd, sl⟩ => decide (t = .type "type") && decide (cd.mro = [.ref c, .ref n, .type "ValueError", .type "Exception", .type "BaseException", .type "object"]) && cd.hasDict && !cd.hasDel && (match sl.toList with
    | [_, _, _, _, some (.builtin b), _] => decide (b = "ValueError.__new__")
    | _ => false)
  | _ => false
theorem exB_ok {K : PySem.W.Frag} {c n : Addr} (h : exB K c n = true) : ∃ (nm qn : Str) (N : Addr) (bs : List Value) (sn : List Str) (sub : List Value) (ab : Bool) (col : Option Bool) (dd : Option Addr) (m0 m1 m2 m3 m5 : Option Value),
    K.lookup c = some (excClassObj nm qn c N bs [.ref n, .type "ValueError", .type "Exception", .type "BaseException", .type "object"] true sn sub ab col dd m0 m1 m2 m3 m5 "ValueError.__new__") := by
  unfold exB at h
  split at h
  · rename_i t dd cd sl q
    obtain ⟨h, h5⟩ := He.ba h
    obtain ⟨h, h4⟩ := He.ba h
    obtain ⟨h, h3⟩ := He.ba h
    obtain ⟨h1, h2⟩ := He.ba h
    obtain rfl : t = .type "type" := of_decide_eq_true h1
    obtain ⟨nm, bs, mro, N, qn, hd, sn, sub, ab, col, del⟩ := cd
    obtain rfl : mro = [.ref c, .ref n, .type "ValueError", .type "Exception", .type "BaseException", .type "object"] := of_decide_eq_true h2
    obtain rfl : hd = true := h3
    obtain rfl : del = false := by cases del <;> simp_all
    split at h5
    · rename_i m0 m1 m2 m3 b m5 e
      obtain rfl : b = "ValueError.__new__" := of_decide_eq_true h5
      have e2 : sl = #[m0, m1, m2, m3, some (.builtin "ValueError.__new__"), m5] := by
        cases sl with
        | mk l => exact congrArg Array.mk e
      subst e2
      exact ⟨nm, qn, N, bs, sn, sub, ab, col, dd, m0, m1, m2, m3, m5, q⟩
    · cases h5
  · cases h
def ceA (g : Addr → Option Obj) (a : Addr) : List Addr := match g a with
  | some ⟨_, _, .func fd, _⟩ => fd.closure.map (·.2)
  | _ => []
def obsH (fa : List (PySem.W.Frag → Bool)) (fn : List DefH) (K : PySem.W.Frag) : He.AlD := ((fa.all fun f => f K) && fn.all fun d => d.ok K, fn.map fun d => fnA K (d.adr K))
def valH (fn : List DefH) : He.AlD := (true, fn.map DefH.val)
def SaysH (fa : List (PySem.W.Frag → Bool)) (fn : List DefH) (K : PySem.W.Frag) : Prop := obsH fa fn K = valH fn
def rcA (K : PySem.W.Frag) (a : Addr) (t : String) : Addr := match PySem.W.recIn K a t with
  | some (.ref b :: _) => b
  | _ => 0
def rcB (K : PySem.W.Frag) (a : Addr) (t : String) : Bool := match PySem.W.recIn K a t with
  | some (.ref _ :: _) => true
  | _ => false
def stA (K : PySem.W.Frag) (C : Addr) (m : Str) : Addr := match PySem.W.findCls K (.ref C) (.type "type") m with
  | some (.get _ (.ref p) _ _) => p
  | _ => 0
def cdA (g : Addr → Option Obj) (a : Addr) : List Addr := match g a with
  | some ⟨_, _, .func fd, _⟩ => He.refV fd.code
  | _ => []
def clA (g : Addr → Option Obj) (a : Addr) : List Addr := match g a with
  | some ⟨_, _, .cls cd, _⟩ => cd.ns :: cd.mro.flatMap He.refV
  | _ => []
def asH (gs cs : List Str) (ms ps ss : List (Str × Str)) (g : Addr → Option Obj) : List Addr :=
  let K0 := He.frG g [mainGlobals]
  let a1 := gs.map (He.ga K0)
  let c1 := cs.map (He.ga K0)
  let a2 := c1.flatMap (clA g)
  let K2 := He.frG g (mainGlobals :: c1 ++ a2)
  let a3 := ms.map fun q => He.ma K2 (He.ga K2 q.1) q.2
  let p3 := ps.map fun q => He.ma K2 (He.ga K2 q.1) q.2
  let s3 := ss.map fun q => He.ma K2 (He.ga K2 q.1) q.2
  let K3 := He.frG g (p3 ++ s3)
  let a4 := p3.map fun a => rcA K3 a "property"
  let b4 := s3.map fun a => rcA K3 a "staticmethod"
  mainGlobals :: c1 ++ a2 ++ a3 ++ p3 ++ s3 ++ a4 ++ b4 ++ a1 ++ a3.flatMap (cdA g) ++ a4.flatMap (cdA g) ++ b4.flatMap (cdA g) ++ a1.flatMap (cdA g) ++ (match ss with | [] => [] | _ => [cStatics])
def obsHG (as : (Addr → Option Obj) → List Addr) (fa : List (PySem.W.Frag → Bool)) (fn : List DefH) (g : Addr → Option Obj) : He.AlD := obsH fa fn (He.frG g (as g))
def hookH (as : (Addr → Option Obj) → List Addr) (fa : List (PySem.W.Frag → Bool)) (fn : List DefH) : PySem.W.Hook where
  α := He.AlD
  obs := fun s => obsHG as fa fn s.heap.get?
  val := fun _ => valH fn
  says := fun _ h => ∃ K : PySem.W.Frag, K.In h ∧ SaysH fa fn K
  of := fun _ _ e => ⟨_, He.frG_in, e⟩
  keeps := fun _ _ _ ⟨K, hK, c⟩ k => ⟨K, PySem.W.Frag.In.keeps hK k, c⟩
theorem obsHG_eq {as : (Addr → Option Obj) → List Addr} {fa : List (PySem.W.Frag → Bool)} {fn : List DefH} {g : Addr → Option Obj} {s : Shared} (h : ∀ a, g a = s.heap.get? a) : obsHG as fa fn g = (hookH as fa fn).obs s := by
  have e : g = s.heap.get? := funext h
  rw [e] <;> rfl
section
variable {fa : List (PySem.W.Frag → Bool)} {fn : List DefH} {K : PySem.W.Frag}
theorem SaysH.all (c : SaysH fa fn K) : (fa.all fun f => f K) = true := (He.ba (show ((fa.all fun f => f K) && fn.all fun d => d.ok K) = true from congrArg (fun z : He.AlD => z.1) c)).1
theorem SaysH.fact (c : SaysH fa fn K) (i : Nat) {f : PySem.W.Frag → Bool} (h : fa[i]? = some f := by rfl) : f K = true := List.all_eq_true.mp c.all f (List.mem_of_getElem? h)
theorem SaysH.sup_ (c : SaysH fa fn K) (i : Nat) {d : DefH} {C : Addr} {file : Str} (hi : inB K (d.adr K) C file = true) (h : fn[i]? = some d := by rfl) :
    ∃ (oc : Value) (od : Option Addr) (doc pm : Value) (an : Option Addr) (q : Addr) (ct : Value) (osl : Array (Option Value)) (cc : Addr) (ccl cl : Value) (cdd cld : Option Addr) (vs : Array Value) (ccs csl : Array (Option Value)) (tf : Tok),
    K.lookup (d.adr K) = some ⟨oc, od, .func (PySem.W.ksFn d.name d.qual (defArgs d.st) (defBody d.st) (defScope d.st) .none .none doc pm an (.ref q) ct cc), osl⟩ ∧ PySem.W.codeIn K (.ref q) d.qual = true ∧
    K.lookup q = some ⟨ccl, cdd, .fields vs, ccs⟩ ∧ vs[2]? = some (.str file tf) ∧ K.lookup cc = some ⟨cl, cld, .cell (some (.ref C)), csl⟩ := by
  have c2 := (He.ba (show ((fa.all fun f => f K) && fn.all fun d => d.ok K) = true from congrArg (fun z : He.AlD => z.1) c)).2
  have e : fn.map (fun d => fnA K (d.adr K)) = fn.map DefH.val := congrArg (fun z : He.AlD => z.2) c
  have e2 : (fn.map fun d => fnA K (d.adr K))[i]? = (fn.map DefH.val)[i]? := by rw [e]
  rw [List.getElem?_map, List.getElem?_map, h] at e2
  exact DefH.sup_ (Option.some.inj e2) (List.all_eq_true.mp c2 d (List.mem_of_getElem? h)) hi
theorem SaysH.def_ (c : SaysH fa fn K) (i : Nat) {d : DefH} (h : fn[i]? = some d := by rfl) (hs : d.sup = false := by rfl) : ∃ (oc : Value) (od : Option Addr) (kV doc pm : Value) (an : Option Addr) (cdv ct : Value) (osl : Array (Option Value)),
    K.lookup (d.adr K) = some ⟨oc, od, .func (PySem.W.fnOf d.name d.qual (defArgs d.st) (defBody d.st) (defScope d.st) .none kV doc pm an cdv ct), osl⟩ ∧ PySem.W.codeIn K cdv d.qual = true ∧ PySem.W.keepIn K (.ref (d.adr K)) = true := by
  have c2 := (He.ba (show ((fa.all fun f => f K) && fn.all fun d => d.ok K) = true from congrArg (fun z : He.AlD => z.1) c)).2
  have e : fn.map (fun d => fnA K (d.adr K)) = fn.map DefH.val := congrArg (fun z : He.AlD => z.2) c
  have e2 : (fn.map fun d => fnA K (d.adr K))[i]? = (fn.map DefH.val)[i]? := by rw [e]
  rw [List.getElem?_map, List.getElem?_map, h] at e2
  exact DefH.fun_ (Option.some.inj e2) (List.all_eq_true.mp c2 d (List.mem_of_getElem? h)) hs
end
theorem rcB_ok {K : PySem.W.Frag} {a : Addr} {t : String} (h : rcB K a t = true) : ∃ rest, PySem.W.recIn K a t = some (.ref (rcA K a t) :: rest) := by
  unfold rcB at h
  unfold rcA
  cases e : PySem.W.recIn K a t with
  | none => rw [e] at h; cases h
  | some l =>
    rw [e] at h
    cases l with
    | nil => cases h
    | cons v r =>
      cases v with
      | ref b => exact ⟨r, rfl⟩
      | _ => cases h
def stB (K : PySem.W.Frag) (C : Addr) (m : Str) : Bool := match PySem.W.findCls K (.ref C) (.type "type") m with
  | some (.get (.builtin b) (.ref _) .none (.ref c)) => decide (b = "staticmethod.__get__") && decide (c = C)
  | _ => false
theorem stB_ok {K : PySem.W.Frag} {C : Addr} {m : Str} (h : stB K C m = true) : PySem.W.findCls K (.ref C) (.type "type") m = some (.get (.builtin "staticmethod.__get__") (.ref (stA K C m)) .none (.ref C)) := by
  unfold stB at h
  unfold stA
  split at h
  · rename_i b p c e
    obtain ⟨h1, h2⟩ := He.ba h
    obtain rfl : b = "staticmethod.__get__" := of_decide_eq_true h1
    obtain rfl : c = C := of_decide_eq_true h2
    rw [e]
  · cases h
def itB (x : Option (Option Value)) (i : Int) : Bool := match x with
  | some (some (.int j _)) => decide (j = i)
  | _ => false
theorem itB_ok {x : Option (Option Value)} {i : Int} (h : itB x i = true) : ∃ t, x = some (some (.int i t)) := by
  unfold itB at h
  split at h
  · rename_i j t
    obtain rfl : j = i := of_decide_eq_true h
    exact ⟨t, rfl⟩
  · cases h
theorem dok {p : Prop} [Decidable p] (h : decide p = true) : p := of_decide_eq_true h
end Hn
namespace Wx
open PySem PySem.Spec PyProof.Rows L2 Evl
end Wx
namespace Pf
open PySem PySem.Spec PyProof.Rows L2 Evl Hn Wx
def top (i : Nat) : Stmt := PySem.Challenge.pw_hourneeds_k31_rings_measured.main.body.getD i (.Pass ⟨0, 0, 0, 0⟩)
abbrev s__law_bag : Stmt := top 30
abbrev s__law_take : Stmt := top 31
abbrev s__law_stays : Stmt := top 33
abbrev s__law_number : Stmt := top 32
abbrev s__law_numbers : Stmt := top 36
abbrev s__law_wants : Stmt := top 38
abbrev s_is_integer : Stmt := top 8
abbrev s_are_stays : Stmt := top 21
abbrev s_need_order : Stmt := top 22
abbrev s_width_of : Stmt := top 23
abbrev s_Clock___init__ : Stmt := inClass (top 24) 0
abbrev s__law_clock : Stmt := top 37
abbrev s__law_ring : Stmt := top 42
abbrev s__law_serving : Stmt := top 34
abbrev s__law_hop : Stmt := top 39
abbrev s__law_wound : Stmt := top 40
abbrev s__law_bound_of : Stmt := top 41
abbrev s_is_hour : Stmt := top 10
abbrev s_Clock_hours : Stmt := inClass (top 24) 1
abbrev s_Clock_widths : Stmt := inClass (top 24) 4
abbrev s_step_hours : Stmt := top 15
abbrev s__law_alike : Stmt := top 35
abbrev s_winds : Stmt := top 16
abbrev s_up : Stmt := top 12
abbrev s_Needs___getitem__ : Stmt := inClass (top 28) 8
abbrev s_ring_bound : Stmt := top 17
abbrev s_Needs_hours : Stmt := inClass (top 28) 1
abbrev s_need_alike : Stmt := top 14
abbrev s_bound : Stmt := top 18
abbrev s_is_count : Stmt := top 9
abbrev s_are_counts : Stmt := top 11
abbrev s_is_row : Stmt := top 26
abbrev s_Needs___init__ : Stmt := inClass (top 28) 0
abbrev s__law_heard : Stmt := top 43
abbrev s_Clock_even : Stmt := inClass (top 24) 2
abbrev s__law_by_turns : Stmt := top 44
abbrev s_law : Stmt := top 45
def flX : Str := PySem.Challenge.pw_hourneeds_k31_rings_measured.main.file
def fas0 : List (PySem.W.Frag → Bool) := [
  fun K => decide (PySem.W.nsIn K mainGlobals "Clock" = some (some (.ref (He.ga K "Clock")))),
  fun K => PySem.W.plainGet K (He.ga K "Clock") Str.empty,
  fun K => PySem.W.hasDictIn K (He.ga K "Clock"),
  fun K => PySem.W.plainOver K (He.ga K "Clock"),
  fun K => decide (PySem.W.findIn K (.ref (He.ga K "Clock")) "__setattr__" = some (some (.builtin "object.__setattr__"))),
  fun K => PySem.W.selfFirst K (He.ga K "Clock"),
  fun K => decide (PySem.W.nsIn K mainGlobals "Needs" = some (some (.ref (He.ga K "Needs")))),
  fun K => PySem.W.plainGet K (He.ga K "Needs") Str.empty,
  fun K => PySem.W.hasDictIn K (He.ga K "Needs"),
  fun K => PySem.W.plainOver K (He.ga K "Needs"),
  fun K => decide (PySem.W.findIn K (.ref (He.ga K "Needs")) "__setattr__" = some (some (.builtin "object.__setattr__"))),
  fun K => PySem.W.selfFirst K (He.ga K "Needs"),
  fun K => decide (PySem.W.findIn K (.ref (He.ga K "Clock")) "kept_stays" = some none),
  fun K => decide (PySem.W.findIn K (.ref (He.ga K "Clock")) "kept_widths" = some none),
  fun K => decide (PySem.W.findIn K (.ref (He.ga K "Needs")) "kept_row" = some none),
  fun K => decide (PySem.W.nsIn K mainGlobals "_law_bag" = some (some (.ref (He.ga K "_law_bag")))),
  fun K => decide (PySem.W.nsIn K mainGlobals "_law_take" = some (some (.ref (He.ga K "_law_take")))),
  fun K => decide (PySem.W.nsIn K mainGlobals "_law_stays" = some (some (.ref (He.ga K "_law_stays")))),
  fun K => decide (PySem.W.nsIn K mainGlobals "_law_number" = some (some (.ref (He.ga K "_law_number")))),
  fun K => decide (PySem.W.nsIn K mainGlobals "_law_numbers" = some (some (.ref (He.ga K "_law_numbers")))),
  fun K => decide (PySem.W.nsIn K mainGlobals "_law_wants" = some (some (.ref (He.ga K "_law_wants")))),
  fun K => decide (PySem.W.nsIn K mainGlobals "is_integer" = some (some (.ref (He.ga K "is_integer")))),
  fun K => decide (PySem.W.nsIn K mainGlobals "are_stays" = some (some (.ref (He.ga K "are_stays")))),
  fun K => decide (PySem.W.nsIn K mainGlobals "need_order" = some (some (.ref (He.ga K "need_order")))),
  fun K => decide (PySem.W.nsIn K mainGlobals "width_of" = some (some (.ref (He.ga K "width_of")))),
  fun K => decide (PySem.W.findIn K (.ref (He.ga K "Clock")) "__init__" = some (some (.ref (He.ma K (He.ga K "Clock") "__init__")))),
  fun K => PySem.W.isFn K (.ref (He.ma K (He.ga K "Clock") "__init__")),
  fun K => PySem.W.makesIn K (He.ga K "Clock"),
  fun K => PySem.W.keepIn K (.ref (He.ga K "Clock")),
  fun K => decide (PySem.W.nsIn K mainGlobals "_law_clock" = some (some (.ref (He.ga K "_law_clock")))),
  fun K => decide (PySem.W.nsIn K mainGlobals "_law_ring" = some (some (.ref (He.ga K "_law_ring")))),
  fun K => decide (PySem.W.nsIn K mainGlobals "_law_serving" = some (some (.ref (He.ga K "_law_serving")))),
  fun K => decide (PySem.W.nsIn K mainGlobals "_law_hop" = some (some (.ref (He.ga K "_law_hop")))),
  fun K => decide (PySem.W.nsIn K mainGlobals "_law_wound" = some (some (.ref (He.ga K "_law_wound")))),
  fun K => decide (PySem.W.nsIn K mainGlobals "_law_bound_of" = some (some (.ref (He.ga K "_law_bound_of")))),
  fun K => decide (PySem.W.nsIn K mainGlobals "is_hour" = some (some (.ref (He.ga K "is_hour")))),
  fun K => decide (PySem.W.findIn K (.ref (He.ga K "Clock")) "hours" = some (some (.ref (He.ma K (He.ga K "Clock") "hours")))),
  fun K => decide (PySem.W.specialIn K (.ref (He.ma K (He.ga K "Clock") "hours")) "__get__" = some (some (.builtin "property.__get__"))),
  fun K => decide (PySem.W.takesIn K (.ref (He.ma K (He.ga K "Clock") "hours")) = some true),
  fun K => rcB K (He.ma K (He.ga K "Clock") "hours") "property"]
def fas1 : List (PySem.W.Frag → Bool) := [
  fun K => decide (PySem.W.findIn K (.ref (He.ga K "Clock")) "widths" = some (some (.ref (He.ma K (He.ga K "Clock") "widths")))),
  fun K => PySem.W.isFn K (.ref (He.ma K (He.ga K "Clock") "widths")),
  fun K => decide (PySem.W.nsIn K mainGlobals "step_hours" = some (some (.ref (He.ga K "step_hours")))),
  fun K => decide (PySem.W.nsIn K mainGlobals "_law_alike" = some (some (.ref (He.ga K "_law_alike")))),
  fun K => decide (PySem.W.nsIn K mainGlobals "winds" = some (some (.ref (He.ga K "winds")))),
  fun K => decide (PySem.W.nsIn K mainGlobals "up" = some (some (.ref (He.ga K "up")))),
  fun K => decide (PySem.W.findIn K (.ref (He.ga K "Needs")) "__getitem__" = some (some (.ref (He.ma K (He.ga K "Needs") "__getitem__")))),
  fun K => PySem.W.isFn K (.ref (He.ma K (He.ga K "Needs") "__getitem__")),
  fun K => PySem.W.fnIn K (He.ma K (He.ga K "Needs") "__getitem__"),
  fun K => decide (PySem.W.nsIn K mainGlobals "ring_bound" = some (some (.ref (He.ga K "ring_bound")))),
  fun K => decide (PySem.W.findIn K (.ref (He.ga K "Needs")) "hours" = some (some (.ref (He.ma K (He.ga K "Needs") "hours")))),
  fun K => decide (PySem.W.specialIn K (.ref (He.ma K (He.ga K "Needs") "hours")) "__get__" = some (some (.builtin "property.__get__"))),
  fun K => decide (PySem.W.takesIn K (.ref (He.ma K (He.ga K "Needs") "hours")) = some true),
  fun K => rcB K (He.ma K (He.ga K "Needs") "hours") "property",
  fun K => decide (PySem.W.nsIn K mainGlobals "need_alike" = some (some (.ref (He.ga K "need_alike")))),
  fun K => decide (PySem.W.nsIn K mainGlobals "bound" = some (some (.ref (He.ga K "bound")))),
  fun K => decide (PySem.W.nsIn K mainGlobals "is_count" = some (some (.ref (He.ga K "is_count")))),
  fun K => decide (PySem.W.nsIn K mainGlobals "are_counts" = some (some (.ref (He.ga K "are_counts")))),
  fun K => decide (PySem.W.nsIn K mainGlobals "is_row" = some (some (.ref (He.ga K "is_row")))),
  fun K => decide (PySem.W.findIn K (.ref (He.ga K "Needs")) "__init__" = some (some (.ref (He.ma K (He.ga K "Needs") "__init__")))),
  fun K => PySem.W.isFn K (.ref (He.ma K (He.ga K "Needs") "__init__")),
  fun K => PySem.W.makesIn K (He.ga K "Needs"),
  fun K => PySem.W.keepIn K (.ref (He.ga K "Needs")),
  fun K => decide (PySem.W.nsIn K mainGlobals "_law_heard" = some (some (.ref (He.ga K "_law_heard")))),
  fun K => PySem.W.readsIn K (He.ga K "Clock") (.type "type"),
  fun K => decide (PySem.W.specialIn K (.ref (He.ga K "Clock")) "__getattribute__" = some (some (.builtin "type.__getattribute__"))),
  fun K => stB K (He.ga K "Clock") "even",
  fun K => rcB K (stA K (He.ga K "Clock") "even") "staticmethod",
  fun K => decide (PySem.W.nsIn K mainGlobals "_law_by_turns" = some (some (.ref (He.ga K "_law_by_turns")))),
  fun K => decide (PySem.W.nsIn K mainGlobals "law" = some (some (.ref (He.ga K "law")))),
  fun K => decide (PySem.W.nsIn K mainGlobals "abs" = some none),
  fun K => decide (PySem.W.nsIn K mainGlobals "all" = some none),
  fun K => decide (PySem.W.nsIn K mainGlobals "bool" = some none),
  fun K => decide (PySem.W.nsIn K mainGlobals "enumerate" = some none),
  fun K => decide (PySem.W.nsIn K mainGlobals "int" = some none),
  fun K => decide (PySem.W.nsIn K mainGlobals "isinstance" = some none),
  fun K => decide (PySem.W.nsIn K mainGlobals "len" = some none),
  fun K => decide (PySem.W.nsIn K mainGlobals "list" = some none),
  fun K => decide (PySem.W.nsIn K mainGlobals "min" = some none),
  fun K => decide (PySem.W.nsIn K mainGlobals "range" = some none)]
def fas2 : List (PySem.W.Frag → Bool) := [
  fun K => decide (PySem.W.nsIn K mainGlobals "repr" = some none),
  fun K => decide (PySem.W.nsIn K mainGlobals "sum" = some none),
  fun K => decide (PySem.W.nsIn K mainGlobals "tuple" = some none),
  fun K => decide (PySem.W.nsIn K mainGlobals "zip" = some none),
  fun K => itB (PySem.W.nsIn K mainGlobals "MOST_HOURS") 48,
  fun K => decide (PySem.W.nsIn K mainGlobals "NeedError" = some (some (.ref (He.ga K "NeedError")))),
  fun K => decide (PySem.W.subIn K (.ref (He.ga K "NeedError")) (.type "BaseException") = some true),
  fun K => PySem.W.hasDictIn K (He.ga K "NeedError"),
  fun K => decide (PySem.W.typeIn K (.ref (He.ga K "NeedError")) = some (.type "type")),
  fun K => decide (PySem.W.nsIn K cStatics "thirdparty.any" = some none),
  fun K => decide (PySem.W.nsIn K mainGlobals "super" = some none),
  fun K => decide (PySem.W.specialIn K (.builtin "object.__class__") "__get__" = some (some (.builtin "getset_descriptor.__get__"))),
  fun K => decide (PySem.W.takesIn K (.builtin "object.__class__") = some true),
  fun K => decide (PySem.W.nsIn K mainGlobals "Unlike" = some (some (.ref (He.ga K "Unlike")))),
  fun K => exB K (He.ga K "Unlike") (He.ga K "NeedError"),
  fun K => decide (PySem.W.findIn K (.ref (He.ga K "Unlike")) "__setattr__" = some (some (.builtin "object.__setattr__"))),
  fun K => decide (PySem.W.findIn K (.ref (He.ga K "Unlike")) "__getattribute__" = some (some (.builtin "BaseException.__getattribute__"))),
  fun K => decide (PySem.W.findIn K (.ref (He.ga K "Unlike")) "__getattr__" = some none),
  fun K => decide (PySem.W.findIn K (.ref (He.ga K "Unlike")) "__init__" = some (some (.ref (He.ma K (He.ga K "Unlike") "__init__")))),
  fun K => decide (PySem.W.findIn K (.ref (He.ga K "Unlike")) "__class__" = some (some (.builtin "object.__class__"))),
  fun K => decide (PySem.W.typeIn K (.ref (He.ma K (He.ga K "Unlike") "__init__")) = some (.type "function")),
  fun K => PySem.W.keepIn K (.ref (He.ga K "Unlike")),
  fun K => decide (PySem.W.subIn K (.ref (He.ga K "Unlike")) (.type "BaseException") = some true),
  fun K => decide (PySem.W.subIn K (.ref (He.ga K "Unlike")) (.type "ValueError") = some true),
  fun K => decide (PySem.W.subIn K (.ref (He.ga K "Unlike")) (.ref (He.ga K "NeedError")) = some true),
  fun K => decide (PySem.W.typeIn K (.ref (He.ga K "Unlike")) = some (.type "type")),
  fun K => PySem.W.hasDictIn K (He.ga K "Unlike"),
  fun K => decide (PySem.W.mroIn K (He.ga K "Unlike") (.ref (He.ga K "Unlike")) = some true),
  fun K => decide (PySem.W.mroIn K (He.ga K "Unlike") (.type "object") = some true),
  fun K => decide (PySem.W.ks_superIn K (He.ga K "Unlike") (He.ga K "Unlike") "__init__" = some (some (.builtin "ValueError.__init__"))),
  fun K => inB K (He.ma K (He.ga K "Unlike") "__init__") (He.ga K "Unlike") flX,
  fun K => decide (PySem.W.kitOne K (.ref (He.ga K "Unlike")) (.ref (He.ga K "Unlike")) = some true)]
def fas : List (PySem.W.Frag → Bool) := fas0 ++ fas1 ++ fas2
def fns0 : List DefH := [
  ⟨fun K => (He.ga K "_law_bag"), "_law_bag", "_law_bag", s__law_bag, false⟩,
  ⟨fun K => (He.ga K "_law_take"), "_law_take", "_law_take", s__law_take, false⟩,
  ⟨fun K => (He.ga K "_law_stays"), "_law_stays", "_law_stays", s__law_stays, false⟩,
  ⟨fun K => (He.ga K "_law_number"), "_law_number", "_law_number", s__law_number, false⟩,
  ⟨fun K => (He.ga K "_law_numbers"), "_law_numbers", "_law_numbers", s__law_numbers, false⟩,
  ⟨fun K => (He.ga K "_law_wants"), "_law_wants", "_law_wants", s__law_wants, false⟩,
  ⟨fun K => (He.ga K "is_integer"), "is_integer", "is_integer", s_is_integer, false⟩,
  ⟨fun K => (He.ga K "are_stays"), "are_stays", "are_stays", s_are_stays, false⟩,
  ⟨fun K => (He.ga K "need_order"), "need_order", "need_order", s_need_order, false⟩,
  ⟨fun K => (He.ga K "width_of"), "width_of", "width_of", s_width_of, false⟩,
  ⟨fun K => (He.ma K (He.ga K "Clock") "__init__"), "__init__", "Clock.__init__", s_Clock___init__, false⟩,
  ⟨fun K => (He.ga K "_law_clock"), "_law_clock", "_law_clock", s__law_clock, false⟩,
  ⟨fun K => (He.ga K "_law_ring"), "_law_ring", "_law_ring", s__law_ring, false⟩,
  ⟨fun K => (He.ga K "_law_serving"), "_law_serving", "_law_serving", s__law_serving, false⟩,
  ⟨fun K => (He.ga K "_law_hop"), "_law_hop", "_law_hop", s__law_hop, false⟩,
  ⟨fun K => (He.ga K "_law_wound"), "_law_wound", "_law_wound", s__law_wound, false⟩,
  ⟨fun K => (He.ga K "_law_bound_of"), "_law_bound_of", "_law_bound_of", s__law_bound_of, false⟩,
  ⟨fun K => (He.ga K "is_hour"), "is_hour", "is_hour", s_is_hour, false⟩,
  ⟨fun K => (rcA K (He.ma K (He.ga K "Clock") "hours") "property"), "hours", "Clock.hours", s_Clock_hours, false⟩,
  ⟨fun K => (He.ma K (He.ga K "Clock") "widths"), "widths", "Clock.widths", s_Clock_widths, false⟩,
  ⟨fun K => (He.ga K "step_hours"), "step_hours", "step_hours", s_step_hours, false⟩,
  ⟨fun K => (He.ga K "_law_alike"), "_law_alike", "_law_alike", s__law_alike, false⟩,
  ⟨fun K => (He.ga K "winds"), "winds", "winds", s_winds, false⟩,
  ⟨fun K => (He.ga K "up"), "up", "up", s_up, false⟩,
  ⟨fun K => (He.ma K (He.ga K "Needs") "__getitem__"), "__getitem__", "Needs.__getitem__", s_Needs___getitem__, false⟩,
  ⟨fun K => (He.ga K "ring_bound"), "ring_bound", "ring_bound", s_ring_bound, false⟩,
  ⟨fun K => (rcA K (He.ma K (He.ga K "Needs") "hours") "property"), "hours", "Needs.hours", s_Needs_hours, false⟩,
  ⟨fun K => (He.ga K "need_alike"), "need_alike", "need_alike", s_need_alike, false⟩,
  ⟨fun K => (He.ga K "bound"), "bound", "bound", s_bound, false⟩,
  ⟨fun K => (He.ga K "is_count"), "is_count", "is_count", s_is_count, false⟩,
  ⟨fun K => (He.ga K "are_counts"), "are_counts", "are_counts", s_are_counts, false⟩,
  ⟨fun K => (He.ga K "is_row"), "is_row", "is_row", s_is_row, false⟩,
  ⟨fun K => (He.ma K (He.ga K "Needs") "__init__"), "__init__", "Needs.__init__", s_Needs___init__, false⟩,
  ⟨fun K => (He.ga K "_law_heard"), "_law_heard", "_law_heard", s__law_heard, false⟩,
  ⟨fun K => (rcA K (stA K (He.ga K "Clock") "even") "staticmethod"), "even", "Clock.even", s_Clock_even, false⟩,
  ⟨fun K => (He.ga K "_law_by_turns"), "_law_by_turns", "_law_by_turns", s__law_by_turns, false⟩,
  ⟨fun K => (He.ga K "law"), "law", "law", s_law, false⟩,
  ⟨fun K => (He.ma K (He.ga K "Unlike") "__init__"), "__init__", "Unlike.__init__", (inClass (top 6) 0), true⟩]
def fns : List DefH := fns0
def loose0 : List Str := [("_wall" : Str), ("NeedError" : Str), ("Wrong" : Str), ("Overtaken" : Str), ("NoHour" : Str), ("Unlike" : Str), ("is_integer" : Str), ("is_count" : Str), ("is_hour" : Str), ("are_counts" : Str), ("up" : Str), ("need_alike" : Str), ("step_hours" : Str), ("winds" : Str), ("ring_bound" : Str), ("bound" : Str)]
def loose1 : List Str := [("MOST_HOURS" : Str), ("are_stays" : Str), ("need_order" : Str), ("width_of" : Str), ("Clock" : Str), ("is_row" : Str), ("pairs_of" : Str), ("Needs" : Str), ("_law_bag" : Str), ("_law_take" : Str), ("_law_number" : Str), ("_law_stays" : Str), ("_law_serving" : Str), ("_law_alike" : Str), ("_law_numbers" : Str), ("_law_clock" : Str)]
def loose2 : List Str := [("_law_wants" : Str), ("_law_hop" : Str), ("_law_wound" : Str), ("_law_bound_of" : Str), ("_law_ring" : Str), ("_law_heard" : Str), ("_law_by_turns" : Str)]
def loose : List Str := loose0 ++ loose1 ++ loose2
abbrev R : PySem.W.OpenRow := PySem.W.OpenLaw.row PySem.Challenge.rw_hourneeds_k31_rings_measured
def agl0 : List Str := [("_law_bag" : Str), ("_law_take" : Str), ("_law_stays" : Str), ("_law_number" : Str), ("_law_numbers" : Str), ("_law_wants" : Str), ("is_integer" : Str), ("are_stays" : Str), ("need_order" : Str), ("width_of" : Str), ("_law_clock" : Str), ("_law_ring" : Str), ("_law_serving" : Str), ("_law_hop" : Str), ("_law_wound" : Str), ("_law_bound_of" : Str)]
def agl1 : List Str := [("is_hour" : Str), ("step_hours" : Str), ("_law_alike" : Str), ("winds" : Str), ("up" : Str), ("ring_bound" : Str), ("need_alike" : Str), ("bound" : Str), ("is_count" : Str), ("are_counts" : Str), ("is_row" : Str), ("_law_heard" : Str), ("_law_by_turns" : Str), ("law" : Str)]
def agl : List Str := agl0 ++ agl1
def acl0 : List Str := [("Clock" : Str), ("NeedError" : Str), ("Needs" : Str), ("Unlike" : Str)]
def acl : List Str := acl0
def ame0 : List (Str × Str) := [(("Clock" : Str), ("__init__" : Str)), (("Clock" : Str), ("widths" : Str)), (("Needs" : Str), ("__getitem__" : Str)), (("Needs" : Str), ("__init__" : Str)), (("Unlike" : Str), ("__init__" : Str))]
def ame : List (Str × Str) := ame0
def apr0 : List (Str × Str) := [(("Clock" : Str), ("hours" : Str)), (("Needs" : Str), ("hours" : Str))]
def apr : List (Str × Str) := apr0
def ast0 : List (Str × Str) := [(("Clock" : Str), ("even" : Str))]
def ast : List (Str × Str) := ast0
def adrs (g : Addr → Option Obj) : List Addr := let l := asH agl acl ame apr ast g; l ++ l.flatMap (ceA g) ++ [cStatics]
abbrev hk : PySem.W.Hook := hookH adrs fas fns
def ob (s : PySem.W.SharedT) : He.AlD := obsHG adrs fas fns (HandSHeadRun.getT s)
theorem ob_eq (s : PySem.W.SharedT) : ob s = hk.obs s.abs := obsHG_eq (HandSHeadRun.getT_eq s)
set_option maxRecDepth 100000 in
set_option maxHeartbeats 0 in
theorem run (w : World) : HandSHeadRun.RunEq R (PySem.W.view R.prog [45]) hk ob 20000 loose w := by
  intro os
  kernel_rfl
end Pf
namespace Hn
open PySem PySem.Spec PyProof.Rows L2
theorem get_list {X : Cx} : PGet X (rIxL X.K) := by
  intro pins s σ H x y v u Q I rx ry h
  obtain ⟨p, xs, i, z, rfl, rfl, hq, he, q⟩ := h
  cases rx
  obtain ⟨t, rfl⟩ := ry
  obtain ⟨its, r, pl, hz⟩ := I.list hq
  obtain ⟨j, h1, h2, h3, h4, h5⟩ := atI_get he
  obtain ⟨w, ew, rw'⟩ := r.get h2
  have hl := r.length
  have hn := line63
  have fin : EP X pins σ Q w s := ⟨z, H, I, rw', q⟩
  by_cases h0 : 0 ≤ i
  · have hj : i.toNat = j := by
      rw [seqIndex_of h0 h5] at h1
      exact Option.some.inj h1
    exact wpAny_getItem_list pl.isList h0 (by omega) (by rw [hj]; simpa using ew) fin
  · have hj : (i + (its.toArray.size : Int)).toNat = j := by
      rw [seqIndex_neg (by omega) h4] at h1
      rw [List.size_toArray, ← hl]
      exact Option.some.inj h1
    exact wpAny_getItem_list_neg pl.isList (by omega) (by rw [List.size_toArray] <;> omega) (by omega) (by rw [hj]; simpa using ew) fin
section
variable {X : Cx} {CX : CXT} {k : Nat} {f C : Addr} {fd : FuncData} {ps : List Str} {sp : Sp} {E : XK}
theorem run_fn1 {pins : List (Addr × Obj)} {σ : L2.St} {H : Hp} {s : Shared} {Q : VK} {us : List Value} {vs : List V} (F : FnOk X.prog X.w X.K X.mg X.base CX k f fd ps sp) (hr : Room (k + 1) X.A) (hb : Binds X.K fd ps []) (hx : Passes CX X E)
    (I : Inv X pins σ H s) (r : Vals vs us) (h : sp vs H Q E) : wpAny (model X.prog X.w) X.A.in1 (call (.ref f) us) (EP X pins σ Q) X.xe s := by
  have hl : (us ++ []).length = ps.length := by
    rw [List.append_nil, ← r.length]
    exact F.len _ _ _ _ h
  have hb' := hb s us I.kIn hl
  rw [List.append_nil] at hb'
  refine wpAny_call (codeAny_mono (F.run X.A.in1 X.stack s H ⟨us, []⟩ us vs Q E hr.in1 I.env0.in1 hb' r h) fun r s' hq => ?_)
  cases r with
  | error e => exact hx pins σ H s e s' I hq
  | ok fl =>
    cases fl with
    | ret u => exact I.after hq
    | next => exact False.elim hq
    | brk => exact False.elim hq
    | cont => exact False.elim hq
section
open PySem.W
variable {prog : Program} {w : World} {A : Around} {E' : Value → Shared → Prop} {s : Shared} {K : Frag} {x L : Addr} {h0 : Heap} {m : Str → Option Value} {ox : Obj} {od : Option Obj} {b : Value}
end
end
end Hn
namespace Hn
open PySem PySem.Spec PyProof.Rows L2 Evl
def Okf (P : Program) (w : World) (K : PySem.W.Frag) (mg : Str → Option Value) (base : Heap) (k : Nat) (f : Addr) (ps : List Str) (sp : Sp) : Prop :=
  ∃ fd, FnOk P w K mg base (L2.CX P w) k f fd ps sp ∧ Binds K fd ps []
section
variable {P : Program} {w : World} {K : PySem.W.Frag} {mg : Str → Option Value} {base : Heap}
theorem Okf.mono {j k : Nat} {f : Addr} {ps : List Str} {sp : Sp} (F : Okf P w K mg base j f ps sp) (h : j ≤ k) : Okf P w K mg base k f ps sp :=
  let ⟨fd, a, b⟩ := F
  ⟨fd, a.mono h, b⟩
theorem Okf.imp {k : Nat} {f : Addr} {ps : List Str} {sp sp' : Sp} (F : Okf P w K mg base k f ps sp) (h : ∀ vs H Q E, sp' vs H Q E → sp vs H Q E) : Okf P w K mg base k f ps sp' :=
  let ⟨fd, a, b⟩ := F
  ⟨fd, a.imp h, b⟩
def Df (K : PySem.W.Frag) (x qual : Str) (st : Stmt) (f : Addr) (ps : List Str) : Prop := ∃ fd, Fun K x qual st f fd ∧ Binds K fd ps []
theorem Df.kp {x qual : Str} {st : Stmt} {f : Addr} {ps : List Str} (F : Df K x qual st f ps) : PySem.W.keepIn K (.ref f) = true := let ⟨_, a, _⟩ := F; a.kp
theorem fn_lift {CX : CXT} {k : Nat} {f : Addr} {fd : FuncData} {ps : List Str} {sp : Sp} (F : FnOk P w K mg base CX0 k f fd ps sp) : FnOk P w K mg base CX k f fd ps sp :=
  ⟨F.len, fun A outer s H args us vs Q E hr e0 hb r q => codeAny_mono (F.run A outer s H args us vs Q E hr e0 hb r q) fun rr s' hc => by
    cases rr with
    | error e => exact False.elim hc
    | ok fl => cases fl <;> exact hc⟩
theorem okf_of {x qual : Str} {st : Stmt} {f : Addr} {N ps : List Str} {k : Nat} {sp : Sp} (F : Df K x qual st f ps) (S : FnScope N ps (defScope st)) (len : ∀ vs H Q E, sp vs H Q E → vs.length = ps.length)
    (hbody : ∀ (cdv : Value) (A : Around) (outer : List Env) (s : Shared) (H : Hp) (vs : List V) (Q : VK) (E : XK), Room k (A.deeper (envOfC qual (defScope st) s.heap.objs.size f cdv)) → sp vs H Q E →
      ∃ t, PSs (cxOf CX0 P w K mg base N qual (defScope st) f cdv A outer s H E).nox (defBody st) t ∧ t { nx := fun _ H' => Q .non H', rt := Q } (start N vs) H) : Okf P w K mg base (k + 1) f ps sp :=
  let ⟨fd, a, b⟩ := F
  ⟨fd, fn_lift (a.ok S len hbody), b⟩
end
section
variable {X : Cx} {k : Nat} {f C : Addr} {ps : List Str} {sp : Sp} {x m : Str} {p pos apos : Pos} {e o : Expr} {es : List Expr} {ta : TE} {t : TA}
theorem pf_call (G : Okf X.prog X.w X.K X.mg X.base k f ps sp) (hr : Room k X.A) (hg : Gl X x) (hm : X.mg x = some (.ref f)) (hk : PySem.W.keepIn X.K (.ref f) = true)
    (ha : PA X (e :: es) t) (hdb : (x == ("__debug__" : Str)) = false := by decide) (he : starEach (e :: es) X.env = (false, eval e X.env) :: starEach es X.env := by rfl) (hpl : (backTo pos (starEach es X.env)).any (·.1) = false := by rfl) :
    PE X (.Call (.Name x p) (e :: es) [] pos) (tCall sp [] E0 t) :=
  let ⟨_, a, b⟩ := G
  pe_call a hr hg hm hk b .nil passL ha hdb he hpl
theorem pf_meth0 {pl : Sem Bool} (G : Okf X.prog X.w X.K X.mg X.base k f ps sp) (hr : Room k X.A) (c : Cls X.K C) (hm : Meth X.K C m f) (he : PE X o ta)
    (ht : eval (.Call (.Attribute o m apos) [] [] pos) X.env = (do
      let ov ← eval o X.env
      standAt apos.atName
      let (f, first) ← holding [ov] (getMethod ov m pl)
      callWith pos f first (backTo pos (starEach [] X.env)) (backToKw pos (keywordEach [] X.env))) := by rfl) :
    PE X (.Call (.Attribute o m apos) [] [] pos) (tMeth C m sp [] E0 ta tNil) :=
  let ⟨_, a, b⟩ := G
  pe_meth0 he c hm a hr b .nil passL ht
theorem pf_make (G : Okf X.prog X.w X.K X.mg X.base k f ps sp) (hr : Room (k + 1) X.A) (M : Mk X.K C f) (hg : Gl X x) (hm : X.mg x = some (.ref C))
    (ha : PA X (e :: es) t) (hdb : (x == ("__debug__" : Str)) = false := by decide) (he : starEach (e :: es) X.env = (false, eval e X.env) :: starEach es X.env := by rfl) (hpl : (backTo pos (starEach es X.env)).any (·.1) = false := by rfl) :
    PE X (.Call (.Name x p) (e :: es) [] pos) (tMake C sp [] E0 t) :=
  let ⟨_, a, b⟩ := G
  pe_make M a hr hg hm b .nil passL ha hdb he hpl
theorem passN {X : Cx} : Passes (L2.CX X.prog X.w) X.nox E0 := fun _ _ _ _ _ _ _ h => by
  obtain ⟨_, _, _, _, _, _, _, _, _, _, _, _, z⟩ := h
  exact z.elim
theorem pf_prop {q : Addr} (G : Okf X.prog X.w X.K X.mg X.base k f ps sp) (hr : Room (k + 1) X.A) (c : Cls X.K C) (hp : PropOf X.K C m q f) (he : PE X e ta)
    (hab : attributeBase e m X.env (eval e X.env) = eval e X.env := by rfl) : PE X (.Attribute e m pos) (tProp C sp [] E0 ta) :=
  let ⟨_, a, b⟩ := G
  pe_prop he c hp a hr b .nil passN hab
end
def Sq (K : PySem.W.Frag) (H : Hp) (a : Addr) (xs : List V) : Prop := SqL K H a xs ∨ SqT K H a xs
theorem Sq.mono {K : PySem.W.Frag} {H H' : Hp} {a : Addr} {xs : List V} (e : Ex H H') (h : Sq K H a xs) : Sq K H' a xs := h.elim (fun h => .inl (ex_l e h)) (fun h => .inr (ex_t e h))
theorem at_int {ns : List Int} {i : Int} (h0 : 0 ≤ i) (h1 : i < (ns.length : Int)) : atI (ns.map V.int) i = some (.int (ns.getD i.toNat 0)) := by
  obtain ⟨j, rfl⟩ : ∃ j : Nat, i = (j : Int) := ⟨i.toNat, by omega⟩
  have hj : j < ns.length := by omega
  refine atI_nat ?_
  rw [List.getElem?_map, List.getElem?_eq_getElem hj, Int.toNat_natCast, List.getD_eq_getElem?_getD, List.getElem?_eq_getElem hj]
  rfl
theorem int_at {ns : List Int} {i : Nat} {x : V} (h : (ns.map V.int)[i]? = some x) : x = .int (ns.getD i 0) := by
  rw [List.getElem?_map] at h
  rw [List.getD_eq_getElem?_getD]
  cases e : ns[i]? with
  | none => rw [e] at h; cases h
  | some u => rw [e] at h; exact (Option.some.inj h).symm
theorem gD_mem {ns : List Int} {j : Nat} (h : j < ns.length) : ns.getD j 0 ∈ ns := by
  rw [List.getD_eq_getElem?_getD, List.getElem?_eq_getElem h]
  exact List.getElem_mem h
def isLst : HO → Bool
  | .lst _ => true
  | _ => false
def Xl (H H' : Hp) : Prop := ∀ a o, H a = some o → isLst o = false → H' a = some o
theorem Xl.refl (H : Hp) : Xl H H := fun _ _ h _ => h
theorem Xl.trans {H H1 H2 : Hp} (a : Xl H H1) (b : Xl H1 H2) : Xl H H2 := fun x o h n => b x o (a x o h n) n
theorem Xl.of {H H' : Hp} (e : Ex H H') : Xl H H' := fun a o h _ => e a o h
theorem Xl.set {H : Hp} {l : Addr} {xs ys : List V} (h : H l = some (.lst xs)) : Xl H (upd H l (.lst ys)) := fun a o e n => by
  rw [upd_ne (ne_of e h (by intro z; rw [z] at n; cases n))]
  exact e
section
variable {J : It} {n : Nat} {G : Hp → Prop} {Y : Nat → Hp → V → Hp → Prop}
def LcTail (J : It) (H1 : Hp) (g : TG) (tt : TT) (te : TE) (vs : List Nat) (σ : L2.St) (Q : VK) : Prop :=
  ∀ D, H1 D = none → ∃ W : Nat → Nat → Hp → Prop, (∃ m, W 0 m (upd H1 D (.lst []))) ∧ ∀ i m H, W i m H →
      (J.stop i H ∧ Q (.ref D) H) ∨ (J.go i H ∧ ∃ Nx : Hp → Prop, (∀ H', Nx H' → ∃ m', m' < m ∧ W (i + 1) m' H') ∧ ∀ x H', J.yld i H x H' → g x (wipe σ vs) H' fun σ2 H2 => wipe σ2 vs = wipe σ vs ∧ tt σ2 H2 fun b H3 =>
        if b = true then te σ2 H3 fun y H4 => ∃ acc, H4 D = some (.lst acc) ∧ acc.length < sizeLine ∧ Nx (upd H4 D (.lst (acc ++ [y]))) else Nx H3)
theorem lc_fil (w : Walk J n G Y) {g : TG} {tt : TT} {te : TE} {vs : List Nat} {σ : L2.St} {H1 : Hp} {Q : VK} (p : Nat → Bool) (R : Addr → Nat → V → Hp → Prop) (hG : ∀ D H H', Ex H1 H' → Ex H H' → H1 D = none → (∃ xs, H D = some (.lst xs)) → G H')
    (hR1 : ∀ D i v H H', Ex H H' → R D i v H → R D i v H') (hR2 : ∀ D i v H xs ys, H D = some (.lst xs) → R D i v H → R D i v (upd H D (.lst ys))) (hn : n ≤ 100000)
    (turn : ∀ D i x H H', i < n → Ex H1 H → H1 D = none → (∃ xs, H D = some (.lst xs)) → Y i H x H' → ∀ k : Bool → Hp → Prop, ∀ kk : VK, (∀ y H4, p i = true → Ex H H4 → R D i y H4 → kk y H4) → (∀ H3, p i = false → Ex H H3 → k false H3) →
      g x (wipe σ vs) H' fun σ2 H2 => wipe σ2 vs = wipe σ vs ∧ tt σ2 H2 fun b H3 => if b = true then te σ2 H3 kk else k false H3)
    (fin : ∀ D H ys, H1 D = none → Ex H1 H → H D = some (.lst ys) → ys.length = ((List.range n).filter p).length → (∀ (j : Nat) (y : V) (i : Nat), ys[j]? = some y → ((List.range n).filter p)[j]? = some i → R D i y H) → Q (.ref D) H) :
    LcTail J H1 g tt te vs σ Q := by
  intro D hD
  refine lc_it w (fun i H => Ex H1 H ∧ ∃ ys, H D = some (.lst ys) ∧ ys.length = ((List.range i).filter p).length ∧ ∀ (j : Nat) (y : V) (i' : Nat), ys[j]? = some y → ((List.range i).filter p)[j]? = some i' → R D i' y H) ⟨Ex.new hD, [], upd_same, rfl, fun j y i h => by simp at h⟩ (fun i H _ q => hG D H H q.1 (Ex.refl H) hD (let ⟨ys, h, _⟩ := q.2; ⟨ys, h⟩)) (fun i x H H' hi q y => ?_) fun H q => ?_
  · obtain ⟨e, ys, hy, hl, hr⟩ := q
    have hlen : ys.length ≤ i := by
      rw [hl]
      have := List.length_filter_le p (List.range i)
      rw [List.length_range] at this
      exact this
    have T := turn D i x H H' hi e hD ⟨ys, hy⟩ y (fun _ H3 => Ex H1 H3 ∧ ∃ ys, H3 D = some (.lst ys) ∧ ys.length = ((List.range (i + 1)).filter p).length ∧ ∀ (j : Nat) (y : V) (i' : Nat), ys[j]? = some y → ((List.range (i + 1)).filter p)[j]? = some i' → R D i' y H3)
      (fun y H4 => ∃ acc, H4 D = some (.lst acc) ∧ acc.length < sizeLine ∧ Ex H1 (upd H4 D (.lst (acc ++ [y]))) ∧ ∃ ys, (upd H4 D (.lst (acc ++ [y]))) D = some (.lst ys) ∧ ys.length = ((List.range (i + 1)).filter p).length ∧ ∀ (j : Nat) (y' : V) (i' : Nat), ys[j]? = some y' → ((List.range (i + 1)).filter p)[j]? = some i' → R D i' y' (upd H4 D (.lst (acc ++ [y]))))
      ?_ ?_
    · exact T
    · intro z H4 pi e4 rz
      have hfil : (List.range (i + 1)).filter p = (List.range i).filter p ++ [i] := by
        rw [List.range_succ, List.filter_append, List.filter_cons, if_pos pi] <;> rfl
      have hD4 := e4 D _ hy
      refine ⟨ys, hD4, sz_lt (by omega), Ex.mut (e.trans e4) hD, ys ++ [z], upd_same, ?_, fun j u i' hj hi' => ?_⟩
      · rw [hfil, List.length_append, List.length_append, hl]
        rfl
      · rw [hfil] at hi'
        refine hR2 D i' u H4 ys _ hD4 ?_
        rcases Nat.lt_or_ge j ys.length with h | h
        · rw [List.getElem?_append_left h] at hj
          rw [List.getElem?_append_left (by omega)] at hi'
          exact hR1 D i' u H H4 e4 (hr j u i' hj hi')
        · have h0 : j = ys.length := by
            have := (List.getElem?_eq_some_iff.mp hj).1
            rw [List.length_append, List.length_singleton] at this
            omega
          subst h0
          rw [List.getElem?_append_right (Nat.le_refl _), Nat.sub_self] at hj
          rw [hl, List.getElem?_append_right (Nat.le_refl _), Nat.sub_self] at hi'
          have ej : z = u := by simpa using hj
          have ei : i = i' := by simpa using hi'
          rw [← ej, ← ei]
          exact rz
    · intro H3 pi e3
      have hfil : (List.range (i + 1)).filter p = (List.range i).filter p := by
        rw [List.range_succ, List.filter_append, List.filter_cons, if_neg (by rw [pi]; decide)]
        exact List.append_nil _
      rw [hfil]
      exact ⟨e.trans e3, ys, e3 D _ hy, hl, fun j u i' hj hi' => hR1 D i' u H H3 e3 (hr j u i' hj hi')⟩
  · obtain ⟨e, ys, hy, hl, hr⟩ := q
    exact fin D H ys hD e hy hl fun j y i h1 h2 => hr j y i h1 h2
theorem walk_r0 {n : Nat} : Walk (Itr 0 n) n (fun _ => True) (fun i H x H' => H' = H ∧ x = .int (i : Int)) :=
  ⟨fun _ _ hi _ => hi, fun _ _ => Nat.le_refl _, fun i _ x _ _ _ y => ⟨y.1, by rw [y.2, Int.zero_add]⟩⟩
theorem filter_all (n : Nat) : (List.range n).filter (fun _ => true) = List.range n := List.filter_eq_self.mpr fun _ _ => rfl
theorem lc_map (w : Walk J n G Y) {g : TG} {te : TE} {vs : List Nat} {σ : L2.St} {H1 : Hp} {Q : VK} (R : Addr → Nat → V → Hp → Prop) (hG : ∀ D H H', Ex H1 H' → Ex H H' → H1 D = none → (∃ xs, H D = some (.lst xs)) → G H')
    (hR1 : ∀ D i v H H', Ex H H' → R D i v H → R D i v H') (hR2 : ∀ D i v H xs ys, H D = some (.lst xs) → R D i v H → R D i v (upd H D (.lst ys))) (hn : n ≤ 100000)
    (turn : ∀ D i x H H', i < n → Ex H1 H → H1 D = none → (∃ xs, H D = some (.lst xs)) → Y i H x H' → ∀ k : VK, (∀ y H4, Ex H H4 → R D i y H4 → k y H4) → g x (wipe σ vs) H' fun σ2 H2 => wipe σ2 vs = wipe σ vs ∧ te σ2 H2 k)
    (fin : ∀ D H ys, H1 D = none → Ex H1 H → H D = some (.lst ys) → ys.length = n → (∀ (i : Nat) (y : V), ys[i]? = some y → R D i y H) → Q (.ref D) H) :
    LcTail J H1 g tYes te vs σ Q := by
  refine lc_fil w (fun _ => true) R hG hR1 hR2 hn (fun D i x H H' hi e hD hx y k kk h1 _ => turn D i x H H' hi e hD hx y kk fun z H4 e4 r => h1 z H4 rfl e4 r) fun D H ys hD e hy hl hr => ?_
  rw [filter_all, List.length_range] at hl
  refine fin D H ys hD e hy hl fun i y h => hr i y i h ?_
  have hi := (List.getElem?_eq_some_iff.mp h).1
  rw [filter_all, List.getElem?_range (by omega)]
theorem lc_val (w : Walk J n G Y) {g : TG} {te : TE} {vs : List Nat} {σ : L2.St} {H1 : Hp} {Q : VK} (R : Nat → V → Prop) (hG : ∀ H, Ex H1 H → G H) (hn : n ≤ 100000)
    (turn : ∀ i x H H', i < n → Ex H1 H → Y i H x H' → ∀ k : VK, (∀ y H4, Ex H H4 → R i y → k y H4) → g x (wipe σ vs) H' fun σ2 H2 => wipe σ2 vs = wipe σ vs ∧ te σ2 H2 k)
    (fin : ∀ D H ys, H1 D = none → Ex H1 H → H D = some (.lst ys) → ys.length = n → (∀ (i : Nat) (y : V), ys[i]? = some y → R i y) → Q (.ref D) H) : LcTail J H1 g tYes te vs σ Q :=
  lc_map w (fun _ i v _ => R i v) (fun _ _ H' e _ _ _ => hG H' e) (fun _ _ _ _ _ _ r => r) (fun _ _ _ _ _ _ _ r => r) hn (fun _ i x H H' hi e _ _ y k h => turn i x H H' hi e y k h) fun D H ys hD e hy hl hr => fin D H ys hD e hy hl hr
theorem lc_fun (w : Walk J n G Y) {g : TG} {te : TE} {vs : List Nat} {σ : L2.St} {H1 : Hp} {Q : VK} (f : Nat → V) (hG : ∀ H, Ex H1 H → G H) (hn : n ≤ 100000)
    (turn : ∀ i x H H', i < n → Ex H1 H → Y i H x H' → ∀ k : VK, (∀ H4, Ex H H4 → k (f i) H4) → g x (wipe σ vs) H' fun σ2 H2 => wipe σ2 vs = wipe σ vs ∧ te σ2 H2 k)
    (fin : ∀ D H, H1 D = none → Ex H1 H → H D = some (.lst ((List.range n).map f)) → Q (.ref D) H) : LcTail J H1 g tYes te vs σ Q :=
  lc_val w (fun i y => y = f i) hG hn (fun i x H H' hi e y k h => turn i x H H' hi e y k fun H4 e4 => h _ H4 e4 rfl) fun D H ys hD e hy hl hr => by
    refine fin D H hD e ?_
    rw [hy]
    congr 2
    refine List.ext_getElem? fun i => ?_
    rcases Nat.lt_or_ge i n with h | h
    · have h2 : i < ys.length := by omega
      rw [List.getElem?_eq_getElem h2, List.getElem?_map, List.getElem?_range h, hr i ys[i] (List.getElem?_eq_getElem h2)]
      rfl
    · rw [List.getElem?_eq_none (by omega), List.getElem?_eq_none (by rw [List.length_map, List.length_range]; omega)]
theorem lc_filf (w : Walk J n G Y) {g : TG} {tt : TT} {te : TE} {vs : List Nat} {σ : L2.St} {H1 : Hp} {Q : VK} (p : Nat → Bool) (f : Nat → V) (hG : ∀ H, Ex H1 H → G H) (hn : n ≤ 100000)
    (turn : ∀ i x H H', i < n → Ex H1 H → Y i H x H' → ∀ k : Bool → Hp → Prop, ∀ kk : VK, (∀ H4, p i = true → Ex H H4 → kk (f i) H4) → (∀ H3, p i = false → Ex H H3 → k false H3) →
      g x (wipe σ vs) H' fun σ2 H2 => wipe σ2 vs = wipe σ vs ∧ tt σ2 H2 fun b H3 => if b = true then te σ2 H3 kk else k false H3)
    (fin : ∀ D H, H1 D = none → Ex H1 H → H D = some (.lst (((List.range n).filter p).map f)) → Q (.ref D) H) : LcTail J H1 g tt te vs σ Q :=
  lc_fil w p (fun _ i v _ => v = f i) (fun _ _ H' e _ _ _ => hG H' e) (fun _ _ _ _ _ _ r => r) (fun _ _ _ _ _ _ _ r => r) hn (fun _ i x H H' hi e _ _ y k kk h1 h2 => turn i x H H' hi e y k kk (fun H4 pi e4 => h1 _ H4 pi e4 rfl) h2) fun D H ys hD e hy hl hr => by
    refine fin D H hD e ?_
    rw [hy]
    congr 2
    refine List.ext_getElem? fun j => ?_
    rcases Nat.lt_or_ge j ys.length with h | h
    · have h2 : j < ((List.range n).filter p).length := by omega
      rw [List.getElem?_eq_getElem h, List.getElem?_map, List.getElem?_eq_getElem h2, hr j ys[j] _ (List.getElem?_eq_getElem h) (List.getElem?_eq_getElem h2)]
      rfl
    · rw [List.getElem?_eq_none (by omega), List.getElem?_eq_none (by rw [List.length_map]; omega)]
end
end Hn
namespace Hn
open PySem PySem.Spec PyProof.Rows L2 Evl
def BagV (l : Addr) (xs : List V) : Prop := ∃ c0 c1 c2 : Int, xs = [.int c0, .int c1, .int c2, .ref l] ∧ 0 ≤ c0 ∧ 0 ≤ c1 ∧ c1 < 2147483647 ∧ 0 ≤ c2
def BagO (b l : Addr) (h : Heap) : Prop := ∃ xs, BagV l xs ∧ ∃ (its : List Value) (n : Nat), Vals xs its ∧ h.get? b = some { cls := .type "list", data := .seq its.toArray n }
def Bag (H : Hp) (b : Addr) : Prop := ∃ (l : Addr) (o : Obj) (cs : List Int), H b = some (.ext (BagO b l)) ∧ H l = some (.frz o (.lst (cs.map V.int))) ∧ (∀ c ∈ cs, 0 ≤ c) ∧ cs.length ≤ 63
theorem Bag.mono {H H' : Hp} {b : Addr} (e : Xl H H') (h : Bag H b) : Bag H' b :=
  let ⟨l, o, cs, h1, h2, h3, h4⟩ := h
  ⟨l, o, cs, e _ _ h1 rfl, e _ _ h2 rfl, h3, h4⟩
section
variable {P : Program} {w : World} {K : PySem.W.Frag} {mg : Str → Option Value} {base : Heap} {CX : CXT}
theorem fn_alt {k : Nat} {f : Addr} {fd : FuncData} {ps : List Str} {sp sp' : Sp} (F : FnOk P w K mg base CX k f fd ps sp)
    (h : ∀ vs H Q E, sp' vs H Q E → sp vs H (fun v H1 => ∀ h' : Heap, HOk P w H1 h' → ∃ H2 : Hp, HOk P w H2 h' ∧ (∀ a, H1 a = none → H2 a = none) ∧ (∀ b xs, H b = some (.tup xs) → H2 b = some (.tup xs)) ∧
      (∀ b o u, H b = some (.frz o u) → H2 b = some (.frz o u)) ∧ (∀ b qs, H b = some (.tbl qs) → ∃ more, H2 b = some (.tbl (qs ++ more))) ∧ Q v H2) E) : FnOk P w K mg base CX k f fd ps sp' := by
  refine ⟨fun vs H Q E q => F.len _ _ _ _ (h vs H Q E q), fun A outer s H args us vs Q E hr e0 hb r q => ?_⟩
  refine codeAny_mono (F.run A outer s H args us vs _ E hr e0 hb r (h vs H Q E q)) fun rr s' hc => ?_
  cases rr with
  | error e => exact hc
  | ok fl =>
    cases fl with
    | ret u =>
      obtain ⟨v, H1, h1, h2, un, hok, rv, q⟩ := hc
      obtain ⟨H2, k1, k2, k3, k4, k5, k6⟩ := q s'.heap hok
      exact ⟨v, H2, h1, h2, ⟨un.keep, un.slot, fun b o e n x => k2 b (un.free b o e n x), un.there, k3, k4, k5⟩, k1, rv, k6⟩
    | next => exact False.elim hc
    | brk => exact False.elim hc
    | cont => exact False.elim hc
theorem okf_alt {k : Nat} {f : Addr} {ps : List Str} {sp sp' : Sp} (F : Okf P w K mg base k f ps sp)
    (h : ∀ vs H Q E, sp' vs H Q E → sp vs H (fun v H1 => ∀ h' : Heap, HOk P w H1 h' → ∃ H2 : Hp, HOk P w H2 h' ∧ (∀ a, H1 a = none → H2 a = none) ∧ (∀ b xs, H b = some (.tup xs) → H2 b = some (.tup xs)) ∧
      (∀ b o u, H b = some (.frz o u) → H2 b = some (.frz o u)) ∧ (∀ b qs, H b = some (.tbl qs) → ∃ more, H2 b = some (.tbl (qs ++ more))) ∧ Q v H2) E) : Okf P w K mg base k f ps sp' :=
  let ⟨fd, a, b⟩ := F
  ⟨fd, fn_alt a h, b⟩
theorem hok_put {H : Hp} {h : Heap} {a : Addr} {o u : HO} (x : HOk P w H h) (ha : H a = some o) (hm : Mut (some o)) (hu : ObjOk P w (upd H a u) h a u) : HOk P w (upd H a u) h := fun b q e => by
  by_cases hb : b = a
  · subst hb
    rw [upd_same] at e
    cases e
    exact hu
  · rw [upd_ne hb] at e
    refine (x b q e).stay (fun _ _ _ z => z) (fun c z => ?_) fun c xs z => ?_
    · rw [upd_ne (ne_of z ha (by intro q; rw [← q] at hm; exact hm))]
      exact z
    · rw [upd_ne (ne_of z ha (by intro q; rw [← q] at hm; exact hm))]
      exact z
theorem ext_ok {H : Hp} {h : Heap} {b l : Addr} {xs : List V} (hx : BagV l xs) (ok : ObjOk P w H h b (.lst xs)) (H' : Hp) : ObjOk P w H' h b (.ext (BagO b l)) := by
  obtain ⟨_, its, n, r, e⟩ := ok
  refine ⟨⟨xs, hx, its, n, r, e⟩, ⟨_, e⟩, fun h1 h2 q k => ?_⟩
  obtain ⟨xs', hx', its', n', r', e'⟩ := q
  exact ⟨xs', hx', its', n', r', k _ e'⟩
def spTakeL : Sp := fun vs H Q _ => ∃ (b l : Addr) (u : Int) (o : Obj) (cs : List Int) (xs : List V), vs = [.ref b, .int u] ∧ H b = some (.lst xs) ∧ BagV l xs ∧ H l = some (.frz o (.lst (cs.map V.int))) ∧ (∀ c ∈ cs, 0 ≤ c) ∧ cs.length ≤ 63 ∧ 0 < u ∧ u < 1000000000000000000000000000000000000000000000000000 ∧
  ∀ (n : Int) (ys : List V), 0 ≤ n → n < u → BagV l ys → Q (.int n) (upd H b (.lst ys))
def spTake : Sp := fun vs H Q _ => ∃ (b : Addr) (u : Int), vs = [.ref b, .int u] ∧ Bag H b ∧ 0 < u ∧ u < 1000000000000000000000000000000000000000000000000000 ∧ ∀ n : Int, 0 ≤ n → n < u → Q (.int n) H
theorem take_ok {k : Nat} {f : Addr} {ps : List Str} (F : Okf P w K mg base k f ps spTakeL) (hl : ps.length = 2) : Okf P w K mg base k f ps spTake := by
  obtain ⟨fd, F, hb⟩ := F
  refine ⟨fd, ⟨fun vs H Q E q => ?_, fun A outer s H args us vs Q E hr e0 hbd r q => ?_⟩, hb⟩
  · obtain ⟨b, u, rfl, _⟩ := q
    exact hl.symm
  · obtain ⟨b, u, rfl, ⟨l, o, cs, hB, hL, hc, hcl⟩, hu0, hu1, k⟩ := q
    obtain ⟨⟨xs, hx, its, n, rv, hobj⟩, _, _⟩ := e0.hok b _ hB
    have hz : xs.length ≤ sizeLine := by
      obtain ⟨c0, c1, c2, rfl, _⟩ := hx
      show 4 ≤ sizeLine
      decide
    have ok1 : HOk P w (upd H b (.lst xs)) s.heap := hok_put e0.hok hB trivial ⟨hz, its, n, rv, hobj⟩
    have nb : ∀ c, H c = none → c ≠ b := fun c z y => by rw [y, hB] at z; cases z
    have e1 : Env0 P w K mg base A outer s (upd H b (.lst xs)) :=
      ⟨e0.frames, e0.mod, fun c q e => ⟨(e0.bs c q e).1, by rw [upd_ne (nb c (e0.bs c q e).2)]; exact (e0.bs c q e).2⟩, e0.bsz, e0.funs, fun c hc' => by rw [upd_ne (nb c (e0.frf c hc'))]; exact e0.frf c hc', ok1, e0.bare⟩
    have nl : l ≠ b := ne_of hL hB (by intro z; cases z)
    refine codeAny_mono (F.run A outer s (upd H b (.lst xs)) args us [.ref b, .int u] (fun v H' => ∃ m ys, v = .int m ∧ 0 ≤ m ∧ m < u ∧ BagV l ys ∧ H' = upd H b (.lst ys)) E0 hr e1 hbd r
      ⟨b, l, u, o, cs, xs, rfl, upd_same, hx, by rw [upd_ne nl]; exact hL, hc, hcl, hu0, hu1, fun m ys h0 h1 hy => ⟨m, ys, rfl, h0, h1, hy, upd_upd⟩⟩) fun rr s' hc' => ?_
    cases rr with
    | error e =>
      obtain ⟨_, _, _, _, _, _, _, _, _, _, _, _, z⟩ := hc'
      exact z.elim
    | ok fl =>
      cases fl with
      | ret uu =>
        obtain ⟨v, H1, h1, h2, un, hok, rv', m, ys, rfl, m0, m1, hy, rfl⟩ := hc'
        refine ⟨.int m, H, h1, h2, ⟨fun c q e n hf hx' => ?_, fun c q e n hf hx' => ?_, fun c q e n hx' => n, un.there, fun _ _ z => z, fun _ _ _ z => z, fun c qs z => ⟨#[], by rw [z]; simp⟩⟩, ?_, rv', k m m0 m1⟩
        · exact un.keep c q e (by rw [upd_ne (nb c n)]; exact n) hf hx'
        · exact un.slot c q e (by rw [upd_ne (nb c n)]; exact n) hf hx'
        · have ok2 := hok_put hok (upd_same (H := H)) trivial (u := .ext (BagO b l)) (ext_ok hy (hok b _ upd_same) _)
          rw [upd_upd] at ok2
          have eH : upd H b (.ext (BagO b l)) = H := by
            funext c
            by_cases hcb : c = b
            · subst hcb
              rw [upd_same, hB]
            · rw [upd_ne hcb]
          rw [eH] at ok2
          exact ok2
      | next => exact False.elim hc'
      | brk => exact False.elim hc'
      | cont => exact False.elim hc'
def spBagL (K : PySem.W.Frag) : Sp := fun vs H Q _ => ∃ (a : Addr) (ns : List Int), vs = [.ref a] ∧ SqL K H a (ns.map V.int) ∧ ns.length ≤ 63 ∧
  ∀ (b l : Addr) (cs : List Int) (H' : Hp), Ex H H' → H b = none → H l = none → H' b = some (.lst [.int 0, .int 1234567891, .int 0, .ref l]) → H' l = some (.lst (cs.map V.int)) → (∀ c ∈ cs, 0 ≤ c) → cs.length ≤ 63 → Q (.ref b) H'
def spBag (K : PySem.W.Frag) : Sp := fun vs H Q _ => ∃ (a : Addr) (ns : List Int), vs = [.ref a] ∧ SqL K H a (ns.map V.int) ∧ ns.length ≤ 63 ∧ ∀ (b : Addr) (H' : Hp), Ex H H' → Bag H' b → Q (.ref b) H'
theorem bag_ok {k : Nat} {f : Addr} {ps : List Str} (F : Okf P w K mg base k f ps (spBagL K)) : Okf P w K mg base k f ps (spBag K) := by
  refine okf_alt F fun vs H Q E q => ?_
  obtain ⟨a, ns, rfl, hS, hl, k⟩ := q
  refine ⟨a, ns, rfl, hS, hl, fun b l cs H' e nb nl hb hL h0 hcl h' hok => ?_⟩
  have nlb : l ≠ b := ne_of hL hb (by
    intro z
    have z' : cs.map V.int = [.int 0, .int 1234567891, .int 0, .ref l] := by injection z
    have := congrArg (fun z => z[3]?) z'
    rw [List.getElem?_map] at this
    cases hh : cs[3]? with
    | none => rw [hh] at this; simp at this
    | some q => rw [hh] at this; simp at this)
  obtain ⟨hz, its, n, r, hobj⟩ := hok l _ hL
  have ok1 : HOk P w (upd H' l (.frz { cls := .type "list", data := .seq its.toArray n } (.lst (cs.map V.int)))) h' := hok_put hok hL trivial ⟨hobj, hz, its, n, r, hobj⟩
  have hb1 : upd H' l (.frz { cls := .type "list", data := .seq its.toArray n } (.lst (cs.map V.int))) b = some (.lst [.int 0, .int 1234567891, .int 0, .ref l]) := by rw [upd_ne nlb.symm]; exact hb
  have hv : BagV l [.int 0, .int 1234567891, .int 0, .ref l] := ⟨0, 1234567891, 0, rfl, by decide, by decide, by decide, by decide⟩
  have ok2 := hok_put ok1 hb1 trivial (u := .ext (BagO b l)) (ext_ok hv (ok1 b _ hb1) _)
  have e2 : Ex H (upd (upd H' l (.frz { cls := .type "list", data := .seq its.toArray n } (.lst (cs.map V.int)))) b (.ext (BagO b l))) := Ex.mut (Ex.mut e nl) nb
  refine ⟨_, ok2, fun c hc => ?_, fun c xs z => e2 _ _ z, fun c o u z => e2 _ _ z, fun c qs z => ⟨#[], by rw [e2 _ _ z]; simp⟩, k b _ e2 ⟨l, _, cs, upd_same, by rw [upd_ne nlb]; exact upd_same, h0, hcl⟩⟩
  have c1 : c ≠ b := fun z => by rw [z, hb] at hc; cases hc
  have c2 : c ≠ l := fun z => by rw [z, hL] at hc; cases hc
  rw [upd_ne c1, upd_ne c2]
  exact hc
end
end Hn
namespace Hn
open PySem PySem.Spec PyProof.Rows L2 Evl
section
variable {X : Cx} {k : Nat} {f C : Addr} {ps : List Str} {sp : Sp}
theorem pe_gint {x : Str} {i : Int} {pos : Pos} (hg : Gl X x) (hm : ∃ t : Tok, X.mg x = some (.int i t)) (hd : (x == ("__debug__" : Str)) = false := by decide) : PE X (.Name x pos) (tC (.int i)) :=
  let ⟨t, h⟩ := hm
  pe_glob hg h ⟨t, rfl⟩ hd
end
end Hn
namespace Hn
open PySem PySem.Spec PyProof.Rows L2 Evl
section
variable {K : PySem.W.Frag} {σ : L2.St} {H : Hp} {Q : VK} {QB : Bool → Hp → Prop} {D : Ends} {ta tb tc te : TE} {t u : TS} {tt tu : TT} {ar : TA} {QA : List V → Hp → Prop} {r r' : R2} {x y v : V} {i j : Int} {n : Nat} {wi : TI} {g : TG} {R : It → Hp → Prop} {vs : List Nat}
theorem r_seq (h : t { D with nx := u D } σ H) : tSeq t u D σ H := h
theorem r_next (h : D.nx σ H) : tNext D σ H := h
theorem r_asg (h : te σ H fun x H1 => g x σ H1 D.nx) : tAsg te g D σ H := h
theorem r_name {q : L2.St → Hp → Prop} (h : q (σ.set n (some v)) H) : gName n v σ H q := h
theorem r_ret (h : te σ H D.rt) : tRet te D σ H := h
theorem r_retN (h : D.rt .non H) : tRetN D σ H := h
theorem r_drop (h : te σ H fun _ H1 => D.nx σ H1) : tDrop te D σ H := h
theorem r_ifS (h : tt σ H fun b H1 => if b = true then t D σ H1 else u D σ H1) : tIfS tt t u D σ H := h
theorem r_test (h : te σ H fun x H' => ∃ k, x = .bl k ∧ QB k H') : tTest te σ H QB := h
theorem r_B (h : te σ H fun x H' => ∃ k, x = .bl k ∧ QB k H') : tB te σ H QB := h
theorem r_and (h : tt σ H fun c H1 => if c = true then tu σ H1 QB else QB false H1) : tAnd tt tu σ H QB := h
theorem r_or (h : tt σ H fun c H1 => if c = true then QB true H1 else tu σ H1 QB) : tOr tt tu σ H QB := h
theorem r_not (h : tt σ H fun c H1 => QB (!c) H1) : tNot tt σ H QB := h
theorem r_andV (h : ta σ H fun x H1 => ∃ c, x = .bl c ∧ if c = true then tb σ H1 Q else Q (.bl false) H1) : tAndV ta tb σ H Q := h
theorem r_orV (h : ta σ H fun x H1 => ∃ c, x = .bl c ∧ if c = true then Q (.bl true) H1 else tb σ H1 Q) : tOrV ta tb σ H Q := h
theorem r_notV (h : ta σ H fun x H1 => ∃ c, x = .bl c ∧ Q (.bl (!c)) H1) : tNotV ta σ H Q := h
theorem r_if (h : tt σ H fun c H1 => if c = true then ta σ H1 Q else tb σ H1 Q) : tIf tt ta tb σ H Q := h
theorem r_var (h : σ[n]? = some (some v)) (q : Q v H) : tVar n σ H Q := ⟨v, h, q⟩
theorem r_c (q : Q v H) : tC v σ H Q := q
theorem r_op (h : ta σ H fun x H1 => tb σ H1 fun y H2 => r x y H2 Q) : tOp r ta tb σ H Q := h
theorem r_un {ru : V → Hp → VK → Prop} (h : ta σ H fun x H1 => ru x H1 Q) : tUn ru ta σ H Q := h
theorem r_chain (h : ta σ H fun x H1 => tb σ H1 fun y H2 => r x y H2 fun z H3 => ∃ k, z = .bl k ∧ (if k = true then tc σ H3 fun w' H4 => r' y w' H4 Q else Q (.bl false) H3)) : tChain r r' ta tb tc σ H Q := h
theorem r_lst (h : ar σ H fun xs H1 => xs.length ≤ sizeLine ∧ ∀ p, H1 p = none → Q (.ref p) (upd H1 p (.lst xs))) : tLst ar σ H Q := h
theorem r_tup (h : ar σ H fun xs H1 => xs.length ≤ sizeLine ∧ ∀ p, H1 p = none → Q (.ref p) (upd H1 p (.tup xs))) : tTup ar σ H Q := h
theorem r_nil (h : QA [] H) : tNil σ H QA := h
theorem r_cons (h : ta σ H fun x H1 => ar σ H1 fun xs H2 => QA (x :: xs) H2) : tCons ta ar σ H QA := h
theorem r_call {sp : Sp} {dvs : List V} {E : XK} (h : ar σ H fun vs H1 => sp (vs ++ dvs) H1 Q E) : tCall sp dvs E ar σ H Q := h
theorem r_call1 {sp : Sp} {E : XK} {ws : List V} (h : sp ws H Q E) : sp (ws ++ []) H Q E := by rw [List.append_nil]; exact h
theorem r_meth {sp : Sp} {C : Addr} {m : Str} {E : XK} (h : ta σ H fun x H1 => ∃ a dx fs, x = .ref a ∧ H1 a = some (.ins C dx fs) ∧ fs.lookup m = none ∧ ar σ H1 fun vs H2 => sp (x :: (vs ++ [])) H2 Q E) : tMeth C m sp [] E ta ar σ H Q := h
theorem r_make {sp : Sp} {C : Addr} {E : XK} (h : ar σ H fun vs H1 => ∀ x dx, H1 x = none → H1 dx = none → dx ≠ x → sp (.ref x :: (vs ++ [])) (upd (upd H1 dx (.own x)) x (.ins C dx [])) (fun v H2 => v = .non ∧ Q (.ref x) H2) E) : tMake C sp [] E ar σ H Q := h
theorem r_prop {sp : Sp} {C : Addr} {E : XK} (h : ta σ H fun x H1 => ∃ a dx fs, x = .ref a ∧ H1 a = some (.ins C dx fs) ∧ sp [.ref a] H1 Q E) : tProp C sp [] E ta σ H Q := h
theorem r_cb {rc : List V → Hp → VK → Prop} (h : ar σ H fun vs H1 => rc vs H1 Q) : tCB rc ar σ H Q := h
theorem r_bm {T : String} {rm : V → List V → Hp → VK → Prop} (h : te σ H fun x H1 => tyV K T x H1 ∧ ar σ H1 fun xs H2 => rm x xs H2 Q) : tBM K T rm te ar σ H Q := h
theorem r_bm0 {T : String} {rm : V → List V → Hp → VK → Prop} (h : te σ H fun x H1 => tyV K T x H1 ∧ rm x [] H1 Q) : tBM0 K T rm te σ H Q := h
theorem r_sl {rs : V → Option Int → Option Int → Hp → VK → Prop} {tl th : TO} (h : te σ H fun x H1 => tl σ H1 fun l H2 => th σ H2 fun u H3 => rs x l u H3 Q) : L2.tSl rs te tl th σ H Q := h
theorem r_noPart {q : Option Int → Hp → Prop} (h : q none H) : tNoPart σ H q := h
theorem r_part {q : Option Int → Hp → Prop} (h : te σ H fun x H1 => ∃ i, x = .int i ∧ q (some i) H1) : tPart te σ H q := h
theorem r_int1 {p : Int → Prop} (h : p i) : ∃ k, V.int i = .int k ∧ p k := ⟨i, rfl, h⟩
theorem r_bl1 {b : Bool} {p : Bool → Prop} (h : p b) : ∃ k, V.bl b = .bl k ∧ p k := ⟨b, rfl, h⟩
theorem r_revL (h : te σ H fun x H1 => ∃ a xs, x = .ref a ∧ SqL K H1 a xs ∧ ∀ p, H1 p = none → Q (.ref p) (upd H1 p (.lst xs.reverse))) : tRevL K te σ H Q := h
theorem r_lc (h : wi σ H fun J H1 => LcTail J H1 g tt te vs σ Q) : tLc wi g tt te vs σ H Q := h
theorem r_par {n m : Nat} (h : ar σ H fun vs H1 => ∃ v w, vs = [v, w] ∧ D.nx ((σ.set n (some v)).set m (some w)) H1) : tPar n m ar D σ H := h
theorem r_par3 {n m l : Nat} (h : ar σ H fun vs H1 => ∃ u v w, vs = [u, v, w] ∧ D.nx (((σ.set n (some u)).set m (some v)).set l (some w)) H1) : tPar3 n m l ar D σ H := h
theorem r_two {p : V → V → Prop} {a b : V} (h : p a b) : ∃ v w, [a, b] = [v, w] ∧ p v w := ⟨a, b, rfl, h⟩
theorem r_three {p : V → V → V → Prop} {a b c : V} (h : p a b c) : ∃ u v w, [a, b, c] = [u, v, w] ∧ p u v w := ⟨a, b, c, rfl, h⟩
theorem r_aug {ti : TIp} {x : V} (h : σ[n]? = some (some x)) (q : te σ H fun y H1 => ti x y H1 fun z H2 => D.nx (σ.set n (some z)) H2) : tAug n te ti D σ H := ⟨x, h, q⟩
theorem r_augS {ti te' : TE} {tget : V → V → Hp → VK → Prop} {tip : TIp} {tset : TSet} (h : ta σ H fun o H1 => ti σ H1 fun i H2 => tget o i H2 fun x H3 => te' σ H3 fun y H4 => tip x y H4 fun z H5 => tset o i z H5 fun H6 => D.nx σ H6) : tAugS ta ti te' tget tip tset D σ H := h
theorem r_sub {tset : TSet} {q : L2.St → Hp → Prop} (h : ta σ H fun o H1 => tb σ H1 fun i H2 => tset o i v H2 fun H3 => q σ H3) : gSub ta tb tset v σ H q := h
theorem r_fld {f : Str} (h : ta σ H fun x H1 => ∃ a C dx fs v, x = .ref a ∧ H1 a = some (.ins C dx fs) ∧ Cls K C ∧ NoAttr K C f ∧ fs.lookup f = some v ∧ Q v H1) : tFld K ta f σ H Q := h
theorem r_sfld {f : Str} (h : tb σ H fun y H1 => ta σ H1 fun x H2 => ∃ a C dx fs, x = .ref a ∧ H2 a = some (.ins C dx fs) ∧ Cls K C ∧ NoAttr K C f ∧ fs.length < 1000 ∧ D.nx σ (upd H2 a (.ins C dx (putF f y fs)))) : sFld K ta tb f D σ H := h
theorem r_iList (h : te σ H fun x H1 => ∃ a, x = .ref a ∧ (∃ xs, SqL K H1 a xs) ∧ R (Itl K a) H1) : iList K te σ H R := h
theorem r_iTup (h : te σ H fun x H1 => ∃ a, x = .ref a ∧ (∃ xs, SqT K H1 a xs) ∧ R (Itt K a) H1) : iTup K te σ H R := h
theorem r_iRng1 (h : ar σ H fun vs H1 => ∃ j : Int, vs = [.int j] ∧ -(2 ^ 62) ≤ j ∧ j < 2 ^ 62 ∧ R (Itr 0 j.toNat) H1) : iRng1 ar σ H R := h
theorem r_iRng2 (h : ar σ H fun vs H1 => ∃ i j : Int, vs = [.int i, .int j] ∧ (-(2 ^ 62) ≤ i ∧ i < 2 ^ 62 ∧ -(2 ^ 62) ≤ j ∧ j < 2 ^ 62) ∧ R (Itr i (j - i).toNat) H1) : iRng2 ar σ H R := h
theorem r_iEnum (h : ar σ H fun vs H1 => ∃ a xs, vs = [.ref a] ∧ SqL K H1 a xs ∧ R (Ite K a) H1) : iEnum K ar σ H R := h
theorem r_iZip (h : ar σ H fun vs H1 => ∃ a b xs ys, vs = [.ref a, .ref b] ∧ SqL K H1 a xs ∧ SqL K H1 b ys ∧ R (Itz K a b) H1) : iZip K ar σ H R := h
theorem r_range1 {p : Int → Prop} (h0 : -(2 ^ 62) ≤ i) (h1 : i < 2 ^ 62) (h : p i) : ∃ j : Int, [V.int i] = [.int j] ∧ -(2 ^ 62) ≤ j ∧ j < 2 ^ 62 ∧ p j := ⟨i, rfl, h0, h1, h⟩
theorem r_yes (h : QB true H) : tYes σ H QB := h
theorem r_wipe {σ2 : L2.St} {p : Prop} (e : wipe σ2 vs = wipe σ vs) (h : p) : wipe σ2 vs = wipe σ vs ∧ p := ⟨e, h⟩
theorem r_pair {T : Addr} {n m : Nat} {q : L2.St → Hp → Prop} (h : q ((σ.set n (some x)).set m (some y)) (upd H T (.tup [x, y]))) : gTup K 2 (gCons (gName n) (gCons (gName m) gNil)) (.ref T) σ (upd H T (.tup [x, y])) q :=
  ⟨T, [x, y], rfl, .inl (.inl upd_same), rfl, x, [y], rfl, y, [], rfl, rfl, h⟩
theorem r_I0 {f : Int → Int → V} (q : Q (f i j) H) : rI0 f (.int i) (.int j) H Q := ⟨i, j, rfl, rfl, q⟩
theorem r_I {C : Int → Int → Prop} {f : Int → Int → V} (c : C i j) (q : Q (f i j) H) : rI C f (.int i) (.int j) H Q := ⟨i, j, rfl, rfl, c, q⟩
theorem r_U {f : Int → V} (q : Q (f i) H) : rU f (.int i) H Q := ⟨i, rfl, q⟩
theorem r_eqI (q : Q (.bl (decide (i = j))) H) : rEq (.int i) (.int j) H Q := by
  refine ⟨rfl, ?_⟩
  have e : decide (V.int i = V.int j) = decide (i = j) := by rw [Bool.eq_iff_iff]; simp
  rw [e]
  exact q
theorem r_neI (q : Q (.bl (!decide (i = j))) H) : rNe (.int i) (.int j) H Q := by
  refine ⟨rfl, ?_⟩
  have e : decide (V.int i = V.int j) = decide (i = j) := by rw [Bool.eq_iff_iff]; simp
  rw [e]
  exact q
theorem r_eqB {a b : Bool} (q : Q (.bl (decide (a = b))) H) : rEq (.bl a) (.bl b) H Q := by
  refine ⟨rfl, ?_⟩
  have e : decide (V.bl a = V.bl b) = decide (a = b) := by rw [Bool.eq_iff_iff]; simp
  rw [e]
  exact q
theorem r_neB {a b : Bool} (q : Q (.bl (!decide (a = b))) H) : rNe (.bl a) (.bl b) H Q := by
  refine ⟨rfl, ?_⟩
  have e : decide (V.bl a = V.bl b) = decide (a = b) := by rw [Bool.eq_iff_iff]; simp
  rw [e]
  exact q
theorem r_ipI {f : Int → Int → Int} (q : Q (.int (f i j)) H) : ipI f (.int i) (.int j) H Q := ⟨i, j, rfl, rfl, q⟩
theorem r_ixL {p : Addr} {xs : List V} (h : SqL K H p xs) (ha : atI xs i = some v) (q : Q v H) : rIxL K (.ref p) (.int i) H Q := ⟨p, xs, i, v, rfl, rfl, h, ha, q⟩
theorem r_ixT {p : Addr} {xs : List V} (h : SqT K H p xs) (ha : atI xs i = some v) (q : Q v H) : rIxT K (.ref p) (.int i) H Q := ⟨p, xs, i, v, rfl, rfl, h, ha, q⟩
theorem r_ixS {p : Addr} {xs : List V} (h : Sq K H p xs) (ha : atI xs i = some v) (q : Q v H) : rIx K (.ref p) (.int i) H Q :=
  h.elim (fun h => .inl ⟨p, xs, i, v, rfl, rfl, h, ha, q⟩) fun h => .inr (.inl ⟨p, xs, i, v, rfl, rfl, h, ha, q⟩)
theorem r_setL {p : Addr} {xs : List V} {k : Int} {m : Nat} {q : Hp → Prop} (h : H p = some (.lst xs)) (hk : ixN xs.length k = some m) (hq : q (upd H p (.lst (xs.set m v)))) : rSetL (.ref p) (.int k) v H q := ⟨p, xs, k, m, rfl, rfl, h, hk, hq⟩
theorem r_ite {p A B : Prop} [Decidable p] (h1 : p → A) (h2 : ¬ p → B) : if decide p = true then A else B := ite2 (fun h => h1 (of_decide_eq_true h)) fun h => h2 fun z => h (decide_eq_true z)
theorem r_itn {p A B : Prop} [Decidable p] (h1 : ¬ p → A) (h2 : p → B) : if (!decide p) = true then A else B := by
  by_cases h : p
  · rw [decide_eq_true h]
    exact iteF (h2 h)
  · rw [decide_eq_false h]
    exact iteT (h1 h)
def ForTail (J : It) (H1 : Hp) (g : TG) (tb : TS) (D : Ends) (σ : L2.St) : Prop := ∃ W : Nat → Nat → L2.St → Hp → Prop, (∃ m, W 0 m σ H1) ∧ ∀ i m σ H, W i m σ H →
  (J.stop i H ∧ D.nx σ H) ∨ (J.go i H ∧ ∃ N : L2.St → Hp → Prop, (∀ σ' H', N σ' H' → ∃ m', m' < m ∧ W (i + 1) m' σ' H') ∧ ∀ x H', J.yld i H x H' → g x σ H' fun σ2 H2 => tb { D with nx := N, ct := N, bk := D.nx } σ2 H2)
theorem r_for (h : wi σ H fun J H1 => ForTail J H1 g t D σ) : tFor wi g t D σ H := h
theorem for_w {J : It} {G : Hp → Prop} {Y : Nat → Hp → V → Hp → Prop} (w : Walk J n G Y) (Pv : Nat → L2.St → Hp → Prop) (h0 : Pv 0 σ H) (hG : ∀ i σ H, i ≤ n → Pv i σ H → G H)
    (hs : ∀ i x σ H H', i < n → Pv i σ H → Y i H x H' → g x σ H' fun σ2 H2 => t { D with nx := Pv (i + 1), ct := Pv (i + 1), bk := D.nx } σ2 H2) (hd : ∀ σ H, Pv n σ H → D.nx σ H) : ForTail J H g t D σ :=
  for_it w Pv h0 hG hs hd
end
end Hn
namespace Hn
open PySem PySem.Spec PyProof.Rows L2 Evl
theorem meets_enum1 {v : Value} {o : Obj} {P : Heap → Prop} (B : Begins v o P) :
    Meets (Builtin.«enumerate.__new__» ⟨[.type "enumerate", v], []⟩) (fun _ R s => P s.heap ∧
      R (.ok (.ret (.ref (s.heap.push o).objs.size))) { s with heap := (s.heap.push o).push { cls := .type "enumerate", data := .fields #[.none, .bool false, .ref s.heap.objs.size, rawInt 0, .none, .none] } }) :=
  .of_wp fun prog w A R s h => by
    obtain ⟨hp, g, d, tk, os⟩ := s
    obtain ⟨h1, h⟩ := h
    have hsub := sub_enumerate
    have q1 : ∀ {A' : Around} {E : Value → Shared → Prop} {Q : Value → Shared → Prop}, Q (.ref hp.objs.size) ⟨hp.push o, g, d, tk, os⟩ → wpAny (model prog w) A' (pyIter v) Q E ⟨hp, g, d, tk, os⟩ := fun q => B.iter prog w _ _ ⟨hp, g, d, tk, os⟩ _ h1 q
    wp_walk using q1
    refine wpAny_stack_any fun st => wpAny_pure ?_
    split
    · rename_i c _ _ _ _ _
      cases (c == Value.type "enumerate") <;> (wp_walk using q1; exact ⟨_, rfl, h⟩)
    · wp_walk using q1
      exact ⟨_, rfl, h⟩
theorem call_enum1 {prog : Program} {w : World} {A : Around} {E : Value → Shared → Prop} {s : Shared} {v : Value} {o : Obj} {P : Heap → Prop} {Q : Value → Shared → Prop} (B : Begins v o P) (h1 : P s.heap)
    (h : ∀ h' : Heap, IsEnum h' (s.heap.objs.size + 1) s.heap.objs.size 0 .none → h'.get? s.heap.objs.size = some o → (∀ b o, s.heap.get? b = some o → h'.get? b = some o) → Q (.ref (s.heap.objs.size + 1)) { s with heap := h' }) :
    wpAny (model prog w) A (call (.type "enumerate") [v]) Q E s := by
  refine callType_new F.called_enumerate (by decide) (F.typeCall_enumerate_1 _) (F.newCall_enumerate_1 _) (fun obj => F.args_object_init_2 obj _) F.entry_enumerate_new (meets_enum1 B) ⟨h1, ?_⟩
  have hz : (s.heap.push o).objs.size = s.heap.objs.size + 1 := Heap.size_push ..
  have hg := Heap.get?_push_size (s.heap.push o) (o := { cls := .type "enumerate", data := .fields #[.none, .bool false, .ref s.heap.objs.size, rawInt 0, .none, .none] }) rfl
  rw [hz] at hg
  show _ ∧ _
  rw [hz]
  exact ⟨⟨_, hg, rfl⟩, h _ hg (Heap.get?_push_of_some _ (Heap.get?_push_size _ B.free)) fun b o x => Heap.get?_push_of_some _ (Heap.get?_push_of_some _ x)⟩
def Itet (K : PySem.W.Frag) (a : Addr) : It :=
  ⟨fun i H => ∃ (xs : List V) (x : V), SqT K H a xs ∧ xs[i]? = some x, fun i H v H' => ∃ T x, v = .ref T ∧ H T = none ∧ H' = upd H T (.tup [.int (i : Nat), x]) ∧ ∀ xs, SqT K H a xs → xs[i]? = some x, fun i H => ∃ xs : List V, SqT K H a xs ∧ xs.length = i⟩
theorem walk_enumT {K : PySem.W.Frag} {a : Addr} {xs : List V} : Walk (Itet K a) xs.length (fun H => SqT K H a xs) (YPair (fun i => some (.int (i : Nat))) (fun i => xs[i]?)) := by
  refine ⟨fun i _ hi q => ⟨xs, xs[i], q, by simp [hi]⟩, fun _ q => ⟨xs, q, rfl⟩, fun i H v H' _ q y => ?_⟩
  obtain ⟨T, x, h1, h2, h3, h4⟩ := y
  exact ⟨T, _, x, h1, h2, h3, rfl, h4 xs q⟩
theorem turn_enumT {P : Program} {w : World} {K : PySem.W.Frag} {elts : List Expr} {kk : Nat} {tpos : Pos} (a e it : Addr) (hne : e ≠ it) (ha : a ≠ it) (hae : e ≠ a) :
    Turn P w K (.Tuple elts kk tpos) (Itet K a) [e, it] e (fun i h => (∃ old, IsEnum h e it ((i : Nat) : Int) old) ∧ h.IsTupleIter it a i) where
  mem := by simp
  obj := fun i h st b hb => by
    obtain ⟨⟨old, he⟩, ⟨o, ho, hc, hd⟩⟩ := st
    rcases (show b = e ∨ b = it by simpa using hb) with z | z
    · rw [z]
      exact ⟨_, he, fun v q => nomatch q⟩
    · rw [z]
      exact ⟨o, ho, fun v q => by rw [hd] at q; cases q⟩
  keep := fun i h h' st k => by
    obtain ⟨⟨old, he⟩, hi⟩ := st
    exact ⟨⟨old, k e (by simp) _ he⟩, hi.at fun o q => k it (by simp) o q⟩
  item := by
    intro X hP hw hK hc i pins s σ H E I hf st hg
    subst hP hw hK
    obtain ⟨⟨old, he⟩, hit⟩ := st
    obtain ⟨xs, x, hq, hx⟩ := hg
    obtain ⟨its, rv, p, hz⟩ := I.tuple hq
    obtain ⟨u, hu, ru⟩ := rv.get hx
    have hel : e < s.heap.objs.size := Heap.lt_size he
    have hil : it < s.heap.objs.size := by obtain ⟨_, q, _⟩ := hit; exact Heap.lt_size q
    have hn : i < its.toArray.size := by
      rw [List.size_toArray]
      exact (List.getElem?_eq_some_iff.mp hu).1
    have D := Draws.tuple (prog := X.prog) (w := X.w) (A := X.A.in1) (I.ok.hd hc) it a ha its.toArray
    refine wpAny_pyNext_enum_itemC D he ⟨hit, p⟩ hn hne (by simp [hne, hae]) fun x' h' tk hx' ho hst' hT hsz hk => ?_
    have ex : x' = u := by
      have z : its.toArray[i]? = some u := by simpa using hu
      rw [z] at hx'
      exact (Option.some.inj hx').symm
    subst ex
    refine ⟨_, rfl, wpAny_letOwnedTupleGo_enum (s := { s with heap := h', toks := tk + 1 }) ho fun h'' he' sb => ?_⟩
    have hT2 : h''.get? s.heap.objs.size = some { cls := .type "tuple", data := .seq #[.int i tk, x'] } := (sb.2 _ (Nat.ne_of_gt hel)).trans hT
    have new : ObjOk X.prog X.w (upd H s.heap.objs.size (.tup [.int (i : Nat), x])) h'' s.heap.objs.size (.tup [.int (i : Nat), x]) :=
      ⟨by show 2 ≤ sizeLine; decide, [.int i tk, x'], .cons ⟨_, rfl⟩ (.cons ru .nil), ⟨_, hT2, rfl, _, rfl⟩⟩
    have I1 : Inv X pins σ (upd H s.heap.objs.size (.tup [.int (i : Nat), x])) { s with heap := h'', toks := tk + 1 } :=
      I.turnedNew (ch := [e, it]) (fun b ob hb q => (sb.2 b (fun z => hb (by simp [z]))).trans (hk b ob (fun z => hb (by simp [z])) (fun z => hb (by simp [z])) q)) hf (Nat.le_refl _) new
    refine ⟨.ref s.heap.objs.size, _, I1, rfl, ⟨_, x, rfl, I.hok.fresh (Nat.le_refl _), rfl, fun ys hy => ?_⟩, ⟨⟨x', ?_⟩, hst'.1.at fun o q => (sb.2 it (Ne.symm hne)).trans q⟩, fun b hb => ?_⟩
    · rw [I.tuple_inj hy hq]
      exact hx
    · have e1 : ((i + 1 : Nat) : Int) = (i : Int) + 1 := by omega
      rw [e1]
      exact he'
    · have hb' : b < s.heap.objs.size := by
        rcases (show b = e ∨ b = it by simpa using hb) with z | z
        · rw [z]; exact hel
        · rw [z]; exact hil
      rw [upd_ne (Nat.ne_of_lt hb')]
      exact (hf b hb).1
  done := by
    intro X hP hw hK hc i pins s σ H E I hf st hg
    subst hP hw hK
    obtain ⟨⟨old, he⟩, hit⟩ := st
    obtain ⟨xs, hq, hx⟩ := hg
    obtain ⟨its, rv, p, hz⟩ := I.tuple hq
    obtain ⟨f0, f1, f2, f3, f4, f5⟩ := hf it (by simp)
    have hl : its.toArray.size = i := by
      rw [List.size_toArray, ← rv.length]
      exact hx
    have D := Draws.tuple (prog := X.prog) (w := X.w) (A := X.A.in1) (I.ok.hd hc) it a ha its.toArray
    refine wpAny_pyNext_enum_endD D he ⟨by rw [hl]; exact hit, p⟩ fun h' eb => ?_
    exact ⟨rfl, I.turned (t' := s.toks) (fun b o hb q => eb b o hb q) f0 f1 f3 f4 f5⟩
  self := fun A i s Q E st h => by
    obtain ⟨⟨_, he⟩, _⟩ := st
    exact wpAny_pyIter_enum he h
section
variable {X : Cx} {tg : Expr}
def Goes1 (H1 : Hp) (n : Nat) (Y : Nat → Hp → V → Hp → Prop) (J : It) : Prop := ∃ G : Hp → Prop, Walk J n G Y ∧ ∀ H, Ex H1 H → G H
def iSeq (K : PySem.W.Frag) (tl : TE) : TI := fun σ H R => tl σ H fun x H1 => ∃ a xs H0, x = .ref a ∧ Sq K H0 a xs ∧ Ex H0 H1 ∧ ∀ J, Goes1 H0 xs.length (YAt xs) J → R J H1
theorem new1 {pins : List (Addr × Obj)} {σ : L2.St} {H : Hp} {s : Shared} (I : Inv X pins σ H s) : (∀ b ∈ [s.heap.objs.size], FpOk X pins H b) ∧ ∀ o, Inv X pins σ H { s with heap := s.heap.push o } :=
  ⟨fun b hb => by
    obtain rfl : b = s.heap.objs.size := by simpa using hb
    exact I.fpOk (Nat.le_refl _) (I.hok.fresh (Nat.le_refl _)), fun o => I.kept (t' := s.toks) fun b o e => Heap.get?_push_of_some _ e⟩
theorem pi_seq {l : Expr} {tl : TE} (hl : PE X l tl) : PI X tg l (iSeq X.K tl) := by
  refine ⟨fun pins s σ H R I h => ?_⟩
  refine thn (hl.run pins s σ H _ I h) fun v s1 ⟨x, H1, I1, r1, a, xs, H0, ex, hq0, e0, q⟩ => ?_
  subst ex
  cases r1
  obtain ⟨fp, kp⟩ := new1 I1
  rcases hq0 with hq | hq
  · obtain ⟨its, rv, p, hz⟩ := I1.list (ex_l e0 hq)
    refine wpAny_pyIter_list p.isList ?_
    exact ⟨s1.heap.objs.size, [s1.heap.objs.size], _, _, H1, rfl, kp _, turn_list a _, ⟨_, Heap.get?_push_size _ rfl, rfl, rfl⟩, fp, q _ ⟨_, walk_list, fun H' e => ex_l e hq⟩⟩
  · obtain ⟨its, rv, p, hz⟩ := I1.tuple (ex_t e0 hq)
    refine wpAny_pyIter_tuple (show s1.heap.IsTuple a its.toArray from p) ?_
    exact ⟨s1.heap.objs.size, [s1.heap.objs.size], _, _, H1, rfl, kp _, turn_tuple a _, ⟨_, Heap.get?_push_size _ rfl, rfl, rfl⟩, fp, q _ ⟨_, walk_tup, fun H' e => ex_t e hq⟩⟩
def YEnum (xs : List V) : Nat → Hp → V → Hp → Prop := YPair (fun i => some (.int (i : Nat))) (fun i => xs[i]?)
def iEnumS (K : PySem.W.Frag) (ta : TA) : TI := fun σ H R => ta σ H fun vs H1 => ∃ a xs H0, vs = [.ref a] ∧ Sq K H0 a xs ∧ Ex H0 H1 ∧ ∀ J, Goes1 H0 xs.length (YEnum xs) J → R J H1
theorem pi_enumS {e : Expr} {ta : TA} {p pos tpos : Pos} {elts : List Expr} {kk : Nat} (hg : Gl X "enumerate") (hm : X.mg "enumerate" = none) (ha : PA X [e] ta) (hs : starEach [e] X.env = [(false, eval e X.env)] := by rfl) :
    PI X (.Tuple elts kk tpos) (.Call (.Name "enumerate" p) [e] [] pos) (iEnumS X.K ta) := by
  refine ⟨fun pins s σ H R I h => ?_⟩
  refine Call_ (ld_blt I hg hm boot_enumerate (PyProof.Rows.callWith_type1 (thn (ha.run pos pins s σ H _ I h) fun us s1 ⟨vs, H1, I1, r1, a, xs, H0, ex, hq0, e0, q⟩ => ?_) hs rfl))
  subst ex
  obtain rfl := Vals.ref1 r1
  have fp : ∀ b ∈ [s1.heap.objs.size + 1, s1.heap.objs.size], FpOk X pins H1 b := fun b hb => by
    have hle : s1.heap.objs.size ≤ b := by
      rcases (show b = s1.heap.objs.size + 1 ∨ b = s1.heap.objs.size by simpa using hb) with z | z <;> omega
    exact I1.fpOk hle (I1.hok.fresh hle)
  rcases hq0 with hq | hq
  · obtain ⟨its, rv, p', hz⟩ := I1.list (ex_l e0 hq)
    refine call_enumerate_list p'.isList fun h' he hit hsz hk => wpAny_pyIter_enum he ?_
    exact ⟨s1.heap.objs.size + 1, [s1.heap.objs.size + 1, s1.heap.objs.size], _, _, H1, rfl, I1.kept (t' := s1.toks) hk, turn_enum a (s1.heap.objs.size + 1) s1.heap.objs.size, ⟨⟨.none, he⟩, hit, Nat.succ_ne_self _⟩, fp, q _ ⟨_, walk_enum, fun H' e => ex_l e hq⟩⟩
  · obtain ⟨its, rv, p', hz⟩ := I1.tuple (ex_t e0 hq)
    have hlt : a < s1.heap.objs.size := by obtain ⟨o, ho, _⟩ := id p'; exact Heap.lt_size ho
    refine call_enum1 (begins_tuple a its.toArray) p' fun h' he hit hk => wpAny_pyIter_enum he ?_
    exact ⟨s1.heap.objs.size + 1, [s1.heap.objs.size + 1, s1.heap.objs.size], _, _, H1, rfl, I1.kept (t' := s1.toks) hk, turn_enumT a (s1.heap.objs.size + 1) s1.heap.objs.size (Nat.succ_ne_self _) (Nat.ne_of_lt hlt) (Nat.ne_of_gt (Nat.lt_succ_of_lt hlt)), ⟨⟨.none, he⟩, ⟨_, hit, rfl, rfl⟩⟩, fp, q _ ⟨_, walk_enumT, fun H' e => ex_t e hq⟩⟩
end
section
variable {K : PySem.W.Frag} {σ : L2.St} {H : Hp} {te : TE} {ar : TA} {R : It → Hp → Prop}
theorem r_iSeq (h : te σ H fun x H1 => ∃ a xs H0, x = .ref a ∧ Sq K H0 a xs ∧ Ex H0 H1 ∧ ∀ J, Goes1 H0 xs.length (YAt xs) J → R J H1) : iSeq K te σ H R := h
theorem r_iEnumS (h : ar σ H fun vs H1 => ∃ a xs H0, vs = [.ref a] ∧ Sq K H0 a xs ∧ Ex H0 H1 ∧ ∀ J, Goes1 H0 xs.length (YEnum xs) J → R J H1) : iEnumS K ar σ H R := h
end
section
open HT
variable {prog : Program} {w : World} {A : Around} {E : Value → Shared → Prop} {s : Shared}
end
section
variable {X : Cx}
def tRevT (K : PySem.W.Frag) (te : TE) : TE := fun σ H Q => te σ H fun x H1 => ∃ a xs, x = .ref a ∧ SqT K H1 a xs ∧ ∀ p, H1 p = none → Q (.ref p) (upd H1 p (.tup xs.reverse))
theorem r_revT {K : PySem.W.Frag} {σ : L2.St} {H : Hp} {te : TE} {Q : VK} (h : te σ H fun x H1 => ∃ a xs, x = .ref a ∧ SqT K H1 a xs ∧ ∀ p, H1 p = none → Q (.ref p) (upd H1 p (.tup xs.reverse))) : tRevT K te σ H Q := h
variable {k : Nat} {f C : Addr} {ps : List Str} {sp : Sp}
def tIxO (C : Addr) (sp : Sp) (ta tb : TE) : TE := fun σ H Q => ta σ H fun x H1 => tb σ H1 fun y H2 => ∃ a dx fs, x = .ref a ∧ H2 a = some (.ins C dx fs) ∧ sp [x, y] H2 Q E0
theorem r_ixO {C : Addr} {sp : Sp} {σ : L2.St} {H : Hp} {ta tb : TE} {Q : VK} (h : ta σ H fun x H1 => tb σ H1 fun y H2 => ∃ a dx fs, x = .ref a ∧ H2 a = some (.ins C dx fs) ∧ sp [x, y] H2 Q E0) : tIxO C sp ta tb σ H Q := h
theorem pe_ixB {a b : Expr} {ta tb : TE} {pos : Pos} (G : Okf X.prog X.w X.K X.mg X.base k f ps sp) (hr : Room (k + 1) X.A)
    (hs : PySem.W.findIn X.K (.ref C) "__getitem__" = some (some (.ref f))) (hf : PySem.W.fnIn X.K f = true) (hfn : PySem.W.isFn X.K (.ref f) = true) (ha : PE X a ta) (hb : PE X b tb)
    (hsl : ∀ x i, subscripted b true (.ref x) i = runValue (.builtin "lifetime.subscript" ⟨[.ref x, i], []⟩) := by intro _ _; with_unfolding_all rfl) : PE X (.Subscript a b pos) (tIxO C sp ta tb) := by
  obtain ⟨fd, F, hbd⟩ := G
  refine ⟨fun pins s σ H Q I h => ?_⟩
  refine Subscript_ (binT ha hb I h fun v u s2 x y H2 I2 rx ry q => ?_)
  obtain ⟨p, dx, fs, rfl, hp, q⟩ := q
  cases rx
  obtain ⟨mA, J, _⟩ := ins_get I2.hok hp
  obtain ⟨od, J, _⟩ := J.look
  obtain ⟨m, hF⟩ := I2.fr
  refine PySem.W.sub_K hF I2.ok.mod.kin J hs hf hfn ?_ (hsl p u)
  exact run_fn1 (us := [.ref p, u]) (vs := [.ref p, y]) F hr hbd passL I2 (.cons rfl (.cons ry .nil)) q
end
end Hn
namespace Hn
def cyc (s : List Int) (i : Int) : Int := s.getD (i % (s.length : Int)).toNat 0
def wd (s : List Int) (h : Int) : Int := (((List.range s.length).filter fun (b : Nat) => decide ((b : Int) < cyc s (h - (b : Int)))).length : Int)
def wds (s : List Int) : List Int := (List.range s.length).map fun (h : Nat) => wd s h
def okStays (s : List Int) : Bool := decide (1 ≤ s.length) && decide (s.length ≤ 48) && s.all fun x => decide (1 ≤ x) && decide (x ≤ (s.length : Int))
structure Good (s : List Int) : Prop where
  ne : 1 ≤ s.length
  le : s.length ≤ 48
  lo : ∀ i : Int, 1 ≤ cyc s i
  hi : ∀ i : Int, cyc s i ≤ (s.length : Int)
  od : ∀ i : Int, cyc s i ≤ 1 + cyc s (i + 1)
theorem mod_bd {n : Nat} (h : 1 ≤ n) (i : Int) : 0 ≤ i % (n : Int) ∧ i % (n : Int) < (n : Int) := ⟨Int.emod_nonneg _ (by omega), Int.emod_lt_of_pos _ (by omega)⟩
theorem cyc_mem {s : List Int} (h : 1 ≤ s.length) (i : Int) : cyc s i ∈ s := by
  have := mod_bd h i
  unfold cyc
  rw [List.getD_eq_getElem?_getD, List.getElem?_eq_getElem (by omega)]
  exact List.getElem_mem _
theorem cyc_at {s : List Int} {j : Nat} (h : j < s.length) : cyc s (j : Int) = s.getD j 0 := by
  unfold cyc
  rw [Int.emod_eq_of_lt (by omega) (by omega), Int.toNat_natCast]
theorem cyc_mod (s : List Int) (i : Int) : cyc s (i % (s.length : Int)) = cyc s i := by
  unfold cyc
  rw [Int.emod_emod_of_dvd _ (Int.dvd_refl _)]
theorem cyc_congr {s : List Int} {i j : Int} (h : i % (s.length : Int) = j % (s.length : Int)) : cyc s i = cyc s j := by
  unfold cyc
  rw [h]
theorem okStays_iff {s : List Int} : okStays s = true ↔ (1 ≤ s.length ∧ s.length ≤ 48 ∧ ∀ x ∈ s, 1 ≤ x ∧ x ≤ (s.length : Int)) := by
  unfold okStays
  simp only [Bool.and_eq_true, decide_eq_true_eq, List.all_eq_true]
  constructor
  · rintro ⟨⟨a, b⟩, c⟩
    exact ⟨a, b, c⟩
  · rintro ⟨a, b, c⟩
    exact ⟨⟨a, b⟩, c⟩
theorem Good.ok {s : List Int} (g : Good s) : okStays s = true := by
  refine okStays_iff.mpr ⟨g.ne, g.le, fun x hx => ?_⟩
  obtain ⟨j, hj, rfl⟩ := List.mem_iff_getElem.mp hx
  have e : cyc s (j : Int) = s[j] := by
    rw [cyc_at hj, List.getD_eq_getElem?_getD, List.getElem?_eq_getElem hj]
    rfl
  rw [← e]
  exact ⟨g.lo _, g.hi _⟩
theorem Good.of {s : List Int} (h : okStays s = true) (o : ∀ j : Nat, j < s.length → s.getD j 0 ≤ 1 + cyc s ((j : Int) + 1)) : Good s := by
  obtain ⟨h1, h2, h3⟩ := okStays_iff.mp h
  refine ⟨h1, h2, fun i => (h3 _ (cyc_mem h1 i)).1, fun i => (h3 _ (cyc_mem h1 i)).2, fun i => ?_⟩
  have hb := mod_bd h1 i
  have e1 := o (i % (s.length : Int)).toNat (by omega)
  have e2 : (((i % (s.length : Int)).toNat : Nat) : Int) = i % (s.length : Int) := by omega
  rw [e2] at e1
  have e3 : cyc s (i % (s.length : Int) + 1) = cyc s (i + 1) := cyc_congr (by rw [Int.emod_add_emod])
  rw [e3] at e1
  exact e1
theorem down {s : List Int} (g : Good s) (h : Int) : ∀ (b : Nat), (b : Int) + 1 < cyc s (h - ((b : Int) + 1)) → (b : Int) < cyc s (h - b) := fun b q => by
  have := g.od (h - ((b : Int) + 1))
  rw [show h - ((b : Int) + 1) + 1 = h - b by omega] at this
  omega
theorem count_down (p : Nat → Bool) : ∀ n : Nat, (∀ b, p (b + 1) = true → p b = true) → ∀ b, b < n → (b < ((List.range n).filter p).length ↔ p b = true) := by
  intro n hp
  have hp' : ∀ k b, p (b + k) = true → p b = true := fun k => by
    induction k with
    | zero => exact fun b h => h
    | succ k ih => exact fun b h => ih b (hp (b + k) h)
  induction n with
  | zero => intro b hb; omega
  | succ n ih =>
    intro b hb
    rw [List.range_succ, List.filter_append, List.length_append, List.filter_cons]
    have hle : ((List.range n).filter p).length ≤ n := by
      have := List.length_filter_le p (List.range n)
      rw [List.length_range] at this
      exact this
    by_cases hn : p n = true
    · have all : ((List.range n).filter p).length = n := by
        have e : (List.range n).filter p = List.range n := List.filter_eq_self.mpr fun a ha => hp' (n - a) a (by
          have := List.mem_range.mp ha
          rw [show a + (n - a) = n by omega]
          exact hn)
        rw [e, List.length_range]
      rw [if_pos hn, all]
      simp only [List.filter_nil, List.length_cons, List.length_nil]
      refine ⟨fun _ => hp' (n - b) b (by rw [show b + (n - b) = n by omega]; exact hn), fun _ => by omega⟩
    · rw [if_neg hn]
      simp only [List.filter_nil, List.length_nil, Nat.add_zero]
      rcases Nat.lt_or_ge b n with h | h
      · exact ih b h
      · have e : b = n := by omega
        subst e
        exact ⟨fun h => absurd h (by omega), fun h => absurd h hn⟩
theorem wd_iff {s : List Int} (g : Good s) (h : Int) {b : Nat} (hb : b < s.length) : (b : Int) < wd s h ↔ (b : Int) < cyc s (h - b) := by
  have := count_down (fun (b : Nat) => decide ((b : Int) < cyc s (h - (b : Int)))) s.length (fun b q => by
    have q' := of_decide_eq_true q
    exact decide_eq_true (down g h b (by
      rw [show ((b + 1 : Nat) : Int) = (b : Int) + 1 by omega] at q'
      exact q'))) b hb
  unfold wd
  rw [decide_eq_true_eq] at this
  rw [← this]
  omega
theorem wd_le {s : List Int} (h : Int) : wd s h ≤ (s.length : Int) := by
  unfold wd
  have := List.length_filter_le (fun (b : Nat) => decide ((b : Int) < cyc s (h - (b : Int)))) (List.range s.length)
  rw [List.length_range] at this
  omega
theorem wd_nn {s : List Int} (h : Int) : 0 ≤ wd s h := by
  unfold wd
  omega
theorem wd_pos {s : List Int} (g : Good s) (h : Int) : 1 ≤ wd s h := by
  have := (wd_iff g h (b := 0) g.ne).mpr (by have := g.lo (h - ((0 : Nat) : Int)); omega)
  omega
theorem wd_mod (s : List Int) (h : Int) : wd s (h % (s.length : Int)) = wd s h := by
  unfold wd
  congr 2
  refine List.filter_congr fun b _ => ?_
  rw [cyc_congr (i := h % (s.length : Int) - b) (j := h - b) (by rw [Int.emod_sub_emod])]
theorem wds_length (s : List Int) : (wds s).length = s.length := by
  unfold wds
  rw [List.length_map, List.length_range]
theorem cyc_wds {s : List Int} (h1 : 1 ≤ s.length) (h : Int) : cyc (wds s) h = wd s h := by
  have hb := mod_bd h1 h
  unfold cyc
  rw [wds_length, List.getD_eq_getElem?_getD]
  unfold wds
  rw [List.getElem?_map, List.getElem?_range (by omega)]
  show wd s (((h % (s.length : Int)).toNat : Nat) : Int) = wd s h
  rw [show (((h % (s.length : Int)).toNat : Nat) : Int) = h % (s.length : Int) by omega, wd_mod]
end Hn
namespace Hn
open PySem PySem.Spec PyProof.Rows L2 Evl
section
variable {K : PySem.W.Frag} {σ : L2.St} {H : Hp} {Q : VK} {a : Addr} {xs : List V} {i : Int}
theorem sq_ty (h : Sq K H a xs) : TyX K H (.ref a) (.type "list") ∨ TyX K H (.ref a) (.type "tuple") := by
  rcases h with h | h
  · rcases h with (h | ⟨o, h⟩) | ⟨o, its, n, h1, h2, _⟩
    · exact .inl (.base (.lst h))
    · exact .inl (.base (.frz h))
    · exact .inl (.kList h1 h2)
  · rcases h with (h | ⟨o, h⟩) | ⟨o, its, n, h1, h2, _⟩
    · exact .inr (.base (.tup h))
    · exact .inr (.fTuple h)
    · exact .inr (.kTuple h1 h2)
theorem r_isiSeq {tp : Addr} (h : Sq K H a xs) (ht : H tp = some (.tup [.ty "list", .ty "tuple"])) (q : Q (.bl true) H) : rIsiT K [.ref a, .ref tp] H Q := by
  have pc : Paired ClsV [V.ty "list", V.ty "tuple"] [.type "list", .type "tuple"] := .cons (.ty _) (.cons (.ty _) .nil)
  rcases sq_ty h with t | t
  · exact ⟨.ref a, tp, _, _, _, true, rfl, ht, pc, t, kitAny_cons (b := true) (kit_ty (by decide +kernel)) (fun z => nomatch z) (fun _ => rfl), q⟩
  · exact ⟨.ref a, tp, _, _, _, true, rfl, ht, pc, t, kitAny_cons (b := false) (kit_ty (by decide +kernel)) (fun _ => kitAny_cons (b := true) (kit_ty (by decide +kernel)) (fun z => nomatch z) (fun _ => rfl)) (fun z => nomatch z), q⟩
theorem r_isiInt (q : Q (.bl true) H) : rIsi K [.int i, .ty "int"] H Q := ⟨.int i, .ty "int", _, _, true, rfl, .ty _, .base (.int i), kit_ty (by decide +kernel), q⟩
theorem r_isiIntB (q : Q (.bl false) H) : rIsi K [.int i, .ty "bool"] H Q := ⟨.int i, .ty "bool", _, _, false, rfl, .ty _, .base (.int i), kit_ty (by decide +kernel), q⟩
theorem r_all {bs : List Bool} (h : SqL K H a (bs.map V.bl)) (q : Q (.bl (bs.all id)) H) : rAll K [.ref a] H Q := ⟨a, bs, rfl, h, q⟩
theorem ty_lst (h : H a = some (.lst xs)) : tyV K "list" (.ref a) H := .inl ⟨rfl, xs, .inl (.inl h)⟩
theorem szc (h : Nat.ble xs.length 1000 = true) : xs.length ≤ sizeLine := by
  have : (1000 : Nat) ≤ sizeLine := by decide
  have := Nat.le_of_ble_eq_true h
  omega
def RetN (xs : List V) (H : Hp) (Q : VK) : Prop := ∀ p H', H p = none → Ex H H' → H' p = some (.lst xs) → Q (.ref p) H'
theorem tup_mono {H' : Hp} (e : Xl H H') (h : SqT K H a xs) : SqT K H' a xs := by
  rcases h with (h | ⟨o, h⟩) | h
  · exact .inl (.inl (e _ _ h rfl))
  · exact .inl (.inr ⟨o, e _ _ h rfl⟩)
  · exact .inr h
theorem tup_ins {C dx : Addr} {fs : List (Str × V)} {p : Addr} {o : HO} (hp : H p = some (.ins C dx fs)) (h : SqT K H a xs) : SqT K (upd H p o) a xs := by
  rcases h with (h | ⟨o', h⟩) | h
  · exact .inl (.inl (by rw [upd_ne (ne_of h hp (by intro z; cases z))]; exact h))
  · exact .inl (.inr ⟨o', by rw [upd_ne (ne_of h hp (by intro z; cases z))]; exact h⟩)
  · exact .inr h
theorem map_range_int (ns : List Int) (f : Int → V) : (List.range ns.length).map (fun i => f (ns.getD i 0)) = ns.map f := by
  refine List.ext_getElem? fun i => ?_
  rw [List.getElem?_map, List.getElem?_map]
  rcases Nat.lt_or_ge i ns.length with h | h
  · rw [List.getElem?_range h, List.getElem?_eq_getElem h, Option.map_some, Option.map_some, List.getD_eq_getElem?_getD, List.getElem?_eq_getElem h]
    rfl
  · rw [List.getElem?_eq_none (by rw [List.length_range]; omega), List.getElem?_eq_none h]
    rfl
end
end Hn
namespace Hn
open PySem PySem.Spec PyProof.Rows L2 Evl
section
variable {X : Cx} {K : PySem.W.Frag} {tg l e : Expr} {tl te : TE} {ar : TA}
theorem k_ixL (h : X.K = K) : IxR X (rIxL K) := h ▸ ix_list
theorem k_ixT (h : X.K = K) : IxR X (rIxT K) := h ▸ ix_tup
theorem k_ixS (h : X.K = K) : IxR X (rIx K) := h ▸ ix_seq
theorem k_getL (h : X.K = K) : PGet X (rIxL K) := h ▸ get_list
def rLen (K : PySem.W.Frag) : List V → Hp → VK → Prop := fun xs H Q => ∃ p ys, xs = [.ref p] ∧ (SqL K H p ys ∨ SqT K H p ys) ∧ Q (.int ys.length) H
def rListOf (K : PySem.W.Frag) : List V → Hp → VK → Prop := fun xs H Q => ∃ p ys, xs = [.ref p] ∧ (SqL K H p ys ∨ SqT K H p ys) ∧ ∀ l, H l = none → Q (.ref l) (upd H l (.lst ys))
def rTupOf (K : PySem.W.Frag) : List V → Hp → VK → Prop := fun xs H Q => ∃ p ys, xs = [.ref p] ∧ ((SqL K H p ys ∧ ∀ l, H l = none → Q (.ref l) (upd H l (.tup ys))) ∨ (SqT K H p ys ∧ Q (.ref p) H))
def rAbs : List V → Hp → VK → Prop := fun xs H Q => ∃ i, xs = [.int i] ∧ Q (.int (if i < 0 then -i else i)) H
def rInt1 : List V → Hp → VK → Prop := fun xs H Q => (∃ i, xs = [.int i] ∧ Q (.int i) H) ∨ ∃ k, xs = [.bl k] ∧ Q (.int (if k then 1 else 0)) H
def rIsNon : R2 := fun x y H Q => y = .non ∧ Q (.bl (decide (x = .non))) H
def rNotNon : R2 := fun x y H Q => y = .non ∧ Q (.bl (!decide (x = .non))) H
def rMin2 : List V → Hp → VK → Prop := fun xs H Q => ∃ i j, xs = [.int i, .int j] ∧ Q (.int (if j < i then j else i)) H
def rMx2 : List V → Hp → VK → Prop := fun xs H Q => ∃ i j, xs = [.int i, .int j] ∧ Q (.int (if j > i then j else i)) H
theorem k_len (h : X.K = K) : CallR X (.builtin "len") (rLen K) := h ▸ call_len_seq
theorem k_listOf (h : X.K = K) : CallR X (.type "list") (rListOf K) := h ▸ call_list_of
theorem k_tupOf (h : X.K = K) : CallR X (.type "tuple") (rTupOf K) := h ▸ call_tuple_of
theorem k_abs : CallR X (.builtin "abs") rAbs := call_abs
theorem k_int1 : CallR X (.type "int") rInt1 := call_int1
section
variable {H : Hp} {Q : VK} {i j : Int} {x : V} {a : Addr} {xs : List V}
theorem r_len (h : Sq K H a xs) (q : Q (.int (xs.length : Int)) H) : rLen K [.ref a] H Q := ⟨a, xs, rfl, h, q⟩
theorem r_listOf (h : Sq K H a xs) (q : ∀ l, H l = none → Q (.ref l) (upd H l (.lst xs))) : rListOf K [.ref a] H Q := ⟨a, xs, rfl, h, q⟩
theorem r_tupOf (h : Sq K H a xs) (q : ∀ l H', Ex H H' → SqT K H' l xs → Q (.ref l) H') : rTupOf K [.ref a] H Q :=
  h.elim (fun h => ⟨a, xs, rfl, .inl ⟨h, fun l nl => q l _ (Ex.new nl) (.inl (.inl upd_same))⟩⟩) fun h => ⟨a, xs, rfl, .inr ⟨h, q a H (Ex.refl H) h⟩⟩
theorem r_abs (q : Q (.int (if i < 0 then -i else i)) H) : rAbs [.int i] H Q := ⟨i, rfl, q⟩
theorem r_intP (q : Q (.int i) H) : rInt1 [.int i] H Q := .inl ⟨i, rfl, q⟩
theorem r_intB {b : Bool} (q : Q (.int (if b then 1 else 0)) H) : rInt1 [.bl b] H Q := .inr ⟨b, rfl, q⟩
theorem r_min2 (q : Q (.int (if j < i then j else i)) H) : rMin2 [.int i, .int j] H Q := ⟨i, j, rfl, q⟩
theorem r_max2 (q : Q (.int (if j > i then j else i)) H) : rMx2 [.int i, .int j] H Q := ⟨i, j, rfl, q⟩
theorem r_isNi (q : Q (.bl false) H) : rIsNon (.int i) .non H Q := ⟨rfl, q⟩
theorem r_isNr (q : Q (.bl false) H) : rIsNon (.ref a) .non H Q := ⟨rfl, q⟩
theorem r_isNn (q : Q (.bl true) H) : rIsNon .non .non H Q := ⟨rfl, q⟩
theorem r_notNi (q : Q (.bl true) H) : rNotNon (.int i) .non H Q := ⟨rfl, q⟩
theorem r_notNr (q : Q (.bl true) H) : rNotNon (.ref a) .non H Q := ⟨rfl, q⟩
theorem r_notNn (q : Q (.bl false) H) : rNotNon .non .non H Q := ⟨rfl, q⟩
end
theorem k_all (h : X.K = K) (hc : X.calm = true) : CallR X (.builtin "all") (rAll K) := h ▸ cr_all hc
theorem k_min (h : X.K = K) (hc : X.calm = true) : CallR X (.builtin "min") (rMin K) := h ▸ cr_min hc
theorem k_eqD (h : X.K = K) (hu : X.A.units + 64 < cLine) : OpR X (compareOp .Eq) (rEqD K) := h ▸ op_eqD hu
theorem k_isi (h : X.K = K) : CallR X (.builtin "isinstance") (rIsi K) := h ▸ call_isi
theorem k_isiT (h : X.K = K) : CallR X (.builtin "isinstance") (rIsiT K) := h ▸ call_isiT
theorem k_slL (h : X.K = K) : SlR X (rSlL K) := h ▸ sl_list
theorem k_piL (h : X.K = K) (hl : PE X l tl) : PI X tg l (iList K tl) := h ▸ pi_list hl
theorem k_piT (h : X.K = K) (hl : PE X l tl) : PI X tg l (iTup K tl) := h ▸ pi_tup hl
theorem k_piS (h : X.K = K) (hl : PE X l tl) : PI X tg l (iSeq K tl) := h ▸ pi_seq hl
theorem k_piE {p pos tpos : Pos} {elts : List Expr} {kk : Nat} (h : X.K = K) (hg : Gl X "enumerate") (hm : X.mg "enumerate" = none) (ha : PA X [e] ar) (hs : starEach [e] X.env = [(false, eval e X.env)] := by rfl) :
    PI X (.Tuple elts kk tpos) (.Call (.Name "enumerate" p) [e] [] pos) (iEnumS K ar) := h ▸ pi_enumS hg hm ha hs
theorem k_piZ {e2 : Expr} {p pos tpos : Pos} {elts : List Expr} {kk : Nat} (h : X.K = K) (hg : Gl X "zip") (hm : X.mg "zip" = none) (ha : PA X [e, e2] ar)
    (hs : starEach [e, e2] X.env = (false, eval e X.env) :: starEach [e2] X.env := by rfl) (hpl : (backTo pos (starEach [e2] X.env)).any (·.1) = false := by rfl) :
    PI X (.Tuple elts kk tpos) (.Call (.Name "zip" p) [e, e2] [] pos) (iZip K ar) := h ▸ pi_zip hg hm ha hs hpl
theorem k_fld {f : Str} {pos : Pos} (h : X.K = K) (he : PE X e te) (hb : attributeBase e f X.env (eval e X.env) = eval e X.env := by rfl) : PE X (.Attribute e f pos) (tFld K te f) := h ▸ pe_fld he hb
theorem k_sfld {o : Expr} {ta : TE} {f : Str} {pos pos' : Pos} (h : X.K = K) (ha : PE X o ta) (hv : PE X e te) (hs : swapsWith e (some (.Attribute o f pos')) pos.line X.env = pure false := by rfl) : PS X (.Assign [.Attribute o f pos'] e pos) (sFld K ta te f) := h ▸ ps_fld ha hv hs
theorem k_revL {k : Nat} {p1 p2 p3 pos : Pos} (h : X.K = K) (he : PE X e te) : PE X (.Subscript e (.Slice none none (some (.UnaryOp .USub (.Constant (.int 1) k p1) p2)) p3) pos) (tRevL K te) := h ▸ pe_revL he
theorem k_gtup {es : List Expr} {k : Nat} {t : TGs} {n : Nat} {pos : Pos} (h : X.K = K) (hc : X.calm = true) (hh : PGs X es t)
    (hn : (assignEach es X.env).length = n := by rfl) (hst : (assignEach es X.env).findIdx? (·.1) = none := by rfl) : PG X (.Tuple es k pos) (gTup K n t) := h ▸ pg_tup hc hh hn hst
theorem pe_bty {x : Str} {n : String} {pos : Pos} (hg : Gl X x) (hm : X.mg x = none) (hv : bootBuiltins x = some (.type n)) (hn : x ≠ "__name__" := by decide) (hd : (x == ("__debug__" : Str)) = false := by decide) : PE X (.Name x pos) (tC (.ty n)) := pe_bltn hg hm hv rfl hn hd
end
end Hn
namespace Hn
open PySem PySem.Spec PyProof.Rows L2 Evl
theorem at_cyc {ns : List Int} (h : 1 ≤ ns.length) (j : Int) : atI (ns.map V.int) (j % (ns.length : Int)) = some (.int (cyc ns j)) := by
  have hb := mod_bd h j
  rw [at_int hb.1 hb.2]
  rfl
def clkF (a b : Addr) : List (Str × V) := putF "kept_widths" (.ref b) (putF "kept_stays" (.ref a) [])
theorem clkF_stays (a b : Addr) : (clkF a b).lookup ("kept_stays" : Str) = some (.ref a) := by
  unfold clkF
  rw [lookup_putF, if_neg (by decide +kernel), lookup_putF, if_pos rfl]
theorem clkF_widths (a b : Addr) : (clkF a b).lookup ("kept_widths" : Str) = some (.ref b) := by
  unfold clkF
  rw [lookup_putF, if_pos rfl]
theorem clkF_no (a b : Addr) {m : Str} (h1 : ¬ m = "kept_widths") (h2 : ¬ m = "kept_stays") : (clkF a b).lookup m = none := by
  unfold clkF
  rw [lookup_putF, if_neg h1, lookup_putF, if_neg h2]
  rfl
def Clk (K : PySem.W.Frag) (C : Addr) (H : Hp) (v : V) (s : List Int) : Prop :=
  ∃ p dx a b, v = .ref p ∧ H p = some (.ins C dx (clkF a b)) ∧ SqT K H a (s.map V.int) ∧ SqT K H b ((wds s).map V.int) ∧ Good s
theorem Clk.mono {K : PySem.W.Frag} {C : Addr} {H H' : Hp} {v : V} {s : List Int} (e : Xl H H') (h : Clk K C H v s) : Clk K C H' v s :=
  let ⟨p, dx, a, b, h1, h2, h3, h4, h5⟩ := h
  ⟨p, dx, a, b, h1, e _ _ h2 rfl, tup_mono e h3, tup_mono e h4, h5⟩
theorem Clk.ex {K : PySem.W.Frag} {C : Addr} {H H' : Hp} {v : V} {s : List Int} (e : Ex H H') (h : Clk K C H v s) : Clk K C H' v s := h.mono (.of e)
theorem Clk.good {K : PySem.W.Frag} {C : Addr} {H : Hp} {v : V} {s : List Int} (h : Clk K C H v s) : Good s := let ⟨_, _, _, _, _, _, _, _, h5⟩ := h; h5
def MkClk (K : PySem.W.Frag) (C : Addr) (H : Hp) (v : V) (Q : Addr → Hp → Prop) : Prop := ∃ a s, v = .ref a ∧ Sq K H a (s.map V.int) ∧ Good s ∧ ∀ u H', Ex H H' → Clk K C H' (.ref u) s → Q u H'
def spClkInit (K : PySem.W.Frag) (C : Addr) : Sp := fun vs H Q _ => ∃ (H0 : Hp) (x dx a : Addr) (s : List Int), vs = [.ref x, .ref a] ∧ H = upd (upd H0 dx (.own x)) x (.ins C dx []) ∧ H0 x = none ∧ H0 dx = none ∧ dx ≠ x ∧ Sq K H0 a (s.map V.int) ∧ Good s ∧
  ∀ H', Ex H0 H' → Clk K C H' (.ref x) s → Q .non H'
theorem mkClk {K : PySem.W.Frag} {C : Addr} {H : Hp} {v : V} {Q : Addr → Hp → Prop} {E : XK} (h : MkClk K C H v Q) : ∀ x dx, H x = none → H dx = none → dx ≠ x → spClkInit K C (.ref x :: ([v] ++ [])) (upd (upd H dx (.own x)) x (.ins C dx [])) (fun v H2 => v = .non ∧ Q x H2) E := by
  intro x dx nx ndx ne
  obtain ⟨a, s, rfl, hS, g, k⟩ := h
  exact ⟨H, x, dx, a, s, rfl, rfl, nx, ndx, ne, hS, g, fun H' e c => ⟨rfl, k _ _ e c⟩⟩
theorem r_clkM {K : PySem.W.Frag} {C : Addr} {H : Hp} {v : V} {s : List Int} {m : Str} {p : Prop} (h : Clk K C H v s) (q : p) (h1 : ¬ m = "kept_widths" := by decide +kernel) (h2 : ¬ m = "kept_stays" := by decide +kernel) : ∃ a dx fs, v = .ref a ∧ H a = some (.ins C dx fs) ∧ fs.lookup m = none ∧ p :=
  let ⟨x, dx, a, b, e, hp, _⟩ := h
  ⟨x, dx, _, e, hp, clkF_no a b h1 h2, q⟩
theorem r_clkP {K : PySem.W.Frag} {C : Addr} {H : Hp} {v : V} {s : List Int} {p : Addr → Prop} (h : Clk K C H v s) (q : ∀ a, v = .ref a → p a) : ∃ a dx fs, v = .ref a ∧ H a = some (.ins C dx fs) ∧ p a :=
  let ⟨x, dx, _, _, e, hp, _⟩ := h
  ⟨x, dx, _, e, hp, q x e⟩
end Hn
namespace Hn
def rowOf (n : Nat) (f : Int → Int) : List Int := (List.range n).map fun (i : Nat) => f (i : Int)
theorem rowOf_length (n : Nat) (f : Int → Int) : (rowOf n f).length = n := by
  unfold rowOf
  rw [List.length_map, List.length_range]
theorem rowOf_getD {n : Nat} (f : Int → Int) {j : Nat} (h : j < n) : (rowOf n f).getD j 0 = f (j : Int) := by
  unfold rowOf
  rw [List.getD_eq_getElem?_getD, List.getElem?_map, List.getElem?_range h]
  rfl
theorem cyc_rowOf {n : Nat} (f : Int → Int) (h : 1 ≤ n) (i : Int) : cyc (rowOf n f) i = f (i % (n : Int)) := by
  have hb := mod_bd h i
  unfold cyc
  rw [rowOf_length, rowOf_getD f (by omega), show ((i % (n : Int)).toNat : Int) = i % (n : Int) by omega]
def turnS (s : List Int) (b : Int) : List Int := rowOf s.length fun i => cyc s (i + b)
theorem turnS_length (s : List Int) (b : Int) : (turnS s b).length = s.length := rowOf_length _ _
theorem cyc_turn {s : List Int} (h : 1 ≤ s.length) (b i : Int) : cyc (turnS s b) i = cyc s (i + b) := by
  unfold turnS
  rw [cyc_rowOf _ h]
  exact cyc_congr (by rw [Int.emod_add_emod])
theorem Good.turn {s : List Int} (g : Good s) (b : Int) : Good (turnS s b) := by
  have hl := turnS_length s b
  refine ⟨by rw [hl]; exact g.ne, by rw [hl]; exact g.le, fun i => ?_, fun i => ?_, fun i => ?_⟩
  · rw [cyc_turn g.ne]
    exact g.lo _
  · rw [cyc_turn g.ne, hl]
    exact g.hi _
  · rw [cyc_turn g.ne, cyc_turn g.ne, show i + 1 + b = (i + b) + 1 by omega]
    exact g.od _
def Sg : Nat → (Int → Int) → Int
  | 0, _ => 0
  | n + 1, f => Sg n f + f (n : Int)
theorem cyc_per (s : List Int) (i : Int) : cyc s (i + (s.length : Int)) = cyc s i := cyc_congr (by rw [Int.add_emod_right])
theorem Good.least {m : List Int} {n : Nat} {dr : List Int} {top : Int} (hn : 1 ≤ n) (hn2 : n ≤ 48) (hl : m.length = n) (hd : dr.length = n) (ht : top ≤ (n : Int)) (h1 : ∀ i, 1 ≤ cyc dr i ∧ cyc dr i ≤ top)
    (hm : ∀ j : Nat, j < n → (∃ a : Nat, a < n ∧ m.getD j 0 = cyc dr ((j : Int) + a) + a) ∧ ∀ a : Nat, a < n → m.getD j 0 ≤ cyc dr ((j : Int) + a) + a) : Good m := by
  have hc : ∀ i : Int, (∃ a : Nat, a < n ∧ cyc m i = cyc dr (i + a) + a) ∧ ∀ a : Nat, a < n → cyc m i ≤ cyc dr (i + a) + a := fun i => by
    have hb := mod_bd hn i
    have e : cyc m i = m.getD (i % (n : Int)).toNat 0 := by
      unfold cyc
      rw [hl]
    have er : ∀ a : Nat, cyc dr (((i % (n : Int)).toNat : Int) + a) = cyc dr (i + a) := fun a => cyc_congr (by
      rw [show ((i % (n : Int)).toNat : Int) = i % (n : Int) by omega, hd, Int.emod_add_emod])
    obtain ⟨⟨a, ha, e1⟩, e2⟩ := hm (i % (n : Int)).toNat (by omega)
    refine ⟨⟨a, ha, by rw [e, e1, er]⟩, fun a ha => ?_⟩
    have := e2 a ha
    rw [er] at this
    rw [e]
    exact this
  refine ⟨by omega, by omega, fun i => ?_, fun i => ?_, fun i => ?_⟩
  · obtain ⟨⟨a, ha, e⟩, _⟩ := hc i
    have := (h1 (i + a)).1
    omega
  · have e := (hc i).2 0 (by omega)
    have := (h1 (i + ((0 : Nat) : Int))).2
    omega
  · obtain ⟨⟨a, ha, e⟩, _⟩ := hc (i + 1)
    rcases Nat.lt_or_ge (a + 1) n with q | q
    · have := (hc i).2 (a + 1) q
      rw [show i + ((a + 1 : Nat) : Int) = i + 1 + a by omega] at this
      omega
    · have e0 := (hc i).2 0 (by omega)
      have e2 : cyc dr (i + 1 + (a : Int)) = cyc dr (i + ((0 : Nat) : Int)) := by
        rw [show i + 1 + (a : Int) = (i + ((0 : Nat) : Int)) + (dr.length : Int) by omega]
        exact cyc_per dr _
      omega
theorem Good.const {n : Nat} {c : Int} (hn : 1 ≤ n) (hn2 : n ≤ 48) (h0 : 1 ≤ c) (h1 : c ≤ (n : Int)) : Good (List.replicate n c) := by
  have e : ∀ i, cyc (List.replicate n c) i = c := fun i => by
    have hb := mod_bd hn i
    unfold cyc
    rw [List.length_replicate, List.getD_eq_getElem?_getD, List.getElem?_replicate, if_pos (by omega)]
    rfl
  refine ⟨by rw [List.length_replicate]; exact hn, by rw [List.length_replicate]; exact hn2, fun i => by rw [e]; exact h0, fun i => by rw [e, List.length_replicate]; exact h1, fun i => by rw [e, e]; omega⟩
def servingOf (s : List Int) (h : Int) : List Int := (List.range (wd s h).toNat).map fun (k : Nat) => (h - wd s h + 1 + (k : Int)) % (s.length : Int)
theorem serv_rev (s : List Int) (h : Int) : servingOf s h = ((List.range (wd s h).toNat).map fun (k : Nat) => (h - (k : Int)) % (s.length : Int)).reverse := by
  unfold servingOf
  have h0 := wd_nn (s := s) h
  refine List.ext_getElem? fun i => ?_
  rcases Nat.lt_or_ge i (wd s h).toNat with q | q
  · rw [List.getElem?_reverse (by rw [List.length_map, List.length_range]; exact q), List.getElem?_map, List.getElem?_map, List.length_map, List.length_range, List.getElem?_range q, List.getElem?_range (by omega)]
    show some ((h - wd s h + 1 + (i : Int)) % (s.length : Int)) = some ((h - (((wd s h).toNat - 1 - i : Nat) : Int)) % (s.length : Int))
    rw [show h - wd s h + 1 + (i : Int) = h - (((wd s h).toNat - 1 - i : Nat) : Int) by omega]
  · rw [List.getElem?_eq_none (by rw [List.length_map, List.length_range]; exact q), List.getElem?_eq_none (by rw [List.length_reverse, List.length_map, List.length_range]; exact q)]
theorem filter_down (p : Nat → Bool) (hp : ∀ b, p (b + 1) = true → p b = true) : ∀ n : Nat, (List.range n).filter p = List.range ((List.range n).filter p).length := by
  have hp' : ∀ k b, p (b + k) = true → p b = true := fun k => by
    induction k with
    | zero => exact fun b h => h
    | succ k ih => exact fun b h => ih b (hp (b + k) h)
  intro n
  induction n with
  | zero => rfl
  | succ n ih =>
    rw [List.range_succ, List.filter_append, List.length_append, List.filter_cons]
    by_cases hn : p n = true
    · have e : (List.range n).filter p = List.range n := List.filter_eq_self.mpr fun a ha => hp' (n - a) a (by
        have := List.mem_range.mp ha
        rw [show a + (n - a) = n by omega]
        exact hn)
      rw [if_pos hn, e, List.length_range]
      simp only [List.filter_nil, List.length_cons, List.length_nil]
      exact (List.range_succ).symm
    · rw [if_neg hn]
      simp only [List.filter_nil, List.length_nil, Nat.add_zero, List.append_nil]
      exact ih
theorem serving_filter {s : List Int} (g : Good s) (h : Int) : (((List.range s.length).filter fun (b : Nat) => decide ((b : Int) < cyc s (h - (b : Int)))).map fun (b : Nat) => (h - (b : Int)) % (s.length : Int)).reverse = servingOf s h := by
  have e := filter_down (fun (b : Nat) => decide ((b : Int) < cyc s (h - (b : Int)))) (fun b q => by
    have q' := of_decide_eq_true q
    exact decide_eq_true (down g h b (by
      rw [show ((b + 1 : Nat) : Int) = (b : Int) + 1 by omega] at q'
      exact q'))) s.length
  rw [e, serv_rev]
  congr 3
theorem serving_len (s : List Int) (h : Int) : ((servingOf s h).length : Int) = wd s h := by
  unfold servingOf
  rw [List.length_map, List.length_range]
  have := wd_nn (s := s) h
  omega
end Hn
namespace Hn
open PySem PySem.Spec PyProof.Rows L2 Evl
section
variable {α β : Type} [DecidableEq α] [PySem.W.Datum α] [DecidableEq β] [PySem.W.Datum β] {K : PySem.W.Frag} {H H' : Hp} {Q : VK} {x y : V} {a b : Addr} {vs : List V} {ns : List Int}
def Hd (K : PySem.W.Frag) (H : Hp) (x : V) (u : α) : Prop := Dp K H x (PySem.W.Datum.toD u)
def HdAll (K : PySem.W.Frag) (H : Hp) (vs : List V) (us : List α) : Prop := DpAll K H vs (us.map PySem.W.Datum.toD)
theorem hd_list {us : List α} (h : SqL K H a vs) (hv : HdAll K H vs us) : Hd K H (.ref a) us := .lst h hv
theorem hda_ints : ∀ ns : List Int, HdAll K H (ns.map V.int) ns
  | [] => .nil
  | n :: ns => .cons (.int n) (hda_ints ns)
theorem hd_ints (h : SqL K H a (ns.map V.int)) : Hd K H (.ref a) ns := hd_list h (hda_ints ns)
theorem hda_ix : ∀ {vs : List V} {us : List α}, vs.length = us.length → (∀ (i : Nat) v u, vs[i]? = some v → us[i]? = some u → Hd K H v u) → HdAll K H vs us
  | [], [], _, _ => .nil
  | _ :: _, [], h, _ => by cases h
  | [], _ :: _, h, _ => by cases h
  | v :: vs, u :: us, h, f => .cons (f 0 v u rfl rfl) (hda_ix (by simpa using h) fun i v u h1 h2 => f (i + 1) v u (by simpa using h1) (by simpa using h2))
mutual
theorem dp_ex (e : Ex H H') : ∀ {x : V} {u : PyData}, Dp K H x u → Dp K H' x u
  | _, _, .non => .non
  | _, _, .bl b => .bl b
  | _, _, .int i => .int i
  | _, _, .str y => .str y
  | _, _, .lst a b => .lst (ex_l e a) (dpa_ex e b)
  | _, _, .tup a b => .tup (ex_t e a) (dpa_ex e b)
theorem dpa_ex (e : Ex H H') : ∀ {vs : List V} {us : List PyData}, DpAll K H vs us → DpAll K H' vs us
  | _, _, .nil => .nil
  | _, _, .cons a b => .cons (dp_ex e a) (dpa_ex e b)
end
end
section
variable {X : Cx}
def rAddS : R2 := fun x y H Q => ∃ i j, x = .str i ∧ y = .str j ∧ i.length + j.length ≤ sizeLine ∧ Q (.str (i ++ j)) H
theorem k_addS : OpR X (binaryOp .Add) rAddS := op_add_str
def rIntS : List V → Hp → VK → Prop := fun xs H Q => ∃ a n, xs = [.str a] ∧ PySem.intText? a = some n ∧ a.length ≤ 640 ∧ Q (.int n) H
theorem k_intS : CallR X (.type "int") rIntS := call_int_str
end
theorem ints_of {P : Int → Prop} : ∀ {vs : List V}, (∀ v ∈ vs, ∃ z : Int, P z ∧ v = .int z) → ∃ ns : List Int, (∀ z ∈ ns, P z) ∧ vs = ns.map V.int
  | [], _ => ⟨[], fun _ h => (nomatch h), rfl⟩
  | v :: vs, h => by
    obtain ⟨z, hz, rfl⟩ := h v (List.mem_cons_self ..)
    obtain ⟨ns, hns, rfl⟩ := ints_of (vs := vs) fun w hw => h w (List.mem_cons_of_mem _ hw)
    refine ⟨z :: ns, fun y hy => ?_, rfl⟩
    rcases List.mem_cons.mp hy with rfl | hy
    · exact hz
    · exact hns y hy
theorem flat_rep {α : Type} (x : α) : ∀ n : Nat, (List.replicate n [x]).flatten = List.replicate n x
  | 0 => rfl
  | n + 1 => by rw [List.replicate_succ, List.flatten_cons, flat_rep x n, List.replicate_succ]; rfl
def Rows (H : Hp) (D : Addr) (n : Nat) (f : Nat → List V) : Prop := ∃ ys, H D = some (.lst ys) ∧ ys.length = n ∧ ∀ (i : Nat) y, ys[i]? = some y → ∃ p, y = .ref p ∧ H p = some (.lst (f i))
theorem Rows.ex {H H' : Hp} {D : Addr} {n : Nat} {f : Nat → List V} (e : Ex H H') (h : Rows H D n f) : Rows H' D n f :=
  let ⟨ys, h1, h2, h3⟩ := h
  ⟨ys, e _ _ h1, h2, fun i y hy => let ⟨p, hp, q⟩ := h3 i y hy; ⟨p, hp, e _ _ q⟩⟩
theorem Rows.sq {K : PySem.W.Frag} {H : Hp} {D : Addr} {n : Nat} {f : Nat → List V} (h : Rows H D n f) {Q : VK} {i : Nat} (hi : i < n) (q : ∀ p, H p = some (.lst (f i)) → Q (.ref p) H) : rIxL K (.ref D) (.int (i : Int)) H Q := by
  obtain ⟨ys, h1, h2, h3⟩ := h
  have hy : ys[i]? = some ys[i] := List.getElem?_eq_getElem (by omega)
  obtain ⟨p, hp, hq⟩ := h3 i _ hy
  refine ⟨D, ys, i, .ref p, rfl, rfl, .inl (.inl h1), atI_nat ?_, q p hq⟩
  rw [hy, hp]
theorem Rows.hd {α : Type} [DecidableEq α] [PySem.W.Datum α] {K : PySem.W.Frag} {H : Hp} {D : Addr} {n : Nat} {f : Nat → List V} (h : Rows H D n f) (us : Nat → List α) (hu : ∀ i, i < n → HdAll K H (f i) (us i)) : Hd K H (.ref D) ((List.range n).map us) := by
  obtain ⟨ys, h1, h2, h3⟩ := h
  refine hd_list (.inl (.inl h1)) (hda_ix (by rw [List.length_map, List.length_range]; exact h2) fun i v u hv hu' => ?_)
  obtain ⟨p, rfl, hp⟩ := h3 i v hv
  have hi : i < n := by
    have := (List.getElem?_eq_some_iff.mp hv).1
    omega
  rw [List.getElem?_map, List.getElem?_range hi] at hu'
  cases hu'
  exact hd_list (.inl (.inl hp)) (hu i hi)
section
variable {J : It} {n : Nat} {G : Hp → Prop} {Y : Nat → Hp → V → Hp → Prop}
end
def spLaw (K : PySem.W.Frag) : Sp := fun vs H Q _ => ∃ (a : Addr) (ns : List Int), vs = [.ref a] ∧ SqL K H a (ns.map V.int) ∧ ns.length ≤ 63 ∧ ∀ H', Q (.bl true) H'
def RowsP (H : Hp) (D : Addr) (n : Nat) (P : Nat → List V → Prop) : Prop := ∃ ys, H D = some (.lst ys) ∧ ys.length = n ∧ ∀ (i : Nat) y, ys[i]? = some y → ∃ p xs, y = .ref p ∧ H p = some (.lst xs) ∧ P i xs
theorem RowsP.ex {H H' : Hp} {D : Addr} {n : Nat} {P : Nat → List V → Prop} (e : Ex H H') (h : RowsP H D n P) : RowsP H' D n P :=
  let ⟨ys, h1, h2, h3⟩ := h
  ⟨ys, e _ _ h1, h2, fun i y hy => let ⟨p, xs, hp, q, r⟩ := h3 i y hy; ⟨p, xs, hp, e _ _ q, r⟩⟩
theorem RowsP.sq {K : PySem.W.Frag} {H : Hp} {D : Addr} {n : Nat} {P : Nat → List V → Prop} (h : RowsP H D n P) {Q : VK} {i : Nat} (hi : i < n) (q : ∀ p xs, P i xs → H p = some (.lst xs) → Q (.ref p) H) : rIxL K (.ref D) (.int (i : Int)) H Q := by
  obtain ⟨ys, h1, h2, h3⟩ := h
  have hy : ys[i]? = some ys[i] := List.getElem?_eq_getElem (by omega)
  obtain ⟨p, xs, hp, hq, hr⟩ := h3 i _ hy
  refine ⟨D, ys, i, .ref p, rfl, rfl, .inl (.inl h1), atI_nat ?_, q p xs hr hq⟩
  rw [hy, hp]
section
variable {J : It} {n : Nat} {G : Hp → Prop} {Y : Nat → Hp → V → Hp → Prop}
end
end Hn
namespace Hn
open PySem PySem.W PySem.Calls PySem.Spec PyProof.Rows L2 Evl
open Sem (wp)
section
variable {prog : Program} {w : World} {A : Around} {E : Value → Shared → Prop} {s : Shared} {z TI TO T i1 i2 S : Addr} {fp1 fp2 : List Addr} {n i : Nat} {P1 P2 : Nat → Value → Prop} {St1 St2 : Nat → Heap → Prop} {f : Bool} {oT : Obj}
structure ZS (z TI TO i1 i2 S : Addr) (St1 St2 : Nat → Heap → Prop) (i : Nat) (h : Heap) : Prop where
  ti : IsTupOf2 h TI (.ref i1) (.ref i2)
  s1 : St1 i h
  s2 : St2 i h
  zz : (i = 0 ∧ IsZip h z TI TO .none ∧ ∃ a b, IsTupOf2 h TO a b) ∨ (0 < i ∧ ∃ T f oT, IsZipHeld h z TI TO T f ∧ h.get? T = some oT ∧ T ≠ S ∧ T ≠ z ∧ T ≠ i1 ∧ T ≠ i2)
structure ZG (P1 P2 : Nat → Value → Prop) (lo : Addr) (h : Heap) (as : List Addr) : Prop where
  rise : as.Pairwise (· < ·)
  above : ∀ a ∈ as, lo < a
  pairs : ∀ (j : Nat) (a : Addr), as[j]? = some a → ∃ x1 x2, P1 j x1 ∧ P2 j x2 ∧ IsTupOf2 h a x1 x2
theorem ZG.there {lo : Addr} {h : Heap} {as : List Addr} (g : ZG P1 P2 lo h as) {a : Addr} (ha : a ∈ as) : a < h.objs.size := by
  obtain ⟨j, hj⟩ := List.mem_iff_getElem?.mp ha
  obtain ⟨_, _, _, _, e⟩ := g.pairs j a hj
  exact Heap.lt_size e
end
structure ZB (z TI TO i1 i2 S : Addr) (fp1 fp2 : List Addr) : Prop where
  z : z < S
  TI : TI < S
  TO : TO < S
  i1 : i1 < S
  i2 : i2 < S
  f1 : ∀ b ∈ fp1, b < S
  f2 : ∀ b ∈ fp2, b < S
section
variable {prog : Program} {w : World} {z TI TO i1 i2 S : Addr} {fp1 fp2 : List Addr} {n : Nat} {P1 P2 : Nat → Value → Prop} {St1 St2 : Nat → Heap → Prop}
theorem ZS.keep {A : Around} {i : Nat} {h h' : Heap} (B : ZB z TI TO i1 i2 S fp1 fp2) (D1 : Draws prog w A i1 fp1 n P1 St1) (D2 : Draws prog w A i2 fp2 n P2 St2) (x : ZS z TI TO i1 i2 S St1 St2 i h) (k : ∀ b o, b ≠ S → h.get? b = some o → h'.get? b = some o) : ZS z TI TO i1 i2 S St1 St2 i h' :=
  ⟨k _ _ (Nat.ne_of_lt B.TI) x.ti, D1.frame _ _ _ x.s1 fun b hb o e => k b o (Nat.ne_of_lt (B.f1 b hb)) e, D2.frame _ _ _ x.s2 fun b hb o e => k b o (Nat.ne_of_lt (B.f2 b hb)) e, by
    rcases x.zz with ⟨h0, h1, a, b, h2⟩ | ⟨h0, T, f, oT, h1, h2, h3, h4⟩
    · exact .inl ⟨h0, k _ _ (Nat.ne_of_lt B.z) h1, a, b, k _ _ (Nat.ne_of_lt B.TO) h2⟩
    · exact .inr ⟨h0, T, f, oT, k _ _ (Nat.ne_of_lt B.z) h1, k _ _ h3 h2, h3, h4⟩⟩
variable {A : Around} {E : Value → Shared → Prop} {s : Shared} {R : Result → Shared → Prop}
end
section
variable {X : Cx}
def rListZip (K : PySem.W.Frag) : List V → Hp → VK → Prop := fun vs H Q => ∃ a b xs ys, vs = [.ref a, .ref b] ∧ Sq K H a xs ∧ Sq K H b ys ∧ xs.length = ys.length ∧ 1 ≤ xs.length ∧
  ∀ (H' : Hp) (p : Addr) (ts : List Addr), Ex H H' → H p = none → (∀ t ∈ ts, H t = none) → p ∉ ts → H' p = some (.lst (ts.map V.ref)) → ts.length = xs.length →
    (∀ (j : Nat) t x y, ts[j]? = some t → xs[j]? = some x → ys[j]? = some y → H' t = some (.tup [x, y])) → Q (.ref p) H'
def tListZip (K : PySem.W.Frag) (ar : TA) : TE := fun σ H Q => ar σ H fun vs H1 => rListZip K vs H1 Q
end
section
variable {K : PySem.W.Frag} {σ : L2.St} {H : Hp} {Q : VK} {ar : TA}
theorem r_listZip (h : ar σ H fun vs H1 => rListZip K vs H1 Q) : tListZip K ar σ H Q := h
end
end Hn
namespace Hn
open PySem PySem.Spec PyProof.Rows L2 Evl
section
variable {X : Cx} {K : PySem.W.Frag} {k : Nat} {f C : Addr} {ps : List Str} {sp : Sp}
theorem sum_rawT {prog : Program} {w : World} {A : Around} {E : Value → Shared → Prop} {s : Shared} {l : Addr} {its : List Value} {ns : List Int} {Q : Value → Shared → Prop} (hh : A.handled = none) (hl : s.heap.IsTuple l its.toArray) (hi : IntsAre its ns)
    (h : ∀ h' tk t', (∀ b o, s.heap.get? b = some o → h'.get? b = some o) → Q (.int ns.sum t') { s with heap := h', toks := tk }) : wpAny (model prog w) A (call (.builtin "sum") [.ref l]) Q E s := by
  obtain ⟨xs, e⟩ := hi.allInts.items
  have hn : numsOf (intItems xs).toList = ns := by rw [← e]; exact hi.numsOf
  rw [nums_intItems] at hn
  rw [e] at hl
  refine PySem.W.ktm_sumG hh hl fun h' tk t' hk => ?_
  have := h h' tk t' hk
  rw [preSum_eq, List.take_of_length_le (by simp), hn]; exact this
def rSumS (K : PySem.W.Frag) : List V → Hp → VK → Prop := fun vs H Q => ∃ (a : Addr) (ns : List Int), vs = [V.ref a] ∧ Sq K H a (ns.map V.int) ∧ Q (.int ns.sum) H
theorem k_sumS (h : X.K = K) (hc : X.calm = true) : CallR X (.builtin "sum") (rSumS K) := by
  subst h
  intro pins s σ H vs us Q I r h
  obtain ⟨a, ns, rfl, hs, q⟩ := h
  rcases hs with hs | hs
  · exact cr_sum hc pins s σ H _ us Q I r ⟨a, ns, rfl, hs, q⟩
  · obtain ⟨its, rv, hl, _⟩ := I.tuple hs
    rw [Vals.ref1 r]
    exact sum_rawT (I.ok.hd hc) hl rv.ints fun h' tk t' hk => ⟨.int _, H, I.kept hk, ⟨_, rfl⟩, q⟩
theorem r_sumS {H : Hp} {Q : VK} {a : Addr} {ns : List Int} (h : Sq K H a (ns.map V.int)) (q : Q (.int ns.sum) H) : rSumS K [.ref a] H Q := ⟨a, ns, rfl, h, q⟩
end
section
open PySem.W
variable {prog : Program} {w : World} {A : Around} {E : Value → Shared → Prop} {s : Shared} {K : Frag} {x C L f : Addr} {h₀ : Heap} {m : Str → Option Value} {ox : Obj} {od : Option Obj} {i : Int} {t : Tok}
end
section
variable {X : Cx} {k : Nat} {f C : Addr} {ps : List Str} {sp : Sp}
end
end Hn
namespace Hn
open PySem PySem.Spec PyProof.Rows L2 Evl
structure IsC (K : PySem.W.Frag) (C : Addr) : Prop where
  cl : Cls K C
  ha : PySem.W.findIn K (.ref C) "__class__" = some (some (.builtin "object.__class__"))
  hn : PySem.W.specialIn K (.builtin "object.__class__") "__get__" = some (some (.builtin "getset_descriptor.__get__"))
  tk : PySem.W.takesIn K (.builtin "object.__class__") = some true
  mr : PySem.W.mroIn K C (.type "object") = some true
structure GoodN (ns : List Int) : Prop where
  ne : 1 ≤ ns.length
  le : ns.length ≤ 48
  nn : ∀ i, 0 ≤ cyc ns i
theorem GoodN.mem {ns : List Int} (g : GoodN ns) : ∀ x ∈ ns, 0 ≤ x := fun x hx => by
  obtain ⟨j, hj, rfl⟩ := List.mem_iff_getElem.mp hx
  have := g.nn (j : Int)
  rw [cyc_at hj, List.getD_eq_getElem?_getD, List.getElem?_eq_getElem hj] at this
  exact this
theorem GoodN.of {ns : List Int} (h1 : 1 ≤ ns.length) (h2 : ns.length ≤ 48) (h : ∀ x ∈ ns, 0 ≤ x) : GoodN ns := ⟨h1, h2, fun i => h _ (cyc_mem h1 i)⟩
def okRow (ns : List Int) : Bool := decide (1 ≤ ns.length) && decide (ns.length ≤ 48) && ns.all fun x => decide (0 ≤ x)
theorem okRow_iff {s : List Int} : okRow s = true ↔ GoodN s := by
  unfold okRow
  simp only [Bool.and_eq_true, decide_eq_true_eq, List.all_eq_true]
  constructor
  · rintro ⟨⟨a, b⟩, c⟩
    exact GoodN.of a b c
  · intro g
    exact ⟨⟨g.ne, g.le⟩, g.mem⟩
def rwF (fld : Str) (a : Addr) : List (Str × V) := putF fld (.ref a) []
theorem rwF_at (fld : Str) (a : Addr) : (rwF fld a).lookup fld = some (.ref a) := by
  unfold rwF
  rw [lookup_putF, if_pos rfl]
def Rw (K : PySem.W.Frag) (C : Addr) (fld : Str) (H : Hp) (v : V) (ns : List Int) : Prop :=
  ∃ p dx a, v = .ref p ∧ H p = some (.ins C dx (rwF fld a)) ∧ SqT K H a (ns.map V.int) ∧ GoodN ns
section
variable {K : PySem.W.Frag} {C : Addr} {fld : Str} {H H' : Hp} {v : V} {ns : List Int}
theorem Rw.mono (e : Xl H H') (h : Rw K C fld H v ns) : Rw K C fld H' v ns :=
  let ⟨p, dx, a, h1, h2, h3, h4⟩ := h
  ⟨p, dx, a, h1, e _ _ h2 rfl, tup_mono e h3, h4⟩
theorem Rw.ex (e : Ex H H') (h : Rw K C fld H v ns) : Rw K C fld H' v ns := h.mono (.of e)
theorem Rw.good (h : Rw K C fld H v ns) : GoodN ns := let ⟨_, _, _, _, _, _, g⟩ := h; g
theorem r_rwG {p : Prop} (h : Rw K C fld H v ns) (q : p) : ∃ a dx fs, v = .ref a ∧ H a = some (.ins C dx fs) ∧ p :=
  let ⟨x, dx, _, e, hp, _⟩ := h
  ⟨x, dx, _, e, hp, q⟩
theorem r_rwF {p : V → Prop} (h : Rw K C fld H v ns) (cl : Cls K C) (na : NoAttr K C fld) (q : ∀ a, SqT K H a (ns.map V.int) → p (.ref a)) : ∃ a C dx fs u, v = .ref a ∧ H a = some (.ins C dx fs) ∧ Cls K C ∧ NoAttr K C fld ∧ fs.lookup fld = some u ∧ p u :=
  let ⟨x, dx, a, e, hp, ha, _⟩ := h
  ⟨x, C, dx, _, _, e, hp, cl, na, rwF_at fld a, q a ha⟩
end
def MkRw (K : PySem.W.Frag) (C : Addr) (fld : Str) (H : Hp) (v : V) (Q : Addr → Hp → Prop) : Prop := ∃ a s, v = .ref a ∧ Sq K H a (s.map V.int) ∧ GoodN s ∧ ∀ u H', Ex H H' → Rw K C fld H' (.ref u) s → Q u H'
def spRwInit (K : PySem.W.Frag) (C : Addr) (fld : Str) : Sp := fun vs H Q _ => ∃ (H0 : Hp) (x dx a : Addr) (s : List Int), vs = [.ref x, .ref a] ∧ H = upd (upd H0 dx (.own x)) x (.ins C dx []) ∧ H0 x = none ∧ H0 dx = none ∧ dx ≠ x ∧ Sq K H0 a (s.map V.int) ∧ GoodN s ∧
  ∀ H', Ex H0 H' → Rw K C fld H' (.ref x) s → Q .non H'
theorem mkRw {K : PySem.W.Frag} {C : Addr} {fld : Str} {H : Hp} {v : V} {Q : Addr → Hp → Prop} {E : XK} (h : MkRw K C fld H v Q) : ∀ x dx, H x = none → H dx = none → dx ≠ x → spRwInit K C fld (.ref x :: ([v] ++ [])) (upd (upd H dx (.own x)) x (.ins C dx [])) (fun v H2 => v = .non ∧ Q x H2) E := by
  intro x dx nx ndx ne
  obtain ⟨a, s, rfl, hS, g, k⟩ := h
  exact ⟨H, x, dx, a, s, rfl, rfl, nx, ndx, ne, hS, g, fun H' e c => ⟨rfl, k _ _ e c⟩⟩
def Prs (H : Hp) (p : Addr) (ns ms : List Int) : Prop := ∃ ts : List Addr, H p = some (.lst (ts.map V.ref)) ∧ ts.length = ns.length ∧ ∀ (j : Nat) t, ts[j]? = some t → H t = some (.tup [.int (ns.getD j 0), .int (ms.getD j 0)])
theorem Prs.ex {H H' : Hp} {p : Addr} {ns ms : List Int} (e : Ex H H') (h : Prs H p ns ms) : Prs H' p ns ms :=
  let ⟨ts, h1, h2, h3⟩ := h
  ⟨ts, e _ _ h1, h2, fun j t ht => e _ _ (h3 j t ht)⟩
def zipR (f : Int → Int → Int) (s t : List Int) : List Int := rowOf s.length fun i => f (cyc s i) (cyc t i)
def mapR (f : Int → Int) (s : List Int) : List Int := rowOf s.length fun i => f (cyc s i)
theorem zipR_length (f : Int → Int → Int) (s t : List Int) : (zipR f s t).length = s.length := rowOf_length _ _
theorem mapR_length (f : Int → Int) (s : List Int) : (mapR f s).length = s.length := rowOf_length _ _
theorem cyc_zipR {f : Int → Int → Int} {s t : List Int} (h : 1 ≤ s.length) (hl : t.length = s.length) (i : Int) : cyc (zipR f s t) i = f (cyc s i) (cyc t i) := by
  unfold zipR
  rw [cyc_rowOf _ h, cyc_mod]
  rw [← hl, cyc_mod]
theorem cyc_mapR {f : Int → Int} {s : List Int} (h : 1 ≤ s.length) (i : Int) : cyc (mapR f s) i = f (cyc s i) := by
  unfold mapR
  rw [cyc_rowOf _ h, cyc_mod]
theorem GoodN.zip {f : Int → Int → Int} {s t : List Int} (g : GoodN s) (gt : GoodN t) (hl : t.length = s.length) (h : ∀ a b, 0 ≤ a → 0 ≤ b → 0 ≤ f a b) : GoodN (zipR f s t) := by
  refine ⟨by rw [zipR_length]; exact g.ne, by rw [zipR_length]; exact g.le, fun i => ?_⟩
  rw [cyc_zipR g.ne hl]
  exact h _ _ (g.nn i) (gt.nn i)
theorem GoodN.map {f : Int → Int} {s : List Int} (g : GoodN s) (h : ∀ a, 0 ≤ a → 0 ≤ f a) : GoodN (mapR f s) := by
  refine ⟨by rw [mapR_length]; exact g.ne, by rw [mapR_length]; exact g.le, fun i => ?_⟩
  rw [cyc_mapR g.ne]
  exact h _ (g.nn i)
theorem GoodN.turn {s : List Int} (g : GoodN s) (b : Int) : GoodN (turnS s b) := by
  refine ⟨by rw [turnS_length]; exact g.ne, by rw [turnS_length]; exact g.le, fun i => ?_⟩
  rw [cyc_turn g.ne]
  exact g.nn _
section
variable {n : Nat} {a b : Int → Int}
end
end Hn
namespace Hn
open PySem PySem.Spec PyProof.Rows L2 Evl
def OkP (Pre : Around → Shared → Prop) (P : Program) (w : World) (K : PySem.W.Frag) (mg : Str → Option Value) (base : Heap) (k : Nat) (f : Addr) (ps : List Str) (sp : Sp) : Prop :=
  ∃ fd, Binds K fd ps [] ∧ (∀ vs H Q E, sp vs H Q E → vs.length = ps.length) ∧ ∀ (A : Around) (out : List Env) (s : Shared) (H : Hp) (ag : Args) (us : List Value) (vs : List V) (Q : VK) (E : XK), Pre A s → Room k A → Env0 P w K mg base A out s H → BindsTo s fd ag (ps.zip us) → Vals vs us → sp vs H Q E →
    codeAny (model P w) A (.call (.ref f) ag) (CR CX0 out P w H s Q E) s
section
variable {P : Program} {w : World} {K : PySem.W.Frag} {mg : Str → Option Value} {base : Heap} {Pre : Around → Shared → Prop}
theorem okP_of {x qual : Str} {st : Stmt} {f : Addr} {N ps : List Str} {k : Nat} {sp : Sp} (D : Df K x qual st f ps) (S : FnScope N ps (defScope st)) (len : ∀ vs H Q E, sp vs H Q E → vs.length = ps.length)
    (hbody : ∀ (cdv : Value) (A : Around) (out : List Env) (s : Shared) (H : Hp) (vs : List V) (Q : VK) (E : XK), Pre A s → Room k (A.deeper (envOfC qual (defScope st) s.heap.objs.size f cdv)) → sp vs H Q E →
      ∃ t, PSs (cxOf CX0 P w K mg base N qual (defScope st) f cdv A out s H E).nox (defBody st) t ∧ t { nx := fun _ H' => Q .non H', rt := Q } (start N vs) H) : OkP Pre P w K mg base (k + 1) f ps sp := by
  obtain ⟨fd, F, bd⟩ := D
  refine ⟨fd, bd, len, ?_⟩
  obtain ⟨oc, od, kV, doc, pm, an, cdv, ct, osl, rfl, lk, hcd⟩ := F.ex
  intro A out s H ag us vs Q E pre room env bnd rel hsp
  have ll := len _ _ _ _ hsp
  have inK : K.In s.heap := env.mod.kin.keeps fun b o e => (env.bs b o e).1
  have nol : s.heap.NoLimit := env.mod.nolimit.keeps fun b o e => (env.bs b o e).1
  have kinds : ∀ y ∈ ps.zip us, (defScope st).names.lookup y.1 = some .local ∨ ((defScope st).names.lookup y.1 = some .cell ∧ ((cellsFrom (s.heap.objs.size + 1) (defScope st).names []).lookup y.1).isSome = true) := fun y hy => by
    rcases S.par y.1 (List.of_mem_zip (a := y.1) (b := y.2) hy).1 with z | z
    · exact Or.inl z
    · exact Or.inr ⟨z, PySem.W.cellsFrom_some _ _ _ (Or.inl z)⟩
  refine codeAny_call_function room.depth (inK _ _ lk) rfl S.co S.gen rfl (PySem.W.codeRec_of inK hcd) (bnd _ _ _ _ ?_)
  refine wpAny_newFunctionEnv_cells S.kind kinds fun env1 he s1 x1 => ?_
  subst he
  refine ⟨nol.keeps x1.toInCall.keep, codeAny_func ?_⟩
  obtain ⟨t, tt, qq⟩ := hbody cdv A out s H vs Q E pre (room.deeper _) hsp
  have J : Inv (cxOf CX0 P w K mg base N qual (defScope st) f cdv A out s H E) [] (start N vs) H s1 := inv_start S room.hd env ll rel x1
  refine wpAny_mono (tt.nox.run [] s1 (start N vs) H _ J qq) (fun fl s' hs => ?_) fun e s' hs => hs
  have done : ∀ {σ' : L2.St} {H' : Hp} {v : V} {u : Value}, Inv (cxOf CX0 P w K mg base N qual (defScope st) f cdv A out s H E) [] σ' H' s' → RelV v u → Q v H' → CE out P w H s Q u s' :=
    fun {σ' H' v u} J rv q => ⟨v, H', J.os, J.bare, J.base, J.hok, rv, q⟩
  cases fl with
  | ret u =>
    obtain ⟨v, σ', H', J', rv, q⟩ := hs
    exact done J' rv q
  | next =>
    obtain ⟨σ', H', J', q⟩ := hs
    exact done (v := V.non) (u := Value.none) J' rfl q
  | brk =>
    obtain ⟨_, _, _, z⟩ := hs
    exact z.elim
  | cont =>
    obtain ⟨_, _, _, z⟩ := hs
    exact z.elim
end
def ItT (l it : Addr) : HO := .ext fun h => h.get? it = some { cls := .type "tuple_iterator", data := .fields #[.ref l, .int 0 0] }
section
variable {X : Cx} {K : PySem.W.Frag} {n k : Nat}
end
structure ItK (K : PySem.W.Frag) (C fi fl : Addr) : Prop where
  it : PySem.W.findIn K (.ref C) "__iter__" = some (some (.ref fi))
  itF : PySem.W.isFn K (.ref fi) = true
  ln : PySem.W.findIn K (.ref C) "__len__" = some (some (.ref fl))
  lnF : PySem.W.isFn K (.ref fl) = true
section
variable {X : Cx} {k : Nat} {C fi fl : Addr} {psI psL : List Str} {spI : Nat → Sp} {spL : Sp}
theorem run_pre {EE : Value → Shared → Prop} {Pre : Around → Shared → Prop} {pins : List (Addr × Obj)} {σ : L2.St} {H : Hp} {s : Shared} {Q : VK} {f : Addr} {ps : List Str} {sp : Sp} {A1 : Around} {us : List Value} {vs : List V} (G : OkP Pre X.prog X.w X.K X.mg X.base k f ps sp) (sb : Sub X k A1) (pre : Pre A1 s)
    (I : Inv X pins σ H s) (r : Vals vs us) (h : sp vs H Q E0) : wpAny (model X.prog X.w) A1 (call (.ref f) us) (EP X pins σ Q) EE s := by
  obtain ⟨fd, hb, hlen, run⟩ := G
  have e0 : Env0 X.prog X.w X.K X.mg X.base A1 X.stack s H := by
    have e := I.env0
    exact ⟨by rw [sb.fr]; exact e.frames, e.mod, e.bs, e.bsz, e.funs, e.frf, e.hok, e.bare⟩
  have hl : (us ++ []).length = ps.length := by
    rw [List.append_nil, ← r.length]
    exact hlen _ _ _ _ h
  have hb' := hb s us I.kIn hl
  rw [List.append_nil] at hb'
  refine wpAny_call (codeAny_mono (run A1 X.stack s H ⟨us, []⟩ us vs Q E0 pre sb.room e0 hb' r h) fun rr s' hq => ?_)
  cases rr with
  | error e => exact False.elim hq
  | ok fl =>
    cases fl with
    | ret u => exact I.after hq
    | next => exact False.elim hq
    | brk => exact False.elim hq
    | cont => exact False.elim hq
theorem run_sub {EE : Value → Shared → Prop} {pins : List (Addr × Obj)} {σ : L2.St} {H : Hp} {s : Shared} {Q : VK} {f : Addr} {ps : List Str} {sp : Sp} {A1 : Around} {us : List Value} {vs : List V} (G : Okf X.prog X.w X.K X.mg X.base k f ps sp) (sb : Sub X k A1)
    (I : Inv X pins σ H s) (r : Vals vs us) (h : sp vs H Q E0) : wpAny (model X.prog X.w) A1 (call (.ref f) us) (EP X pins σ Q) EE s := by
  obtain ⟨fd, F, hb⟩ := G
  have e0 : Env0 X.prog X.w X.K X.mg X.base A1 X.stack s H := by
    have e := I.env0
    exact ⟨by rw [sb.fr]; exact e.frames, e.mod, e.bs, e.bsz, e.funs, e.frf, e.hok, e.bare⟩
  have hl : (us ++ []).length = ps.length := by
    rw [List.append_nil, ← r.length]
    exact F.len _ _ _ _ h
  have hb' := hb s us I.kIn hl
  rw [List.append_nil] at hb'
  refine wpAny_call (codeAny_mono (F.run A1 X.stack s H ⟨us, []⟩ us vs Q E0 sb.room e0 hb' r h) fun rr s' hq => ?_)
  cases rr with
  | error e =>
    obtain ⟨_, _, _, _, _, _, _, _, _, _, _, _, z⟩ := hq
    exact z.elim
  | ok fl =>
    cases fl with
    | ret u => exact I.after hq
    | next => exact False.elim hq
    | brk => exact False.elim hq
    | cont => exact False.elim hq
end
end Hn
namespace Hn
open PySem PySem.Spec PyProof.Rows L2 Evl
def NoG (A : Around) (_ : Shared) : Prop := A.guards = some []
structure Fine (d : PyData) (w : Nat) : Prop where
  sh : d.showable = true
  nd : d.hasDict = false
  ls : d.leavesShort 41 = true
  wt : d.weight ≤ w
theorem Fine.mono {d : PyData} {w v : Nat} (h : Fine d w) (e : w ≤ v) : Fine d v := ⟨h.sh, h.nd, h.ls, Nat.le_trans h.wt e⟩
theorem log_40 {i : Int} (h : i.natAbs < 10 ^ 40) : i.natAbs.log2 < 140 := by
  by_cases z : i.natAbs = 0
  · rw [z]
    decide
  · exact (Nat.log2_lt z).mpr (Nat.lt_trans h (by decide))
theorem fine_int {i : Int} (h : i.natAbs < 10 ^ 40) : Fine (.int i) 200 := by
  have hl := log_40 h
  refine ⟨?_, ?_, ?_, ?_⟩
  · simp only [PyData.showable]
    exact decide_eq_true (by omega)
  · simp only [PyData.hasDict]
  · simp only [PyData.leavesShort]
    have e := int_text_length_le10 (k := 40) (by decide) h
    refine decide_eq_true ?_
    show (Str.ofString (toString i)).length ≤ 41
    rw [PySem.ofString_length]
    exact e
  · simp only [PyData.weight]
    split <;> omega
theorem fine_none : Fine .none 0 := ⟨rfl, rfl, rfl, Nat.le_refl _⟩
theorem fine_all {w : Nat} : ∀ {ds : List PyData}, (∀ d ∈ ds, Fine d w) → PyData.showableAll ds = true ∧ PyData.hasDictAll ds = false ∧ PyData.leavesShortAll 41 ds = true ∧ PyData.weightAll ds ≤ ds.length * (w + 1)
  | [], _ => ⟨rfl, rfl, rfl, Nat.zero_le _⟩
  | d :: ds, h => by
    have hd := h d List.mem_cons_self
    obtain ⟨a, b, c, e⟩ := fine_all (ds := ds) fun x hx => h x (List.mem_cons_of_mem _ hx)
    refine ⟨?_, ?_, ?_, ?_⟩
    · simp only [PyData.showableAll, hd.sh, a, Bool.and_self]
    · simp only [PyData.hasDictAll, hd.nd, b, Bool.or_self]
    · simp only [PyData.leavesShortAll, hd.ls, c, Bool.and_self]
    · simp only [PyData.weightAll, List.length_cons]
      have := hd.wt
      rw [Nat.add_mul, Nat.one_mul]
      omega
theorem fine_list {w n : Nat} {ds : List PyData} (h : ∀ d ∈ ds, Fine d w) (hn : ds.length ≤ n) : Fine (.list ds) (n * (w + 1)) := by
  obtain ⟨a, b, c, e⟩ := fine_all h
  refine ⟨by simp only [PyData.showable]; exact a, by simp only [PyData.hasDict]; exact b, by simp only [PyData.leavesShort]; exact c, ?_⟩
  simp only [PyData.weight]
  exact Nat.le_trans e (Nat.mul_le_mul_right _ hn)
theorem Fine.len {d : PyData} {w : Nat} (h : Fine d w) (hw : w ≤ 300000) : d.shown.length ≤ 12900041 := by
  have e := PyData.shown_le 41 (by decide) d h.ls
  have := h.wt
  omega
def rRepr (K : PySem.W.Frag) : List V → Hp → VK → Prop := fun vs H Q => ∃ x d, vs = [x] ∧ Dp K H x d ∧ d.showable = true ∧ d.hasDict = false ∧ d.depth ≤ 64 ∧ d.shown.length ≤ 12900041 ∧ Q (.str d.shown) H
section
variable {X : Cx} {K : PySem.W.Frag} {k : Nat}
theorem k_repr (hK : X.K = K) (hg : X.A.guards = some []) (hr : Room k X.A) : CallR X (.builtin "repr") (rRepr K) := by
  subst hK
  intro pins s σ H vs us Q I r h
  obtain ⟨x, d, rfl, hd, hs, hn, hdp, hz, q⟩ := h
  obtain ⟨u, rfl, ru⟩ := r.one
  obtain ⟨as, rd⟩ := Dp.reads I d x u hd ru
  have un := hr.un
  have line : (12900041 : Nat) ≤ sizeLine := by decide
  have go : ∀ h' t' tk, (∀ b o, s.heap.get? b = some o → h'.get? b = some o) → EP X pins σ Q (.str d.shown t') { s with heap := h', toks := tk } := fun h' t' tk hk => ⟨.str d.shown, H, I.kept hk, ⟨_, rfl⟩, q⟩
  cases hd with
  | non => cases ru; exact PySem.P.repr_of_none (go s.heap _ _ fun _ _ e => e)
  | bl b =>
    cases ru
    refine PySem.P.repr_of_bool ?_
    have := go s.heap s.toks (s.toks + 1) fun _ _ e => e
    simp only [PyData.shown] at this
    cases b <;> exact this
  | int i =>
    obtain ⟨t, rfl⟩ := ru
    simp only [PyData.showable, decide_eq_true_eq] at hs
    refine PySem.P.repr_of_int hs ?_
    have := go s.heap s.toks (s.toks + 1) fun _ _ e => e
    simp only [PyData.shown] at this
    exact this
  | str y =>
    obtain ⟨t, rfl⟩ := ru
    simp only [PyData.shown] at go hz
    exact PySem.P.repr_of_str (go s.heap _ _ fun _ _ e => e) (by omega)
  | lst a b =>
    cases ru
    exact repr_of_reads' rd hs (PyData.noDict_hsm hn) hg (by omega) (fun _ _ e => e) go (by omega)
  | tup a b =>
    cases ru
    exact repr_of_reads' rd hs (PyData.noDict_hsm hn) hg (by omega) (fun _ _ e => e) go (by omega)
theorem r_repr {H : Hp} {Q : VK} {x : V} {d : PyData} {w : Nat} (h : Dp K H x d) (f : Fine d w) (hw : w ≤ 300000) (hd : d.depth ≤ 64) (q : Q (.str d.shown) H) : rRepr K [x] H Q := ⟨x, d, rfl, h, f.sh, f.nd, hd, f.len hw, q⟩
theorem r_eqS {H : Hp} {Q : VK} {a b : Str} (q : Q (.bl (decide (a = b))) H) : rEq (.str a) (.str b) H Q := by
  refine ⟨rfl, ?_⟩
  have e : decide (V.str a = V.str b) = decide (a = b) := by rw [Bool.eq_iff_iff]; simp
  rw [e]
  exact q
theorem r_neS {H : Hp} {Q : VK} {a b : Str} (q : Q (.bl (!decide (a = b))) H) : rNe (.str a) (.str b) H Q := by
  refine ⟨rfl, ?_⟩
  have e : decide (V.str a = V.str b) = decide (a = b) := by rw [Bool.eq_iff_iff]; simp
  rw [e]
  exact q
end
section
variable {X : Cx} {k : Nat} {f C : Addr} {ps : List Str} {sp : Sp} {x m : Str} {p pos apos : Pos} {e o : Expr} {es : List Expr} {ta : TE} {t : TA} {Pre : Around → Shared → Prop}
theorem pg_call (G : OkP Pre X.prog X.w X.K X.mg X.base k f ps sp) (hp : ∀ s, Pre X.A s) (hr : Room k X.A) (hg : Gl X x) (hm : X.mg x = some (.ref f)) (hk : PySem.W.keepIn X.K (.ref f) = true)
    (ha : PA X (e :: es) t) (hdb : (x == ("__debug__" : Str)) = false := by decide) (he : starEach (e :: es) X.env = (false, eval e X.env) :: starEach es X.env := by rfl) (hpl : (backTo pos (starEach es X.env)).any (·.1) = false := by rfl) :
    PE X (.Call (.Name x p) (e :: es) [] pos) (tCall sp [] E0 t) := by
  refine ⟨fun pins s σ H Q I h => ?_⟩
  refine wpAny_Call_Name_kw (ld_glob I hg hm ?_ hdb)
  refine PySem.W.callWith_K (h₀ := X.base) I.ok.mod.kin hk (thn (ha.run pos pins s σ H _ I h) fun us s1 ⟨vs, H1, I1, r, q⟩ => ⟨I1.kIn, ?_⟩) he hpl
  replace q : sp (vs ++ []) H1 Q E0 := q
  rw [List.append_nil] at q
  exact run_pre G ⟨hr, rfl⟩ (hp s1) I1 r q
end
section
variable {P : Program} {w : World} {K : PySem.W.Frag} {mg mb : Str → Option Value} {k : Nat} {fa a : Addr} {x : Str} {sp : Sp} {st : Shared} {vs : List Value} {ns : List Int}
theorem head_at (kin : K.In st.heap) (gl : st.heap.Ns mainGlobals mg) (bl : st.heap.Ns builtinsNs mb) (bb : ∀ y : Str, y ≠ "__name__" → mb y = bootBuiltins y) (lim : st.heap.NoLimit) (gens : st.gens = #[])
    (obj : st.heap.get? a = some { cls := .type "list", data := .seq vs.toArray }) (room : Room k callerA) (F : ∀ base : Heap, K.In base → base.Ns mainGlobals mg → OkP NoG P w K mg base k fa [x] sp)
    (H : Hp) (only : Only H) (hsp : sp [.ref a] H (fun v _ => v = .bl true) E0) (ok : HOk P w H st.heap) (one : ∀ b, H b ≠ none → b = a) (own : H a ≠ none → K.lookup a = none) :
    codeAny (model P w) callerA (.call (.ref fa) ⟨[.ref a], []⟩) (fun r s' => r = .ok (.ret (.bool true)) ∧ OldK st.heap s'.heap ∧ s'.os = st.os ∧ AllBare s'.gens) st := by
  have below : ∀ {b : Addr} {ob : Obj}, st.heap.get? b = some ob → H b = none → (hidT st.heap H).get? b = some ob := fun g n => hidT_get g n
  have plain : ∀ {b : Addr} {ob : Obj} {es : Array DictEntry} {ep : Nat}, st.heap.get? b = some ob → ob.data = .dict es ep → H b = none := by
    intro b ob es ep g hd
    by_cases hb : H b = none
    · exact hb
    · obtain rfl := one b hb
      rw [obj] at g
      cases g
      exact absurd (show Data.seq vs.toArray _ = Data.dict es ep from hd) (fun z => by cases z)
  have names : ∀ {b : Addr} {m : Str → Option Value}, st.heap.Ns b m → (hidT st.heap H).Ns b m := fun {b m} ⟨ob, es, ep, g, hd, r⟩ => ⟨ob, es, ep, below g (plain g hd), hd, r⟩
  have kinB : K.In (hidT st.heap H) := fun b ob g => below (kin b ob g) (by
    by_cases hb : H b = none
    · exact hb
    · obtain rfl := one b hb
      rw [own hb] at g
      cases g)
  have md : Mod K mg (hidT st.heap H) := ⟨kinB, names gl, ⟨mb, names bl, bb⟩, let ⟨mc, h1, h2⟩ := lim; ⟨mc, names h1, h2⟩⟩
  have env : Env0 P w K mg (hidT st.heap H) callerA [] st H := ⟨rfl, md, fun b ob g => of_hidT g, Nat.le_of_eq (hidT_size _ _), trivial, fun b hb => absurd (show b ∈ ([] : List Addr) from hb) (by simp), ok, .of_eq gens⟩
  obtain ⟨fd, bd, _, run⟩ := F _ kinB (names gl)
  have bnd := bd st [.ref a] kin rfl
  refine codeAny_mono (run callerA [] st H ⟨[.ref a], []⟩ [.ref a] [.ref a] _ _ rfl room env bnd (.cons rfl .nil) hsp) fun r s' h => ?_
  cases r with
  | error e => exact False.elim h
  | ok fl =>
    cases fl with
    | next => exact False.elim h
    | brk => exact False.elim h
    | cont => exact False.elim h
    | ret u =>
      obtain ⟨v, H', os, bare, un, ok', rel, rfl⟩ := h
      obtain rfl : u = Value.bool true := rel
      refine ⟨rfl, OldK.of_keep fun b ob g => ?_, os, bare⟩
      rcases only b with z | ⟨o2, zs, z⟩
      · exact un.keep b ob g z (by intro y; exact absurd (show b ∈ ([] : List Addr) from y) (by simp)) (by simp)
      · obtain ⟨g1, _⟩ := ok b _ z
        obtain ⟨g2, _⟩ := ok' b _ (un.frzs b o2 _ z)
        rw [g] at g1
        cases g1
        exact g2
theorem head_law (kin : K.In st.heap) (gl : st.heap.Ns mainGlobals mg) (bl : st.heap.Ns builtinsNs mb) (bb : ∀ y : Str, y ≠ "__name__" → mb y = bootBuiltins y) (lim : st.heap.NoLimit) (gens : st.gens = #[])
    (obj : st.heap.get? a = some { cls := .type "list", data := .seq vs.toArray }) (inn : IntsAre vs ns) (ln : ns.length ≤ sizeLine) (room : Room k callerA) (F : ∀ base : Heap, K.In base → base.Ns mainGlobals mg → OkP NoG P w K mg base k fa [x] sp)
    (hsp : ∀ H : Hp, SqL K H a (ns.map V.int) → sp [.ref a] H (fun v _ => v = .bl true) E0) :
    codeAny (model P w) callerA (.call (.ref fa) ⟨[.ref a], []⟩) (fun r s' => r = .ok (.ret (.bool true)) ∧ OldK st.heap s'.heap ∧ s'.os = st.os ∧ AllBare s'.gens) st := by
  have rel := vals_ints inn
  have sz := inn.length
  cases hk : K.lookup a with
  | some ob =>
    have g := kin a ob hk
    rw [obj] at g
    cases g
    refine head_at kin gl bl bb lim gens obj room F (fun _ => none) (fun _ => .inl rfl) (hsp _ (.inr ⟨_, vs.toArray, _, hk, rfl, rfl, rfl, by rw [List.size_toArray, sz]; exact ln, by simpa using rel⟩)) (fun b u z => ?_) (fun b z => absurd rfl z) fun z => absurd rfl z
    exact absurd (show (none : Option HO) = some u from z) (by simp)
  | none =>
    have e : ∀ b, (upd (fun _ => none) a (.frz { cls := .type "list", data := .seq vs.toArray } (.lst (ns.map V.int)))) b = if b = a then some (.frz { cls := .type "list", data := .seq vs.toArray } (.lst (ns.map V.int))) else none := fun b => by
      by_cases hb : b = a
      · rw [if_pos hb, hb, upd_same]
      · rw [if_neg hb, upd_ne hb]
    refine head_at kin gl bl bb lim gens obj room F (upd (fun _ => none) a (.frz { cls := .type "list", data := .seq vs.toArray } (.lst (ns.map V.int)))) (fun b => ?_) (hsp _ (.inl (.inr ⟨_, upd_same⟩))) (fun b u z => ?_) (fun b z => ?_) fun _ => hk
    · by_cases hb : b = a
      · exact .inr ⟨_, _, by rw [hb, upd_same]⟩
      · exact .inl (by rw [upd_ne hb])
    · by_cases hb : b = a
      · subst hb
        rw [upd_same] at z
        cases z
        exact ⟨obj, by rw [List.length_map]; exact ln, vs, _, rel, obj⟩
      · rw [upd_ne hb] at z
        cases z
    · by_cases hb : b = a
      · exact hb
      · exact absurd (by rw [upd_ne hb]) z
end
end Hn
namespace Hn
open PySem PySem.Spec PyProof.Rows L2 Evl
structure SMet (K : PySem.W.Frag) (C : Addr) (mc : Value) (m : Str) (p g : Addr) : Prop where
  rd : PySem.W.readsIn K C mc = true
  ga : PySem.W.specialIn K (.ref C) "__getattribute__" = some (some (.builtin "type.__getattribute__"))
  at_ : PySem.W.findCls K (.ref C) mc m = some (.get (.builtin "staticmethod.__get__") (.ref p) .none (.ref C))
  rc : ∃ rest, PySem.W.recIn K p "staticmethod" = some (.ref g :: rest)
def tSMeth (C : Addr) (sp : Sp) (ta : TE) (t : TA) : TE := fun σ H Q => ta σ H fun x H1 => x = .ref C ∧ t σ H1 fun vs H2 => sp vs H2 Q E0
section
variable {X : Cx} {k : Nat} {C p g : Addr} {mc : Value} {ps : List Str} {sp : Sp} {o e : Expr} {es : List Expr} {m : Str} {pos apos : Pos} {ta : TE} {t : TA} {pl : Sem Bool}
theorem pe_static (he : PE X o ta) (c : SMet X.K C mc m p g) (hk : PySem.W.keepIn X.K (.ref g) = true) (G : Okf X.prog X.w X.K X.mg X.base k g ps sp) (hr : Room k X.A) (ha : PA X (e :: es) t)
    (hst : starEach (e :: es) X.env = (false, eval e X.env) :: starEach es X.env := by rfl) (hpl : (backTo pos (starEach es X.env)).any (·.1) = false := by rfl)
    (ht : eval (.Call (.Attribute o m apos) (e :: es) [] pos) X.env = (do
      let ov ← eval o X.env
      standAt apos.atName
      let (f, first) ← holding [ov] (getMethod ov m pl)
      callWith pos f first (backTo pos (starEach (e :: es) X.env)) (backToKw pos (keywordEach [] X.env))) := by rfl) :
    PE X (.Call (.Attribute o m apos) (e :: es) [] pos) (tSMeth C sp ta t) := by
  refine ⟨fun pins s σ H Q I h => ?_⟩
  refine PySem.W.methodCall_KW (pl := pl) (thn (he.run pins s σ H _ I h) fun u s1 ⟨x, H1, I1, rx, ex, q⟩ => ?_) ht
  subst ex
  obtain rfl : u = Value.ref C := rx
  obtain ⟨rest, hp⟩ := c.rc
  refine PySem.W.method_cls I1.kIn c.ga (PySem.W.cls_bind I1.kIn c.rd c.at_ (wpAny_call (PySem.W.sm_get (s := { s1 with toks := s1.toks + 1 }) I1.kIn hp (PySem.W.handed_on rfl ?_))))
  have I2 : Inv X pins σ H1 { s1 with toks := s1.toks + 1 } := I1.tok _
  refine PySem.W.callWith_K (h₀ := X.base) I2.ok.mod.kin hk (thn (ha.run pos pins _ σ H1 _ I2 q) fun us s3 ⟨vs, H2, I3, rv, q2⟩ => ⟨I3.kIn, ?_⟩) hst hpl
  exact run_sub G ⟨hr, rfl⟩ I3 rv q2
end
section
variable {σ : L2.St} {H : Hp} {Q : VK} {C : Addr} {sp : Sp} {ta : TE} {ar : TA} {x : V}
theorem r_smeth (h : ta σ H fun x H1 => x = .ref C ∧ ar σ H1 fun vs H2 => sp vs H2 Q E0) : tSMeth C sp ta ar σ H Q := h
theorem r_isC {p : Prop} (h : p) : V.ref C = .ref C ∧ p := ⟨rfl, h⟩
theorem r_lstRg {te : L2.St → Hp → (Int → Int → Hp → Prop) → Prop} (h : te σ H fun a b H1 => RgOk a b ∧ ∀ q, H1 q = none → Q (.ref q) (upd H1 q (.lst (rgV a b)))) : tLstRg te σ H Q := h
theorem r_rg1 {q : Int → Int → Hp → Prop} (h : ta σ H fun x H1 => ∃ n, x = .int n ∧ q 0 n H1) : tRg1 ta σ H q := h
end
section
variable {K : PySem.W.Frag} {C : Addr} {H : Hp} {v w : V} {s t : List Int} {sp : Sp} {E : XK} {Q : VK}
end
end Hn
namespace Hn
open PySem PySem.Spec PyProof.Rows L2 Evl
def iOwn (K : PySem.W.Frag) (C : Addr) (spI : Nat → Sp) (tl : TE) : TI := fun σ H R => tl σ H fun x H1 => ∃ a dx fs xs, x = .ref a ∧ H1 a = some (.ins C dx fs) ∧
  (∀ n Q', (∀ l it, SqT K H1 l xs → H1 it = none → n ≤ it → Q' (.ref it) (upd H1 it (ItT l it))) → spI n [.ref a] H1 Q' E0) ∧ ∀ l, SqT K H1 l xs → R (Itt K l) H1
section
variable {X : Cx} {K : PySem.W.Frag} {k : Nat} {C fi : Addr} {psI : List Str} {spI : Nat → Sp} {tg l : Expr} {tl : TE}
end
section
variable {K : PySem.W.Frag} {C : Addr} {spI : Nat → Sp} {σ : L2.St} {H : Hp} {te : TE} {R : It → Hp → Prop}
theorem r_iOwn (h : te σ H fun x H1 => ∃ a dx fs xs, x = .ref a ∧ H1 a = some (.ins C dx fs) ∧ (∀ n Q', (∀ l it, SqT K H1 l xs → H1 it = none → n ≤ it → Q' (.ref it) (upd H1 it (ItT l it))) → spI n [.ref a] H1 Q' E0) ∧ ∀ l, SqT K H1 l xs → R (Itt K l) H1) : iOwn K C spI te σ H R := h
end
section
variable {X : Cx} {K : PySem.W.Frag} {k : Nat} {C f : Addr} {ps : List Str} {sp : Sp}
end
theorem r_break {D : Ends} {σ : L2.St} {H : Hp} (h : D.bk σ H) : tBreak D σ H := h
theorem r_cont {D : Ends} {σ : L2.St} {H : Hp} (h : D.ct σ H) : tCont D σ H := h
end Hn
namespace Hn
open PySem PySem.Spec PyProof.Rows L2 Evl
section
variable {K : PySem.W.Frag} {C : Addr} {fld : Str} {H H' : Hp} {v : V} {s : List Int} {a b : Addr} {xs : List V} {o : HO}
theorem mv_bag (h : Bag H b) (e : Xl H H') : Bag H' b := h.mono e
theorem mv_clk (h : Clk K C H v s) (e : Xl H H') : Clk K C H' v s := h.mono e
theorem mv_rw (h : Rw K C fld H v s) (e : Xl H H') : Rw K C fld H' v s := h.mono e
theorem mv_at (h : H a = some o) (e : Ex H H') : H' a = some o := e _ _ h
theorem mv_sqL (h : SqL K H a xs) (e : Ex H H') : SqL K H' a xs := ex_l e h
theorem mv_sqT (h : SqT K H a xs) (e : Ex H H') : SqT K H' a xs := ex_t e h
theorem at_sqL (h : H a = some (.lst xs)) : SqL K H a xs := .inl (.inl h)
theorem at_sqT (h : H a = some (.tup xs)) : SqT K H a xs := .inl (.inl h)
theorem sqL_sq (h : SqL K H a xs) : Sq K H a xs := .inl h
theorem sqT_sq (h : SqT K H a xs) : Sq K H a xs := .inr h
end
def Pile (H : Hp) (D : Addr) (rs : List (List V)) : Prop := ∃ ys : List V, H D = some (.lst ys) ∧ ys.length = rs.length ∧ ∀ (i : Nat) y, ys[i]? = some y → ∃ p, y = .ref p ∧ p ≠ D ∧ H p = some (.lst (rs.getD i []))
theorem Pile.nil {H : Hp} {D : Addr} (h : H D = some (.lst [])) : Pile H D [] := ⟨[], h, rfl, fun i y z => by simp at z⟩
theorem Pile.ex {H H' : Hp} {D : Addr} {rs : List (List V)} (e : Ex H H') (h : Pile H D rs) : Pile H' D rs :=
  let ⟨ys, h1, h2, h3⟩ := h
  ⟨ys, e _ _ h1, h2, fun i y hy => let ⟨p, hp, n, q⟩ := h3 i y hy; ⟨p, hp, n, e _ _ q⟩⟩
theorem Pile.push {H : Hp} {D q : Addr} {rs : List (List V)} {ys xs : List V} (h : Pile H D rs) (hD : H D = some (.lst ys)) (hq : H q = some (.lst xs)) (hn : q ≠ D) : Pile (upd H D (.lst (ys ++ [.ref q]))) D (rs ++ [xs]) := by
  obtain ⟨zs, h1, h2, h3⟩ := h
  rw [hD] at h1
  cases h1
  refine ⟨_, upd_same, by rw [List.length_append, List.length_append, h2]; rfl, fun i y hy => ?_⟩
  by_cases hi : i < ys.length
  · rw [List.getElem?_append_left hi] at hy
    obtain ⟨p, hp, n, e⟩ := h3 i y hy
    refine ⟨p, hp, n, ?_⟩
    rw [upd_ne n, e, List.getD_eq_getElem?_getD, List.getD_eq_getElem?_getD, List.getElem?_append_left (by omega)]
  · have hi2 : i = ys.length := by
      have := (List.getElem?_eq_some_iff.mp hy).1
      rw [List.length_append, List.length_singleton] at this
      omega
    subst hi2
    rw [List.getElem?_append_right (Nat.le_refl _), Nat.sub_self] at hy
    cases hy
    refine ⟨q, rfl, hn, ?_⟩
    rw [upd_ne hn, hq, List.getD_eq_getElem?_getD, List.getElem?_append_right (by omega), h2, Nat.sub_self]
    rfl
theorem Pile.hd {K : PySem.W.Frag} {H : Hp} {D : Addr} {us : List (List Int)} (h : Pile H D (us.map fun r => r.map V.int)) : Hd K H (.ref D) us := by
  obtain ⟨ys, h1, h2, h3⟩ := h
  rw [List.length_map] at h2
  refine hd_list (.inl (.inl h1)) (hda_ix h2 fun i v u hv hu => ?_)
  obtain ⟨p, rfl, _, hp⟩ := h3 i v hv
  rw [List.getD_eq_getElem?_getD, List.getElem?_map, hu] at hp
  exact hd_ints (.inl (.inl hp))
section
variable {K : PySem.W.Frag} {C : Addr} {fld : Str} {H H' : Hp} {v w : V} {s : List Int} {a b : Addr} {xs : List V} {Q : VK} {sp : Sp}
end
theorem line_le {n : Nat} (h : n ≤ 1000) : n ≤ sizeLine := by
  have : (1000 : Nat) ≤ sizeLine := by decide
  omega
theorem getD_mem' {s : List Int} {j : Nat} (h : j < s.length) : s.getD j 0 ∈ s := by
  rw [List.getD_eq_getElem?_getD, List.getElem?_eq_getElem h]
  exact List.getElem_mem h
theorem mv_sq {K : PySem.W.Frag} {H H' : Hp} {a : Addr} {xs : List V} (h : Sq K H a xs) (e : Ex H H') : Sq K H' a xs := h.mono e
end Hn
namespace Hn
open PySem PySem.Spec PyProof.Rows L2 Evl RZ
section
variable {X : Cx} {K : PySem.W.Frag}
end
theorem r_iZipA {K : PySem.W.Frag} {ar : TA} {σ : L2.St} {H : Hp} {R : It → Hp → Prop} (h : ar σ H fun vs H1 => ∃ a b xs ys, vs = [.ref a, .ref b] ∧ ((SqL K H1 a xs ∧ SqL K H1 b ys ∧ R (Itz K a b) H1) ∨ (SqT K H1 a xs ∧ SqT K H1 b ys ∧ R (ItzT K a b) H1))) : iZipA K ar σ H R := h
theorem Sg_succ (n : Nat) (f : Int → Int) : Sg (n + 1) f = Sg n f + f (n : Int) := rfl
theorem Sg_nn {n : Nat} {f : Int → Int} (h : ∀ j : Nat, j < n → 0 ≤ f j) : 0 ≤ Sg n f := by
  induction n with
  | zero => exact Int.le_refl _
  | succ n ih =>
    rw [Sg_succ]
    have := ih fun j hj => h j (by omega)
    have := h n (by omega)
    omega
theorem ixN_nat {n j : Nat} (h : j < n) : ixN n (j : Int) = some j := by
  unfold ixN
  rw [if_pos (by omega)]
  simp [h]
theorem cut_init {xs : List V} (h : 1 ≤ xs.length) : cutV xs none (some (-1)) = xs.take (xs.length - 1) := by
  unfold cutV
  have e : HT.sIx xs.length xs.length (some (-1)) = xs.length - 1 := by
    unfold HT.sIx
    simp only [Option.elim]
    first
      | omega
      | (simp; omega)
  rw [HT.sIx_none, e, List.drop_zero, Nat.sub_zero]
end Hn
namespace Hn
open PySem PySem.Spec PyProof.Rows L2 Evl
def byS (n : Nat) (A : Int → Int) : List Int := rowOf n fun i => A (i + 1) - A i
theorem byS_length (n : Nat) (A : Int → Int) : (byS n A).length = n := rowOf_length _ _
def mono (n : Nat) (A : Int → Int) : Prop := ∀ j : Nat, j < n → A j ≤ A ((j : Int) + 1)
theorem mono_of {n : Nat} {A : Int → Int} (g : GoodN (byS n A)) : mono n A := fun j hj => by
  have := g.mem _ (getD_mem' (s := byS n A) (j := j) (by rw [byS_length]; exact hj))
  unfold byS at this
  rw [rowOf_getD _ hj] at this
  show A j ≤ A ((j : Int) + 1)
  have h : 0 ≤ A ((j : Int) + 1) - A j := this
  omega
def Ps (K : PySem.W.Frag) (C : Addr) (H : Hp) (v : V) (n : Nat) (P : Int) (A : Int → Int) : Prop := Rw K C "kept_begins" H v (byS n A) ∧ A 0 = 0 ∧ A (n : Int) = P
section
variable {K : PySem.W.Frag} {C : Addr} {H H' : Hp} {v w : V} {n : Nat} {P : Int} {A B : Int → Int}
theorem mv_ps (h : Ps K C H v n P A) (e : Xl H H') : Ps K C H' v n P A := ⟨h.1.mono e, h.2⟩
theorem Ps.good (h : Ps K C H v n P A) : GoodN (byS n A) := h.1.good
theorem Ps.mono (h : Ps K C H v n P A) : mono n A := mono_of h.1.good
theorem Ps.ne (h : Ps K C H v n P A) : 1 ≤ n := by
  have := h.1.good.ne
  rw [byS_length] at this
  exact this
theorem Ps.le (h : Ps K C H v n P A) : n ≤ 48 := by
  have := h.1.good.le
  rw [byS_length] at this
  exact this
end
theorem at_lastL {α : Type} {xs : List α} {n : Nat} {v : α} (h : xs[n]? = some v) (hl : xs.length = n + 1) : atI xs (-1) = some v := by
  have e : xs = xs.take n ++ [v] := by
    have := List.take_append_drop n xs
    conv => lhs; rw [← this]
    congr 1
    rw [List.drop_eq_getElem_cons (by omega), List.drop_of_length_le (by omega)]
    rw [List.getElem?_eq_getElem (by omega)] at h
    rw [Option.some.inj h]
  rw [e]
  exact atI_last _ _
theorem ps_rw {K : PySem.W.Frag} {C : Addr} {H : Hp} {v : V} {n : Nat} {P : Int} {A : Int → Int} (h : Ps K C H v n P A) : Rw K C "kept_begins" H v (byS n A) := h.1
section
variable {J : It} {n : Nat} {G : Hp → Prop} {Y : Nat → Hp → V → Hp → Prop}
end
end Hn
namespace Hn
open PySem PySem.Spec PyProof.Rows L2 Evl
def thF (n : Nat) (s : List Int) (F : Int → Int) (h : Int) : Int := Sg n (fun b => if b < cyc s (h - b) then F (h - b) else 0)
theorem th_nn {n : Nat} {s : List Int} {F : Int → Int} (h : ∀ i, 0 ≤ F i) (t : Int) : 0 ≤ thF n s F t := Sg_nn fun j _ => by
  show 0 ≤ if (j : Int) < cyc s (t - j) then F (t - j) else 0
  split
  · exact h _
  · omega
def enough (n : Nat) (a b : Int → Int) : Bool := (List.range n).all fun (h : Nat) => decide (b (h : Int) ≤ a (h : Int))
theorem two_of {α : Type} {l : List α} (h : l.length = 2) : ∃ a b, l = [a, b] := by
  match l, h with
  | [a, b], _ => exact ⟨a, b, rfl⟩
theorem RowsP.two {H : Hp} {D : Addr} {P : Nat → List V → Prop} (h : RowsP H D 2 P) : ∃ p q xs ys, H D = some (.lst [.ref p, .ref q]) ∧ H p = some (.lst xs) ∧ H q = some (.lst ys) ∧ P 0 xs ∧ P 1 ys := by
  obtain ⟨zs, h1, h2, h3⟩ := h
  obtain ⟨a, b, rfl⟩ := two_of h2
  obtain ⟨p, xs, rfl, hp, px⟩ := h3 0 a rfl
  obtain ⟨q, ys, rfl, hq, py⟩ := h3 1 b rfl
  exact ⟨p, q, xs, ys, h1, hp, hq, px, py⟩
end Hn
namespace Hn
open PySem PySem.Spec PyProof.Rows L2 Evl
def ext (n : Nat) (P : Int) (A : Int → Int) (k : Int) : Int := A (k % (n : Int)) + k / (n : Int) * P
theorem ext_step {n : Nat} {P : Int} {A : Int → Int} (hn : 1 ≤ n) (h0 : A 0 = 0) (hP : A (n : Int) = P) (i : Int) : cyc (byS n A) i = ext n P A (i + 1) - ext n P A i := by
  unfold byS ext
  rw [cyc_rowOf _ hn]
  show A (i % (n : Int) + 1) - A (i % (n : Int)) = _
  have hm := mod_bd hn i
  have e := Int.emod_add_mul_ediv i (n : Int)
  generalize hq : i / (n : Int) = q at e
  generalize hr : i % (n : Int) = r at e hm
  by_cases c : r + 1 = (n : Int)
  · have e1 : i + 1 = (n : Int) * (q + 1) := by rw [Int.mul_add, Int.mul_one]; omega
    have e2 : (i + 1) % (n : Int) = 0 := by rw [e1]; exact Int.mul_emod_right _ _
    have e3 : (i + 1) / (n : Int) = q + 1 := by rw [e1]; exact Int.mul_ediv_cancel_left _ (by omega)
    rw [e2, e3, h0, c, hP, Int.add_mul, Int.one_mul]
    omega
  · have e1 : i + 1 = r + 1 + (n : Int) * q := by omega
    have e2 : (i + 1) % (n : Int) = r + 1 := by rw [e1, Int.add_mul_emod_self_left, Int.emod_eq_of_lt (by omega) (by omega)]
    have e3 : (i + 1) / (n : Int) = q := by rw [e1, Int.add_mul_ediv_left _ _ (by omega), Int.ediv_eq_zero_of_lt (by omega) (by omega)]; omega
    rw [e2, e3]
    omega
section
variable {s : List Int} {P : Int} {A B : Int → Int} {r : Int → Int}
end
end Hn
namespace Hn
open PySem PySem.Spec PyProof.Rows L2 Evl
def txI (i : Int) : Str := Str.ofString (toString i)
def Sml (x : Str) (n : Nat) : Prop := x.length ≤ n ∧ ∀ c ∈ x.cps.toList, c < 1114112
theorem Sml.mono {x : Str} {n m : Nat} (h : Sml x n) (e : n ≤ m) : Sml x m := ⟨Nat.le_trans h.1 e, h.2⟩
theorem sml_of (s : String) : ∀ c ∈ (Str.ofString s).cps.toList, c < 1114112 := fun c hc => by
  rw [Str.ofString_eq_toList] at hc
  obtain ⟨z, _, rfl⟩ := List.mem_map.mp hc
  have h : z.val.toNat < 0xd800 ∨ (0xdfff < z.val.toNat ∧ z.val.toNat < 0x110000) := z.valid
  show z.val.toNat < 1114112
  omega
theorem sml_str (s : String) {n : Nat} (h : (Str.ofString s).length ≤ n) : Sml (Str.ofString s) n := ⟨h, sml_of s⟩
theorem fine_txt {x : Str} {n : Nat} (h : Sml x n) : Fine (.str x) n :=
  ⟨rfl, rfl, by simp only [PyData.leavesShort]; exact List.all_eq_true.mpr fun c hc => decide_eq_true (Nat.lt_of_lt_of_le (h.2 c hc) (by decide)), by simp only [PyData.weight]; exact h.1⟩
theorem r_m1 {r : V → List V → Hp → VK → Prop} {to te : TE} {σ : L2.St} {H : Hp} {Q : VK} (h : to σ H fun x H1 => (∃ a, x = .str a) ∧ te σ H1 fun y H2 => r x [y] H2 Q) : tM1 r to te σ H Q := h
theorem r_isS {a : Str} {p : Prop} (h : p) : (∃ b, V.str a = .str b) ∧ p := ⟨⟨a, rfl⟩, h⟩
def Wy (H : Hp) (l : Addr) (ws : List (Str × Int)) : Prop := ∃ ts : List Addr, H l = some (.lst (ts.map V.ref)) ∧ ts.length = ws.length ∧ ∀ (j : Nat) t, ts[j]? = some t → ∃ w, ws[j]? = some w ∧ H t = some (.tup [.str w.1, .int w.2])
theorem Wy.ex {H H' : Hp} {l : Addr} {ws : List (Str × Int)} (e : Ex H H') (h : Wy H l ws) : Wy H' l ws :=
  let ⟨ts, h1, h2, h3⟩ := h
  ⟨ts, e _ _ h1, h2, fun j t ht => let ⟨w, a, b⟩ := h3 j t ht; ⟨w, a, e _ _ b⟩⟩
end Hn
namespace Hn
open PySem PySem.Spec PyProof.Rows L2 Evl
section
variable {J : It} {n : Nat} {G : Hp → Prop} {Y : Nat → Hp → V → Hp → Prop}
theorem lc_ints (w : Walk J n G Y) {g : TG} {te : TE} {vs : List Nat} {σ : L2.St} {H1 : Hp} {Q : VK} (P : Int → Prop) (hG : ∀ H, Ex H1 H → G H) (hn : n ≤ 100000)
    (turn : ∀ i x H H', i < n → Ex H1 H → Y i H x H' → ∀ k : VK, (∀ z H4, Ex H H4 → P z → k (.int z) H4) → g x (wipe σ vs) H' fun σ2 H2 => wipe σ2 vs = wipe σ vs ∧ te σ2 H2 k)
    (fin : ∀ D H (ns : List Int), H1 D = none → Ex H1 H → H D = some (.lst (ns.map V.int)) → ns.length = n → (∀ z ∈ ns, P z) → Q (.ref D) H) : LcTail J H1 g tYes te vs σ Q :=
  lc_val w (fun _ v => ∃ z : Int, P z ∧ v = .int z) hG hn (fun i x H H' hi e y k h => turn i x H H' hi e y k fun z H4 e4 pz => h _ _ e4 ⟨z, pz, rfl⟩) fun D H ys hD e hy hl hr => by
    obtain ⟨ms, hm, rfl⟩ : ∃ ms : List Int, (∀ z ∈ ms, P z) ∧ ys = ms.map V.int := ints_of fun v hv => by
      obtain ⟨i, hi, rfl⟩ := List.mem_iff_getElem.mp hv
      exact hr i _ (List.getElem?_eq_getElem hi)
    rw [List.length_map] at hl
    exact fin D H ms hD e hy hl hm
end
theorem good_of_mem {s : List Int} {n : Nat} (hl : s.length = n) (h1 : 1 ≤ n) (h8 : n ≤ 48) (h : ∀ z ∈ s, 0 ≤ z ∧ z < 10 ^ 30) : GoodN s :=
  ⟨by omega, by omega, fun i => (h _ (cyc_mem (by omega) i)).1⟩
theorem rep_map {n : Nat} {c : Int} : List.replicate n (V.int c) = (List.replicate n c).map V.int := by rw [List.map_replicate]
theorem rep_flat1 {x : V} : ∀ n : Nat, (List.replicate n [x]).flatten = List.replicate n x
  | 0 => rfl
  | n + 1 => by
    rw [List.replicate_succ, List.flatten_cons, rep_flat1 n, List.replicate_succ]
    rfl
theorem rep_in {n : Nat} {c : Int} {P : Int → Prop} (h : P c) : ∀ z ∈ List.replicate n c, P z := fun z hz => by
  rw [List.eq_of_mem_replicate hz]
  exact h
theorem div_in {z w : Int} (h0 : 0 ≤ z) (h1 : z < 10 ^ 30) (w1 : 1 ≤ w) : 0 ≤ z / w ∧ z / w < 10 ^ 30 := by
  have a := Int.ediv_nonneg h0 (by omega : 0 ≤ w)
  have b := Int.ediv_le_self w h0
  omega
theorem mul_in {a b : Int} (a0 : 0 ≤ a) (a1 : a < 9) (b0 : 0 ≤ b) (b1 : b < 2) : 0 ≤ a * b ∧ a * b < 10 ^ 30 := by
  have c0 := Int.mul_nonneg a0 b0
  have : a * b ≤ a * 2 := Int.mul_le_mul_of_nonneg_left (by omega) a0
  omega
end Hn
namespace Hn
open PySem PySem.Spec PyProof.Rows L2 Evl
section
variable {X : Cx} {K : PySem.W.Frag}
end
def DfK (K : PySem.W.Frag) (x qual : Str) (st : Stmt) (f : Addr) (ps : List Str) (n : Nat) (ks : List Str) : Prop := ∃ fd, Fun K x qual st f fd ∧ KBn K fd ps n ks (fun us ws => us ++ ws) (fun vs zs => vs ++ zs)
section
variable {P : Program} {w : World} {K : PySem.W.Frag} {mg : Str → Option Value} {base : Heap}
end
section
variable {X : Cx} {k n : Nat} {f C : Addr} {ps ks : List Str} {sp : Sp} {x : Str} {p pos : Pos} {e : Expr} {es : List Expr} {kws : List Keyword} {t tk : TA}
end
def OkO (rs : List (Option Int)) : Prop := ∀ r ∈ rs, ∀ i, r = some i → 0 ≤ i
def OkC (ks : List Int) : Prop := ∀ i ∈ ks, 0 ≤ i
structure GoodH (s ns : List Int) (rs : List (Option Int)) (ks : List Int) (ds : List (Option Int)) : Prop where
  cs : Good s
  cn : GoodN ns
  ln : ns.length = s.length
  lr : rs.length = s.length
  lk : ks.length = s.length
  ld : ds.length = s.length
  cr : OkO rs
  ck : OkC ks
  cd : OkO ds
end Hn
namespace Hn
open PySem PySem.Spec PyProof.Rows L2 Evl
def DfKm (K : PySem.W.Frag) (x qual : Str) (st : Stmt) (f : Addr) (ps : List Str) (n : Nat) (ks : List Str) (gV : List V → List V → List V) : Prop := ∃ fd g, Fun K x qual st f fd ∧ KBn K fd ps n ks g gV
section
variable {P : Program} {w : World} {K : PySem.W.Frag} {mg : Str → Option Value} {base : Heap}
theorem DfK.m {x qual : Str} {st : Stmt} {f : Addr} {ps : List Str} {n : Nat} {ks : List Str} (h : DfK K x qual st f ps n ks) : DfKm K x qual st f ps n ks fun vs zs => vs ++ zs :=
  let ⟨fd, a, b⟩ := h
  ⟨fd, _, a, b⟩
end
section
variable {X : Cx} {k n : Nat} {f C : Addr} {ps ks : List Str} {sp : Sp} {x x' qual : Str} {st : Stmt} {p pos : Pos} {e : Expr} {es : List Expr} {kws : List Keyword} {t tk : TA} {gV : List V → List V → List V}
end
set_option maxHeartbeats 4000000
end Hn
namespace Hn
structure Ed (S : Type) where
  f : Nat
  l : Nat
  t : Int
  v : Int
  s : S
section
variable {S : Type}
def gn (pa pb : Int) (e : Ed S) : Int := pb * e.v - pa * e.t
def upF {α : Type} (g : Nat → α) (i : Nat) (x : α) : Nat → α := fun j => if j = i then x else g j
theorem upF_same {α : Type} {g : Nat → α} {i : Nat} {x : α} : upF g i x i = x := if_pos rfl
theorem upF_ne {α : Type} {g : Nat → α} {i j : Nat} {x : α} (h : j ≠ i) : upF g i x j = g j := if_neg h
structure Sta (S : Type) where
  r : Nat → Option Int
  c : Nat → Option (Ed S)
  ch : Option Nat
def better (x : Int) : Option Int → Bool
  | none => true
  | some y => decide (x > y)
def relax (pa pb : Int) (q : Sta S) (e : Ed S) : Sta S :=
  match q.r e.f with
  | none => q
  | some x => if better (x + gn pa pb e) (q.r e.l) = true then ⟨upF q.r e.l (some (x + gn pa pb e)), upF q.c e.l (some e), some e.l⟩ else q
def pass (pa pb : Int) (es : List (Ed S)) (r : Nat → Option Int) (c : Nat → Option (Ed S)) : Sta S := es.foldl (relax pa pb) ⟨r, c, none⟩
theorem relax_none {pa pb : Int} {q : Sta S} {e : Ed S} (h : q.r e.f = none) : relax pa pb q e = q := by
  unfold relax
  rw [h]
theorem relax_some {pa pb : Int} {q : Sta S} {e : Ed S} {x : Int} (h : q.r e.f = some x) : relax pa pb q e = if better (x + gn pa pb e) (q.r e.l) = true then ⟨upF q.r e.l (some (x + gn pa pb e)), upF q.c e.l (some e), some e.l⟩ else q := by
  unfold relax
  rw [h]
end
section
variable {S : Type}
def prd (c : Nat → Option (Ed S)) (m : Nat) : Nat := match c m with
  | some e => e.f
  | none => m
def prdN (c : Nat → Option (Ed S)) : Nat → Nat → Nat
  | 0, m => m
  | k + 1, m => prd c (prdN c k m)
theorem prdN_add (c : Nat → Option (Ed S)) (j : Nat) (m : Nat) : ∀ k, prdN c (k + j) m = prdN c k (prdN c j m)
  | 0 => by rw [Nat.zero_add]; rfl
  | k + 1 => by
    rw [show k + 1 + j = (k + j) + 1 by omega]
    unfold prdN
    rw [prdN_add c j m k]
structure Inv (pa pb : Int) (es : List (Ed S)) (k i now : Nat) (R : Nat → Int) (c : Nat → Option (Ed S)) (tau lp : Nat → Nat) : Prop where
  i1 : ∀ v e, c v = some e → e ∈ es ∧ e.l = v ∧ R v ≤ R e.f + gn pa pb e ∧ (tau v ≤ tau e.f → R v < R e.f + gn pa pb e)
  i2 : ∀ v, 1 ≤ lp v → ∃ e, c v = some e
  i3 : ∀ v e, c v = some e → lp v ≤ lp e.f + 1
  i4 : ∀ e ∈ es, R e.l < R e.f + gn pa pb e → k ≤ lp e.f + 1
  i4' : ∀ e ∈ es.take i, R e.l < R e.f + gn pa pb e → k ≤ lp e.f
  i5 : ∀ v, lp v ≤ k ∧ tau v ≤ now
theorem Inv.step {pa pb : Int} {es : List (Ed S)} {k i now : Nat} {R : Nat → Int} {c : Nat → Option (Ed S)} {tau lp : Nat → Nat} (I : Inv pa pb es k i now R c tau lp) {e : Ed S} (he : es[i]? = some e) :
    (R e.f + gn pa pb e > R e.l → Inv pa pb es k (i + 1) (now + 1) (upF R e.l (R e.f + gn pa pb e)) (upF c e.l (some e)) (upF tau e.l (now + 1)) (upF lp e.l k)) ∧ (¬ R e.f + gn pa pb e > R e.l → Inv pa pb es k (i + 1) now R c tau lp) := by
  have hm : e ∈ es := List.mem_of_getElem? he
  have ht : es.take (i + 1) = es.take i ++ [e] := by
    rw [List.take_add_one, he]
    rfl
  refine ⟨fun hb => ?_, fun hb => ?_⟩
  · have hl4 := I.i4 e hm (by omega)
    refine ⟨fun v e' hv => ?_, fun v hv => ?_, fun v e' hv => ?_, fun e' he' hv => ?_, fun e' he' hv => ?_, fun v => ?_⟩
    · by_cases q : v = e.l
      · subst q
        rw [upF_same] at hv
        cases hv
        refine ⟨hm, rfl, ?_, ?_⟩
        · rw [upF_same]
          by_cases z : e.f = e.l
          · rw [z, upF_same]
            rw [z] at hb
            omega
          · rw [upF_ne z]
            omega
        · intro hle
          rw [upF_same]
          by_cases z : e.f = e.l
          · rw [z, upF_same]
            rw [z] at hb
            omega
          · rw [upF_same, upF_ne z] at hle
            have := (I.i5 e.f).2
            omega
      · rw [upF_ne q] at hv
        obtain ⟨h1, h2, h3, h4⟩ := I.i1 v e' hv
        refine ⟨h1, h2, ?_, ?_⟩
        · rw [upF_ne q]
          by_cases z : e'.f = e.l
          · rw [z, upF_same]
            rw [z] at h3
            omega
          · rw [upF_ne z]
            exact h3
        · rw [upF_ne q, upF_ne q]
          by_cases z : e'.f = e.l
          · intro _
            rw [z, upF_same]
            rw [z] at h3
            omega
          · rw [upF_ne z, upF_ne z]
            exact h4
    · by_cases q : v = e.l
      · subst q
        exact ⟨e, upF_same⟩
      · rw [upF_ne q] at hv ⊢
        exact I.i2 v hv
    · by_cases q : v = e.l
      · subst q
        rw [upF_same] at hv ⊢
        cases hv
        by_cases z : e.f = e.l
        · rw [z, upF_same]
          omega
        · rw [upF_ne z]
          omega
      · rw [upF_ne q] at hv ⊢
        have h3 := I.i3 v e' hv
        by_cases z : e'.f = e.l
        · rw [z, upF_same]
          have := (I.i5 v).1
          omega
        · rw [upF_ne z]
          exact h3
    · by_cases z : e'.f = e.l
      · rw [z, upF_same]
        omega
      · rw [upF_ne z] at hv ⊢
        refine I.i4 e' he' ?_
        by_cases q : e'.l = e.l
        · rw [q, upF_same] at hv
          rw [q]
          omega
        · rw [upF_ne q] at hv
          exact hv
    · by_cases z : e'.f = e.l
      · rw [z, upF_same]
        omega
      · rw [upF_ne z] at hv ⊢
        rw [ht] at he'
        rcases List.mem_append.mp he' with he' | he'
        · refine I.i4' e' he' ?_
          by_cases q : e'.l = e.l
          · rw [q, upF_same] at hv
            rw [q]
            omega
          · rw [upF_ne q] at hv
            exact hv
        · rw [List.mem_singleton.mp he', upF_same] at hv
          omega
    · by_cases q : v = e.l
      · subst q
        rw [upF_same, upF_same]
        omega
      · rw [upF_ne q, upF_ne q]
        have := I.i5 v
        omega
  · refine ⟨I.i1, I.i2, I.i3, I.i4, fun e' he' hv => ?_, I.i5⟩
    rw [ht] at he'
    rcases List.mem_append.mp he' with he' | he'
    · exact I.i4' e' he' hv
    · rw [List.mem_singleton.mp he'] at hv
      omega
theorem Inv.fold {pa pb : Int} {es : List (Ed S)} {k : Nat} : ∀ (fs : List (Ed S)) (i now : Nat) (R : Nat → Int) (c : Nat → Option (Ed S)) (tau lp : Nat → Nat) (ch : Option Nat), es.drop i = fs → Inv pa pb es k i now R c tau lp → (∀ m, ch = some m → lp m = k) →
    ∃ now' R' c' tau' lp' ch', fs.foldl (relax pa pb) ⟨fun v => some (R v), c, ch⟩ = ⟨fun v => some (R' v), c', ch'⟩ ∧ Inv pa pb es k es.length now' R' c' tau' lp' ∧ ∀ m, ch' = some m → lp' m = k
  | [], i, now, R, c, tau, lp, ch, hd, I, hc => by
    have hi : es.length ≤ i := List.drop_eq_nil_iff.mp hd
    have : es.take es.length = es.take i := by rw [List.take_of_length_le hi, List.take_length]
    exact ⟨now, R, c, tau, lp, ch, rfl, ⟨I.i1, I.i2, I.i3, I.i4, by rw [this]; exact I.i4', I.i5⟩, hc⟩
  | e :: fs, i, now, R, c, tau, lp, ch, hd, I, hc => by
    have he : es[i]? = some e := by
      have := congrArg (fun l => l[0]?) hd
      simpa using this
    have hd' : es.drop (i + 1) = fs := by
      rw [← List.tail_drop, hd]
      rfl
    have st := I.step he
    rw [List.foldl_cons, relax_some (x := R e.f) rfl]
    by_cases hb : R e.f + gn pa pb e > R e.l
    · rw [if_pos (by show decide _ = true; exact decide_eq_true hb)]
      have hq : (upF (fun v => some (R v)) e.l (some (R e.f + gn pa pb e)) : Nat → Option Int) = fun v => some (upF R e.l (R e.f + gn pa pb e) v) := by
        funext v
        unfold upF
        split <;> rfl
      show ∃ now' R' c' tau' lp' ch', fs.foldl (relax pa pb) ⟨upF (fun v => some (R v)) e.l (some (R e.f + gn pa pb e)), upF c e.l (some e), some e.l⟩ = _ ∧ _
      rw [hq]
      refine Inv.fold fs (i + 1) (now + 1) _ _ _ _ _ hd' (st.1 hb) fun m hm => ?_
      cases hm
      exact upF_same
    · rw [if_neg (by show ¬ decide _ = true; rw [decide_eq_false hb]; intro z; cases z)]
      exact Inv.fold fs (i + 1) now _ _ _ _ _ hd' (st.2 hb) hc
theorem Inv.pass {pa pb : Int} {es : List (Ed S)} {k now : Nat} {R : Nat → Int} {c : Nat → Option (Ed S)} {tau lp : Nat → Nat} (I : Inv pa pb es k es.length now R c tau lp) :
    ∃ now' R' c' tau' lp' ch', Hn.pass pa pb es (fun v => some (R v)) c = ⟨fun v => some (R' v), c', ch'⟩ ∧ Inv pa pb es (k + 1) es.length now' R' c' tau' lp' ∧ ∀ m, ch' = some m → lp' m = k + 1 :=
  Inv.fold es 0 now R c tau lp none rfl ⟨I.i1, I.i2, I.i3, fun e he h => by
    have := I.i4' e (by rw [List.take_length]; exact he) h
    omega, (fun e he => nomatch he), fun v => by have := I.i5 v; omega⟩ fun _ h => nomatch h
theorem Inv.start {pa pb : Int} {es : List (Ed S)} : Inv pa pb es 0 es.length 0 (fun _ => 0) (fun _ => none) (fun _ => 0) (fun _ => 0) :=
  ⟨(fun _ _ h => nomatch h), fun _ h => absurd h (by omega), (fun _ _ h => nomatch h), fun _ _ _ => by omega, fun _ _ _ => by omega, fun _ => by omega⟩
def Wk : Nat → List (Ed S) → Nat → Prop
  | a, [], b => a = b
  | a, e :: w, b => e.f = a ∧ Wk e.l w b
theorem Wk.append : ∀ {u w : List (Ed S)} {a b c : Nat}, Wk a u b → Wk b w c → Wk a (u ++ w) c
  | [], w, a, b, c, h, h' => by
    have h : a = b := h
    rw [h]
    exact h'
  | e :: u, w, a, b, c, h, h' => ⟨h.1, Wk.append h.2 h'⟩
def tn (w : List (Ed S)) : Int := (w.map (·.t)).sum
def wo (w : List (Ed S)) : Int := (w.map (·.v)).sum
theorem gn_sum (pa pb : Int) : ∀ w : List (Ed S), (w.map (gn pa pb)).sum = pb * wo w - pa * tn w
  | [] => by
    show (0 : Int) = pb * 0 - pa * 0
    rw [Int.mul_zero, Int.mul_zero]
    rfl
  | e :: w => by
    have := gn_sum pa pb w
    unfold wo tn at *
    rw [List.map_cons, List.sum_cons, this, List.map_cons, List.sum_cons, List.map_cons, List.sum_cons, Int.mul_add, Int.mul_add]
    unfold gn
    omega
theorem pot_sum {pa pb : Int} {X : Nat → Int} : ∀ {w : List (Ed S)} {a b : Nat}, Wk a w b → (∀ e ∈ w, X e.f + gn pa pb e ≤ X e.l) → (w.map (gn pa pb)).sum ≤ X b - X a
  | [], a, b, h, _ => by
    have h : a = b := h
    rw [h]
    show (0 : Int) ≤ X b - X b
    omega
  | e :: w, a, b, h, hp => by
    have h1 := pot_sum h.2 fun e' he' => hp e' (List.mem_cons_of_mem _ he')
    have h2 := hp e List.mem_cons_self
    have h3 := h.1
    rw [List.map_cons, List.sum_cons, ← h3]
    omega
structure Loop (pa pb : Int) (es : List (Ed S)) (n : Nat) (w : List (Ed S)) : Prop where
  ne : w ≠ []
  mem : ∀ e ∈ w, e ∈ es
  len : w.length ≤ n
  wk : ∃ a, Wk a w a
  gain : 0 < (w.map (gn pa pb)).sum
theorem pigeon : ∀ (n : Nat) (g : Nat → Nat), (∀ i, i ≤ n → g i < n) → ∃ i j, i < j ∧ j ≤ n ∧ g i = g j
  | 0, g, h => absurd (h 0 (Nat.le_refl 0)) (Nat.not_lt_zero _)
  | n + 1, g, h => by
    by_cases q : ∃ i, i ≤ n ∧ g i = g (n + 1)
    · obtain ⟨i, hi, e⟩ := q
      exact ⟨i, n + 1, by omega, Nat.le_refl _, e⟩
    · have q' : ∀ i, i ≤ n → g i ≠ g (n + 1) := fun i hi e => q ⟨i, hi, e⟩
      obtain ⟨i, j, h1, h2, h3⟩ := pigeon n (fun i => if g i = n then g (n + 1) else g i) fun i hi => by
        have a := h i (by omega)
        have b := h (n + 1) (Nat.le_refl _)
        have d := q' i hi
        show (if g i = n then g (n + 1) else g i) < n
        split <;> omega
      have a := q' i (by omega)
      have b := q' j (by omega)
      refine ⟨i, j, h1, by omega, ?_⟩
      have h3 : (if g i = n then g (n + 1) else g i) = (if g j = n then g (n + 1) else g j) := h3
      split at h3 <;> split at h3 <;> omega
structure Ring (c : Nat → Option (Ed S)) (n m : Nat) : Prop where
  al : ∀ i, ∃ e, c (prdN c i m) = some e ∧ prdN c i m < n
  ag : ∃ p, 1 ≤ p ∧ p ≤ n ∧ prdN c (n + p) m = prdN c n m ∧ ∀ q, 1 ≤ q → q < p → prdN c (n + q) m ≠ prdN c n m
theorem least_of {P : Nat → Prop} : ∀ n, P n → ∃ k, k ≤ n ∧ P k ∧ ∀ j, j < k → ¬ P j := by
  intro n
  induction n using Nat.strongRecOn with
  | ind n ih =>
    intro h
    by_cases q : ∃ j, j < n ∧ P j
    · obtain ⟨j, hj, pj⟩ := q
      obtain ⟨k, a, b, d⟩ := ih j hj pj
      exact ⟨k, by omega, b, d⟩
    · exact ⟨n, Nat.le_refl n, h, fun j hj pj => q ⟨j, hj, pj⟩⟩
theorem Inv.ring {pa pb : Int} {es : List (Ed S)} {n now m : Nat} {R : Nat → Int} {c : Nat → Option (Ed S)} {tau lp : Nat → Nat} (I : Inv pa pb es (n + 1) es.length now R c tau lp) (hm : lp m = n + 1) (hes : ∀ e ∈ es, e.f < n ∧ e.l < n) : Ring c n m := by
  have a1 : ∀ i, i ≤ n → n + 1 ≤ lp (prdN c i m) + i := by
    intro i
    induction i with
    | zero => intro _; show n + 1 ≤ lp m + 0; omega
    | succ i ih =>
      intro hi
      have h := ih (by omega)
      obtain ⟨e, he⟩ := I.i2 (prdN c i m) (by omega)
      have h3 := I.i3 _ _ he
      have : prdN c (i + 1) m = e.f := by
        show prd c (prdN c i m) = e.f
        unfold prd
        rw [he]
      rw [this]
      omega
  have a2 : ∀ i, i ≤ n → ∃ e, c (prdN c i m) = some e ∧ prdN c i m < n := fun i hi => by
    have := a1 i hi
    obtain ⟨e, he⟩ := I.i2 (prdN c i m) (by omega)
    obtain ⟨h1, h2, _⟩ := I.i1 _ _ he
    exact ⟨e, he, h2 ▸ (hes e h1).2⟩
  obtain ⟨i, j, h1, h2, h3⟩ := pigeon n (fun i => prdN c i m) fun i hi => by
    obtain ⟨e, _, h⟩ := a2 i hi
    exact h
  have h3 : prdN c i m = prdN c j m := h3
  have per : ∀ a, i ≤ a → prdN c (a + (j - i)) m = prdN c a m := fun a ha => by
    obtain ⟨b, rfl⟩ : ∃ b, a = b + i := ⟨a - i, by omega⟩
    rw [show b + i + (j - i) = b + j by omega, prdN_add, prdN_add, h3]
  have al : ∀ i, ∃ e, c (prdN c i m) = some e ∧ prdN c i m < n := by
    intro k
    induction k using Nat.strongRecOn with
    | ind k ih =>
      by_cases q : k ≤ n
      · exact a2 k q
      · have := per (k - (j - i)) (by omega)
        rw [show k - (j - i) + (j - i) = k by omega] at this
        rw [this]
        exact ih _ (by omega)
  refine ⟨al, ?_⟩
  obtain ⟨k, b1, b2, b3⟩ := least_of (P := fun q => prdN c (n + (q + 1)) m = prdN c n m) (j - i - 1) (by
    show prdN c (n + (j - i - 1 + 1)) m = prdN c n m
    rw [show j - i - 1 + 1 = j - i by omega]
    exact per n (by omega))
  refine ⟨k + 1, by omega, by omega, b2, fun q q1 q2 => ?_⟩
  have := b3 (q - 1) (by omega)
  rw [show n + (q - 1 + 1) = n + q by omega] at this
  exact this
end
section
variable {S : Type}
theorem fold_keep {pa pb : Int} {I : (Nat → Option Int) → Prop} {es : List (Ed S)} (h : ∀ r e x, e ∈ es → I r → r e.f = some x → better (x + gn pa pb e) (r e.l) = true → I (upF r e.l (some (x + gn pa pb e)))) :
    ∀ (fs : List (Ed S)) (q : Sta S), (∀ e ∈ fs, e ∈ es) → I q.r → I (fs.foldl (relax pa pb) q).r
  | [], q, _, hq => hq
  | e :: fs, q, hm, hq => by
    rw [List.foldl_cons]
    refine fold_keep h fs _ (fun e' he' => hm e' (List.mem_cons_of_mem _ he')) ?_
    cases z : q.r e.f with
    | none => rw [relax_none z]; exact hq
    | some x =>
      rw [relax_some z]
      cases zb : better (x + gn pa pb e) (q.r e.l) with
      | true => exact h q.r e x (hm e List.mem_cons_self) hq z zb
      | false => exact hq
theorem fold_mu {pa pb : Int} {I : (Nat → Option Int) → Prop} {mu : (Nat → Option Int) → Nat} {es : List (Ed S)} (h : ∀ r e x, e ∈ es → I r → r e.f = some x → better (x + gn pa pb e) (r e.l) = true → I (upF r e.l (some (x + gn pa pb e))) ∧ mu (upF r e.l (some (x + gn pa pb e))) < mu r) :
    ∀ (fs : List (Ed S)) (q : Sta S), (∀ e ∈ fs, e ∈ es) → I q.r → mu (fs.foldl (relax pa pb) q).r ≤ mu q.r ∧ (q.ch = none → (fs.foldl (relax pa pb) q).ch ≠ none → mu (fs.foldl (relax pa pb) q).r < mu q.r)
  | [], q, _, hq => ⟨Nat.le_refl _, fun a b => absurd a b⟩
  | e :: fs, q, hm, hq => by
    rw [List.foldl_cons]
    have hm' := fun e' he' => hm e' (List.mem_cons_of_mem _ he')
    cases z : q.r e.f with
    | none => rw [relax_none z]; exact fold_mu h fs q hm' hq
    | some x =>
      rw [relax_some z]
      cases zb : better (x + gn pa pb e) (q.r e.l) with
      | true =>
        rw [if_pos rfl]
        obtain ⟨h1, h2⟩ := h q.r e x (hm e List.mem_cons_self) hq z zb
        have h3 := (fold_mu h fs ⟨upF q.r e.l (some (x + gn pa pb e)), upF q.c e.l (some e), some e.l⟩ hm' h1).1
        exact ⟨Nat.le_of_lt (Nat.lt_of_le_of_lt h3 h2), fun _ _ => Nat.lt_of_le_of_lt h3 h2⟩
      | false =>
        rw [if_neg (by intro z; cases z)]
        exact fold_mu h fs q hm' hq
def sumN : Nat → (Nat → Nat) → Nat
  | 0, _ => 0
  | n + 1, f => sumN n f + f n
theorem sumN_le {f g : Nat → Nat} : ∀ n, (∀ v, v < n → f v ≤ g v) → sumN n f ≤ sumN n g
  | 0, _ => Nat.le_refl _
  | n + 1, h => Nat.add_le_add (sumN_le n fun v hv => h v (by omega)) (h n (by omega))
theorem sumN_lt {f g : Nat → Nat} : ∀ n u, u < n → (∀ v, v < n → f v ≤ g v) → f u < g u → sumN n f < sumN n g
  | 0, u, hu, _, _ => absurd hu (Nat.not_lt_zero _)
  | n + 1, u, hu, h, hl => by
    by_cases q : u = n
    · subst q
      exact Nat.add_lt_add_of_le_of_lt (sumN_le u fun v hv => h v (by omega)) hl
    · exact Nat.add_lt_add_of_lt_of_le (sumN_lt n u (by omega) (fun v hv => h v (by omega)) hl) (h n (by omega))
def cnt (n : Nat) (r : Nat → Option Int) : Nat := sumN n fun v => if (r v).isSome = true then 1 else 0
theorem cnt_le (n : Nat) (r : Nat → Option Int) : cnt n r ≤ n := by
  have : ∀ n, sumN n (fun v => if (r v).isSome = true then 1 else 0) ≤ n := by
    intro n
    induction n with
    | zero => exact Nat.le_refl _
    | succ n ih =>
      show sumN n _ + (if (r n).isSome = true then 1 else 0) ≤ n + 1
      split <;> omega
  exact this n
def Att (pa pb : Int) (es : List (Ed S)) (r0 r : Nat → Option Int) : Prop := ∀ v x, r v = some x → ∃ u x0 w, r0 u = some x0 ∧ Wk u w v ∧ (∀ e ∈ w, e ∈ es) ∧ x = x0 + (w.map (gn pa pb)).sum
def Lo (n : Nat) (G : Int) (r : Nat → Option Int) : Prop := ∀ v x, r v = some x → -((cnt n r : Nat) * G) ≤ x
def Up (X : Nat → Int) (C : Int) (r : Nat → Option Int) : Prop := ∀ v x, r v = some x → x ≤ X v + C
def Ge (r0 r : Nat → Option Int) : Prop := ∀ v x, r0 v = some x → ∃ y, r v = some y ∧ x ≤ y
structure Set0 (pa pb : Int) (es : List (Ed S)) (n : Nat) (X : Nat → Int) (C G : Int) (r0 r : Nat → Option Int) : Prop where
  at_ : Att pa pb es r0 r
  lo : Lo n G r
  up : Up X C r
  ge : Ge r0 r
def mu0 (n : Nat) (X : Nat → Int) (C G : Int) (r : Nat → Option Int) : Nat := sumN n fun v => match r v with
  | none => (X v + C + n * G + 1).toNat
  | some x => (X v + C - x).toNat
theorem Set0.step {pa pb : Int} {es : List (Ed S)} {n : Nat} {X : Nat → Int} {C G : Int} {r0 r : Nat → Option Int} (hX : ∀ e ∈ es, X e.f + gn pa pb e ≤ X e.l) (hn : ∀ e ∈ es, e.l < n) (hG : ∀ e ∈ es, -G ≤ gn pa pb e) (hG0 : 0 ≤ G) {e : Ed S} {x : Int} (he : e ∈ es) (I : Set0 pa pb es n X C G r0 r) (hx : r e.f = some x) (hb : better (x + gn pa pb e) (r e.l) = true) :
    Set0 pa pb es n X C G r0 (upF r e.l (some (x + gn pa pb e))) ∧ mu0 n X C G (upF r e.l (some (x + gn pa pb e))) < mu0 n X C G r := by
  have hXe := hX e he
  have hln := hn e he
  have hGe := hG e he
  have hup := I.up e.f x hx
  have hlo := I.lo e.f x hx
  have hcn : cnt n r ≤ cnt n (upF r e.l (some (x + gn pa pb e))) := sumN_le n fun v _ => by
    show (if (r v).isSome = true then 1 else 0) ≤ (if (upF r e.l (some (x + gn pa pb e)) v).isSome = true then 1 else 0)
    by_cases q : v = e.l
    · rw [q, upF_same]
      show (if (r e.l).isSome = true then 1 else 0) ≤ 1
      split <;> omega
    · rw [upF_ne q]
      exact Nat.le_refl _
  have hlow : -((cnt n (upF r e.l (some (x + gn pa pb e))) : Nat) * G) ≤ x + gn pa pb e ∧ ∀ v y, r v = some y → -((cnt n (upF r e.l (some (x + gn pa pb e))) : Nat) * G) ≤ y := by
    have h2 : ∀ v y, r v = some y → -((cnt n (upF r e.l (some (x + gn pa pb e))) : Nat) * G) ≤ y := fun v y hy => by
      have a := I.lo v y hy
      have b : (cnt n r : Int) * G ≤ (cnt n (upF r e.l (some (x + gn pa pb e))) : Int) * G := Int.mul_le_mul_of_nonneg_right (by omega) hG0
      omega
    refine ⟨?_, h2⟩
    cases z : r e.l with
    | none =>
      have hc1 : cnt n r < cnt n (upF r e.l (some (x + gn pa pb e))) := sumN_lt n e.l hln (fun v _ => by
        show (if (r v).isSome = true then 1 else 0) ≤ (if (upF r e.l (some (x + gn pa pb e)) v).isSome = true then 1 else 0)
        by_cases q : v = e.l
        · rw [q, upF_same]
          show (if (r e.l).isSome = true then 1 else 0) ≤ 1
          split <;> omega
        · rw [upF_ne q]
          exact Nat.le_refl _) (by
        show (if (r e.l).isSome = true then 1 else 0) < (if (upF r e.l (some (x + gn pa pb e)) e.l).isSome = true then 1 else 0)
        rw [upF_same, z]
        show 0 < 1
        omega)
      have b : ((cnt n r : Int) + 1) * G ≤ (cnt n (upF r e.l (some (x + gn pa pb e))) : Int) * G := Int.mul_le_mul_of_nonneg_right (by omega) hG0
      rw [Int.add_mul] at b
      omega
    | some y =>
      rw [z] at hb
      have := h2 e.l y z
      have hb : x + gn pa pb e > y := of_decide_eq_true hb
      omega
  refine ⟨⟨fun v y hy => ?_, fun v y hy => ?_, fun v y hy => ?_, fun v y hy => ?_⟩, ?_⟩
  · by_cases q : v = e.l
    · subst q
      rw [upF_same] at hy
      cases hy
      obtain ⟨u, x0, w, h1, h2, h3, h4⟩ := I.at_ e.f x hx
      refine ⟨u, x0, w ++ [e], h1, h2.append ⟨rfl, rfl⟩, fun e' he' => ?_, ?_⟩
      · rcases List.mem_append.mp he' with q | q
        · exact h3 e' q
        · rw [List.mem_singleton.mp q]; exact he
      · rw [List.map_append, List.sum_append, h4]
        simp
        omega
    · rw [upF_ne q] at hy
      exact I.at_ v y hy
  · by_cases q : v = e.l
    · subst q
      rw [upF_same] at hy
      cases hy
      exact hlow.1
    · rw [upF_ne q] at hy
      exact hlow.2 v y hy
  · by_cases q : v = e.l
    · subst q
      rw [upF_same] at hy
      cases hy
      omega
    · rw [upF_ne q] at hy
      exact I.up v y hy
  · obtain ⟨z, hz, hyz⟩ := I.ge v y hy
    by_cases q : v = e.l
    · subst q
      rw [upF_same]
      refine ⟨_, rfl, ?_⟩
      rw [hz] at hb
      have hb : x + gn pa pb e > z := of_decide_eq_true hb
      omega
    · rw [upF_ne q]
      exact ⟨z, hz, hyz⟩
  · refine sumN_lt n e.l hln (fun v _ => ?_) ?_
    · by_cases q : v = e.l
      · subst q
        rw [upF_same]
        cases z : r e.l with
        | none =>
          have c1 := cnt_le n (upF r e.l (some (x + gn pa pb e)))
          have c2 : ((cnt n (upF r e.l (some (x + gn pa pb e))) : Nat) : Int) * G ≤ (n : Int) * G := Int.mul_le_mul_of_nonneg_right (by omega) hG0
          have c3 := hlow.1
          show (X e.l + C - (x + gn pa pb e)).toNat ≤ (X e.l + C + n * G + 1).toNat
          omega
        | some y =>
          rw [z] at hb
          have hb : x + gn pa pb e > y := of_decide_eq_true hb
          show (X e.l + C - (x + gn pa pb e)).toNat ≤ (X e.l + C - y).toNat
          omega
      · rw [upF_ne q]
        exact Nat.le_refl _
    · show (match upF r e.l (some (x + gn pa pb e)) e.l with | none => (X e.l + C + n * G + 1).toNat | some x => (X e.l + C - x).toNat) < (match r e.l with | none => (X e.l + C + n * G + 1).toNat | some x => (X e.l + C - x).toNat)
      rw [upF_same]
      cases z : r e.l with
      | none =>
        have c1 := cnt_le n (upF r e.l (some (x + gn pa pb e)))
        have c2 : ((cnt n (upF r e.l (some (x + gn pa pb e))) : Nat) : Int) * G ≤ (n : Int) * G := Int.mul_le_mul_of_nonneg_right (by omega) hG0
        have c3 := hlow.1
        show (X e.l + C - (x + gn pa pb e)).toNat < (X e.l + C + n * G + 1).toNat
        omega
      | some y =>
        rw [z] at hb
        have hb : x + gn pa pb e > y := of_decide_eq_true hb
        have := I.up e.l y z
        show (X e.l + C - (x + gn pa pb e)).toNat < (X e.l + C - y).toNat
        omega
theorem Set0.pass {pa pb : Int} {es : List (Ed S)} {n : Nat} {X : Nat → Int} {C G : Int} {r0 r : Nat → Option Int} {c : Nat → Option (Ed S)} (hX : ∀ e ∈ es, X e.f + gn pa pb e ≤ X e.l) (hn : ∀ e ∈ es, e.l < n) (hG : ∀ e ∈ es, -G ≤ gn pa pb e) (hG0 : 0 ≤ G) (I : Set0 pa pb es n X C G r0 r) :
    Set0 pa pb es n X C G r0 (Hn.pass pa pb es r c).r ∧ ((Hn.pass pa pb es r c).ch ≠ none → mu0 n X C G (Hn.pass pa pb es r c).r < mu0 n X C G r) :=
  ⟨fold_keep (I := Set0 pa pb es n X C G r0) (fun r e x he I hx hb => (I.step hX hn hG hG0 he hx hb).1) es ⟨r, c, none⟩ (fun _ h => h) I,
   (fold_mu (I := Set0 pa pb es n X C G r0) (mu := mu0 n X C G) (fun r e x he I hx hb => I.step hX hn hG hG0 he hx hb) es ⟨r, c, none⟩ (fun _ h => h) I).2 rfl⟩
end
section
variable {S : Type}
def runs (pa pb : Int) (es : List (Ed S)) : Nat → Option (Sta S)
  | 0 => some ⟨fun _ => some 0, fun _ => none, none⟩
  | k + 1 => match runs pa pb es k with
    | none => none
    | some q => match (pass pa pb es q.r q.c).ch with
      | none => none
      | some _ => some (pass pa pb es q.r q.c)
def per (c : Nat → Option (Ed S)) (n m : Nat) : Nat := (((List.range n).find? fun q => decide (prdN c (n + (q + 1)) m = prdN c n m)).getD 0) + 1
def clos (c : Nat → Option (Ed S)) (n m : Nat) : List (Ed S) := (List.range (per c n m)).filterMap fun i => c (prdN c (n + i) m)
def gaining (n : Nat) (es : List (Ed S)) (pa pb : Int) : Option (List (Ed S)) := match runs pa pb es (n + 1) with
  | none => none
  | some q => some (clos q.c n (q.ch.getD 0)).reverse
end
end Hn
namespace Hn
open PySem
abbrev Stp := Option (Str × Int)
def mdN (n : Nat) (x : Int) : Nat := (x % (n : Int)).toNat
theorem mdN_int {n : Nat} (h : 1 ≤ n) (x : Int) : ((mdN n x : Nat) : Int) = x % (n : Int) := Int.toNat_of_nonneg (mod_bd h x).1
def mkE (n : Nat) (x len v : Int) (s : Stp) : Ed Stp := ⟨mdN n x, mdN n (x + len), ((mdN n x : Nat) + len) / (n : Int), v, s⟩
theorem mkE_len {n : Nat} (h : 1 ≤ n) (x len v : Int) (s : Stp) : (((mkE n x len v s).f : Nat) : Int) + len = ((mkE n x len v s).l : Nat) + n * (mkE n x len v s).t := by
  show ((mdN n x : Nat) : Int) + len = ((mdN n (x + len) : Nat) : Int) + n * (((mdN n x : Nat) + len) / (n : Int))
  rw [mdN_int h, mdN_int h]
  have e : (x + len) % (n : Int) = (x % (n : Int) + len) % (n : Int) := by rw [Int.emod_add_emod]
  rw [e]
  have := Int.emod_add_mul_ediv (x % (n : Int) + len) n
  omega
theorem mod_split {n : Nat} (x : Int) : x = x % (n : Int) + n * (x / (n : Int)) := by
  have := Int.emod_add_mul_ediv x n
  omega
def upI (a b : Int) : Int := -((-a) / b)
theorem upI_le {a b k : Int} (hb : 0 < b) : upI a b ≤ k ↔ a ≤ k * b := by
  unfold upI
  have := Int.le_ediv_iff_mul_le (a := -k) (b := -a) hb
  rw [Int.neg_mul] at this
  omega
theorem upI_lt {a b k : Int} (hb : 0 < b) : k < upI a b ↔ k * b < a := by
  have := upI_le (a := a) (k := k) hb
  omega
theorem upI_nn {a b : Int} (hb : 0 < b) (h : 0 ≤ a) : 0 ≤ upI a b := by
  have := (upI_lt (a := a) (b := b) (k := -1) hb).mpr (by omega)
  omega
def kE (n : Nat) (v h : Int) : Ed Stp := mkE n h 1 v (some ("keep", h))
structure NeE (s d : List Int) (e : Ed Stp) (len : Int) : Prop where
  fl : e.f < s.length ∧ e.l < s.length
  ln : (e.f : Int) + len = e.l + s.length * e.t
  l1 : 1 ≤ len
  t0 : 0 ≤ e.t
  t1 : e.t ≤ 1
def Enf (s d : List Int) (P : Int) (A : Int → Int) : Prop := A 0 = 0 ∧ A (s.length : Int) = P ∧ mono s.length A ∧ enough s.length (thF s.length s (cyc (byS s.length A))) (cyc d) = true
def stp (s : List Int) (h k : Int) : Int := wd s k + (k - wd s k - h) % (s.length : Int)
def hops (s : List Int) : Int → List Int → Int
  | _, [] => 0
  | h, k :: r => stp s h k + hops s k r
def lastH (h : Int) : List Int → Int
  | [] => h
  | k :: r => lastH k r
def wnd (s r : List Int) : Int := hops s (lastH 0 r) r / (s.length : Int)
def sumD (d : List Int) (r : List Int) : Int := (r.map (cyc d)).sum
def ringB (s d r : List Int) : Int := upI (sumD d r) (wnd s r)
theorem stp_pos {s : List Int} (g : Good s) (h k : Int) : 1 ≤ stp s h k := by
  have a := wd_pos g k
  have b := mod_bd g.ne (k - wd s k - h)
  unfold stp
  omega
theorem stp_mod {s : List Int} (h k : Int) : ∃ q, stp s h k = k - h + s.length * q := by
  refine ⟨-((k - wd s k - h) / (s.length : Int)), ?_⟩
  have := mod_split (n := s.length) (k - wd s k - h)
  unfold stp
  rw [Int.mul_neg]
  omega
theorem hops_mod {s : List Int} : ∀ (r : List Int) (h : Int), ∃ q, hops s h r = lastH h r - h + s.length * q
  | [], h => ⟨0, by
    show (0 : Int) = h - h + _
    rw [Int.mul_zero]
    omega⟩
  | k :: r, h => by
    obtain ⟨q1, e1⟩ := stp_mod (s := s) h k
    obtain ⟨q2, e2⟩ := hops_mod r k
    refine ⟨q1 + q2, ?_⟩
    show stp s h k + hops s k r = lastH k r - h + _
    rw [e1, e2, Int.mul_add]
    omega
theorem hops_pos {s : List Int} (g : Good s) : ∀ (r : List Int) (h : Int), (r.length : Int) ≤ hops s h r
  | [], h => Int.le_refl 0
  | k :: r, h => by
    have a := stp_pos g h k
    have b := hops_pos g r k
    show ((r.length + 1 : Nat) : Int) ≤ stp s h k + hops s k r
    omega
theorem lastH_ne : ∀ {r : List Int} {h h' : Int}, r ≠ [] → lastH h r = lastH h' r
  | [], _, _, z => absurd rfl z
  | _ :: _, _, _, _ => rfl
theorem wnd_eq {s r : List Int} (g : Good s) (hr : r ≠ []) : hops s (lastH 0 r) r = s.length * wnd s r ∧ 1 ≤ wnd s r := by
  obtain ⟨q, e⟩ := hops_mod (s := s) r (lastH 0 r)
  rw [lastH_ne (h := lastH 0 r) (h' := 0) hr] at e
  have hn := g.ne
  have e' : hops s (lastH 0 r) r = s.length * q := by omega
  have w : wnd s r = q := by
    unfold wnd
    rw [e', Int.mul_ediv_cancel_left _ (by omega)]
  rw [w]
  refine ⟨e', ?_⟩
  have hp := hops_pos g r (lastH 0 r)
  have : 1 ≤ r.length := by
    cases r with
    | nil => exact absurd rfl hr
    | cons a b => rw [List.length_cons]; omega
  rcases Int.lt_or_le q 1 with z | z
  · have := Int.mul_nonpos_of_nonneg_of_nonpos (a := (s.length : Int)) (b := q) (by omega) (by omega)
    omega
  · exact z
def isNd : Stp → Option Int
  | some (x, h) => if x = ("need" : Str) then some h else none
  | none => none
def needHs (w : List (Ed Stp)) : List Int := w.filterMap fun e => isNd e.s
end Hn
namespace Hn
open PySem
def fr (x y : Int) : Int × Int := (x / (Int.gcd x y : Int), y / (Int.gcd x y : Int))
structure FrOk (x y : Int) (g : Int) : Prop where
  g1 : 1 ≤ g
  ex : x = g * (fr x y).1
  ey : y = g * (fr x y).2
  p2 : 1 ≤ (fr x y).2
  le : (fr x y).2 ≤ y
inductive BR (n : Nat) (es : List (Ed Stp)) : Int → Int → List Int → List Int → Prop
  | stop {pa pb : Int} {r : List Int} : gaining n es pa pb = none → BR n es pa pb r r
  | go {pa pb : Int} {r q : List Int} {w : List (Ed Stp)} : gaining n es pa pb = some w → BR n es (fr (wo w) (tn w)).1 (fr (wo w) (tn w)).2 (needHs w) q → BR n es pa pb r q
structure Bst (s d : List Int) (M pa pb : Int) (r : List Int) : Prop where
  a0 : 0 ≤ pa
  b1 : 1 ≤ pb
  bn : pb ≤ (s.length : Int)
  bd : pa ≤ s.length * M * pb
  ne : r ≠ []
  le : r.length ≤ s.length
  hs : ∀ k ∈ r, 0 ≤ k ∧ k < (s.length : Int)
  up : upI pa pb ≤ ringB s d r
structure BestOk (s d r : List Int) : Prop where
  ne : r ≠ []
  le : r.length ≤ s.length
  hs : ∀ k ∈ r, 0 ≤ k ∧ k < (s.length : Int)
  en : ∃ A, Enf s d (ringB s d r) A
end Hn
namespace Hn
open PySem PySem.Spec PyProof.Rows L2 Evl
variable {K : PySem.W.Frag}
theorem sqt_xl {H H' : Hp} {a : Addr} {xs : List V} (e : Xl H H') (h : SqT K H a xs) : SqT K H' a xs := by
  rcases h with (h | ⟨o, h⟩) | h
  · exact .inl (.inl (e _ _ h rfl))
  · exact .inl (.inr ⟨o, e _ _ h rfl⟩)
  · exact .inr h
def StV (K : PySem.W.Frag) (H : Hp) (v : V) : Stp → Prop
  | none => v = .non
  | some (w, h) => ∃ t, v = .ref t ∧ SqT K H t [.str w, .int h]
def EdV (K : PySem.W.Frag) (H : Hp) (v : V) (e : Ed Stp) : Prop := ∃ t sv, v = .ref t ∧ SqT K H t [.int (e.f : Int), .int (e.l : Int), .int e.t, .int e.v, sv] ∧ StV K H sv e.s
theorem StV.mono {H H' : Hp} {v : V} {s : Stp} (e : Xl H H') (h : StV K H v s) : StV K H' v s := by
  cases s with
  | none => exact h
  | some p =>
    obtain ⟨t, rfl, ht⟩ := h
    exact ⟨t, rfl, sqt_xl e ht⟩
theorem EdV.mono {H H' : Hp} {v : V} {e : Ed Stp} (x : Xl H H') (h : EdV K H v e) : EdV K H' v e :=
  let ⟨t, sv, h1, h2, h3⟩ := h
  ⟨t, sv, h1, sqt_xl x h2, h3.mono x⟩
def EdL (K : PySem.W.Frag) (H : Hp) (l : Addr) (es : List (Ed Stp)) : Prop := ∃ vs : List V, H l = some (.lst vs) ∧ vs.length = es.length ∧ ∀ (i : Nat) v, vs[i]? = some v → ∃ e, es[i]? = some e ∧ EdV K H v e
theorem EdL.ex {H H' : Hp} {l : Addr} {es : List (Ed Stp)} (x : Ex H H') (h : EdL K H l es) : EdL K H' l es :=
  let ⟨vs, h1, h2, h3⟩ := h
  ⟨vs, x _ _ h1, h2, fun i v hv => let ⟨e, a, b⟩ := h3 i v hv; ⟨e, a, b.mono (.of x)⟩⟩
def CamV (K : PySem.W.Frag) (H : Hp) (v : V) : Option (Ed Stp) → Prop
  | none => v = .non
  | some e => EdV K H v e
theorem CamV.mono {H H' : Hp} {v : V} {c : Option (Ed Stp)} (x : Xl H H') (h : CamV K H v c) : CamV K H' v c := by
  cases c with
  | none => exact h
  | some e => exact EdV.mono x h
def CamL (K : PySem.W.Frag) (H : Hp) (p : Addr) (n : Nat) (c : Nat → Option (Ed Stp)) : Prop := ∃ vs : List V, H p = some (.lst vs) ∧ vs.length = n ∧ ∀ (i : Nat) v, vs[i]? = some v → CamV K H v (c i)
theorem CamL.put {H : Hp} {p : Addr} {n b : Nat} {c : Nat → Option (Ed Stp)} {vs : List V} {v : V} {e : Ed Stp} (h : CamL K H p n c) (hp : H p = some (.lst vs)) (he : EdV K H v e) : CamL K (upd H p (.lst (vs.set b v))) p n (upF c b (some e)) := by
  obtain ⟨ws, h1, h2, h3⟩ := h
  rw [hp] at h1
  cases h1
  have x : Xl H (upd H p (.lst (vs.set b v))) := Xl.set hp
  refine ⟨_, upd_same, by rw [List.length_set]; exact h2, fun i u hu => ?_⟩
  rw [List.getElem?_set] at hu
  by_cases q : b = i
  · subst q
    rw [if_pos rfl] at hu
    rw [upF_same]
    split at hu
    · cases hu
      exact EdV.mono x he
    · cases hu
  · rw [if_neg q] at hu
    rw [upF_ne (fun z => q z.symm)]
    exact (h3 i u hu).mono x
theorem CamL.start {H : Hp} {p : Addr} {n : Nat} (h : H p = some (.lst (List.replicate n .non))) : CamL K H p n fun _ => none := by
  refine ⟨_, h, List.length_replicate, fun i v hv => ?_⟩
  rw [List.getElem?_replicate] at hv
  split at hv
  · cases hv
    rfl
  · cases hv
def Mv2 (p q : Addr) (H H' : Hp) : Prop := ∀ a o, a ≠ p → a ≠ q → H a = some o → H' a = some o
theorem Mv2.refl (p q : Addr) (H : Hp) : Mv2 p q H H := fun _ _ _ _ h => h
theorem Mv2.trans {p q : Addr} {H H1 H2 : Hp} (x : Mv2 p q H H1) (y : Mv2 p q H1 H2) : Mv2 p q H H2 := fun a o h1 h2 h => y a o h1 h2 (x a o h1 h2 h)
theorem Mv2.l {p q : Addr} {H : Hp} {o : HO} : Mv2 p q H (upd H p o) := fun a o' h1 _ h => by rw [upd_ne h1]; exact h
theorem Mv2.r {p q : Addr} {H : Hp} {o : HO} : Mv2 p q H (upd H q o) := fun a o' _ h2 h => by rw [upd_ne h2]; exact h
theorem Mv2.xl {p q : Addr} {H H' : Hp} {xs ys : List V} (x : Mv2 p q H H') (hp : H p = some (.lst xs)) (hq : H q = some (.lst ys)) : Xl H H' := fun a o h n => by
  refine x a o ?_ ?_ h
  · exact ne_of h hp (by intro z; rw [z] at n; cases n)
  · exact ne_of h hq (by intro z; rw [z] at n; cases n)
theorem Mv2.ex {p q : Addr} {H0 H H' : Hp} (e : Ex H0 H) (x : Mv2 p q H H') (hp : H0 p = none) (hq : H0 q = none) : Ex H0 H' := fun a o h => by
  refine x a o ?_ ?_ (e a o h)
  · intro z; rw [z, hp] at h; cases h
  · intro z; rw [z, hq] at h; cases h
theorem CamL.at {H : Hp} {p : Addr} {n : Nat} {c : Nat → Option (Ed Stp)} (h : CamL K H p n c) {i : Nat} {e : Ed Stp} (hi : i < n) (he : c i = some e) : ∃ vs t sv, H p = some (.lst vs) ∧ vs[i]? = some (.ref t) ∧ SqT K H t [.int (e.f : Int), .int (e.l : Int), .int e.t, .int e.v, sv] ∧ EdV K H (.ref t) e := by
  obtain ⟨vs, h1, h2, h3⟩ := h
  have hv : vs[i]? = some vs[i] := List.getElem?_eq_getElem (by omega)
  have := h3 i _ hv
  rw [he] at this
  obtain ⟨t, sv, e1, e2, e3⟩ := id this
  rw [e1] at hv
  exact ⟨vs, t, sv, h1, hv, e2, t, sv, rfl, e2, e3⟩
theorem CamL.ex {H H' : Hp} {p : Addr} {n : Nat} {c : Nat → Option (Ed Stp)} (x : Ex H H') (h : CamL K H p n c) : CamL K H' p n c :=
  let ⟨vs, h1, h2, h3⟩ := h
  ⟨vs, x _ _ h1, h2, fun i v hv => (h3 i v hv).mono (.of x)⟩
theorem EdL.at {H : Hp} {l : Addr} {es : List (Ed Stp)} (h : EdL K H l es) {i : Nat} {e : Ed Stp} (he : es[i]? = some e) : ∃ vs t sv, H l = some (.lst vs) ∧ vs[i]? = some (.ref t) ∧ SqT K H t [.int (e.f : Int), .int (e.l : Int), .int e.t, .int e.v, sv] ∧ StV K H sv e.s := by
  obtain ⟨vs, h1, h2, h3⟩ := h
  have hi := (List.getElem?_eq_some_iff.mp he).1
  have hv : vs[i]? = some vs[i] := List.getElem?_eq_getElem (by omega)
  obtain ⟨e', he', t, sv, e1, e2, e3⟩ := h3 i _ hv
  rw [he] at he'
  cases he'
  rw [e1] at hv
  exact ⟨vs, t, sv, h1, hv, e2, e3⟩
theorem EdL.push {H : Hp} {p : Addr} {es : List (Ed Stp)} {vs : List V} {v : V} {e : Ed Stp} (h : EdL K H p es) (hp : H p = some (.lst vs)) (hv : EdV K H v e) : EdL K (upd H p (.lst (vs ++ [v]))) p (es ++ [e]) := by
  obtain ⟨ws, h1, h2, h3⟩ := h
  rw [hp] at h1
  cases h1
  have x : Xl H (upd H p (.lst (vs ++ [v]))) := Xl.set hp
  refine ⟨_, upd_same, by rw [List.length_append, List.length_append, h2]; rfl, fun i u hu => ?_⟩
  by_cases hi : i < vs.length
  · rw [List.getElem?_append_left hi] at hu
    obtain ⟨e', a, b⟩ := h3 i u hu
    exact ⟨e', by rw [List.getElem?_append_left (by omega)]; exact a, b.mono x⟩
  · rw [List.getElem?_append_right (by omega)] at hu
    have : i = vs.length := by
      have := (List.getElem?_eq_some_iff.mp hu).1
      rw [List.length_singleton] at this
      omega
    subst this
    rw [Nat.sub_self] at hu
    cases hu
    exact ⟨e, by rw [List.getElem?_append_right (by omega), h2, Nat.sub_self]; rfl, hv.mono x⟩
theorem EdL.nil {H : Hp} {p : Addr} (h : H p = some (.lst [])) : EdL K H p [] := ⟨[], h, rfl, fun i v hv => by simp at hv⟩
def del (H : Hp) (p : Addr) : Hp := fun a => if a = p then none else H a
def GaV (K : PySem.W.Frag) (H : Hp) (v : V) : Option (List (Ed Stp)) → Prop
  | none => v = .non
  | some w => ∃ p, v = .ref p ∧ EdL K H p w
theorem GaV.ex {H H' : Hp} {v : V} {w : Option (List (Ed Stp))} (x : Ex H H') (h : GaV K H v w) : GaV K H' v w := by
  cases w with
  | none => exact h
  | some w =>
    obtain ⟨p, rfl, h⟩ := h
    exact ⟨p, rfl, h.ex x⟩
end Hn
namespace Hn
open PySem PySem.Spec PyProof.Rows L2 Evl
theorem cut_last1 {xs : List V} (h : 1 ≤ xs.length) : cutV xs (some (-1)) none = xs.drop (xs.length - 1) := by
  unfold cutV
  rw [HT.sIx_none]
  have e : HT.sIx xs.length 0 (some (-1)) = xs.length - 1 := by
    show HT.sIx xs.length 0 (some (-1)) = xs.length - 1
    unfold HT.sIx
    simp only []
    split <;> omega
  rw [e, List.take_of_length_le (by rw [List.length_drop]; omega)]
def prevH (r : List Int) (i : Nat) : Int := if i = 0 then r.getD (r.length - 1) 0 else r.getD (i - 1) 0
theorem ring_shift {r : List Int} (h : 1 ≤ r.length) : ((r.map V.int).drop ((r.map V.int).length - 1) ++ (r.map V.int).take ((r.map V.int).length - 1)).length = r.length ∧ ∀ i, i < r.length → ((r.map V.int).drop ((r.map V.int).length - 1) ++ (r.map V.int).take ((r.map V.int).length - 1))[i]? = some (.int (prevH r i)) := by
  rw [List.length_map]
  have l1 : ((r.map V.int).drop (r.length - 1)).length = 1 := by
    rw [List.length_drop, List.length_map]
    omega
  refine ⟨by rw [List.length_append, l1, List.length_take, List.length_map]; omega, fun i hi => ?_⟩
  unfold prevH
  by_cases hi0 : i = 0
  · rw [if_pos hi0, hi0, List.getElem?_append_left (by omega), List.getElem?_drop, List.getElem?_map, Nat.add_zero, List.getElem?_eq_getElem (by omega), List.getD_eq_getElem?_getD, List.getElem?_eq_getElem (by omega)]
    rfl
  · rw [if_neg hi0, List.getElem?_append_right (by omega), l1, List.getElem?_take, if_pos (by omega), List.getElem?_map, List.getElem?_eq_getElem (by omega), List.getD_eq_getElem?_getD, List.getElem?_eq_getElem (by omega)]
    rfl
theorem lastH_get : ∀ {r : List Int} {h : Int}, r ≠ [] → lastH h r = r.getD (r.length - 1) 0
  | [], _, z => absurd rfl z
  | [k], _, _ => rfl
  | k :: k2 :: r, h, _ => by
    show lastH k (k2 :: r) = _
    rw [lastH_get (r := k2 :: r) (fun z => nomatch z)]
    show (k2 :: r).getD ((k2 :: r).length - 1) 0 = (k :: k2 :: r).getD ((k2 :: r).length) 0
    rw [List.getD_eq_getElem?_getD, List.getD_eq_getElem?_getD, List.length_cons]
    rfl
theorem hops_list {s : List Int} : ∀ (r : List Int) (h : Int), hops s h r = ((List.range r.length).map fun i => stp s (if i = 0 then h else r.getD (i - 1) 0) (r.getD i 0)).sum
  | [], _ => rfl
  | k :: r, h => by
    show stp s h k + hops s k r = _
    rw [hops_list r k, List.length_cons, List.range_succ_eq_map, List.map_cons, List.sum_cons, List.map_map]
    congr 1
    congr 1
    refine List.map_congr_left fun i _ => ?_
    show stp s (if i = 0 then k else r.getD (i - 1) 0) (r.getD i 0) = stp s (if i + 1 = 0 then h else (k :: r).getD (i + 1 - 1) 0) ((k :: r).getD (i + 1) 0)
    rw [if_neg (show ¬ i + 1 = 0 by omega), Nat.add_sub_cancel]
    congr 1
    by_cases q : i = 0
    · rw [if_pos q, q]
      rfl
    · rw [if_neg q]
      obtain ⟨j, rfl⟩ : ∃ j, i = j + 1 := ⟨i - 1, by omega⟩
      rfl
theorem wnd_list {s r : List Int} (h : r ≠ []) : ((List.range r.length).map fun i => stp s (prevH r i) (r.getD i 0)).sum / (s.length : Int) = wnd s r := by
  unfold wnd
  rw [hops_list, lastH_get h]
  rfl
theorem hops_le {s : List Int} (g : Good s) : ∀ (r : List Int) (h : Int), hops s h r ≤ 2 * s.length * r.length
  | [], _ => by
    show (0 : Int) ≤ 2 * s.length * ((0 : Nat) : Int)
    omega
  | k :: r, h => by
    have a := hops_le g r k
    have b := wd_le (s := s) k
    have c := mod_bd g.ne (k - wd s k - h)
    show stp s h k + hops s k r ≤ 2 * s.length * ((r.length + 1 : Nat) : Int)
    unfold stp
    rw [show ((r.length + 1 : Nat) : Int) = (r.length : Int) + 1 by omega, Int.mul_add]
    omega
theorem wnd_small {s r : List Int} (g : Good s) (h : r ≠ []) (hl : r.length ≤ 100000) : wnd s r < 2 ^ 30 := by
  obtain ⟨e, _⟩ := wnd_eq g h
  have a := hops_le g r (lastH 0 r)
  have hn := g.ne
  rw [e] at a
  have b : wnd s r ≤ 2 * r.length := by
    refine Int.le_of_mul_le_mul_left (a := (s.length : Int)) ?_ (by omega)
    rw [show (s.length : Int) * (2 * (r.length : Int)) = 2 * s.length * r.length by rw [← Int.mul_assoc, Int.mul_comm (s.length : Int) 2]]
    exact a
  omega
theorem ne_len {α : Type} {r : List α} (h : r ≠ []) : 1 ≤ r.length := by
  cases r with
  | nil => exact absurd rfl h
  | cons a b => rw [List.length_cons]; omega
theorem prevH_in {r : List Int} {n i : Nat} (h : ∀ k ∈ r, 0 ≤ k ∧ k < (n : Int)) (hi : i < r.length) : (0 ≤ prevH r i ∧ prevH r i < (n : Int)) ∧ 0 ≤ r.getD i 0 ∧ r.getD i 0 < (n : Int) := by
  refine ⟨?_, h _ (gD_mem hi)⟩
  unfold prevH
  split
  · exact h _ (gD_mem (by omega))
  · exact h _ (gD_mem (by omega))
theorem fil_one {p : Nat → Bool} {k : Nat} : ∀ n, (∀ i, i < n → p i = decide (i = k)) → (List.range n).filter p = if k < n then [k] else []
  | 0, _ => rfl
  | n + 1, h => by
    rw [List.range_succ, List.filter_append, fil_one n (fun i hi => h i (by omega)), List.filter_cons, List.filter_nil, h n (by omega)]
    by_cases q : n = k
    · subst q
      rw [if_neg (by omega), if_pos (by simp), if_pos (by omega)]
      rfl
    · rw [decide_eq_false q]
      by_cases q2 : k < n
      · rw [if_pos q2, if_pos (show k < n + 1 by omega)]
        rfl
      · rw [if_neg q2, if_neg (show ¬ k < n + 1 by omega)]
        rfl
theorem hop_fil {n : Nat} {w x : Int} (hn : 1 ≤ n) : ((List.range n).filter fun (i : Nat) => decide ((x + (w + (i : Int))) % (n : Int) = 0)).map (fun (i : Nat) => w + (i : Int)) = [w + (-x - w) % (n : Int)] := by
  have hb := mod_bd hn (-x - w)
  have e : ∀ i : Nat, i < n → ((x + (w + (i : Int))) % (n : Int) = 0 ↔ i = ((-x - w) % (n : Int)).toNat) := fun i hi => by
    have sp := mod_split (n := n) (-x - w)
    constructor
    · intro z
      obtain ⟨q, hq⟩ := Int.dvd_of_emod_eq_zero z
      have : (-x - w) % (n : Int) = (i : Int) := by
        rw [show -x - w = (i : Int) + (n : Int) * (-q) by rw [Int.mul_neg]; omega, Int.add_mul_emod_self_left, Int.emod_eq_of_lt (by omega) (by omega)]
      omega
    · intro z
      refine Int.emod_eq_zero_of_dvd ⟨-((-x - w) / (n : Int)), ?_⟩
      rw [Int.mul_neg]
      omega
  rw [fil_one (k := ((-x - w) % (n : Int)).toNat) n fun i hi => by rw [Bool.eq_iff_iff, decide_eq_true_iff, decide_eq_true_iff]; exact e i hi, if_pos (by omega)]
  show [w + (((-x - w) % (n : Int)).toNat : Int)] = _
  rw [Int.toNat_of_nonneg hb.1]
end Hn
namespace Wx
open PySem PySem.Spec PyProof.Rows L2 Evl Hn
class TabC where
  T : List (Addr × Str)
variable [TC : TabC]
def isTb : HO → Bool
  | .tbl _ => true
  | _ => false
structure Xn (H H' : Hp) : Prop where
  kp : ∀ a o, H a = some o → isTb o = false → H' a = some o
  dm : ∀ a, H a ≠ none → H' a ≠ none
theorem Xn.at {H H' : Hp} (e : Xn H H') {a : Addr} {o : HO} (h : H a = some o) (n : isTb o = false := by rfl) : H' a = some o := e.kp a o h n
theorem Xn.of {H H' : Hp} (e : Ex H H') : Xn H H' := ⟨fun a o h _ => e a o h, fun a h z => by
  cases q : H a with
  | none => exact h q
  | some o => rw [e a o q] at z; cases z⟩
theorem Xn.refl (H : Hp) : Xn H H := ⟨fun _ _ h _ => h, fun _ h => h⟩
theorem Xn.trans {H H1 H2 : Hp} (a : Xn H H1) (b : Xn H1 H2) : Xn H H2 := ⟨fun x o h n => b.kp x o (a.kp x o h n) n, fun x h => b.dm x (a.dm x h)⟩
theorem Xn.new {H : Hp} {p : Addr} {o : HO} (h : H p = none) : Xn H (upd H p o) := .of (Ex.new h)
theorem upd_def {H : Hp} {p a : Addr} {o : HO} (h : H a ≠ none) : upd H p o a ≠ none := by
  by_cases e : a = p
  · rw [e, upd_same]; intro z; cases z
  · rw [upd_ne e]; exact h
theorem Xn.mut {H H' : Hp} {p : Addr} {o : HO} (e : Xn H H') (h : H p = none) : Xn H (upd H' p o) := ⟨fun a u ha n => by
  rw [upd_ne (ne_of_none ha h)]
  exact e.kp a u ha n, fun a ha => upd_def (e.dm a ha)⟩
theorem back_x {H H' : Hp} {p : Addr} (e : Xn H H') (h : H' p = none) : H p = none := by
  cases h1 : H p with
  | none => rfl
  | some o => exact absurd h (e.dm p (by rw [h1]; intro z; cases z))
def TabsR (H : Hp) : Prop := LamX.Tabs TC.T H
theorem TabsR.ex {H H' : Hp} (t : TabsR H) (e : Ex H H') : TabsR H' := LamX.Tabs.ext t e
def isEx : HO → Bool
  | .ext _ => true
  | _ => false
theorem TabsR.but {H H' : Hp} {p : Addr} {u : HO} (t : TabsR H) (h : H p = some u) (n : isTb u = false) (m : isEx u = false) (k : ∀ a o, a ≠ p → H a = some o → H' a = some o) : TabsR H' := fun q hq => by
  obtain ⟨ps, h1, h2, h3⟩ := t q hq
  refine ⟨ps, k _ _ (fun e => ?_) h1, h2, fun pos cv hc => ?_⟩
  · rw [e, h] at h1
    cases h1
    cases n
  · obtain ⟨c, e1, e2⟩ := h3 pos cv hc
    refine ⟨c, e1, k _ _ (fun e => ?_) e2⟩
    rw [e, h] at e2
    cases e2
    cases m
theorem TabsR.mut {H : Hp} {p : Addr} {o u : HO} (t : TabsR H) (h : H p = some u) (n : isTb u = false) (m : isEx u = false) : TabsR (upd H p o) := t.but h n m fun a u ne ha => by rw [upd_ne ne]; exact ha
theorem tabs_nil {H : Hp} (e : TC.T = []) : TabsR H := fun q hq => by rw [e] at hq; cases hq
inductive Cn where
  | Clock | Needs | Plan | House | Book | Desk | Endless
  deriving DecidableEq
structure Fv where
  f : Addr
  c : Addr
  q : Str
  vs : List V
inductive PV where
  | non | bl (b : Bool) | int (i : Int) | str (x : Str) | ty (n : String) | cls (c : Cn)
  | lst (xs : List PV) | tup (xs : List PV) | ins (c : Cn) (fs : List (Str × PV)) | bag | scr (ns : List Int) | fnv (z : Fv) (xs : List PV)
  | dct (a : Addr) (kvs : List (Key × Int)) | idv (a : Addr) (x : PV)
abbrev Fz := Addr → Prop
def dkV (kvs : List (Key × Int)) : List (Key × V) := kvs.map fun p => (p.1, V.int p.2)
def ScrOk (K : PySem.W.Frag) (F : Fz) (H : Hp) (a : Addr) (xs : List V) : Prop := (H a = some (.lst xs) ∧ F a) ∨ (∃ o, H a = some (.frz o (.lst xs))) ∨ ∀ H', SqL K H' a xs
theorem ScrOk.sq {K : PySem.W.Frag} {F : Fz} {H : Hp} {a : Addr} {xs : List V} (h : ScrOk K F H a xs) : SqL K H a xs := by
  rcases h with ⟨h, _⟩ | ⟨o, h⟩ | h
  · exact .inl (.inl h)
  · exact .inl (.inr ⟨o, h⟩)
  · exact h H
mutual
inductive Rv (K : PySem.W.Frag) (d : Cn → Addr) (F : Fz) (H : Hp) : V → PV → Prop
  | non : Rv K d F H .non .non
  | bl (b : Bool) : Rv K d F H (.bl b) (.bl b)
  | int (i : Int) : Rv K d F H (.int i) (.int i)
  | str (x : Str) : Rv K d F H (.str x) (.str x)
  | ty (n : String) : Rv K d F H (.ty n) (.ty n)
  | cls (c : Cn) : Rv K d F H (.ref (d c)) (.cls c)
  | lst {a : Addr} {vs : List V} {xs : List PV} : H a = some (.lst vs) → F a → Rvs K d F H vs xs → Rv K d F H (.ref a) (.lst xs)
  | tup {a : Addr} {vs : List V} {xs : List PV} : SqT K H a vs → Rvs K d F H vs xs → Rv K d F H (.ref a) (.tup xs)
  | ins {a dx : Addr} {c : Cn} {gs : List (Str × V)} {fs : List (Str × PV)} : H a = some (.ins (d c) dx gs) → Rvf K d F H gs fs → Rv K d F H (.ref a) (.ins c fs)
  | bag {b : Addr} : Bag H b → Rv K d F H (.ref b) .bag
  | scr {a : Addr} {ns : List Int} : ScrOk K F H a (ns.map V.int) → ns.length ≤ 63 → Rv K d F H (.ref a) (.scr ns)
  | fnv {z : Fv} {xs : List PV} : H z.c = some (LamX.CodeO z.c z.q) → Rvs K d F H z.vs xs → Rv K d F H (.ref z.f) (.fnv z xs)
  | dct {a : Addr} {kvs : List (Key × Int)} : H a = some (.dK (dkV kvs)) → F a → Rv K d F H (.ref a) (.dct a kvs)
  | idv {a : Addr} {x : PV} : Rv K d F H (.ref a) x → Rv K d F H (.ref a) (.idv a x)
inductive Rvs (K : PySem.W.Frag) (d : Cn → Addr) (F : Fz) (H : Hp) : List V → List PV → Prop
  | nil : Rvs K d F H [] []
  | cons {v : V} {x : PV} {vs : List V} {xs : List PV} : Rv K d F H v x → Rvs K d F H vs xs → Rvs K d F H (v :: vs) (x :: xs)
inductive Rvf (K : PySem.W.Frag) (d : Cn → Addr) (F : Fz) (H : Hp) : List (Str × V) → List (Str × PV) → Prop
  | nil : Rvf K d F H [] []
  | cons {f : Str} {v : V} {x : PV} {vs : List (Str × V)} {xs : List (Str × PV)} : Rv K d F H v x → Rvf K d F H vs xs → Rvf K d F H ((f, v) :: vs) ((f, x) :: xs)
end
def isMu : HO → Bool
  | .lst _ => true
  | .dK _ => true
  | .dT _ => true
  | .tbl _ => true
  | _ => false
theorem tb_mu {o : HO} (h : isMu o = false) : isTb o = false := by cases o <;> first | rfl | cases h
def Xm (H H' : Hp) : Prop := ∀ a o, H a = some o → isMu o = false → H' a = some o
theorem Xm.refl (H : Hp) : Xm H H := fun _ _ h _ => h
theorem Xm.of {H H' : Hp} (e : Xn H H') : Xm H H' := fun a o h n => e.kp a o h (tb_mu n)
theorem tup_xm {K : PySem.W.Frag} {H H' : Hp} {a : Addr} {xs : List V} (e : Xm H H') (h : SqT K H a xs) : SqT K H' a xs := by
  rcases h with (h | ⟨o, h⟩) | h
  · exact .inl (.inl (e _ _ h rfl))
  · exact .inl (.inr ⟨o, e _ _ h rfl⟩)
  · exact .inr h
theorem bag_xm {H H' : Hp} {b : Addr} (e : Xm H H') (h : Bag H b) : Bag H' b :=
  let ⟨l, o, cs, h1, h2, h3, h4⟩ := h
  ⟨l, o, cs, e _ _ h1 rfl, e _ _ h2 rfl, h3, h4⟩
def Stb (F : Fz) (H H' : Hp) : Prop := ∀ a o, H a = some o → (isMu o = false ∨ (F a ∧ isTb o = false)) → H' a = some o
section
variable {K : PySem.W.Frag} {d : Cn → Addr} {F F' F1 F2 : Fz} {H H' H1 H2 H0 : Hp}
theorem Stb.xl (e : Stb F H H') : Xm H H' := fun a o h n => e a o h (.inl n)
theorem Stb.of (e : Xn H H') : Stb F H H' := fun a o h z => e.kp a o h (z.elim tb_mu fun q => q.2)
theorem Stb.refl : Stb F H H := fun _ _ h _ => h
theorem Stb.set {a : Addr} {vs : List V} {o : HO} (ha : H a = some (.lst vs)) (nf : ¬ F a) : Stb F H (upd H a o) := fun b q hb z => by
  have ne : b ≠ a := by
    rintro rfl
    rw [ha] at hb
    cases hb
    rcases z with z | z
    · cases z
    · exact nf z.1
  rw [upd_ne ne]
  exact hb
theorem ScrOk.mono {a : Addr} {xs : List V} (h : ScrOk K F H a xs) (e : Stb F H H') (f : ∀ a, F a → F' a) : ScrOk K F' H' a xs := by
  rcases h with ⟨h, q⟩ | ⟨o, h⟩ | h
  · exact .inl ⟨e _ _ h (.inr ⟨q, rfl⟩), f _ q⟩
  · exact .inr (.inl ⟨o, e _ _ h (.inl rfl)⟩)
  · exact .inr (.inr h)
mutual
theorem Rv.mono (e : Stb F H H') (f : ∀ a, F a → F' a) : ∀ {v : V} {x : PV}, Rv K d F H v x → Rv K d F' H' v x
  | _, _, .non => .non
  | _, _, .bl b => .bl b
  | _, _, .int i => .int i
  | _, _, .str x => .str x
  | _, _, .ty n => .ty n
  | _, _, .cls c => .cls c
  | _, _, .lst h1 h2 h3 => .lst (e _ _ h1 (.inr ⟨h2, rfl⟩)) (f _ h2) (Rvs.mono e f h3)
  | _, _, .tup h1 h2 => .tup (tup_xm e.xl h1) (Rvs.mono e f h2)
  | _, _, .ins h1 h2 => .ins (e _ _ h1 (.inl rfl)) (Rvf.mono e f h2)
  | _, _, .bag h => .bag (bag_xm e.xl h)
  | _, _, .scr h1 h2 => .scr (h1.mono e f) h2
  | _, _, .fnv h1 h2 => .fnv (e _ _ h1 (.inl rfl)) (Rvs.mono e f h2)
  | _, _, .dct h1 h2 => .dct (e _ _ h1 (.inr ⟨h2, rfl⟩)) (f _ h2)
  | _, _, .idv h => .idv (Rv.mono e f h)
theorem Rvs.mono (e : Stb F H H') (f : ∀ a, F a → F' a) : ∀ {vs : List V} {xs : List PV}, Rvs K d F H vs xs → Rvs K d F' H' vs xs
  | _, _, .nil => .nil
  | _, _, .cons a b => .cons (Rv.mono e f a) (Rvs.mono e f b)
theorem Rvf.mono (e : Stb F H H') (f : ∀ a, F a → F' a) : ∀ {vs : List (Str × V)} {xs : List (Str × PV)}, Rvf K d F H vs xs → Rvf K d F' H' vs xs
  | _, _, .nil => .nil
  | _, _, .cons a b => .cons (Rv.mono e f a) (Rvf.mono e f b)
end
theorem Rvs.length : ∀ {vs : List V} {xs : List PV}, Rvs K d F H vs xs → vs.length = xs.length
  | _, _, .nil => rfl
  | _, _, .cons _ b => by rw [List.length_cons, List.length_cons, b.length]
theorem Rvs.get : ∀ {vs : List V} {xs : List PV} {i : Nat} {x : PV}, Rvs K d F H vs xs → xs[i]? = some x → ∃ v, vs[i]? = some v ∧ Rv K d F H v x
  | _, _, _, _, .nil, h => by simp at h
  | _, _, 0, _, .cons a b, h => by simp at h; subst h; exact ⟨_, rfl, a⟩
  | _, _, i + 1, _, .cons a b, h => by
    obtain ⟨v, h1, h2⟩ := Rvs.get (i := i) b (by simpa using h)
    exact ⟨v, by simpa using h1, h2⟩
theorem Rvs.getV : ∀ {vs : List V} {xs : List PV} {i : Nat} {v : V}, Rvs K d F H vs xs → vs[i]? = some v → ∃ x, xs[i]? = some x ∧ Rv K d F H v x
  | _, _, _, _, .nil, h => by simp at h
  | _, _, 0, _, .cons a b, h => by simp at h; subst h; exact ⟨_, rfl, a⟩
  | _, _, i + 1, _, .cons a b, h => by
    obtain ⟨v, h1, h2⟩ := Rvs.getV (i := i) b (by simpa using h)
    exact ⟨v, by simpa using h1, h2⟩
theorem Rvs.append : ∀ {vs ws : List V} {xs ys : List PV}, Rvs K d F H vs xs → Rvs K d F H ws ys → Rvs K d F H (vs ++ ws) (xs ++ ys)
  | _, _, _, _, .nil, s => s
  | _, _, _, _, .cons a b, s => .cons a (b.append s)
theorem Rvs.take : ∀ {vs : List V} {xs : List PV} (n : Nat), Rvs K d F H vs xs → Rvs K d F H (vs.take n) (xs.take n)
  | _, _, 0, _ => .nil
  | _, _, _ + 1, .nil => .nil
  | _, _, n + 1, .cons a b => .cons a (b.take n)
theorem Rvs.drop : ∀ {vs : List V} {xs : List PV} (n : Nat), Rvs K d F H vs xs → Rvs K d F H (vs.drop n) (xs.drop n)
  | _, _, 0, r => r
  | _, _, _ + 1, .nil => .nil
  | _, _, n + 1, .cons _ b => b.drop n
theorem Rvs.set {x : PV} {v : V} (r : Rv K d F H v x) : ∀ {vs : List V} {xs : List PV} (i : Nat), Rvs K d F H vs xs → Rvs K d F H (vs.set i v) (xs.set i x)
  | _, _, _, .nil => .nil
  | _, _, 0, .cons _ b => .cons r b
  | _, _, i + 1, .cons a b => .cons a (b.set r i)
theorem Rvs.reverse : ∀ {vs : List V} {xs : List PV}, Rvs K d F H vs xs → Rvs K d F H vs.reverse xs.reverse
  | _, _, .nil => .nil
  | _, _, .cons a b => by
    rw [List.reverse_cons, List.reverse_cons]
    exact b.reverse.append (.cons a .nil)
theorem Rvs.rep {x : PV} {v : V} (r : Rv K d F H v x) : ∀ n : Nat, Rvs K d F H (List.replicate n v) (List.replicate n x)
  | 0 => .nil
  | n + 1 => .cons r (Rvs.rep r n)
theorem Rvs.flat {vs : List V} {xs : List PV} (r : Rvs K d F H vs xs) : ∀ n : Nat, Rvs K d F H (List.replicate n vs).flatten (List.replicate n xs).flatten
  | 0 => .nil
  | n + 1 => by
    rw [List.replicate_succ, List.replicate_succ, List.flatten_cons, List.flatten_cons]
    exact r.append (r.flat n)
def cutP (xs : List PV) (lo hi : Option Int) : List PV := (xs.drop (HT.sIx xs.length 0 lo)).take (HT.sIx xs.length xs.length hi - HT.sIx xs.length 0 lo)
theorem Rvs.ints : ∀ {vs : List V} {ns : List Int}, Rvs K d F H vs (ns.map PV.int) → vs = ns.map V.int
  | [], [], _ => rfl
  | [], _ :: _, h => by cases h
  | _ :: _, [], h => by cases h
  | v :: vs, n :: ns, .cons a b => by
    cases a
    rw [List.map_cons, b.ints]
theorem Rvs.of_ints : ∀ (ns : List Int), Rvs K d F H (ns.map V.int) (ns.map PV.int)
  | [] => .nil
  | n :: ns => .cons (.int n) (Rvs.of_ints ns)
theorem Rvf.look : ∀ {gs : List (Str × V)} {fs : List (Str × PV)} {f : Str} {x : PV}, Rvf K d F H gs fs → fs.lookup f = some x → ∃ v, gs.lookup f = some v ∧ Rv K d F H v x
  | _, _, _, _, .nil, h => by simp at h
  | _, _, f, _, .cons (f := g) a b, h => by
    rw [List.lookup_cons] at h ⊢
    cases e : (f == g) with
    | true =>
      rw [e] at h
      simp at h
      subst h
      exact ⟨_, rfl, a⟩
    | false =>
      rw [e] at h
      exact b.look h
theorem Rvf.none : ∀ {gs : List (Str × V)} {fs : List (Str × PV)} {f : Str}, Rvf K d F H gs fs → fs.lookup f = none → gs.lookup f = none
  | _, _, _, .nil, _ => rfl
  | _, _, f, .cons (f := g) a b, h => by
    rw [List.lookup_cons] at h ⊢
    cases e : (f == g) with
    | true => rw [e] at h; simp at h
    | false =>
      rw [e] at h
      exact b.none h
theorem Rvf.length : ∀ {gs : List (Str × V)} {fs : List (Str × PV)}, Rvf K d F H gs fs → gs.length = fs.length
  | _, _, .nil => rfl
  | _, _, .cons _ b => by rw [List.length_cons, List.length_cons, b.length]
structure Dom (F : Fz) (H : Hp) : Prop where
  at_ : ∀ a, F a → H a ≠ none
  tb : TabsR H
theorem Dom.ex (h : Dom F H) (e : Ex H H') : Dom F H' := ⟨fun a f z => h.at_ a f (fresh_back e z), h.tb.ex e⟩
theorem Dom.set {p : Addr} {o : HO} {xs : List V} (h : Dom F H) (hp : H p = some (.lst xs)) : Dom F (upd H p o) := ⟨fun a f => upd_def (h.at_ a f), h.tb.mut hp rfl rfl⟩
theorem Dom.of (h : Dom F H) (q : ∀ a, F' a → H a ≠ none) : Dom F' H := ⟨q, h.tb⟩
structure Step (F : Fz) (H : Hp) (F' : Fz) (H' : Hp) : Prop where
  ex : Xn H H'
  up : ∀ a, F a → F' a
  nw : ∀ a, F' a → F a ∨ H a = none
  dm : Dom F' H'
theorem Step.trans (a : Step F H F1 H1) (b : Step F1 H1 F2 H2) : Step F H F2 H2 :=
  ⟨a.ex.trans b.ex, fun x h => b.up x (a.up x h), fun x h => (b.nw x h).elim (fun z => a.nw x z) fun z => .inr (back_x a.ex z), b.dm⟩
theorem Step.refl (h : Dom F H) : Step F H F H := ⟨Xn.refl H, fun _ h => h, fun _ h => .inl h, h⟩
theorem Step.to (h : Dom F H) (e : Ex H H') : Step F H F H' := ⟨.of e, fun _ h => h, fun _ h => .inl h, h.ex e⟩
structure Xt (H H' : Hp) : Prop where
  xn : Xn H H'
  tb : TabsR H'
theorem Xt.refl (h : Dom F H) : Xt H H := ⟨.refl H, h.tb⟩
theorem Xt.trans (a : Xt H H1) (b : Xt H1 H2) : Xt H H2 := ⟨a.xn.trans b.xn, b.tb⟩
theorem Step.xt (s : Step F H F' H') : Xt H H' := ⟨s.ex, s.dm.tb⟩
theorem Dom.xt (h : Dom F H) (e : Xt H H') : Dom F H' := ⟨fun a f => e.xn.dm a (h.at_ a f), e.tb⟩
theorem Step.tox (h : Dom F H) (e : Xt H H') : Step F H F H' := ⟨e.xn, fun _ h => h, fun _ h => .inl h, h.xt e⟩
theorem Rv.step {v : V} {x : PV} (s : Step F H F' H') (h : Rv K d F H v x) : Rv K d F' H' v x := h.mono (.of s.ex) s.up
theorem Rvs.step {v : List V} {x : List PV} (s : Step F H F' H') (h : Rvs K d F H v x) : Rvs K d F' H' v x := h.mono (.of s.ex) s.up
def plus (F : Fz) (p : Addr) : Fz := fun a => F a ∨ a = p
theorem Step.keep {p : Addr} (s : Step F H F' H') (n : H p = none) (h : H' p ≠ none) : Step F H (plus F' p) H' :=
  ⟨s.ex, fun a f => .inl (s.up a f), fun a f => f.elim (s.nw a) fun e => .inr (e ▸ n), s.dm.of fun a f => f.elim (s.dm.at_ a) fun e => e ▸ h⟩
theorem Step.new {p : Addr} {o : HO} (dm : Dom F H) (n : H p = none) : Step F H F (upd H p o) := Step.to dm (Ex.new n)
def notL : PV → Prop
  | .lst _ => False
  | _ => True
abbrev RR := Fz → Hp → Fz → Hp → V → PV → Prop
def rS (K : PySem.W.Frag) (d : Cn → Addr) : RR := fun _ _ F' H' v x => Rv K d F' H' v x
def rN (K : PySem.W.Frag) (d : Cn → Addr) : RR := fun _ H F' H' v x => (notL x ∧ Rv K d F' H' v x) ∨ ∃ p vs xs, v = .ref p ∧ x = .lst xs ∧ H p = none ∧ H' p = some (.lst vs) ∧ ¬ F' p ∧ Rvs K d F' H' vs xs
def Rw (K : PySem.W.Frag) (d : Cn → Addr) (F : Fz) (H : Hp) (v : V) (x : PV) : Prop := Rv K d F H v x ∨ ∃ p vs xs, v = .ref p ∧ x = .lst xs ∧ H p = some (.lst vs) ∧ Rvs K d F H vs xs
def rW (K : PySem.W.Frag) (d : Cn → Addr) : RR := fun _ _ F' H' v x => Rw K d F' H' v x
theorem Rw.dctE {v : V} {a : Addr} {kvs : List (Key × Int)} (h : Rw K d F H v (.dct a kvs)) : v = .ref a ∧ H a = some (.dK (dkV kvs)) ∧ F a := by
  rcases h with h | ⟨_, _, _, _, e, _⟩
  · cases h with
    | dct h1 h2 => exact ⟨rfl, h1, h2⟩
  · cases e
theorem Rw.step {v : V} {x : PV} (s : Step F H F' H') (h : Rw K d F H v x) : Rw K d F' H' v x := by
  rcases h with h | ⟨p, vs, xs, rfl, rfl, h1, h2⟩
  · exact .inl (h.step s)
  · exact .inr ⟨p, vs, xs, rfl, rfl, s.ex.at h1, h2.step s⟩
theorem Rw.lst {v : V} {xs : List PV} (h : Rw K d F H v (.lst xs)) : ∃ p vs, v = .ref p ∧ H p = some (.lst vs) ∧ Rvs K d F H vs xs := by
  rcases h with h | ⟨p, vs, ys, rfl, e, h1, h2⟩
  · cases h with
    | lst h1 h2 h3 => exact ⟨_, _, rfl, h1, h3⟩
  · cases e
    exact ⟨p, vs, rfl, h1, h2⟩
theorem Rw.of {v : V} {x : PV} (h : Rw K d F H v x) (n : notL x) : Rv K d F H v x := by
  rcases h with h | ⟨p, vs, ys, rfl, rfl, h1, h2⟩
  · exact h
  · exact n.elim
theorem Rv.tupE {v : V} {xs : List PV} (h : Rv K d F H v (.tup xs)) : ∃ p vs, v = .ref p ∧ SqT K H p vs ∧ Rvs K d F H vs xs := by
  cases h with
  | tup h1 h2 => exact ⟨_, _, rfl, h1, h2⟩
theorem Rv.insE {v : V} {c : Cn} {fs : List (Str × PV)} (h : Rv K d F H v (.ins c fs)) : ∃ p dx gs, v = .ref p ∧ H p = some (.ins (d c) dx gs) ∧ Rvf K d F H gs fs := by
  cases h with
  | ins h1 h2 => exact ⟨_, _, _, rfl, h1, h2⟩
structure ROk (R : RR) : Prop where
  back : ∀ {F H F1 H1 F2 H2 v x}, Step F H F1 H1 → R F1 H1 F2 H2 v x → R F H F2 H2 v x
theorem okS : ROk (rS K d) := ⟨fun _ h => h⟩
theorem okN : ROk (rN K d) := ⟨fun s h => by
  rcases h with h | ⟨p, vs, xs, h1, h2, h3, h4⟩
  · exact .inl h
  · exact .inr ⟨p, vs, xs, h1, h2, back_x s.ex h3, h4⟩⟩
theorem rN_S {v : V} {x : PV} (s : Step F H F' H') (h : rN K d F H F' H' v x) : ∃ F2, Step F H F2 H' ∧ Rv K d F2 H' v x := by
  rcases h with h | ⟨p, vs, xs, rfl, rfl, h1, h2, h3, h4⟩
  · exact ⟨F', s, h.2⟩
  · exact ⟨plus F' p, s.keep h1 (by rw [h2]; intro z; cases z), .lst h2 (.inr rfl) (h4.mono .refl fun a z => .inl z)⟩
theorem rN_W {v : V} {x : PV} (h : rN K d F H F' H' v x) : Rw K d F' H' v x := by
  rcases h with h | ⟨p, vs, xs, rfl, rfl, h1, h2, h3, h4⟩
  · exact .inl h.2
  · exact .inr ⟨p, vs, xs, rfl, rfl, h2, h4⟩
inductive Tag where
  | sh | ow | no | od | ex
  deriving DecidableEq
class XC where
  h : Fz → Hp → Prop
  a : Addr
  o : Option Addr
  fs : List (Str × PV)
  nw : Bool
def XdN (H0 : Hp) (gs : List (Str × V)) (fs : List (Str × PV)) : Prop := ∀ (k : Nat) (f : Str) (v : V) (ys : List PV), gs[k]? = some (f, v) → fs[k]? = some (f, .lst ys) → ∃ p, v = .ref p ∧ H0 p = none
def Exv [X : XC] (K : PySem.W.Frag) (d : Cn → Addr) (ts : List Tag) (H0 : Hp) (F : Fz) (H : Hp) (σ : L2.St) : Prop := ∀ i : Nat, ts[i]? = some .ex → σ[i]? = some (some (.ref X.a)) ∧ ∀ dd, X.o = some dd → ∃ gs, H dd = some (.xd gs) ∧ Rvf K d F H gs X.fs ∧ (X.nw = true → XdN H0 gs X.fs)
theorem Exv.mono [X : XC] {ts : List Tag} {σ : L2.St} (e : Stb F H H') (f : ∀ a, F a → F' a) (h : Exv K d ts H0 F H σ) : Exv K d ts H0 F' H' σ := fun i hi => by
  obtain ⟨h1, h2⟩ := h i hi
  refine ⟨h1, fun dd hd => ?_⟩
  obtain ⟨gs, g1, g2, g3⟩ := h2 dd hd
  exact ⟨gs, e _ _ g1 (.inl rfl), g2.mono e f, g3⟩
theorem Exv.set [X : XC] {ts : List Tag} {σ : L2.St} {i : Nat} {t : Tag} {v : Option V} (ht : t ≠ .ex) (h : Exv K d ts H0 F H σ) : Exv K d (ts.set i t) H0 F H (σ.set i v) := fun j hj => by
  rw [List.getElem?_set] at hj
  split at hj
  · split at hj
    · cases hj
      exact absurd rfl ht
    · cases hj
  · next e =>
    rw [List.getElem?_set_ne e]
    exact h j hj
def Hk (o : HO) (ws : List V) : Prop := o = .lst ws ∨ o = .tup ws ∨ ((∃ kvs, o = .dK (dkV kvs)) ∧ ws = [])
def Ht (H : Hp) (c : Addr) (ws : List V) : Prop := ∃ o, H c = some o ∧ Hk o ws
def Hx (H : Hp) (c : Addr) (ws : List V) (x : PV) (zs : List PV) : Prop := (H c = some (.lst ws) ∧ x = .lst zs) ∨ (H c = some (.tup ws) ∧ x = .tup zs) ∨ ∃ kvs, H c = some (.dK (dkV kvs)) ∧ x = .dct c kvs ∧ ws = [] ∧ zs = []
theorem Hk.tb {o : HO} {ws : List V} (h : Hk o ws) : isTb o = false := by
  rcases h with rfl | rfl | ⟨⟨_, rfl⟩, _⟩ <;> rfl
theorem Hk.inj {o : HO} {ws ws' : List V} (h : Hk o ws) (h' : Hk o ws') : ws = ws' := by
  rcases h with rfl | rfl | ⟨⟨_, rfl⟩, rfl⟩ <;> rcases h' with e | e | ⟨⟨_, e⟩, e2⟩ <;> first | (cases e; rfl) | cases e | exact e2.symm
theorem Ht.lst {H : Hp} {c : Addr} {ws : List V} (h : H c = some (.lst ws)) : Ht H c ws := ⟨_, h, .inl rfl⟩
theorem Ht.at {H H' : Hp} {c : Addr} {ws : List V} (h : Ht H c ws) (e : Xn H H') : Ht H' c ws := let ⟨o, h1, h2⟩ := h; ⟨o, e.kp _ _ h1 h2.tb, h2⟩
theorem Ht.inj {H : Hp} {c : Addr} {ws ws' : List V} (h : Ht H c ws) (h' : Ht H c ws') : ws = ws' := by
  obtain ⟨o, h1, h2⟩ := h
  obtain ⟨o', h3, h4⟩ := h'
  rw [h1] at h3
  cases h3
  exact h2.inj h4
theorem Ht.some {H : Hp} {c : Addr} {ws : List V} (h : Ht H c ws) : H c ≠ none := by
  obtain ⟨o, h1, _⟩ := h
  rw [h1]; intro z; cases z
theorem Ht.same {H H' : Hp} {c : Addr} {ws : List V} (h : Ht H c ws) (e : H' c = H c) : Ht H' c ws := by unfold Ht; rw [e]; exact h
theorem Hx.lst {H : Hp} {c : Addr} {ws : List V} {zs : List PV} (h : H c = Option.some (.lst ws)) : Hx H c ws (.lst zs) zs := .inl ⟨h, rfl⟩
theorem Hx.ht {H : Hp} {c : Addr} {ws : List V} {x : PV} {zs : List PV} (h : Hx H c ws x zs) : Ht H c ws := by
  rcases h with ⟨h, _⟩ | ⟨h, _⟩ | ⟨kvs, h, _, e, _⟩
  · exact ⟨_, h, .inl rfl⟩
  · exact ⟨_, h, .inr (.inl rfl)⟩
  · exact ⟨_, h, .inr (.inr ⟨⟨_, rfl⟩, e⟩)⟩
theorem Hx.at {H H' : Hp} {c : Addr} {ws : List V} {x : PV} {zs : List PV} (h : Hx H c ws x zs) (e : Xn H H') : Hx H' c ws x zs := by
  rcases h with ⟨h, q⟩ | ⟨h, q⟩ | ⟨kvs, h, q⟩
  · exact .inl ⟨e.at h, q⟩
  · exact .inr (.inl ⟨e.at h, q⟩)
  · exact .inr (.inr ⟨kvs, e.at h, q⟩)
theorem Hx.same {H H' : Hp} {c : Addr} {ws : List V} {x : PV} {zs : List PV} (h : Hx H c ws x zs) (e : H' c = H c) : Hx H' c ws x zs := by unfold Hx; rw [e]; exact h
theorem Hx.of_lst {H : Hp} {c : Addr} {ws : List V} {zs zs' : List PV} (h : Hx H c ws (.lst zs) zs') : H c = Option.some (.lst ws) ∧ zs' = zs := by
  rcases h with ⟨h, q⟩ | ⟨h, q⟩ | ⟨kvs, h, q, _⟩ <;> cases q
  exact ⟨h, rfl⟩
theorem Hx.of_tup {H : Hp} {c : Addr} {ws : List V} {zs zs' : List PV} (h : Hx H c ws (.tup zs) zs') : H c = Option.some (.tup ws) ∧ zs' = zs := by
  rcases h with ⟨h, q⟩ | ⟨h, q⟩ | ⟨kvs, h, q, _⟩ <;> cases q
  exact ⟨h, rfl⟩
def Dpl (H : Hp) (σ : L2.St) (i : Nat) (a : Addr) : Prop := ∃ (c : Addr) (ws : List V), σ[i]? = some (some (.ref c)) ∧ Ht H c ws ∧ (a = c ∨ V.ref a ∈ ws)
def Sc (K : PySem.W.Frag) (d : Cn → Addr) (w : V) (z : PV) : Prop := (∀ a, w ≠ .ref a) ∧ ∀ F H, Rv K d F H w z
def OdI (K : PySem.W.Frag) (d : Cn → Addr) (H0 : Hp) (F : Fz) (H : Hp) (w : V) (z : PV) : Prop := (∃ (b : Addr) (us : List V) (ys : List PV), w = .ref b ∧ z = .lst ys ∧ H b = some (.lst us) ∧ ¬ F b ∧ H0 b = none ∧ Rvs K d F H us ys) ∨ Sc K d w z
def Uq (ws : List V) : Prop := ∀ (k l : Nat) (a : Addr), ws[k]? = some (.ref a) → ws[l]? = some (.ref a) → k = l
def OdL (K : PySem.W.Frag) (d : Cn → Addr) (H0 : Hp) (F : Fz) (H : Hp) (v : V) (x : PV) : Prop := ∃ (c : Addr) (ws : List V) (zs : List PV), v = .ref c ∧ Hx H c ws x zs ∧ Ht H c ws ∧ ¬ F c ∧ H0 c = none ∧ V.ref c ∉ ws ∧ Uq ws ∧ ws.length = zs.length ∧
  ∀ (k : Nat) (w : V) (z : PV), ws[k]? = some w → zs[k]? = some z → OdI K d H0 F H w z
structure EnvR [X : XC] (K : PySem.W.Frag) (d : Cn → Addr) (ts : List Tag) (H0 : Hp) (F0 F : Fz) (H : Hp) (σ : L2.St) (ρ : List PV) : Prop where
  st : Step F0 H0 F H
  ls : σ.length = ts.length
  lr : ρ.length = ts.length
  sh : ∀ i : Nat, ts[i]? = some .sh → ∃ v x, σ[i]? = some (some v) ∧ ρ[i]? = some x ∧ Rv K d F H v x
  ow : ∀ i : Nat, ts[i]? = some .ow → ∃ a vs xs, σ[i]? = some (some (.ref a)) ∧ ρ[i]? = some (.lst xs) ∧ H a = some (.lst vs) ∧ ¬ F a ∧ H0 a = none ∧ Rvs K d F H vs xs
  ap : ∀ (i j : Nat) (a : Addr), ts[i]? = some .ow → ts[j]? = some .ow → σ[i]? = some (some (.ref a)) → σ[j]? = some (some (.ref a)) → i = j
  od : ∀ i : Nat, ts[i]? = some .od → ∃ v x, σ[i]? = some (some v) ∧ ρ[i]? = some x ∧ OdL K d H0 F H v x
  ad : ∀ (i : Nat) (a : Addr), ts[i]? = some .od → Dpl H σ i a → (∀ j : Nat, ts[j]? = some .ow → σ[j]? ≠ some (some (.ref a))) ∧ ∀ j : Nat, ts[j]? = some .od → Dpl H σ j a → i = j
  xc : X.h F0 H0
  ex : Exv K d ts H0 F H σ
variable [X : XC]
variable {ts ts' : List Tag} {F0 : Fz} {σ : L2.St} {ρ : List PV}
theorem EnvR.dm (E : EnvR K d ts H0 F0 F H σ ρ) : Dom F H := E.st.dm
theorem OdL.to {d : Cn → Addr} {H0 : Hp} {x : PV} (h : OdL K d H0 F H v x) (ex : Xn H H') (nw : ∀ a, F' a → F a ∨ H a = none) (m : ∀ {us : List V} {ys : List PV}, Rvs K d F H us ys → Rvs K d F' H' us ys) : OdL K d H0 F' H' v x := by
  obtain ⟨c, bs, yss, h1, h2, h3, h4, h5, h6, h7, h8, h9⟩ := h
  have nf : ∀ {a : Addr} {o : HO}, H a = some o → ¬ F a → ¬ F' a := fun {a o} q n z => (nw a z).elim n fun e => by rw [q] at e; cases e
  refine ⟨c, bs, yss, h1, h2.at ex, h3.at ex, nf h3.choose_spec.1 h4, h5, h6, h7, h8, fun k w z k1 k2 => ?_⟩
  rcases h9 k w z k1 k2 with ⟨b, us, ys, e1, e2, u1, u2, u3, u4⟩ | s
  · exact .inl ⟨b, us, ys, e1, e2, ex.at u1, nf u1 u2, u3, m u4⟩
  · exact .inr s
theorem OdL.have_ {d : Cn → Addr} {H0 : Hp} {x : PV} (h : OdL K d H0 F H v x) {σ : L2.St} {i : Nat} (hs : σ[i]? = some (some v)) {a : Addr} (q : Dpl H σ i a) : H a ≠ none ∧ ¬ F a ∧ H0 a = none ∧ ∃ (c : Addr) (ws : List V), v = .ref c ∧ Ht H c ws ∧ (a = c ∨ V.ref a ∈ ws) := by
  obtain ⟨c, bs, yss, rfl, h2, h3, h4, h5, h6, h7, h8, h9⟩ := h
  obtain ⟨c', bs', q1, q2, q3⟩ := q
  rw [hs] at q1
  cases q1
  cases h3.inj q2
  have it : V.ref a ∈ bs → ∃ us, H a = some (.lst us) ∧ ¬ F a ∧ H0 a = none := fun q3 => by
    obtain ⟨k, hk, e⟩ := List.mem_iff_getElem.mp q3
    rcases h9 k (.ref a) _ (by rw [List.getElem?_eq_getElem hk, e]) (List.getElem?_eq_getElem (by omega)) with ⟨b, us, ys, e1, e2, u1, u2, u3, u4⟩ | s
    · cases e1
      exact ⟨us, u1, u2, u3⟩
    · exact absurd rfl (s.1 a)
  refine ⟨?_, ?_, ?_, c, bs, rfl, h3, q3⟩ <;> rcases q3 with rfl | q3
  · exact h3.some
  · obtain ⟨us, u1, _⟩ := it q3
    rw [u1]; intro z; cases z
  · exact h4
  · exact (it q3).choose_spec.2.1
  · exact h5
  · exact (it q3).choose_spec.2.2
theorem EnvR.back (E : EnvR K d ts H0 F0 F H σ ρ) (ex : Xn H H') {i : Nat} {a : Addr} (h : ts[i]? = some .od) (q : Dpl H' σ i a) : Dpl H σ i a := by
  obtain ⟨v, x, h1, h2, h3⟩ := E.od i h
  obtain ⟨c, bs, yss, rfl, _, g, _⟩ := h3
  obtain ⟨c', bs', q1, q2, q3⟩ := q
  rw [h1] at q1
  cases q1
  cases (g.at ex).inj q2
  exact ⟨c, _, h1, g, q3⟩
theorem EnvR.step (E : EnvR K d ts H0 F0 F H σ ρ) (s : Step F H F' H') : EnvR K d ts H0 F0 F' H' σ ρ where
  st := E.st.trans s
  ls := E.ls
  lr := E.lr
  sh := fun i h => let ⟨v, x, h1, h2, h3⟩ := E.sh i h; ⟨v, x, h1, h2, h3.step s⟩
  ow := fun i h => by
    obtain ⟨a, vs, xs, h1, h2, h3, h4, h5, h6⟩ := E.ow i h
    refine ⟨a, vs, xs, h1, h2, s.ex.at h3, fun z => ?_, h5, h6.step s⟩
    rcases s.nw a z with z | z
    · exact h4 z
    · rw [h3] at z
      cases z
  ap := E.ap
  od := fun i h => let ⟨v, x, h1, h2, h3⟩ := E.od i h; ⟨v, x, h1, h2, h3.to s.ex (fun a z => s.nw a z) fun r => r.step s⟩
  ad := fun i a h q => by
    obtain ⟨q1, q2⟩ := E.ad i a h (E.back s.ex h q)
    exact ⟨q1, fun j hj z => q2 j hj (E.back s.ex hj z)⟩
  xc := E.xc
  ex := E.ex.mono (.of s.ex) s.up
def shr (ts : List Tag) : List Tag := ts.map fun t => match t with | .ow => .sh | .od => .sh | t => t
def cv1 : Tag → Tag → Bool
  | _, .no => true
  | .sh, .sh => true
  | .ow, .sh => true
  | .ow, .ow => true
  | .od, .od => true
  | .od, .sh => true
  | .ex, .ex => true
  | _, _ => false
def cv : List Tag → List Tag → Bool
  | [], [] => true
  | a :: as, b :: bs => cv1 a b && cv as bs
  | _, _ => false
theorem cv_get : ∀ {as bs : List Tag}, cv as bs = true → as.length = bs.length ∧ ∀ (i : Nat) (b : Tag), bs[i]? = some b → ∃ a, as[i]? = some a ∧ cv1 a b = true
  | [], [], _ => ⟨rfl, fun i b h => by simp at h⟩
  | [], _ :: _, h => by cases h
  | _ :: _, [], h => by cases h
  | a :: as, b :: bs, h => by
    have h1 : (cv1 a b && cv as bs) = true := h
    rw [Bool.and_eq_true] at h1
    obtain ⟨l, g⟩ := cv_get h1.2
    refine ⟨by rw [List.length_cons, List.length_cons, l], fun i c hc => ?_⟩
    cases i with
    | zero =>
      simp at hc
      subst hc
      exact ⟨a, rfl, h1.1⟩
    | succ i =>
      obtain ⟨x, hx, q⟩ := g i c (by simpa using hc)
      exact ⟨x, by simpa using hx, q⟩
theorem cv_shr : ∀ ts : List Tag, cv ts (shr ts) = true
  | [] => rfl
  | a :: as => by
    show (cv1 a _ && cv as (shr as)) = true
    rw [cv_shr as]
    cases a <;> rfl
theorem EnvR.convP (E : EnvR K d ts H0 F0 F H σ ρ) (c : cv ts ts' = true) : ∃ F', (∀ a, F a → F' a) ∧ (∀ (i : Nat) (a : Addr), ts[i]? = some .od → ts'[i]? = some .sh → Dpl H σ i a → F' a) ∧ EnvR K d ts' H0 F0 F' H σ ρ := by
  obtain ⟨cl, cg⟩ := cv_get c
  let F' : Fz := fun a => F a ∨ (∃ i : Nat, ts[i]? = some .ow ∧ ts'[i]? = some .sh ∧ σ[i]? = some (some (.ref a))) ∨ ∃ i : Nat, ts[i]? = some .od ∧ ts'[i]? = some .sh ∧ Dpl H σ i a
  have up : ∀ a, F a → F' a := fun a h => .inl h
  have nwo : ∀ a, F' a → F a ∨ (H0 a = none ∧ H a ≠ none) := fun a h => h.elim .inl fun h => h.elim (fun ⟨i, h1, _, h2⟩ => by
    obtain ⟨b, vs, xs, g1, g2, g3, g4, g5, g6⟩ := E.ow i h1
    rw [h2] at g1
    cases g1
    exact .inr ⟨g5, by rw [g3]; intro z; cases z⟩) fun ⟨i, h1, _, h2⟩ => by
    obtain ⟨v, x, g1, g2, g3⟩ := E.od i h1
    obtain ⟨k1, k2, k3, _⟩ := g3.have_ g1 h2
    exact .inr ⟨k3, k1⟩
  have oo : ∀ k : Nat, ts'[k]? = some .ow → ts[k]? = some .ow := fun k hk => by
    obtain ⟨t, ht, q⟩ := cg k _ hk
    cases t with
    | ow => exact ht
    | sh => cases q
    | no => cases q
    | od => cases q
    | ex => cases q
  have dd : ∀ k : Nat, ts'[k]? = some .od → ts[k]? = some .od := fun k hk => by
    obtain ⟨t, ht, q⟩ := cg k _ hk
    cases t with
    | ow => cases q
    | sh => cases q
    | no => cases q
    | od => exact ht
    | ex => cases q
  refine ⟨F', up, fun i a h1 h2 h3 => .inr (.inr ⟨i, h1, h2, h3⟩), ⟨⟨E.st.ex, fun a h => up a (E.st.up a h), fun a h => (nwo a h).elim (E.st.nw a) fun z => .inr z.1, E.dm.of fun a h => (nwo a h).elim (E.dm.at_ a) fun z => z.2⟩, by rw [E.ls, cl], by rw [E.lr, cl], fun i h => ?_, fun i h => ?_, fun i j a h1 h2 h3 h4 => ?_, fun i h => ?_, fun i a h q => ?_, E.xc, fun i h => ?_⟩⟩
  rotate_right
  · obtain ⟨t, ht, q⟩ := cg i _ h
    cases t with
    | ex => exact E.ex.mono .refl up i ht
    | sh => cases q
    | ow => cases q
    | no => cases q
    | od => cases q
  · obtain ⟨t, ht, q⟩ := cg i _ h
    cases t with
    | sh =>
      obtain ⟨v, x, h1, h2, h3⟩ := E.sh i ht
      exact ⟨v, x, h1, h2, h3.mono .refl up⟩
    | ow =>
      obtain ⟨a, vs, xs, h1, h2, h3, h4, h5, h6⟩ := E.ow i ht
      exact ⟨_, _, h1, h2, .lst h3 (.inr (.inl ⟨i, ht, h, h1⟩)) (h6.mono .refl up)⟩
    | no => cases q
    | ex => cases q
    | od =>
      obtain ⟨v, x, h1, h2, h3⟩ := E.od i ht
      obtain ⟨c, bs, yss, rfl, hx, h4, h5, h6, h7, h8, h9, h10⟩ := h3
      have all : ∀ (bs2 : List V) (yss2 : List PV), bs2.length = yss2.length → (∀ b ∈ bs2, b ∈ bs) → (∀ (k : Nat) (w : V) (z : PV), bs2[k]? = some w → yss2[k]? = some z → OdI K d H0 F H w z) → Rvs K d F' H bs2 yss2 := by
        intro bs2
        induction bs2 with
        | nil => intro yss2 e _ _; cases yss2 with
          | nil => exact .nil
          | cons => cases e
        | cons b bs2 ih => intro yss2 e m q; cases yss2 with
          | nil => cases e
          | cons ys yss2 =>
            refine .cons ?_ (ih yss2 (by simpa using e) (fun b' hb => m b' (List.mem_cons_of_mem _ hb)) fun k b' ys' k1 k2 => q (k + 1) b' ys' k1 k2)
            rcases q 0 b ys rfl rfl with ⟨p, us, zs, rfl, rfl, u1, u2, u3, u4⟩ | s
            · exact .lst u1 (.inr (.inr ⟨i, ht, h, c, bs, h1, h4, .inr (m _ List.mem_cons_self)⟩)) (u4.mono .refl up)
            · exact s.2 _ _
      have rs := all bs yss h9 (fun _ h => h) h10
      have hF : F' c := .inr (.inr ⟨i, ht, h, c, bs, h1, h4, .inl rfl⟩)
      rcases hx with ⟨q, rfl⟩ | ⟨q, rfl⟩ | ⟨kvs, q, rfl, rfl, rfl⟩
      · exact ⟨_, _, h1, h2, .lst q hF rs⟩
      · exact ⟨_, _, h1, h2, .tup (.inl (.inl q)) rs⟩
      · exact ⟨_, _, h1, h2, .dct q hF⟩
  · have ht := oo i h
    obtain ⟨a, vs, xs, h1, h2, h3, h4, h5, h6⟩ := E.ow i ht
    refine ⟨a, vs, xs, h1, h2, h3, fun z => ?_, h5, h6.mono .refl up⟩
    rcases z with z | ⟨j, g1, g2, g3⟩ | ⟨j, g1, g2, g3⟩
    · exact h4 z
    · have := E.ap i j a ht g1 h1 g3
      subst this
      rw [h] at g2
      cases g2
    · exact (E.ad j a g1 g3).1 i ht h1
  · exact E.ap i j a (oo i h1) (oo j h2) h3 h4
  · have ht := dd i h
    obtain ⟨v, x, h1, h2, h3⟩ := E.od i ht
    have nf : ∀ a, Dpl H σ i a → ¬ F' a := fun a q z => by
      rcases z with z | ⟨j, g1, g2, g3⟩ | ⟨j, g1, g2, g3⟩
      · exact (h3.have_ h1 q).2.1 z
      · exact (E.ad i a ht q).1 j g1 g3
      · have := (E.ad i a ht q).2 j g1 g3
        subst this
        rw [h] at g2
        cases g2
    obtain ⟨c, bs, yss, rfl, hx, h4, h5, h6, h7, h8, h9, h10⟩ := h3
    refine ⟨_, _, h1, h2, c, bs, yss, rfl, hx, h4, nf c ⟨c, bs, h1, h4, .inl rfl⟩, h6, h7, h8, h9, fun k w z k1 k2 => ?_⟩
    rcases h10 k w z k1 k2 with ⟨b, us, ys, rfl, rfl, u1, u2, u3, u4⟩ | s
    · exact .inl ⟨b, us, ys, rfl, rfl, u1, nf b ⟨c, bs, h1, h4, .inr (List.mem_of_getElem? k1)⟩, u3, u4.mono .refl up⟩
    · exact .inr s
  · obtain ⟨q1, q2⟩ := E.ad i a (dd i h) q
    exact ⟨fun j hj => q1 j (oo j hj), fun j hj z => q2 j (dd j hj) z⟩
theorem EnvR.conv (E : EnvR K d ts H0 F0 F H σ ρ) (c : cv ts ts' = true) : ∃ F', (∀ a, F a → F' a) ∧ EnvR K d ts' H0 F0 F' H σ ρ := let ⟨F', u, _, e⟩ := E.convP c; ⟨F', u, e⟩
end
end Wx
namespace Wx
open PySem PySem.Spec PyProof.Rows L2 Evl Hn
variable [TabC]
abbrev WE := List PV → (PV → Prop) → Prop
abbrev WT := List PV → (Bool → Prop) → Prop
abbrev WA := List PV → (List PV → Prop) → Prop
abbrev W1 := PV → (PV → Prop) → Prop
abbrev W2 := PV → PV → (PV → Prop) → Prop
abbrev WC := List PV → (PV → Prop) → Prop
section
variable [XC]
variable (K : PySem.W.Frag) (d : Cn → Addr)
def Sim (R : RR) (ts : List Tag) (te : TE) (we : WE) : Prop := ∀ (H0 : Hp) (F0 F : Fz) (H : Hp) (σ : L2.St) (ρ : List PV) (Q : VK) (P : PV → Prop), EnvR K d ts H0 F0 F H σ ρ → we ρ P →
  (∀ x v F' H', Step F H F' H' → R F H F' H' v x → P x → Q v H') → te σ H Q
def SimT (ts : List Tag) (tt : TT) (wt : WT) : Prop := ∀ (H0 : Hp) (F0 F : Fz) (H : Hp) (σ : L2.St) (ρ : List PV) (Q : Bool → Hp → Prop) (P : Bool → Prop), EnvR K d ts H0 F0 F H σ ρ → wt ρ P →
  (∀ b H', Xt H H' → P b → Q b H') → tt σ H Q
def SimA (ts : List Tag) (ta : TA) (wa : WA) : Prop := ∀ (H0 : Hp) (F0 F : Fz) (H : Hp) (σ : L2.St) (ρ : List PV) (Q : List V → Hp → Prop) (P : List PV → Prop), EnvR K d ts H0 F0 F H σ ρ → wa ρ P →
  (∀ xs vs F' H', Step F H F' H' → Rvs K d F' H' vs xs → P xs → Q vs H') → ta σ H Q
inductive Rws (F : Fz) (H : Hp) : List V → List PV → Prop
  | nil : Rws F H [] []
  | cons {v : V} {x : PV} {vs : List V} {xs : List PV} : Rw K d F H v x → Rws F H vs xs → Rws F H (v :: vs) (x :: xs)
def SimAW (ts : List Tag) (ta : TA) (wa : WA) : Prop := ∀ (H0 : Hp) (F0 F : Fz) (H : Hp) (σ : L2.St) (ρ : List PV) (Q : List V → Hp → Prop) (P : List PV → Prop), EnvR K d ts H0 F0 F H σ ρ → wa ρ P →
  (∀ xs vs F' H', Step F H F' H' → Rws K d F' H' vs xs → P xs → Q vs H') → ta σ H Q
def OpS (R : RR) (r : R2) (w : W2) : Prop := ∀ (F : Fz) (H : Hp) (v u : V) (x y : PV) (Q : VK) (P : PV → Prop), Dom F H → Rw K d F H v x → Rw K d F H u y → w x y P →
  (∀ z v' F' H', Step F H F' H' → R F H F' H' v' z → P z → Q v' H') → r v u H Q
def CaS (R : RR) (r : List V → Hp → VK → Prop) (w : WC) : Prop := ∀ (F : Fz) (H : Hp) (vs : List V) (xs : List PV) (Q : VK) (P : PV → Prop), Dom F H → Rws K d F H vs xs → w xs P →
  (∀ z v' F' H', Step F H F' H' → R F H F' H' v' z → P z → Q v' H') → r vs H Q
def SlS (r : V → Option Int → Option Int → Hp → VK → Prop) (w : PV → Option Int → Option Int → (PV → Prop) → Prop) : Prop := ∀ (F : Fz) (H : Hp) (v : V) (lo hi : Option Int) (x : PV) (Q : VK) (P : PV → Prop), Dom F H → Rw K d F H v x → w x lo hi P →
  (∀ z v' F' H', Step F H F' H' → rN K d F H F' H' v' z → P z → Q v' H') → r v lo hi H Q
end
section
variable [XC]
variable {K : PySem.W.Frag} {d : Cn → Addr} {F F' F0 : Fz} {H H' H0 : Hp} {v u : V} {ts : List Tag} {R : RR} {te ta tb tc : TE} {we wa wb wc : WE}
theorem Rw.intE {a : Int} (h : Rw K d F H v (.int a)) : v = .int a := by cases h.of trivial; rfl
theorem Rw.blE {a : Bool} (h : Rw K d F H v (.bl a)) : v = .bl a := by cases h.of trivial; rfl
theorem Rw.strE {a : Str} (h : Rw K d F H v (.str a)) : v = .str a := by cases h.of trivial; rfl
theorem Rw.tyE {a : String} (h : Rw K d F H v (.ty a)) : v = .ty a := by cases h.of trivial; rfl
theorem Rw.nonE (h : Rw K d F H v .non) : v = .non := by cases h.of trivial; rfl
theorem Rw.tupE {xs : List PV} (h : Rw K d F H v (.tup xs)) : ∃ p vs, v = .ref p ∧ SqT K H p vs ∧ Rvs K d F H vs xs := (h.of trivial).tupE
theorem Rw.insE {c : Cn} {fs : List (Str × PV)} (h : Rw K d F H v (.ins c fs)) : ∃ p dx gs, v = .ref p ∧ H p = some (.ins (d c) dx gs) ∧ Rvf K d F H gs fs := (h.of trivial).insE
theorem Rws.one {vs : List V} {x : PV} (h : Rws K d F H vs [x]) : ∃ v, vs = [v] ∧ Rw K d F H v x := by
  cases h with
  | cons a b => cases b; exact ⟨_, rfl, a⟩
theorem Rws.two {vs : List V} {x y : PV} (h : Rws K d F H vs [x, y]) : ∃ v u, vs = [v, u] ∧ Rw K d F H v x ∧ Rw K d F H u y := by
  cases h with
  | cons a b =>
    obtain ⟨u, rfl, q⟩ := b.one
    exact ⟨_, u, rfl, a, q⟩
theorem fin_val {x : PV} {Q : VK} {P : PV → Prop} (dm : Dom F H) (r : Rv K d F H v x) (p : P x) (k : ∀ z v' F' H', Step F H F' H' → rN K d F H F' H' v' z → P z → Q v' H') (n : notL x := by exact trivial) : Q v H :=
  k x v F H (Step.refl dm) (.inl ⟨n, r⟩) p
theorem fin_lst {p : Addr} {vs : List V} {xs : List PV} {Q : VK} {P : PV → Prop} (dm : Dom F H) (n : H p = none) (r : Rvs K d F H vs xs) (pp : P (.lst xs)) (k : ∀ z v' F' H', Step F H F' H' → rN K d F H F' H' v' z → P z → Q v' H') : Q (.ref p) (upd H p (.lst vs)) :=
  k (.lst xs) _ F _ (Step.new dm n) (.inr ⟨p, vs, xs, rfl, rfl, n, upd_same, fun f => dm.at_ p f n, r.mono (.of (Xn.new n)) fun _ h => h⟩) pp
theorem fin_tup {p : Addr} {vs : List V} {xs : List PV} {Q : VK} {P : PV → Prop} (dm : Dom F H) (n : H p = none) (r : Rvs K d F H vs xs) (pp : P (.tup xs)) (k : ∀ z v' F' H', Step F H F' H' → rN K d F H F' H' v' z → P z → Q v' H') : Q (.ref p) (upd H p (.tup vs)) :=
  k (.tup xs) _ F _ (Step.new dm n) (.inl ⟨(trivial : notL (.tup xs)), .tup (.inl (.inl upd_same)) (r.mono (.of (Xn.new n)) fun _ h => h)⟩) pp
theorem sim_NS (h : Sim K d (rN K d) ts te we) : Sim K d (rS K d) ts te we := fun H0 F0 F H σ ρ Q P E hw k => h H0 F0 F H σ ρ Q P E hw fun x v F' H' s r p => by
  obtain ⟨F2, s2, r2⟩ := rN_S s r
  exact k x v F2 H' s2 r2 p
theorem sim_SW (h : Sim K d (rS K d) ts te we) : Sim K d (rW K d) ts te we := fun H0 F0 F H σ ρ Q P E hw k => h H0 F0 F H σ ρ Q P E hw fun x v F' H' s r p => k x v F' H' s (.inl r) p
theorem sim_NW (h : Sim K d (rN K d) ts te we) : Sim K d (rW K d) ts te we := fun H0 F0 F H σ ρ Q P E hw k => h H0 F0 F H σ ρ Q P E hw fun x v F' H' s r p => k x v F' H' s (rN_W r) p
def wNL (we : WE) : WE := fun ρ P => we ρ fun x => notL x ∧ P x
def scalP : PV → Prop
  | .non => True
  | .bl _ => True
  | .int _ => True
  | .str _ => True
  | .ty _ => True
  | _ => False
theorem scal_any {x : PV} (h : scalP x) (r : Rv K d F H v x) : Rv K d F' H' v x := by
  cases r with
  | non => exact .non
  | bl b => exact .bl b
  | int i => exact .int i
  | str x => exact .str x
  | ty n => exact .ty n
  | cls c => exact h.elim
  | lst a b c => exact h.elim
  | tup a b => exact h.elim
  | ins a b => exact h.elim
  | bag a => exact h.elim
  | scr a b => exact h.elim
  | fnv a b => exact h.elim
  | dct a b => exact h.elim
  | idv a => exact h.elim
def wScal (we : WE) : WE := fun ρ P => we ρ fun x => scalP x ∧ P x
theorem sim_scal (h : Sim K d (rS K d) (shr ts) te we) : Sim K d (rN K d) ts te (wScal we) := fun H0 F0 F H σ ρ Q P E hw k => by
  obtain ⟨F1, up, E1⟩ := E.conv (cv_shr ts)
  refine h H0 F0 F1 H σ ρ Q _ E1 hw fun x v F' H' s r p => k x v F H' (Step.tox E.dm s.xt) (.inl ⟨?_, scal_any p.1 r⟩) p.2
  cases x <;> first | exact trivial | exact p.1.elim
def wVar (i : Nat) : WE := fun ρ P => P (ρ.getD i .non)
theorem getD_of {ρ : List PV} {i : Nat} {x : PV} (h : ρ[i]? = some x) : ρ.getD i .non = x := by rw [List.getD_eq_getElem?_getD, h]; rfl
theorem sim_var {i : Nat} (h : ts[i]? = some .sh) : Sim K d (rS K d) ts (tVar i) (wVar i) := fun H0 F0 F H σ ρ Q P E hw k => by
  obtain ⟨v, x, h1, h2, h3⟩ := E.sh i h
  have hw' : P (ρ.getD i .non) := hw
  rw [getD_of h2] at hw'
  exact ⟨v, h1, k x v F H (Step.refl E.dm) h3 hw'⟩
def wC (x : PV) : WE := fun _ P => P x
theorem sim_int {i : Int} : Sim K d (rN K d) ts (tC (.int i)) (wC (.int i)) := fun H0 F0 F H σ ρ Q P E hw k => fin_val E.dm (.int i) hw k
theorem sim_bl {i : Bool} : Sim K d (rN K d) ts (tC (.bl i)) (wC (.bl i)) := fun H0 F0 F H σ ρ Q P E hw k => fin_val E.dm (.bl i) hw k
theorem sim_str {i : Str} : Sim K d (rN K d) ts (tC (.str i)) (wC (.str i)) := fun H0 F0 F H σ ρ Q P E hw k => fin_val E.dm (.str i) hw k
theorem sim_non : Sim K d (rN K d) ts (tC .non) (wC .non) := fun H0 F0 F H σ ρ Q P E hw k => fin_val E.dm .non hw k
theorem sim_ty {n : String} : Sim K d (rN K d) ts (tC (.ty n)) (wC (.ty n)) := fun H0 F0 F H σ ρ Q P E hw k => fin_val E.dm (.ty n) hw k
theorem sim_cls {a : Addr} (c : Cn) (e : d c = a := by rfl) : Sim K d (rN K d) ts (tC (.ref a)) (wC (.cls c)) := fun H0 F0 F H σ ρ Q P E hw k => by
  subst e
  exact fin_val E.dm (.cls c) hw k
def wOp (w : W2) (wa wb : WE) : WE := fun ρ P => wa ρ fun x => wb ρ fun y => w x y P
theorem sim_op {r : R2} {w : W2} (o : ROk R) (hr : OpS K d R r w) (ha : Sim K d (rW K d) ts ta wa) (hb : Sim K d (rW K d) ts tb wb) : Sim K d R ts (tOp r ta tb) (wOp w wa wb) := fun H0 F0 F H σ ρ Q P E hw k =>
  ha H0 F0 F H σ ρ _ _ E hw fun x v F1 H1 s1 r1 h1 => hb H0 F0 F1 H1 σ ρ _ _ (E.step s1) h1 fun y u F2 H2 s2 r2 h2 =>
    hr F2 H2 v u x y _ _ s2.dm (Rw.step s2 r1) r2 h2 fun z v' F3 H3 s3 r3 p => k z v' F3 H3 ((s1.trans s2).trans s3) (o.back (s1.trans s2) r3) p
def wUn (w : W1) (wa : WE) : WE := fun ρ P => wa ρ fun x => w x P
def wNeg : W1 := fun x P => match x with
  | .int a => P (.int (-a))
  | _ => False
def orR (r s : R2) : R2 := fun x y H Q => r x y H Q ∨ s x y H Q
theorem op_or {X : Cx} {f : Value → Value → Sem Value} {r s : R2} (a : OpR X f r) (b : OpR X f s) : OpR X f (orR r s) := fun pins st σ H x y v u Q I rx ry h => h.elim (a pins st σ H x y v u Q I rx ry) (b pins st σ H x y v u Q I rx ry)
def wII (C : Int → Int → Prop) (g : Int → Int → Int) : W2 := fun x y P => match x, y with
  | .int a, .int b => C a b ∧ P (.int (g a b))
  | _, _ => False
theorem ops_II {C : Int → Int → Prop} {g : Int → Int → Int} : OpS K d (rN K d) (rI C fun i j => .int (g i j)) (wII C g) := fun F H v u x y Q P dm rx ry h k => by
  cases x with
  | int a => cases y with
    | int b => cases rx.intE; cases ry.intE; exact ⟨a, b, rfl, rfl, h.1, fin_val dm (.int _) h.2 k⟩
    | _ => exact h.elim
  | _ => exact h.elim
def wI0 (g : Int → Int → Int) : W2 := fun x y P => match x, y with
  | .int a, .int b => P (.int (g a b))
  | _, _ => False
theorem ops_I0 {g : Int → Int → Int} : OpS K d (rN K d) (rI0 fun i j => .int (g i j)) (wI0 g) := fun F H v u x y Q P dm rx ry h k => by
  cases x with
  | int a => cases y with
    | int b => cases rx.intE; cases ry.intE; exact ⟨a, b, rfl, rfl, fin_val dm (.int _) h k⟩
    | _ => exact h.elim
  | _ => exact h.elim
def wIB (g : Int → Int → Bool) : W2 := fun x y P => match x, y with
  | .int a, .int b => P (.bl (g a b))
  | _, _ => False
theorem ops_IB {g : Int → Int → Bool} : OpS K d (rN K d) (rI0 fun i j => .bl (g i j)) (wIB g) := fun F H v u x y Q P dm rx ry h k => by
  cases x with
  | int a => cases y with
    | int b => cases rx.intE; cases ry.intE; exact ⟨a, b, rfl, rfl, fin_val dm (.bl _) h k⟩
    | _ => exact h.elim
  | _ => exact h.elim
def rAddU (K : PySem.W.Frag) : R2 := orR (rI0 fun i j => .int (i + j)) (orR rCat (orR (rCatA K) rAddS))
theorem u_add {X : Cx} (h : X.K = K) : OpR X (binaryOp .Add) (rAddU K) := h ▸ op_or op_add (op_or op_cat (op_or op_catA k_addS))
def wAdd : W2 := fun x y P => match x, y with
  | .int a, .int b => P (.int (a + b))
  | .lst a, .lst b => a.length + b.length ≤ 100000 ∧ P (.lst (a ++ b))
  | .tup a, .tup b => a.length + b.length ≤ 100000 ∧ P (.tup (a ++ b))
  | .str a, .str b => a.length + b.length ≤ 100000 ∧ P (.str (a ++ b))
  | _, _ => False
theorem ops_add : OpS K d (rN K d) (rAddU K) wAdd := fun F H v u x y Q P dm rx ry h k => by
  cases x with
  | int a => cases y with
    | int b => cases rx.intE; cases ry.intE; exact .inl ⟨a, b, rfl, rfl, fin_val dm (.int _) h k⟩
    | _ => exact h.elim
  | lst a => cases y with
    | lst b =>
      obtain ⟨p, vs, rfl, h1, h2⟩ := rx.lst
      obtain ⟨q, us, rfl, h3, h4⟩ := ry.lst
      exact .inr (.inl ⟨p, q, vs, us, rfl, rfl, h1, h3, by rw [h2.length, h4.length]; exact sz_of h.1, fun r nr => fin_lst dm nr (h2.append h4) h.2 k⟩)
    | _ => exact h.elim
  | tup a => cases y with
    | tup b =>
      obtain ⟨p, vs, rfl, h1, h2⟩ := rx.tupE
      obtain ⟨q, us, rfl, h3, h4⟩ := ry.tupE
      refine .inr (.inr (.inl ⟨p, q, vs, us, rfl, rfl, h1, h3, by rw [h2.length, h4.length]; exact sz_of h.1, fun e => ?_, fun _ e => ?_, fun _ _ r nr => fin_tup dm nr (h2.append h4) h.2 k⟩))
      · subst e
        cases h2
        exact fin_val dm (.tup h3 h4) h.2 k
      · subst e
        cases h4
        have := h.2
        rw [List.append_nil] at this
        exact fin_val dm (.tup h1 h2) this k
    | _ => exact h.elim
  | str a => cases y with
    | str b => cases rx.strE; cases ry.strE; exact .inr (.inr (.inr ⟨a, b, rfl, rfl, sz_of h.1, fin_val dm (.str _) h.2 k⟩))
    | _ => exact h.elim
  | _ => exact h.elim
def rMulU : R2 := orR (rI CMulW fun i j => .int (i * j)) (orR (rI CMul fun i j => .int (i * j)) rRep)
theorem u_mul {X : Cx} : OpR X (binaryOp .Mult) rMulU := op_or op_mulW (op_or op_mul op_rep)
def wMul : W2 := fun x y P => match x, y with
  | .int a, .int b => (CMulW a b ∨ CMul a b) ∧ P (.int (a * b))
  | .lst a, .int b => -(2 ^ 63) ≤ b ∧ b < 2 ^ 63 ∧ a.length * b.toNat ≤ 100000 ∧ P (.lst (List.replicate b.toNat a).flatten)
  | _, _ => False
theorem ops_mul : OpS K d (rN K d) rMulU wMul := fun F H v u x y Q P dm rx ry h k => by
  cases x with
  | int a => cases y with
    | int b =>
      cases rx.intE
      cases ry.intE
      rcases h.1 with c | c
      · exact .inl ⟨a, b, rfl, rfl, c, fin_val dm (.int _) h.2 k⟩
      · exact .inr (.inl ⟨a, b, rfl, rfl, c, fin_val dm (.int _) h.2 k⟩)
    | _ => exact h.elim
  | lst a => cases y with
    | int b =>
      obtain ⟨p, vs, rfl, h1, h2⟩ := rx.lst
      cases ry.intE
      exact .inr (.inr ⟨p, b, vs, rfl, rfl, h1, h.1, h.2.1, by rw [h2.length]; exact sz_of h.2.2.1, fun r nr => fin_lst dm nr (h2.flat _) h.2.2.2 k⟩)
    | _ => exact h.elim
  | _ => exact h.elim
mutual
def toD : PV → Option PyData
  | .non => some .none
  | .bl b => some (.bool b)
  | .int i => some (.int i)
  | .str x => some (.str x)
  | .lst xs => (toDs xs).map PyData.list
  | .tup xs => (toDs xs).map PyData.tuple
  | .ty _ => none
  | .cls _ => none
  | .ins _ _ => none
  | .bag => none
  | .scr _ => none
  | .fnv _ _ => none
  | .dct _ _ => none
  | .idv _ _ => none
def toDs : List PV → Option (List PyData)
  | [] => some []
  | x :: xs => match toD x, toDs xs with
    | some a, some b => some (a :: b)
    | _, _ => none
end
mutual
theorem Rv.dp : ∀ {v : V} {x : PV} {e : PyData}, Rv K d F H v x → toD x = some e → Dp K H v e
  | _, _, e, .non, h => by simp only [toD] at h; cases h; exact .non
  | _, _, e, .bl b, h => by simp only [toD] at h; cases h; exact .bl b
  | _, _, e, .int b, h => by simp only [toD] at h; cases h; exact .int b
  | _, _, e, .str b, h => by simp only [toD] at h; cases h; exact .str b
  | _, _, e, .lst h1 h2 h3, h => by
    simp only [toD, Option.map_eq_some_iff] at h
    obtain ⟨ds, hd, rfl⟩ := h
    exact .lst (.inl (.inl h1)) (Rvs.dp h3 hd)
  | _, _, e, .tup h1 h3, h => by
    simp only [toD, Option.map_eq_some_iff] at h
    obtain ⟨ds, hd, rfl⟩ := h
    exact .tup h1 (Rvs.dp h3 hd)
  | _, _, e, .ty n, h => by simp only [toD] at h; cases h
  | _, _, e, .cls n, h => by simp only [toD] at h; cases h
  | _, _, e, .ins _ _, h => by simp only [toD] at h; cases h
  | _, _, e, .bag _, h => by simp only [toD] at h; cases h
  | _, _, e, .scr _ _, h => by simp only [toD] at h; cases h
  | _, _, e, .fnv _ _, h => by simp only [toD] at h; cases h
  | _, _, e, .dct _ _, h => by simp only [toD] at h; cases h
  | _, _, e, .idv _, h => by simp only [toD] at h; cases h
theorem Rvs.dp : ∀ {vs : List V} {xs : List PV} {es : List PyData}, Rvs K d F H vs xs → toDs xs = some es → DpAll K H vs es
  | _, _, es, .nil, h => by simp only [toDs] at h; cases h; exact .nil
  | _, _, es, .cons (x := x) (xs := xs) a b, h => by
    simp only [toDs] at h
    cases e1 : toD x with
    | none => rw [e1] at h; cases h
    | some q =>
      cases e2 : toDs xs with
      | none => rw [e1, e2] at h; cases h
      | some qs =>
        rw [e1, e2] at h
        cases h
        exact .cons (Rv.dp a e1) (Rvs.dp b e2)
end
theorem Rw.dp {x : PV} {e : PyData} (h : Rw K d F H v x) (he : toD x = some e) : Dp K H v e := by
  rcases h with h | ⟨p, vs, xs, rfl, rfl, h1, h2⟩
  · exact h.dp he
  · simp only [toD, Option.map_eq_some_iff] at he
    obtain ⟨ds, hd, rfl⟩ := he
    exact .lst (.inl (.inl h1)) (h2.dp hd)
def wEqD (neg : Bool) : W2 := fun x y P => ∃ a b, toD x = some a ∧ toD y = some b ∧ SeqAt.shaped a = true ∧ SeqAt.shaped b = true ∧ P (.bl (if neg then !PyData.eqv a b else PyData.eqv a b))
theorem ops_eqD : OpS K d (rN K d) (rEqD K) (wEqD false) := fun F H v u x y Q P dm rx ry h k => by
  obtain ⟨a, b, ha, hb, sa, sb, p⟩ := h
  exact ⟨a, b, rx.dp ha, ry.dp hb, sa, sb, fin_val dm (.bl _) p k⟩
theorem ops_neD : OpS K d (rN K d) (rNeD K) (wEqD true) := fun F H v u x y Q P dm rx ry h k => by
  obtain ⟨a, b, ha, hb, sa, sb, p⟩ := h
  exact ⟨a, b, rx.dp ha, ry.dp hb, sa, sb, fin_val dm (.bl _) p k⟩
def isN : PV → Bool
  | .non => true
  | _ => false
def wIsN (neg : Bool) : W2 := fun x y P => match y with
  | .non => P (.bl (if neg then !isN x else isN x))
  | _ => False
def wIx : W2 := fun x y P => match x, y with
  | .lst xs, .int i => ∃ z, atI xs i = some z ∧ P z
  | .tup xs, .int i => ∃ z, atI xs i = some z ∧ P z
  | .str s, .int i => ∃ c, s.length ≤ 100000 ∧ atI s.cps.toList i = some c ∧ P (.str ⟨#[c]⟩)
  | _, _ => False
theorem Rvs.atI {vs : List V} {xs : List PV} {i : Int} {z : PV} (r : Rvs K d F H vs xs) (h : L2.atI xs i = some z) : ∃ v, L2.atI vs i = some v ∧ Rv K d F H v z := by
  unfold L2.atI at h ⊢
  rw [r.length]
  cases e : ixN xs.length i with
  | none => rw [e] at h; simp at h
  | some j =>
    rw [e] at h
    obtain ⟨v, h1, h2⟩ := r.get (i := j) (by simpa using h)
    exact ⟨v, by simpa using h1, h2⟩
theorem ops_ix : OpS K d (rS K d) (rIx K) wIx := fun F H v u x y Q P dm rx ry h k => by
  cases x with
  | lst a => cases y with
    | int b =>
      obtain ⟨p, vs, rfl, h1, h2⟩ := rx.lst
      cases ry.intE
      obtain ⟨z, hz, pz⟩ := h
      obtain ⟨w, hw, rw'⟩ := h2.atI hz
      exact .inl ⟨p, vs, b, w, rfl, rfl, .inl (.inl h1), hw, k z w F H (Step.refl dm) rw' pz⟩
    | _ => exact h.elim
  | tup a => cases y with
    | int b =>
      obtain ⟨p, vs, rfl, h1, h2⟩ := rx.tupE
      cases ry.intE
      obtain ⟨z, hz, pz⟩ := h
      obtain ⟨w, hw, rw'⟩ := h2.atI hz
      exact .inr (.inl ⟨p, vs, b, w, rfl, rfl, h1, hw, k z w F H (Step.refl dm) rw' pz⟩)
    | _ => exact h.elim
  | str a => cases y with
    | int b =>
      cases rx.strE
      cases ry.intE
      obtain ⟨c, hz, hc, pz⟩ := h
      exact .inr (.inr ⟨a, b, c, rfl, rfl, sz_of hz, hc, k _ _ F H (Step.refl dm) (.str _) pz⟩)
    | _ => exact h.elim
  | _ => exact h.elim
def wTest (we : WE) : WT := fun ρ P => we ρ fun x => match x with
  | .bl b => P b
  | _ => False
theorem simT_val {t : TT} {wt : WT} (h : SimT K d (shr ts) t wt) : SimT K d ts t wt := fun H0 F0 F H σ ρ Q P E hw k => by
  obtain ⟨F1, up, E1⟩ := E.conv (cv_shr ts)
  exact h H0 F0 F1 H σ ρ Q P E1 hw k
theorem simT_test (h : Sim K d (rS K d) ts te we) : SimT K d ts (tTest te) (wTest we) := fun H0 F0 F H σ ρ Q P E hw k =>
  h H0 F0 F H σ ρ _ _ E hw fun x v F' H' s r p => by
    cases x with
    | bl b => cases r; exact ⟨b, rfl, k b H' s.xt p⟩
    | _ => exact p.elim
theorem simT_B (h : Sim K d (rS K d) ts te we) : SimT K d ts (tB te) (wTest we) := fun H0 F0 F H σ ρ Q P E hw k =>
  h H0 F0 F H σ ρ _ _ E hw fun x v F' H' s r p => by
    cases x with
    | bl b => cases r; exact ⟨b, rfl, k b H' s.xt p⟩
    | _ => exact p.elim
def wTand (a b : WT) : WT := fun ρ P => a ρ fun c => if c = true then b ρ P else P false
def wTor (a b : WT) : WT := fun ρ P => a ρ fun c => if c = true then P true else b ρ P
def wTnot (a : WT) : WT := fun ρ P => a ρ fun c => P (!c)
def wTyes : WT := fun _ P => P true
theorem simT_and {t u : TT} {a b : WT} (ha : SimT K d ts t a) (hb : SimT K d ts u b) : SimT K d ts (tAnd t u) (wTand a b) := fun H0 F0 F H σ ρ Q P E hw k =>
  ha H0 F0 F H σ ρ _ _ E hw fun c H1 e p => by
    cases c with
    | true => exact hb H0 F0 F H1 σ ρ _ _ (E.step (Step.tox E.dm e)) p fun c' H2 e2 p2 => k c' H2 (e.trans e2) p2
    | false => exact k false H1 e p
theorem simT_or {t u : TT} {a b : WT} (ha : SimT K d ts t a) (hb : SimT K d ts u b) : SimT K d ts (tOr t u) (wTor a b) := fun H0 F0 F H σ ρ Q P E hw k =>
  ha H0 F0 F H σ ρ _ _ E hw fun c H1 e p => by
    cases c with
    | true => exact k true H1 e p
    | false => exact hb H0 F0 F H1 σ ρ _ _ (E.step (Step.tox E.dm e)) p fun c' H2 e2 p2 => k c' H2 (e.trans e2) p2
theorem simT_not {t : TT} {a : WT} (ha : SimT K d ts t a) : SimT K d ts (tNot t) (wTnot a) := fun H0 F0 F H σ ρ Q P E hw k =>
  ha H0 F0 F H σ ρ _ _ E hw fun c H1 e p => k _ H1 e p
theorem simT_yes : SimT K d ts tYes wTyes := fun H0 F0 F H σ ρ Q P E hw k => k true H (Xt.refl E.dm) hw
def wAndV (a b : WE) : WE := fun ρ P => a ρ fun x => match x with
  | .bl c => if c = true then b ρ P else P (.bl false)
  | _ => False
def wOrV (a b : WE) : WE := fun ρ P => a ρ fun x => match x with
  | .bl c => if c = true then P (.bl true) else b ρ P
  | _ => False
def wNotV (a : WE) : WE := fun ρ P => a ρ fun x => match x with
  | .bl c => P (.bl (!c))
  | _ => False
theorem sim_andV (ha : Sim K d (rS K d) ts ta wa) (hb : Sim K d (rN K d) ts tb wb) : Sim K d (rN K d) ts (tAndV ta tb) (wAndV wa wb) := fun H0 F0 F H σ ρ Q P E hw k =>
  ha H0 F0 F H σ ρ _ _ E hw fun x v F1 H1 s r p => by
    cases x with
    | bl c =>
      cases r
      refine ⟨c, rfl, ?_⟩
      cases c with
      | true => exact hb H0 F0 F1 H1 σ ρ _ _ (E.step s) p fun y u F2 H2 s2 r2 p2 => k y u F2 H2 (s.trans s2) (okN.back s r2) p2
      | false => exact k (.bl _) _ F1 H1 s (.inl ⟨trivial, .bl _⟩) p
    | _ => exact p.elim
theorem sim_notV (ha : Sim K d (rS K d) ts ta wa) : Sim K d (rN K d) ts (tNotV ta) (wNotV wa) := fun H0 F0 F H σ ρ Q P E hw k =>
  ha H0 F0 F H σ ρ _ _ E hw fun x v F1 H1 s r p => by
    cases x with
    | bl c => cases r; exact ⟨c, rfl, k (.bl _) _ F1 H1 s (.inl ⟨trivial, .bl _⟩) p⟩
    | _ => exact p.elim
def wIf (t : WT) (a b : WE) : WE := fun ρ P => t ρ fun c => if c = true then a ρ P else b ρ P
theorem sim_if {t : TT} {wt : WT} (o : ROk R) (ht : SimT K d ts t wt) (ha : Sim K d R ts ta wa) (hb : Sim K d R ts tb wb) : Sim K d R ts (tIf t ta tb) (wIf wt wa wb) := fun H0 F0 F H σ ρ Q P E hw k =>
  ht H0 F0 F H σ ρ _ _ E hw fun c H1 e p => by
    have s := Step.tox E.dm e
    cases c with
    | true => exact ha H0 F0 F H1 σ ρ _ _ (E.step s) p fun y u F2 H2 s2 r2 p2 => k y u F2 H2 (s.trans s2) (o.back s r2) p2
    | false => exact hb H0 F0 F H1 σ ρ _ _ (E.step s) p fun y u F2 H2 s2 r2 p2 => k y u F2 H2 (s.trans s2) (o.back s r2) p2
def wChain (w w' : W2) (wa wb wc : WE) : WE := fun ρ P => wa ρ fun x => wb ρ fun y => w x y fun z => match z with
  | .bl c => if c = true then wc ρ fun u => w' y u P else P (.bl false)
  | _ => False
theorem sim_chain {r r' : R2} {w w' : W2} (hr : OpS K d (rN K d) r w) (hr' : OpS K d (rN K d) r' w') (ha : Sim K d (rW K d) ts ta wa) (hb : Sim K d (rW K d) ts tb wb) (hc : Sim K d (rW K d) ts tc wc) : Sim K d (rN K d) ts (tChain r r' ta tb tc) (wChain w w' wa wb wc) := fun H0 F0 F H σ ρ Q P E hw k =>
  ha H0 F0 F H σ ρ _ _ E hw fun x v F1 H1 s1 r1 h1 => hb H0 F0 F1 H1 σ ρ _ _ (E.step s1) h1 fun y u F2 H2 s2 r2 h2 =>
    hr F2 H2 v u x y _ _ s2.dm (Rw.step s2 r1) r2 h2 fun z v' F3 H3 s3 r3 p => by
      have s123 := (s1.trans s2).trans s3
      cases z with
      | bl c =>
        have r3' : Rv K d F3 H3 v' (.bl c) := by
          rcases r3 with r3 | ⟨_, _, _, _, e, _⟩
          · exact r3.2
          · cases e
        cases r3'
        refine ⟨c, rfl, ?_⟩
        cases c with
        | true =>
          exact hc H0 F0 F3 H3 σ ρ _ _ (E.step s123) p fun z4 v4 F4 H4 s4 r4 h4 => hr' F4 H4 u v4 y z4 _ _ s4.dm (Rw.step (s3.trans s4) r2) r4 h4 fun z5 v5 F5 H5 s5 r5 p5 =>
            k z5 v5 F5 H5 ((s123.trans s4).trans s5) (okN.back (s123.trans s4) r5) p5
        | false => exact k (.bl _) _ F3 H3 s123 (.inl ⟨trivial, .bl _⟩) p
      | _ => exact p.elim
def wNil : WA := fun _ P => P []
def wCons (we : WE) (wa : WA) : WA := fun ρ P => we ρ fun x => wa ρ fun xs => P (x :: xs)
theorem simA_nil : SimA K d ts tNil wNil := fun H0 F0 F H σ ρ Q P E hw k => k [] [] F H (Step.refl E.dm) .nil hw
theorem simA_cons {ta : TA} {wa : WA} (he : Sim K d (rS K d) ts te we) (ha : SimA K d ts ta wa) : SimA K d ts (tCons te ta) (wCons we wa) := fun H0 F0 F H σ ρ Q P E hw k =>
  he H0 F0 F H σ ρ _ _ E hw fun x v F1 H1 s1 r1 h1 => ha H0 F0 F1 H1 σ ρ _ _ (E.step s1) h1 fun xs vs F2 H2 s2 r2 h2 => k (x :: xs) (v :: vs) F2 H2 (s1.trans s2) (.cons (r1.step s2) r2) h2
theorem simAW_nil : SimAW K d ts tNil wNil := fun H0 F0 F H σ ρ Q P E hw k => k [] [] F H (Step.refl E.dm) .nil hw
theorem simAW_cons {ta : TA} {wa : WA} (he : Sim K d (rW K d) ts te we) (ha : SimAW K d ts ta wa) : SimAW K d ts (tCons te ta) (wCons we wa) := fun H0 F0 F H σ ρ Q P E hw k =>
  he H0 F0 F H σ ρ _ _ E hw fun x v F1 H1 s1 r1 h1 => ha H0 F0 F1 H1 σ ρ _ _ (E.step s1) h1 fun xs vs F2 H2 s2 r2 h2 => k (x :: xs) (v :: vs) F2 H2 (s1.trans s2) (.cons (Rw.step s2 r1) r2) h2
def wLst (wa : WA) : WE := fun ρ P => wa ρ fun xs => xs.length ≤ 1000 ∧ P (.lst xs)
def wTup (wa : WA) : WE := fun ρ P => wa ρ fun xs => xs.length ≤ 1000 ∧ P (.tup xs)
theorem sim_lst {ta : TA} {wa : WA} (ha : SimA K d ts ta wa) : Sim K d (rN K d) ts (tLst ta) (wLst wa) := fun H0 F0 F H σ ρ Q P E hw k =>
  ha H0 F0 F H σ ρ _ _ E hw fun xs vs F1 H1 s1 r1 h1 => ⟨by rw [r1.length]; exact sz_of (Nat.le_trans h1.1 (by decide)), fun p np => fin_lst s1.dm np r1 h1.2 fun z v' F' H' s r q => k z v' F' H' (s1.trans s) (okN.back s1 r) q⟩
theorem sim_tup {ta : TA} {wa : WA} (ha : SimA K d ts ta wa) : Sim K d (rN K d) ts (tTup ta) (wTup wa) := fun H0 F0 F H σ ρ Q P E hw k =>
  ha H0 F0 F H σ ρ _ _ E hw fun xs vs F1 H1 s1 r1 h1 => ⟨by rw [r1.length]; exact sz_of (Nat.le_trans h1.1 (by decide)), fun p np => fin_tup s1.dm np r1 h1.2 fun z v' F' H' s r q => k z v' F' H' (s1.trans s) (okN.back s1 r) q⟩
end
end Wx
namespace Wx
open PySem PySem.Spec PyProof.Rows L2 Evl Hn RZ
variable [TabC]
section
variable [XC]
variable {K : PySem.W.Frag} {d : Cn → Addr} {F F' F0 : Fz} {H H' H0 : Hp} {v u : V} {ts ts' : List Tag} {R : RR} {te ta tb tc : TE} {we wa wb wc : WE}
theorem cutP_rel {vs : List V} {xs : List PV} {lo hi : Option Int} (r : Rvs K d F H vs xs) : Rvs K d F H (cutV vs lo hi) (cutP xs lo hi) := by
  unfold cutV cutP
  rw [r.length]
  exact (r.drop _).take _
theorem cut_whole {α : Type} {xs : List α} {a b : Nat} (h : a = 0 ∧ b = xs.length) : (xs.drop a).take (b - a) = xs := by
  rw [h.1, h.2, List.drop_zero, Nat.sub_zero, List.take_length]
def orS (r s : V → Option Int → Option Int → Hp → VK → Prop) : V → Option Int → Option Int → Hp → VK → Prop := fun x lo hi H Q => r x lo hi H Q ∨ s x lo hi H Q
theorem sl_or {X : Cx} {r s : V → Option Int → Option Int → Hp → VK → Prop} (a : SlR X r) (b : SlR X s) : SlR X (orS r s) := by
  intro pins st σ H x v vl vu lo hi sl Q I rx hs pl pu h
  exact h.elim (a pins st σ H x v vl vu lo hi sl Q I rx hs pl pu) (b pins st σ H x v vl vu lo hi sl Q I rx hs pl pu)
def rSlU (K : PySem.W.Frag) := orS (rSlL K) (orS (rSlA K) rSlS)
theorem u_sl {X : Cx} (h : X.K = K) : SlR X (rSlU K) := h ▸ sl_or sl_list (sl_or sl_tupA sl_str)
def wSl1 : PV → Option Int → Option Int → (PV → Prop) → Prop := fun x lo hi P => match x with
  | .lst xs => P (.lst (cutP xs lo hi))
  | .tup xs => P (.tup (cutP xs lo hi))
  | .str s => s.length ≤ 100000 ∧ P (.str (cutS s lo hi))
  | _ => False
theorem sls_sl : SlS K d (rSlU K) wSl1 := fun F H v lo hi x Q P dm rx h k => by
  cases x with
  | lst xs =>
    obtain ⟨p, vs, rfl, h1, h2⟩ := rx.lst
    exact .inl ⟨p, vs, rfl, .inl (.inl h1), fun q nq => fin_lst dm nq (cutP_rel h2) h k⟩
  | tup xs =>
    obtain ⟨p, vs, rfl, h1, h2⟩ := rx.tupE
    refine .inr (.inl ⟨p, vs, rfl, h1, fun e => ?_, fun _ q nq => fin_tup dm nq (cutP_rel h2) h k⟩)
    have h' : P (.tup (cutP xs lo hi)) := h
    have e' : cutP xs lo hi = xs := by
      unfold cutP
      rw [h2.length] at e
      exact cut_whole e
    rw [e'] at h'
    exact fin_val dm (.tup h1 h2) h' k
  | str s => cases rx.strE; exact .inr (.inr ⟨s, rfl, sz_of h.1, fin_val dm (.str _) h.2 k⟩)
  | _ => exact h.elim
abbrev WO := List PV → (Option Int → Prop) → Prop
def SimO (K : PySem.W.Frag) (d : Cn → Addr) (ts : List Tag) (to : TO) (wo : WO) : Prop := ∀ (H0 : Hp) (F0 F : Fz) (H : Hp) (σ : L2.St) (ρ : List PV) (Q : Option Int → Hp → Prop) (P : Option Int → Prop), EnvR K d ts H0 F0 F H σ ρ → wo ρ P →
  (∀ o F' H', Step F H F' H' → P o → Q o H') → to σ H Q
def wNoPart : WO := fun _ P => P none
def wPart (we : WE) : WO := fun ρ P => we ρ fun x => match x with
  | .int i => P (some i)
  | _ => False
theorem simO_none : SimO K d ts tNoPart wNoPart := fun H0 F0 F H σ ρ Q P E hw k => k none F H (Step.refl E.dm) hw
theorem simO_some (h : Sim K d (rW K d) ts te we) : SimO K d ts (tPart te) (wPart we) := fun H0 F0 F H σ ρ Q P E hw k => h H0 F0 F H σ ρ _ _ E hw fun x v F' H' s r p => by
  cases x with
  | int i => cases Rw.intE r; exact ⟨i, rfl, k _ F' H' s p⟩
  | _ => exact p.elim
def wSl (we : WE) (wl wh : WO) : WE := fun ρ P => we ρ fun x => wl ρ fun l => wh ρ fun h => wSl1 x l h P
theorem sim_sl {tl th : TO} {wl wh : WO} (he : Sim K d (rW K d) ts te we) (hl : SimO K d ts tl wl) (hh : SimO K d ts th wh) : Sim K d (rN K d) ts (L2.tSl (rSlU K) te tl th) (wSl we wl wh) := fun H0 F0 F H σ ρ Q P E hw k =>
  he H0 F0 F H σ ρ _ _ E hw fun x v F1 H1 s1 r1 h1 => hl H0 F0 F1 H1 σ ρ _ _ (E.step s1) h1 fun l F2 H2 s2 h2 => hh H0 F0 F2 H2 σ ρ _ _ (E.step (s1.trans s2)) h2 fun u F3 H3 s3 h3 =>
    sls_sl F3 H3 v l u x _ _ s3.dm (Rw.step (s2.trans s3) r1) h3 fun z v' F4 H4 s4 r4 p => k z v' F4 H4 ((s1.trans (s2.trans s3)).trans s4) (okN.back (s1.trans (s2.trans s3)) r4) p
def wRev (we : WE) : WE := fun ρ P => we ρ fun x => match x with
  | .lst xs => P (.lst xs.reverse)
  | _ => False
def wRevT (we : WE) : WE := fun ρ P => we ρ fun x => match x with
  | .tup xs => P (.tup xs.reverse)
  | _ => False
def wFld (we : WE) (f : Str) : WE := fun ρ P => we ρ fun x => match x with
  | .ins c fs => ∃ z, fs.lookup f = some z ∧ P z
  | _ => False
def wCB (w : WC) (wa : WA) : WE := fun ρ P => wa ρ fun xs => w xs P
theorem sim_cb {rc : List V → Hp → VK → Prop} {w : WC} {ar : TA} {wr : WA} (o : ROk R) (hc : CaS K d R rc w) (ha : SimAW K d ts ar wr) : Sim K d R ts (tCB rc ar) (wCB w wr) := fun H0 F0 F H σ ρ Q P E hw k =>
  ha H0 F0 F H σ ρ _ _ E hw fun xs vs F1 H1 s1 r1 h1 => hc F1 H1 vs xs _ _ s1.dm r1 h1 fun z v' F3 H3 s3 r3 p => k z v' F3 H3 (s1.trans s3) (o.back s1 r3) p
def orC (r s : List V → Hp → VK → Prop) : List V → Hp → VK → Prop := fun xs H Q => r xs H Q ∨ s xs H Q
theorem ca_or {X : Cx} {f : Value} {r s : List V → Hp → VK → Prop} (a : CallR X f r) (b : CallR X f s) : CallR X f (orC r s) := by
  intro pins st σ H vs us Q I rx h
  exact h.elim (a pins st σ H vs us Q I rx) (b pins st σ H vs us Q I rx)
def rLenS : List V → Hp → VK → Prop := fun xs H Q => ∃ z, xs = [.str z] ∧ z.length ≤ sizeLine ∧ Q (.int z.length) H
theorem k_lenS {X : Cx} : CallR X (.builtin "len") rLenS := call_len_str
def rLenU (K : PySem.W.Frag) := orC (Hn.rLen K) rLenS
theorem u_len {X : Cx} (h : X.K = K) : CallR X (.builtin "len") (rLenU K) := ca_or (k_len h) k_lenS
def wLen : WC := fun xs P => match xs with
  | [.lst ys] => P (.int ys.length)
  | [.tup ys] => P (.int ys.length)
  | [.str s] => s.length ≤ 100000 ∧ P (.int s.length)
  | _ => False
theorem cas_len : CaS K d (rN K d) (rLenU K) wLen := fun F H vs xs Q P dm r h k => by
  unfold wLen at h
  split at h
  · obtain ⟨v, rfl, r1⟩ := r.one
    obtain ⟨p, vs, rfl, h2, h3⟩ := Rw.lst r1
    refine .inl ⟨p, vs, rfl, .inl (.inl (.inl h2)), ?_⟩
    show Q (.int (vs.length : Int)) H
    rw [h3.length]
    exact fin_val dm (.int _) h k
  · obtain ⟨v, rfl, r1⟩ := r.one
    obtain ⟨p, vs, rfl, h2, h3⟩ := Rw.tupE r1
    refine .inl ⟨p, vs, rfl, .inr h2, ?_⟩
    show Q (.int (vs.length : Int)) H
    rw [h3.length]
    exact fin_val dm (.int _) h k
  · obtain ⟨v, rfl, r1⟩ := r.one
    cases r1.strE
    exact .inr ⟨_, rfl, sz_of h.1, fin_val dm (.int _) h.2 k⟩
  · exact h.elim
def wListOf : WC := fun xs P => match xs with
  | [.lst ys] => P (.lst ys)
  | [.tup ys] => P (.lst ys)
  | _ => False
def wTupOf : WC := fun xs P => match xs with
  | [.lst ys] => P (.tup ys)
  | [.tup ys] => P (.tup ys)
  | _ => False
def wAbs : WC := fun xs P => match xs with
  | [.int i] => P (.int (if i < 0 then -i else i))
  | _ => False
def wInt1 : WC := fun xs P => match xs with
  | [.int i] => P (.int i)
  | [.bl b] => P (.int (if b then 1 else 0))
  | [.str a] => ∃ n, PySem.intText? a = some n ∧ a.length ≤ 640 ∧ P (.int n)
  | _ => False
def rIntU := orC rInt1 rIntS
theorem u_int {X : Cx} : CallR X (.type "int") rIntU := ca_or k_int1 k_intS
theorem cas_int : CaS K d (rN K d) rIntU wInt1 := fun F H vs xs Q P dm r h k => by
  unfold wInt1 at h
  split at h
  · obtain ⟨v, rfl, r1⟩ := r.one
    cases r1.intE
    exact .inl (.inl ⟨_, rfl, fin_val dm (.int _) h k⟩)
  · obtain ⟨v, rfl, r1⟩ := r.one
    cases r1.blE
    exact .inl (.inr ⟨_, rfl, fin_val dm (.int _) h k⟩)
  · obtain ⟨v, rfl, r1⟩ := r.one
    cases r1.strE
    obtain ⟨n, h1, h2, h3⟩ := h
    exact .inr ⟨_, n, rfl, h1, h2, fin_val dm (.int _) h3 k⟩
  · exact h.elim
def wSum : WC := fun xs P => ∃ ns : List Int, (xs = [.lst (ns.map .int)] ∨ xs = [.tup (ns.map .int)]) ∧ P (.int ns.sum)
theorem cas_sum : CaS K d (rN K d) (rSumS K) wSum := fun F H vs xs Q P dm r h k => by
  obtain ⟨ns, rfl | rfl, p⟩ := h
  · obtain ⟨v, rfl, r1⟩ := r.one
    obtain ⟨q, vs, rfl, h2, h3⟩ := Rw.lst r1
    cases h3.ints
    exact ⟨q, ns, rfl, .inl (.inl (.inl h2)), fin_val dm (.int _) p k⟩
  · obtain ⟨v, rfl, r1⟩ := r.one
    obtain ⟨q, vs, rfl, h2, h3⟩ := Rw.tupE r1
    cases h3.ints
    exact ⟨q, ns, rfl, .inr h2, fin_val dm (.int _) p k⟩
def wMin2 : WC := fun xs P => match xs with
  | [.int i, .int j] => P (.int (if j < i then j else i))
  | _ => False
def wMax2 : WC := fun xs P => match xs with
  | [.int i, .int j] => P (.int (if j > i then j else i))
  | _ => False
def wRepr : WC := fun xs P => ∃ x e, xs = [x] ∧ toD x = some e ∧ e.showable = true ∧ e.hasDict = false ∧ e.depth ≤ 64 ∧ e.shown.length ≤ 12900041 ∧ P (.str e.shown)
theorem cas_repr : CaS K d (rN K d) (rRepr K) wRepr := fun F H vs xs Q P dm r h k => by
  obtain ⟨x, e, rfl, h1, h2, h3, h4, h5, h6⟩ := h
  obtain ⟨v, rfl, r1⟩ := r.one
  exact ⟨v, e, rfl, r1.dp h1, h2, h3, h4, h5, fin_val dm (.str _) h6 k⟩
def wStrI : WC := fun xs P => match xs with
  | [.int i] => i.natAbs.log2 < 1920 ∧ P (.str (txI i))
  | _ => False
def tyP : PV → Option String
  | .non => some "NoneType"
  | .bl _ => some "bool"
  | .int _ => some "int"
  | .str _ => some "str"
  | .lst _ => some "list"
  | .tup _ => some "tuple"
  | .dct _ _ => some "dict"
  | _ => none
theorem tyP_ok {x : PV} {n : String} (h : Rw K d F H v x) (e : tyP x = some n) : TyX K H v (.type n) := by
  cases x with
  | non => cases e; cases h.nonE; exact .base .non
  | bl b => cases e; cases h.blE; exact .base (.bl b)
  | int b => cases e; cases h.intE; exact .base (.int b)
  | str b => cases e; cases h.strE; exact .base (.str b)
  | lst b =>
    cases e
    obtain ⟨p, vs, rfl, h1, _⟩ := h.lst
    exact .base (.lst h1)
  | tup b =>
    cases e
    obtain ⟨p, vs, rfl, h1, _⟩ := h.tupE
    rcases h1 with (h | ⟨o, h⟩) | ⟨o, its, n, h1, h2, _⟩
    · exact .base (.tup h)
    · exact .fTuple h
    · exact .kTuple h1 h2
  | dct b c =>
    cases e
    obtain ⟨rfl, h1, _⟩ := h.dctE
    exact .base (.dK h1)
  | _ => cases e
def wIsi : WC := fun xs P => match xs with
  | [x, .ty b] => ∃ a k, tyP x = some a ∧ kitB a b = some k ∧ P (.bl k)
  | _ => False
theorem cas_isi : CaS K d (rN K d) (rIsi K) wIsi := fun F H vs xs Q P dm r h k => by
  unfold wIsi at h
  split at h
  · obtain ⟨v, u, rfl, r1, r2⟩ := r.two
    cases r2.tyE
    obtain ⟨a, b, h1, h2, h3⟩ := h
    exact ⟨v, _, _, _, b, rfl, .ty _, tyP_ok r1 h1, kit_ty h2, fin_val dm (.bl _) h3 k⟩
  · exact h.elim
def wIsiT (we : WE) (A B : String) : WE := fun ρ P => we ρ fun x => ∃ a k l, tyP x = some a ∧ kitB a A = some k ∧ kitB a B = some l ∧ P (.bl (k || l))
abbrev WI := List PV → (List PV → Prop) → Prop
def Items (K : PySem.W.Frag) (d : Cn → Addr) (Kp : Hp → Prop) (F : Fz) (H : Hp) (J : It) (xs : List PV) : Prop := ∃ (G : Hp → Prop) (Y : Nat → Hp → V → Hp → Prop), Walk J xs.length G Y ∧ (∀ H', Kp H' → G H') ∧
  ∀ i H2 F2 v H3, Kp H2 → (∀ a, F a → F2 a) → Stb F H H2 → Dom F2 H2 → Y i H2 v H3 → i < xs.length → Step F2 H2 F2 H3 ∧ ∃ x, xs[i]? = some x ∧ Rv K d F2 H3 v x
def keep (lp : Bool) (F : Fz) (H : Hp) : Hp → Prop := fun H' => if lp = true then Stb F H H' else Xn H H'
def SimI (K : PySem.W.Frag) (d : Cn → Addr) (lp : Bool) (ts : List Tag) (wi : TI) (ww : WI) : Prop := ∀ (H0 : Hp) (F0 F : Fz) (H : Hp) (σ : L2.St) (ρ : List PV) (R : It → Hp → Prop) (P : List PV → Prop), EnvR K d ts H0 F0 F H σ ρ → ww ρ P →
  (∀ xs F' H' J, Step F H F' H' → Items K d (keep lp F' H') F' H' J xs → P xs → R J H') → wi σ H R
def only (H : Hp) (a : Addr) : Hp := fun b => if b = a then H a else none
theorem only_ex {a : Addr} {o : HO} (h : H a = some o) (h' : H' a = some o) : Ex (only H a) H' := fun b q e => by
  unfold only at e
  split at e
  · subst b
    rw [h] at e
    rw [h', e]
  · cases e
def wSeqI (we : WE) : WI := fun ρ P => we ρ fun x => match x with
  | .lst xs => P xs
  | .tup xs => P xs
  | _ => False
theorem tup_part {a : Addr} {vs : List V} (h : SqT K H a vs) : ∃ Hs : Hp, SqT K Hs a vs ∧ ∀ H', Xm H H' → Ex Hs H' := by
  rcases h with (h | ⟨o, h⟩) | h
  · refine ⟨only H a, .inl (.inl (by unfold only; rw [if_pos rfl]; exact h)), fun H' e => only_ex h (e _ _ h rfl)⟩
  · refine ⟨only H a, .inl (.inr ⟨o, by unfold only; rw [if_pos rfl]; exact h⟩), fun H' e => only_ex h (e _ _ h rfl)⟩
  · exact ⟨fun _ => none, .inr h, fun H' e b q hb => by cases hb⟩
theorem goes_items {lp : Bool} {J : It} {Hs : Hp} {vs : List V} {xs : List PV} (g : Goes1 Hs vs.length (YAt vs) J) (r : Rvs K d F H vs xs) (e : ∀ H', keep lp F H H' → Ex Hs H') : Items K d (keep lp F H) F H J xs := by
  obtain ⟨G, w, hG⟩ := g
  rw [r.length] at w
  refine ⟨G, _, w, fun H' h => hG H' (e H' h), fun i H2 F2 v H3 kp up st dm y hi => ?_⟩
  obtain ⟨e1, e2⟩ := (y : H3 = H2 ∧ vs[i]? = some v)
  subst e1
  obtain ⟨x, hx, rx⟩ := r.getV e2
  exact ⟨Step.refl dm, x, hx, rx.mono st up⟩
theorem keep_xl {lp : Bool} {H' : Hp} (h : keep lp F H H') : Xm H H' := by
  unfold keep at h
  split at h
  · exact h.xl
  · exact .of h
theorem keep_lst {lp : Bool} {H' : Hp} {a : Addr} {vs : List V} (h : keep lp F H H') (ha : H a = some (.lst vs)) (f : lp = true → F a) : H' a = some (.lst vs) := by
  unfold keep at h
  split at h
  · next z => exact h _ _ ha (.inr ⟨f z, rfl⟩)
  · exact h.at ha
theorem simI_seq {lp : Bool} (h : Sim K d (if lp = true then rS K d else rW K d) ts te we) : SimI K d lp ts (iSeq K te) (wSeqI we) := fun H0 F0 F H σ ρ Q P E hw k => h H0 F0 F H σ ρ _ _ E hw fun x v F1 H1 s1 r1 h1 => by
  have rw1 : Rw K d F1 H1 v x := by
    cases lp with
    | true => exact .inl r1
    | false => exact r1
  cases x with
  | lst xs =>
    obtain ⟨p, vs, rfl, h2, h3⟩ := rw1.lst
    have fp : lp = true → F1 p := fun z => by
      subst z
      cases (show Rv K d F1 H1 (.ref p) (.lst xs) from r1) with
      | lst a b c => exact b
    exact ⟨p, vs, only H1 p, rfl, .inl (.inl (.inl (by unfold only; rw [if_pos rfl]; exact h2))), only_ex h2 h2, fun J g => k xs F1 H1 J s1 (goes_items g h3 fun H' kp => only_ex h2 (keep_lst kp h2 fp)) h1⟩
  | tup xs =>
    obtain ⟨p, vs, rfl, h2, h3⟩ := rw1.tupE
    obtain ⟨Hs, a1, a2⟩ := tup_part h2
    exact ⟨p, vs, Hs, rfl, .inr a1, a2 _ (Xm.refl _), fun J g => k xs F1 H1 J s1 (goes_items g h3 fun H' kp => a2 _ (keep_xl kp)) h1⟩
  | _ => exact h1.elim
def enumP (xs : List PV) : List PV := (List.range xs.length).map fun i => .tup [.int (i : Nat), xs.getD i .non]
def wEnum (wa : WA) : WI := fun ρ P => wa ρ fun zs => match zs with
  | [.lst xs] => P (enumP xs)
  | [.tup xs] => P (enumP xs)
  | _ => False
def zipP (xs ys : List PV) : List PV := (List.range (min xs.length ys.length)).map fun i => .tup [xs.getD i .non, ys.getD i .non]
def wZip (wa : WA) : WI := fun ρ P => wa ρ fun zs => match zs with
  | [.lst xs, .lst ys] => P (zipP xs ys)
  | [.tup xs, .tup ys] => P (zipP xs ys)
  | _ => False
def rangeP (lo : Int) (n : Nat) : List PV := (List.range n).map fun i => .int (lo + (i : Nat))
def wRng1 (wa : WA) : WI := fun ρ P => wa ρ fun zs => match zs with
  | [.int j] => -(2 ^ 62) ≤ j ∧ j < 2 ^ 62 ∧ P (rangeP 0 j.toNat)
  | _ => False
def wRng2 (wa : WA) : WI := fun ρ P => wa ρ fun zs => match zs with
  | [.int i, .int j] => (-(2 ^ 62) ≤ i ∧ i < 2 ^ 62 ∧ -(2 ^ 62) ≤ j ∧ j < 2 ^ 62) ∧ P (rangeP i (j - i).toNat)
  | _ => False
theorem range_items {Kp : Hp → Prop} {lo : Int} {n : Nat} : Items K d Kp F H (Itr lo n) (rangeP lo n) := by
  have hl : (rangeP lo n).length = n := by unfold rangeP; rw [List.length_map, List.length_range]
  have w := walk_range (lo := lo) (n := n)
  refine ⟨fun _ => True, _, by rw [hl]; exact w, fun _ _ => trivial, fun i H2 F2 v H3 kp up st dm y hi => ?_⟩
  obtain ⟨e1, e2⟩ := (y : H3 = H2 ∧ v = .int (lo + (i : Nat)))
  subst e1 e2
  rw [hl] at hi
  refine ⟨Step.refl dm, .int (lo + (i : Nat)), ?_, .int _⟩
  unfold rangeP
  rw [List.getElem?_map, List.getElem?_range hi]
  rfl
theorem simI_rng1 {lp : Bool} {ar : TA} {wa : WA} (h : SimAW K d ts ar wa) : SimI K d lp ts (iRng1 ar) (wRng1 wa) := fun H0 F0 F H σ ρ Q P E hw k => h H0 F0 F H σ ρ _ _ E hw fun zs us F1 H1 s1 r1 h1 => by
  split at h1
  · obtain ⟨v, rfl, r2⟩ := r1.one
    cases r2.intE
    exact ⟨_, rfl, h1.1, h1.2.1, k _ F1 H1 _ s1 range_items h1.2.2⟩
  · exact h1.elim
theorem dp_ne {H : Hp} {σ : L2.St} {i j : Nat} {o : Option V} {a : Addr} (e : i ≠ j) : Dpl H (σ.set i o) j a ↔ Dpl H σ j a := by
  unfold Dpl
  rw [List.getElem?_set_ne e]
theorem od_ne {ts : List Tag} {i j : Nat} {t : Tag} (ht : t ≠ .od) (h : (ts.set i t)[j]? = some .od) : i ≠ j ∧ ts[j]? = some .od := by
  rw [List.getElem?_set] at h
  split at h
  · split at h
    · cases h
      exact absurd rfl ht
    · cases h
  · next e => exact ⟨e, h⟩
theorem ow_ne {ts : List Tag} {i j : Nat} {t : Tag} (ht : t ≠ .ow) (h : (ts.set i t)[j]? = some .ow) : i ≠ j ∧ ts[j]? = some .ow := by
  rw [List.getElem?_set] at h
  split at h
  · split at h
    · cases h
      exact absurd rfl ht
    · cases h
  · next e => exact ⟨e, h⟩
theorem EnvR.set {i : Nat} {x : PV} {σ : L2.St} {ρ : List PV} (E : EnvR K d ts H0 F0 F H σ ρ) (r : Rv K d F H v x) : EnvR K d (ts.set i .sh) H0 F0 F H (σ.set i (some v)) (ρ.set i x) where
  st := E.st
  xc := E.xc
  ex := E.ex.set (by decide)
  ls := by rw [List.length_set, List.length_set, E.ls]
  lr := by rw [List.length_set, List.length_set, E.lr]
  sh := fun j h => by
    rw [List.getElem?_set] at h
    split at h
    · next e =>
      subst e
      split at h
      · next l => exact ⟨v, x, by rw [List.getElem?_set_self (by rw [E.ls]; exact l)], by rw [List.getElem?_set_self (by rw [E.lr]; exact l)], r⟩
      · cases h
    · next e =>
      obtain ⟨w, y, h1, h2, h3⟩ := E.sh j h
      exact ⟨w, y, by rw [List.getElem?_set_ne e]; exact h1, by rw [List.getElem?_set_ne e]; exact h2, h3⟩
  ow := fun j h => by
    rw [List.getElem?_set] at h
    split at h
    · split at h <;> cases h
    · next e =>
      obtain ⟨a, vs, xs, h1, h2, h3⟩ := E.ow j h
      exact ⟨a, vs, xs, by rw [List.getElem?_set_ne e]; exact h1, by rw [List.getElem?_set_ne e]; exact h2, h3⟩
  ap := fun j l a h1 h2 h3 h4 => by
    have o : ∀ m : Nat, (ts.set i .sh)[m]? = some .ow → i ≠ m ∧ ts[m]? = some .ow := fun m h => by
      rw [List.getElem?_set] at h
      split at h
      · split at h <;> cases h
      · next e => exact ⟨e, h⟩
    obtain ⟨n1, o1⟩ := o j h1
    obtain ⟨n2, o2⟩ := o l h2
    rw [List.getElem?_set_ne n1] at h3
    rw [List.getElem?_set_ne n2] at h4
    exact E.ap j l a o1 o2 h3 h4
  od := fun j h => by
    obtain ⟨e, h⟩ := od_ne (by decide) h
    obtain ⟨w, y, h1, h2, h3⟩ := E.od j h
    exact ⟨w, y, by rw [List.getElem?_set_ne e]; exact h1, by rw [List.getElem?_set_ne e]; exact h2, h3⟩
  ad := fun j a h q => by
    obtain ⟨e, h⟩ := od_ne (by decide) h
    obtain ⟨q1, q2⟩ := E.ad j a h ((dp_ne e).mp q)
    refine ⟨fun l hl => ?_, fun l hl z => ?_⟩
    · obtain ⟨e', hl⟩ := ow_ne (by decide) hl
      rw [List.getElem?_set_ne e']
      exact q1 l hl
    · obtain ⟨e', hl⟩ := od_ne (by decide) hl
      exact q2 l hl ((dp_ne e').mp z)
theorem EnvR.setO {i : Nat} {p : Addr} {vs : List V} {xs : List PV} {σ : L2.St} {ρ : List PV} (E : EnvR K d ts H0 F0 F H σ ρ) (h1 : H p = some (.lst vs)) (h2 : ¬ F p) (h3 : H0 p = none) (h4 : Rvs K d F H vs xs)
    (h5 : ∀ j : Nat, j ≠ i → ts[j]? = some .ow → σ[j]? ≠ some (some (.ref p))) (h6 : ∀ j : Nat, ts[j]? = some .od → ¬ Dpl H σ j p) : EnvR K d (ts.set i .ow) H0 F0 F H (σ.set i (some (.ref p))) (ρ.set i (.lst xs)) where
  st := E.st
  xc := E.xc
  ex := E.ex.set (by decide)
  ls := by rw [List.length_set, List.length_set, E.ls]
  lr := by rw [List.length_set, List.length_set, E.lr]
  sh := fun j h => by
    rw [List.getElem?_set] at h
    split at h
    · split at h <;> cases h
    · next e =>
      obtain ⟨w, y, g1, g2, g3⟩ := E.sh j h
      exact ⟨w, y, by rw [List.getElem?_set_ne e]; exact g1, by rw [List.getElem?_set_ne e]; exact g2, g3⟩
  ow := fun j h => by
    rw [List.getElem?_set] at h
    split at h
    · next e =>
      subst e
      split at h
      · next l => exact ⟨p, vs, xs, by rw [List.getElem?_set_self (by rw [E.ls]; exact l)], by rw [List.getElem?_set_self (by rw [E.lr]; exact l)], h1, h2, h3, h4⟩
      · cases h
    · next e =>
      obtain ⟨a, vs, xs, g1, g2, g3⟩ := E.ow j h
      exact ⟨a, vs, xs, by rw [List.getElem?_set_ne e]; exact g1, by rw [List.getElem?_set_ne e]; exact g2, g3⟩
  ap := fun j l a g1 g2 g3 g4 => by
    have o : ∀ m : Nat, (ts.set i .ow)[m]? = some .ow → (i ≠ m → ts[m]? = some .ow ∧ (σ.set i (some (.ref p)))[m]? = σ[m]?) ∧ (i = m → (σ.set i (some (.ref p)))[m]? = some (some (.ref p))) := fun m h => by
      rw [List.getElem?_set] at h
      split at h
      · next e =>
        subst e
        split at h
        · next l => exact ⟨fun z => absurd rfl z, fun _ => by rw [List.getElem?_set_self (by rw [E.ls]; exact l)]⟩
        · cases h
      · next e => exact ⟨fun _ => ⟨h, by rw [List.getElem?_set_ne e]⟩, fun z => absurd z e⟩
    obtain ⟨a1, a2⟩ := o j g1
    obtain ⟨b1, b2⟩ := o l g2
    by_cases ej : i = j
    · by_cases el : i = l
      · rw [← ej, el]
      · rw [a2 ej] at g3
        cases g3
        obtain ⟨q1, q2⟩ := b1 el
        rw [q2] at g4
        exact absurd g4 (h5 l (Ne.symm el) q1)
    · by_cases el : i = l
      · rw [b2 el] at g4
        cases g4
        obtain ⟨q1, q2⟩ := a1 ej
        rw [q2] at g3
        exact absurd g3 (h5 j (Ne.symm ej) q1)
      · obtain ⟨q1, q2⟩ := a1 ej
        obtain ⟨q3, q4⟩ := b1 el
        rw [q2] at g3
        rw [q4] at g4
        exact E.ap j l a q1 q3 g3 g4
  od := fun j h => by
    obtain ⟨e, h⟩ := od_ne (by decide) h
    obtain ⟨w, y, g1, g2, g3⟩ := E.od j h
    exact ⟨w, y, by rw [List.getElem?_set_ne e]; exact g1, by rw [List.getElem?_set_ne e]; exact g2, g3⟩
  ad := fun j a h q => by
    obtain ⟨e, h⟩ := od_ne (by decide) h
    have q := (dp_ne e).mp q
    obtain ⟨q1, q2⟩ := E.ad j a h q
    refine ⟨fun l hl => ?_, fun l hl z => ?_⟩
    · by_cases el : i = l
      · subst el
        rw [List.getElem?_set]
        rw [if_pos rfl]
        intro z
        split at z
        · cases z
          exact h6 j h q
        · cases z
      · rw [List.getElem?_set_ne el] at hl ⊢
        exact q1 l hl
    · obtain ⟨e', hl⟩ := od_ne (by decide) hl
      exact q2 l hl ((dp_ne e').mp z)
def Own (H : Hp) (ts : List Tag) (σ : L2.St) (a : Addr) : Prop := (∃ i : Nat, ts[i]? = some .ow ∧ σ[i]? = some (some (.ref a))) ∨ ∃ i : Nat, ts[i]? = some .od ∧ Dpl H σ i a
abbrev WG := PV → List PV → (List PV → Prop) → Prop
abbrev WGs := List PV → List PV → (List PV → Prop) → Prop
def SimG (K : PySem.W.Frag) (d : Cn → Addr) (is : List Nat) (ts : List Tag) (g : TG) (wg : WG) (ts' : List Tag) : Prop := ∀ (H0 : Hp) (F0 F : Fz) (H : Hp) (σ : L2.St) (ρ : List PV) (v : V) (x : PV) (Q : L2.St → Hp → Prop) (P : List PV → Prop), EnvR K d ts H0 F0 F H σ ρ → Rv K d F H v x → wg x ρ P →
  (∀ σ' ρ', EnvR K d ts' H0 F0 F H σ' ρ' → (∀ vs : List Nat, (∀ i ∈ is, i ∈ vs) → wipe σ' vs = wipe σ vs) → (∀ a, Own H ts' σ' a → Own H ts σ a) → P ρ' → Q σ' H) → g v σ H Q
def SimGs (K : PySem.W.Frag) (d : Cn → Addr) (is : List Nat) (ts : List Tag) (g : TGs) (wg : WGs) (ts' : List Tag) : Prop := ∀ (H0 : Hp) (F0 F : Fz) (H : Hp) (σ : L2.St) (ρ : List PV) (v : List V) (x : List PV) (Q : L2.St → Hp → Prop) (P : List PV → Prop), EnvR K d ts H0 F0 F H σ ρ → Rvs K d F H v x → wg x ρ P →
  (∀ σ' ρ', EnvR K d ts' H0 F0 F H σ' ρ' → (∀ vs : List Nat, (∀ i ∈ is, i ∈ vs) → wipe σ' vs = wipe σ vs) → (∀ a, Own H ts' σ' a → Own H ts σ a) → P ρ' → Q σ' H) → g v σ H Q
theorem wipe_gone {j : Nat} : ∀ {τ : L2.St} {ws : List Nat}, j ∈ ws → (wipe τ ws)[j]? = if j < τ.length then some none else none
  | _, [], hw => by cases hw
  | τ, b :: ws, hw => by
    show ((wipe τ ws).set b none)[j]? = _
    rw [List.getElem?_set, wipe_length]
    by_cases z : b = j
    · rw [if_pos z, z]
    · rw [if_neg z]
      refine wipe_gone ?_
      rcases List.mem_cons.mp hw with y | y
      · exact absurd y.symm z
      · exact y
theorem wipe_idem (σ : L2.St) (vs : List Nat) : wipe (wipe σ vs) vs = wipe σ vs := by
  refine List.ext_getElem? fun j => ?_
  by_cases hm : j ∈ vs
  · rw [wipe_gone hm, wipe_gone hm, wipe_length]
  · rw [wipe_out hm]
theorem wipe_set {σ : L2.St} {i : Nat} {o : Option V} : ∀ {vs : List Nat}, i ∈ vs → wipe (σ.set i o) vs = wipe σ vs
  | [], h => by cases h
  | a :: vs, h => by
    show (wipe (σ.set i o) vs).set a none = (wipe σ vs).set a none
    by_cases q : i ∈ vs
    · rw [wipe_set q]
    · have e : i = a := by
        rcases List.mem_cons.mp h with z | z
        · exact z
        · exact absurd z q
      subst e
      refine List.ext_getElem? fun j => ?_
      rw [List.getElem?_set, List.getElem?_set, wipe_length, wipe_length, List.length_set]
      by_cases hj : i = j
      · rw [if_pos hj, if_pos hj]
      · rw [if_neg hj, if_neg hj]
        by_cases hm : j ∈ vs
        · rw [wipe_gone hm, wipe_gone hm, List.length_set]
        · rw [wipe_out hm, wipe_out hm, List.getElem?_set_ne hj]
def wgName (i : Nat) : WG := fun x ρ P => P (ρ.set i x)
theorem simG_name {i : Nat} : SimG K d [i] ts (gName i) (wgName i) (ts.set i .sh) := fun H0 F0 F H σ ρ v x Q P E r hw k =>
  k _ _ (E.set r) (fun vs h => wipe_set (h i (List.mem_singleton.mpr rfl))) (fun a z => by
    rcases z with ⟨j, h1, h2⟩ | ⟨j, h1, h2⟩
    · obtain ⟨e, h1⟩ := ow_ne (by decide) h1
      rw [List.getElem?_set_ne e] at h2
      exact .inl ⟨j, h1, h2⟩
    · obtain ⟨e, h1⟩ := od_ne (by decide) h1
      exact .inr ⟨j, h1, (dp_ne e).mp h2⟩) hw
def wgNil : WGs := fun xs ρ P => xs = [] ∧ P ρ
def wgCons (g : WG) (gs : WGs) : WGs := fun xs ρ P => match xs with
  | x :: r => g x ρ fun ρ' => gs r ρ' P
  | [] => False
theorem simGs_nil : SimGs K d [] ts gNil wgNil ts := fun H0 F0 F H σ ρ v x Q P E r hw k => by
  obtain ⟨rfl, hw⟩ := hw
  cases r
  exact ⟨rfl, k σ ρ E (fun _ _ => rfl) (fun _ h => h) hw⟩
theorem simGs_cons {is js : List Nat} {ts1 ts2 : List Tag} {g : TG} {gs : TGs} {wg : WG} {wgs : WGs} (h : SimG K d is ts g wg ts1) (hs : SimGs K d js ts1 gs wgs ts2) : SimGs K d (is ++ js) ts (gCons g gs) (wgCons wg wgs) ts2 := fun H0 F0 F H σ ρ v x Q P E r hw k => by
  cases r with
  | nil => exact hw.elim
  | cons a b =>
    exact ⟨_, _, rfl, h H0 F0 F H σ ρ _ _ _ _ E a hw fun σ1 ρ1 E1 w1 o1 h1 => hs H0 F0 F H σ1 ρ1 _ _ _ _ E1 b h1 fun σ2 ρ2 E2 w2 o2 h2 =>
      k σ2 ρ2 E2 (fun vs hv => (w2 vs fun i hi => hv i (List.mem_append_right _ hi)).trans (w1 vs fun i hi => hv i (List.mem_append_left _ hi))) (fun a z => o1 a (o2 a z)) h2⟩
def wgTup (n : Nat) (g : WGs) : WG := fun x ρ P => match x with
  | .tup xs => xs.length = n ∧ g xs ρ P
  | _ => False
theorem simG_tup {n : Nat} {is : List Nat} {gs : TGs} {wgs : WGs} (h : SimGs K d is ts gs wgs ts') : SimG K d is ts (gTup K n gs) (wgTup n wgs) ts' := fun H0 F0 F H σ ρ v x Q P E r hw k => by
  cases x with
  | tup xs =>
    obtain ⟨p, vs, rfl, h1, h2⟩ := r.tupE
    exact ⟨p, vs, rfl, h1, by rw [h2.length]; exact hw.1, h H0 F0 F H σ ρ vs xs Q P E h2 hw.2 k⟩
  | _ => exact hw.elim
def wtag (ts : List Tag) : List Nat → List Tag
  | [] => ts
  | v :: vs => (wtag ts vs).set v .no
theorem EnvR.drop1 {i : Nat} {o : Option V} {σ : L2.St} {ρ : List PV} (E : EnvR K d ts H0 F0 F H σ ρ) : EnvR K d (ts.set i .no) H0 F0 F H (σ.set i o) ρ where
  st := E.st
  xc := E.xc
  ex := E.ex.set (by decide)
  ls := by rw [List.length_set, List.length_set, E.ls]
  lr := by rw [List.length_set, E.lr]
  sh := fun j h => by
    rw [List.getElem?_set] at h
    split at h
    · split at h <;> cases h
    · next e =>
      obtain ⟨w, y, g1, g2, g3⟩ := E.sh j h
      exact ⟨w, y, by rw [List.getElem?_set_ne e]; exact g1, g2, g3⟩
  ow := fun j h => by
    rw [List.getElem?_set] at h
    split at h
    · split at h <;> cases h
    · next e =>
      obtain ⟨w, vs, xs, g1, g3⟩ := E.ow j h
      exact ⟨w, vs, xs, by rw [List.getElem?_set_ne e]; exact g1, g3⟩
  ap := fun j l a h1 h2 h3 h4 => by
    have o : ∀ m : Nat, (ts.set i .no)[m]? = some .ow → i ≠ m ∧ ts[m]? = some .ow := fun m h => by
      rw [List.getElem?_set] at h
      split at h
      · split at h <;> cases h
      · next e => exact ⟨e, h⟩
    obtain ⟨n1, o1⟩ := o j h1
    obtain ⟨n2, o2⟩ := o l h2
    rw [List.getElem?_set_ne n1] at h3
    rw [List.getElem?_set_ne n2] at h4
    exact E.ap j l a o1 o2 h3 h4
  od := fun j h => by
    obtain ⟨e, h⟩ := od_ne (by decide) h
    obtain ⟨w, y, h1, h2, h3⟩ := E.od j h
    exact ⟨w, y, by rw [List.getElem?_set_ne e]; exact h1, h2, h3⟩
  ad := fun j a h q => by
    obtain ⟨e, h⟩ := od_ne (by decide) h
    obtain ⟨q1, q2⟩ := E.ad j a h ((dp_ne e).mp q)
    refine ⟨fun l hl => ?_, fun l hl z => ?_⟩
    · obtain ⟨e', hl⟩ := ow_ne (by decide) hl
      rw [List.getElem?_set_ne e']
      exact q1 l hl
    · obtain ⟨e', hl⟩ := od_ne (by decide) hl
      exact q2 l hl ((dp_ne e').mp z)
theorem EnvR.wipe {σ : L2.St} {ρ : List PV} (E : EnvR K d ts H0 F0 F H σ ρ) : ∀ vs : List Nat, EnvR K d (wtag ts vs) H0 F0 F H (L2.wipe σ vs) ρ
  | [] => E
  | _ :: vs => (E.wipe vs).drop1
def wLcL (wg : WG) (wt : WT) (we : WE) (ρ : List PV) : List PV → List PV → (List PV → Prop) → Prop
  | [], acc, P => P acc
  | x :: xs, acc, P => wg x ρ fun ρ2 => wt ρ2 fun b => if b = true then we ρ2 fun y => wLcL wg wt we ρ xs (acc ++ [y]) P else wLcL wg wt we ρ xs acc P
def wLc (ww : WI) (wg : WG) (wt : WT) (we : WE) : WE := fun ρ P => ww ρ fun xs => xs.length ≤ 100000 ∧ wLcL wg wt we ρ xs [] fun ys => P (.lst ys)
theorem sim_lc {is vs : List Nat} {ts2 : List Tag} {wi : TI} {ww : WI} {g : TG} {wg : WG} {tt : TT} {wt : WT} (hi : SimI K d false ts wi ww) (hg : SimG K d is (wtag ts vs) g wg ts2) (ht : SimT K d ts2 tt wt) (he : Sim K d (rS K d) ts2 te we)
    (hv : (is.all fun i => vs.contains i) = true := by rfl) : Sim K d (rN K d) ts (tLc wi g tt te vs) (wLc ww wg wt we) := fun H0 F0 F H σ ρ Q P E hw k => hi H0 F0 F H σ ρ _ _ E hw fun xs F1 H1 J s1 it hx => by
  have hv' : ∀ i ∈ is, i ∈ vs := fun i h => by
    have := List.all_eq_true.mp hv i h
    exact List.contains_iff_mem.mp this
  obtain ⟨hl, hx⟩ := hx
  obtain ⟨G, Y, w, hG, item⟩ := it
  have E1 := E.step s1
  intro D nD
  refine lc_it w (fun i H' => ∃ (F' : Fz) (as : List V) (acc : List PV), H' D = some (.lst as) ∧ ¬ F' D ∧ Rvs K d F' H' as acc ∧ as.length ≤ i ∧ Step F1 H1 F' H' ∧ wLcL wg wt we ρ (xs.drop i) acc fun ys => P (.lst ys)) ?_ ?_ ?_ ?_
  · exact ⟨F1, [], [], upd_same, fun f => s1.dm.at_ D f nD, .nil, Nat.le_refl _, Step.new s1.dm nD, hx⟩
  · rintro i H' _ ⟨F', as, acc, _, _, _, _, st, _⟩
    exact hG H' st.ex
  · rintro i x H' H'' hi' ⟨F', as, acc, a1, a2, a3, a4, st, hw2⟩ y
    obtain ⟨s2, z, hz, rz⟩ := item i H' F' x H'' st.ex st.up (.of st.ex) st.dm y hi'
    have dr : xs.drop i = z :: xs.drop (i + 1) := by
      obtain ⟨hlt, e⟩ := List.getElem?_eq_some_iff.mp hz
      rw [List.drop_eq_getElem_cons hlt, e]
    rw [dr] at hw2
    have Ew := ((E1.step (st.trans s2)).wipe vs)
    refine hg H0 F0 F' H'' (L2.wipe σ vs) ρ x z _ _ Ew rz hw2 fun σ2 ρ2 E2 wp _ h2 => ?_
    have wip : wipe σ2 vs = wipe σ vs := by
      rw [wp vs hv']
      have : ∀ (τ : L2.St) (l : List Nat), wipe (wipe τ vs) l = wipe (wipe τ vs) l := fun _ _ => rfl
      exact wipe_idem σ vs
    refine ⟨wip, ht H0 F0 F' H'' σ2 ρ2 _ _ E2 h2 fun b H3 e3 hb => ?_⟩
    have s3 := Step.tox s2.dm e3
    have aD : H3 D = some (.lst as) := e3.xn.at (s2.ex.at a1)
    cases b with
    | true =>
      refine he H0 F0 F' H3 σ2 ρ2 _ _ (E2.step s3) hb fun q u F4 H4 s4 r4 h4 => ?_
      have aD4 : H4 D = some (.lst as) := s4.ex.at aD
      have nf4 : ¬ F4 D := fun f => (s4.nw D f).elim a2 fun z => by rw [aD] at z; cases z
      refine ⟨as, aD4, sz_lt (by omega), F4, as ++ [u], acc ++ [q], upd_same, nf4, ?_, by rw [List.length_append, List.length_singleton]; omega, ?_, h4⟩
      · have sb : Stb F4 H4 (upd H4 D (.lst (as ++ [u]))) := Stb.set aD4 nf4
        exact (((a3.step s2).step s3).step s4 |>.mono sb fun _ h => h).append (.cons (r4.mono sb fun _ h => h) .nil)
      · have s5 := ((st.trans s2).trans s3).trans s4
        exact ⟨Xn.mut s5.ex nD, s5.up, s5.nw, s5.dm.set aD4⟩
    | false => exact ⟨F', as, acc, aD, a2, (a3.step s2).step s3, by omega, (st.trans s2).trans s3, hb⟩
  · rintro H' ⟨F', as, acc, a1, a2, a3, a4, st, hw2⟩
    rw [List.drop_length] at hw2
    exact k (.lst acc) (.ref D) F' H' (s1.trans st) (.inr ⟨D, as, acc, rfl, rfl, back_x s1.ex nD, a1, a2, a3⟩) hw2
end
end Wx
namespace Wx
open PySem PySem.Spec PyProof.Rows L2 Evl Hn RZ
variable [TabC]
abbrev WF := List PV → (PV → Prop) → Prop
structure WEnds where
  nx : List PV → Prop
  rt : PV → Prop
  bk : List PV → Prop := fun _ => False
  ct : List PV → Prop := fun _ => False
abbrev WS := WEnds → List PV → Prop
section
variable [XC]
variable (K : PySem.W.Frag) (d : Cn → Addr)
def spW (R : RR) (w : WF) : Sp := fun vs H Q _ => ∃ (F : Fz) (xs : List PV) (P : PV → Prop), Dom F H ∧ Rvs K d F H vs xs ∧ w xs P ∧ ∀ x v F' H', Step F H F' H' → R F H F' H' v x → P x → Q v H'
def Gr (F : Fz) (H : Hp) (F' : Fz) (H' : Hp) : Prop := (∀ a, F a → F' a) ∧ Stb F H H'
def SimS (R : RR) (bt ct ts : List Tag) (t : TS) (w : WS) (ts' : List Tag) : Prop := ∀ (H0 : Hp) (F0 F : Fz) (H : Hp) (σ : L2.St) (ρ : List PV) (D : Ends) (D' : WEnds), EnvR K d ts H0 F0 F H σ ρ → w D' ρ →
  (∀ F' H' σ' ρ', Gr F H F' H' → EnvR K d ts' H0 F0 F' H' σ' ρ' → D'.nx ρ' → D.nx σ' H') →
  (∀ x v F' H', Step F0 H0 F' H' → R F0 H0 F' H' v x → D'.rt x → D.rt v H') →
  (∀ F' H' σ' ρ', Gr F H F' H' → EnvR K d bt H0 F0 F' H' σ' ρ' → D'.bk ρ' → D.bk σ' H') →
  (∀ F' H' σ' ρ', Gr F H F' H' → EnvR K d ct H0 F0 F' H' σ' ρ' → D'.ct ρ' → D.ct σ' H') → t D σ H
end
section
variable [XC]
variable {K : PySem.W.Frag} {d : Cn → Addr} {F F' F0 F1 F2 : Fz} {H H' H0 H1 H2 Hs : Hp} {v u : V} {ts ts' ts1 ts2 bt ct : List Tag} {R : RR} {te ta tb tc : TE} {we wa wb wc : WE} {σ : L2.St} {ρ : List PV} {x : PV}
theorem Gr.refl : Gr F H F H := ⟨fun _ h => h, .refl⟩
theorem Gr.of (s : Step F H F' H') : Gr F H F' H' := ⟨s.up, .of s.ex⟩
theorem Gr.up (h : ∀ a, F a → F' a) : Gr F H F' H := ⟨h, .refl⟩
theorem Gr.trans (a : Gr F H F1 H1) (b : Gr F1 H1 F2 H2) : Gr F H F2 H2 := ⟨fun x h => b.1 x (a.1 x h), fun x o h z => b.2 x o (a.2 x o h z) (z.elim .inl fun f => .inr ⟨a.1 x f.1, f.2⟩)⟩
def wCall (w : WF) (wa : WA) : WE := fun ρ P => wa ρ fun xs => w xs P
theorem sim_call {w : WF} {ar : TA} {wr : WA} {E : XK} (o : ROk R) (ha : SimA K d ts ar wr) : Sim K d R ts (tCall (spW K d R w) [] E ar) (wCall w wr) := fun H0 F0 F H σ ρ Q P E hw k =>
  ha H0 F0 F H σ ρ _ _ E hw fun xs vs F1 H1 s1 r1 h1 => ⟨F1, xs, P, s1.dm, by rw [List.append_nil]; exact r1, h1, fun x v F' H' s r p => k x v F' H' (s1.trans s) (o.back s1 r) p⟩
def wMeth (c : Cn) (m : Str) (w : WF) (wo : WE) (wa : WA) : WE := fun ρ P => wo ρ fun x => (∃ fs, x = .ins c fs ∧ fs.lookup m = none) ∧ wa ρ fun xs => w (x :: xs) P
theorem sim_meth {w : WF} {m : Str} {to : TE} {wo : WE} {ar : TA} {wr : WA} {E : XK} {C : Addr} (c : Cn) (o : ROk R) (ho : Sim K d (rS K d) ts to wo) (ha : SimA K d ts ar wr) (hC : d c = C := by rfl) : Sim K d R ts (tMeth C m (spW K d R w) [] E to ar) (wMeth c m w wo wr) := fun H0 F0 F H σ ρ Q P E hw k =>
  ho H0 F0 F H σ ρ _ _ E hw fun x v F1 H1 s1 r1 ⟨⟨fs, ex, lk⟩, h1⟩ => by
    subst hC
    subst ex
    obtain ⟨p, dx, gs, rfl, h2, h3⟩ := Rv.insE r1
    refine ⟨p, dx, gs, rfl, h2, h3.none lk, ha H0 F0 F1 H1 σ ρ _ _ (E.step s1) h1 fun xs vs F2 H2 s2 r2 h4 => ⟨F2, .ins c fs :: xs, P, s2.dm, ?_, h4, fun x v F' H' s r q => k x v F' H' ((s1.trans s2).trans s) (o.back (s1.trans s2) r) q⟩⟩
    rw [List.append_nil]
    exact .cons (Rv.step s2 r1) r2
def wProp (c : Cn) (w : WF) (wo : WE) : WE := fun ρ P => wo ρ fun x => (∃ fs, x = .ins c fs) ∧ w [x] P
theorem sim_prop {w : WF} {to : TE} {wo : WE} {E : XK} {C : Addr} (c : Cn) (o : ROk R) (ho : Sim K d (rS K d) ts to wo) (hC : d c = C := by rfl) : Sim K d R ts (tProp C (spW K d R w) [] E to) (wProp c w wo) := fun H0 F0 F H σ ρ Q P E hw k =>
  ho H0 F0 F H σ ρ _ _ E hw fun x v F1 H1 s1 r1 ⟨⟨fs, ex⟩, h1⟩ => by
    subst hC
    subst ex
    obtain ⟨p, dx, gs, rfl, h2, h3⟩ := Rv.insE r1
    exact ⟨p, dx, gs, rfl, h2, F1, [.ins c fs], P, s1.dm, .cons r1 .nil, h1, fun x v F' H' s r q => k x v F' H' (s1.trans s) (o.back s1 r) q⟩
def wStat (w : WF) (wo : WE) (wa : WA) (c : Cn) : WE := fun ρ P => wo ρ fun x => x = .cls c ∧ wa ρ fun xs => w xs P
theorem sim_stat {w : WF} {to : TE} {wo : WE} {ar : TA} {wr : WA} {C : Addr} (c : Cn) (o : ROk R) (ho : Sim K d (rS K d) ts to wo) (ha : SimA K d ts ar wr) (hC : d c = C := by rfl) : Sim K d R ts (tSMeth C (spW K d R w) to ar) (wStat w wo wr c) := fun H0 F0 F H σ ρ Q P E hw k =>
  ho H0 F0 F H σ ρ _ _ E hw fun x v F1 H1 s1 r1 ⟨ex, h1⟩ => by
    subst hC
    subst ex
    cases r1
    exact ⟨rfl, ha H0 F0 F1 H1 σ ρ _ _ (E.step s1) h1 fun xs vs F2 H2 s2 r2 h4 => ⟨F2, xs, P, s2.dm, r2, h4, fun x v F' H' s r q => k x v F' H' ((s1.trans s2).trans s) (o.back (s1.trans s2) r) q⟩⟩
def MkS (K : PySem.W.Frag) (d : Cn → Addr) (c : Cn) (sp : Sp) (w : WF) : Prop := ∀ (F : Fz) (H : Hp) (vs : List V) (xs : List PV) (Q : V → Hp → Prop) (P : PV → Prop) (E : XK), Dom F H → Rvs K d F H vs xs → w xs P →
  (∀ x v F' H', Step F H F' H' → Rv K d F' H' v x → notL x → P x → Q v H') → ∀ y dx, H y = none → H dx = none → dx ≠ y → sp (.ref y :: (vs ++ [])) (upd (upd H dx (.own y)) y (.ins (d c) dx [])) (fun v H2 => v = .non ∧ Q (.ref y) H2) E
theorem sim_make {w : WF} {sp : Sp} {ar : TA} {wr : WA} {E : XK} {C : Addr} {c : Cn} (m : MkS K d c sp w) (ha : SimA K d ts ar wr) (hC : d c = C := by rfl) : Sim K d (rN K d) ts (tMake C sp [] E ar) (wCall w wr) := fun H0 F0 F H σ ρ Q P E hw k =>
  ha H0 F0 F H σ ρ _ _ E hw fun xs vs F1 H1 s1 r1 h1 y dx ny nd ne => by
    subst hC
    exact m F1 H1 vs xs Q P _ s1.dm r1 h1 (fun x v F' H' s r nl p => k x v F' H' (s1.trans s) (.inl ⟨nl, r⟩) p) y dx ny nd ne
def wOwn (c : Cn) (w : WF) : W2 := fun x y P => (∃ fs gs, x = .ins c fs ∧ y = .ins c gs) ∧ w [x, y] P
def wOwnNe (c : Cn) (w : WF) : W2 := fun x y P => (∃ fs gs, x = .ins c fs ∧ y = .ins c gs) ∧ w [x, y] fun z => match z with
  | .bl b => P (.bl (!b))
  | _ => False
def wOwnI (c : Cn) (w : WF) : W2 := fun x y P => (∃ fs i, x = .ins c fs ∧ y = .int i) ∧ w [x, y] P
def wOwnR (c : Cn) (w : WF) : W2 := fun x y P => (∃ fs i, y = .ins c fs ∧ x = .int i) ∧ w [y, x] P
def wIxO (c : Cn) (w : WF) (wa wb : WE) : WE := fun ρ P => wa ρ fun x => wb ρ fun y => (∃ fs, x = .ins c fs) ∧ w [x, y] P
def wLenO (c : Cn) (w : WF) : WC := fun xs P => ∃ fs, xs = [.ins c fs] ∧ w xs fun z => match z with
  | .int n => 0 ≤ n ∧ n < 2 ^ 63 ∧ P (.int n)
  | _ => False
theorem simS_nil : SimS K d R bt ct ts tNext (fun D ρ => D.nx ρ) ts := fun H0 F0 F H σ ρ D D' E hw n r b c => n F H σ ρ .refl E hw
def wSeq (a b : WS) : WS := fun D ρ => a { D with nx := b D } ρ
theorem simS_seq {t t' : TS} {a b : WS} (h : SimS K d R bt ct ts t a ts1) (h' : SimS K d R bt ct ts1 t' b ts2) : SimS K d R bt ct ts (tSeq t t') (wSeq a b) ts2 := fun H0 F0 F H σ ρ D D' E hw n r b' c =>
  h H0 F0 F H σ ρ _ _ E hw (fun F1 H1 σ1 ρ1 g1 E1 h1 => h' H0 F0 F1 H1 σ1 ρ1 D D' E1 h1 (fun F2 H2 σ2 ρ2 g2 => n F2 H2 σ2 ρ2 (g1.trans g2)) r (fun F2 H2 σ2 ρ2 g2 => b' F2 H2 σ2 ρ2 (g1.trans g2)) fun F2 H2 σ2 ρ2 g2 => c F2 H2 σ2 ρ2 (g1.trans g2)) r b' c
def wCut (a b : WS) : WS := fun D ρ => ∃ M : List PV → Prop, a { D with nx := M } ρ ∧ ∀ ρ', M ρ' → b D ρ'
def wSet (i : Nat) (we : WE) : WS := fun D ρ => we ρ fun x => D.nx (ρ.set i x)
theorem simS_set {i : Nat} (h : Sim K d (rS K d) ts te we) : SimS K d R bt ct ts (tAsg te (gName i)) (wSet i we) (ts.set i .sh) := fun H0 F0 F H σ ρ D D' E hw n r b c =>
  h H0 F0 F H σ ρ _ _ E hw fun x v F1 H1 s1 r1 h1 => n F1 H1 _ _ (.of s1) ((E.step s1).set r1) h1
def New (K : PySem.W.Frag) (d : Cn → Addr) (Hs : Hp) (F : Fz) (H : Hp) (k : Bool) (v : V) (x : PV) : Prop := if k = true then ∃ p vs xs, v = .ref p ∧ x = .lst xs ∧ Hs p = none ∧ H p = some (.lst vs) ∧ ¬ F p ∧ Rvs K d F H vs xs else Rv K d F H v x
def rK (K : PySem.W.Frag) (d : Cn → Addr) (k : Bool) : RR := if k = true then rN K d else rS K d
def tgK (k : Bool) : Tag := if k = true then .ow else .sh
def isL (k : Bool) (x : PV) : Prop := k = true → ∃ xs, x = .lst xs
theorem new_of {k : Bool} (h : rK K d k F H F' H' v x) (l : isL k x) : New K d H F' H' k v x := by
  cases k with
  | false => exact h
  | true =>
    obtain ⟨xs, rfl⟩ := l rfl
    rcases (show rN K d F H F' H' v (.lst xs) from h) with h | h
    · exact h.1.elim
    · exact h
theorem New.step {k : Bool} (s : Step F H F' H') (h : New K d Hs F H k v x) : New K d Hs F' H' k v x := by
  cases k with
  | false => exact Rv.step s h
  | true =>
    obtain ⟨p, vs, xs, h1, h2, h3, h4, h5, h6⟩ := h
    refine ⟨p, vs, xs, h1, h2, h3, s.ex.at h4, fun f => (s.nw p f).elim h5 fun z => ?_, h6.step s⟩
    rw [h4] at z
    cases z
def OwnIn (Hs : Hp) (ts : List Tag) (σ : L2.St) : Prop := (∀ (j : Nat) (a : Addr), ts[j]? = some .ow → σ[j]? = some (some (.ref a)) → Hs a ≠ none) ∧ ∀ (j : Nat) (c : Addr), ts[j]? = some .od → σ[j]? = some (some (.ref c)) → ∃ ws : List V, Ht Hs c ws ∧ ∀ b, V.ref b ∈ ws → Hs b ≠ none
theorem EnvR.ownIn (E : EnvR K d ts H0 F0 F H σ ρ) : OwnIn H ts σ := by
 refine ⟨fun j a h1 h2 z => ?_, fun j c h1 h2 => ?_⟩
 · obtain ⟨b, vs, xs, g1, g2, g3, _⟩ := E.ow j h1
   rw [h2] at g1
   cases g1
   rw [g3] at z
   cases z
 · obtain ⟨v, x, g1, g2, g3⟩ := E.od j h1
   rw [h2] at g1
   cases g1
   obtain ⟨c', bs, yss, e, _, g4, _⟩ := id g3
   cases e
   exact ⟨bs, g4, fun b hb => (g3.have_ h2 ⟨c, bs, h2, g4, .inr hb⟩).1⟩
theorem OwnIn.step (e : Xn H H') (h : OwnIn H ts σ) : OwnIn H' ts σ := ⟨fun j a h1 h2 z => h.1 j a h1 h2 (back_x e z), fun j c h1 h2 => by
  obtain ⟨bs, g1, g2⟩ := h.2 j c h1 h2
  exact ⟨bs, g1.at e, fun b hb z => g2 b hb (back_x e z)⟩⟩
theorem OwnIn.not {Hs : Hp} (h : OwnIn Hs ts σ) (e : Xn Hs H) {p : Addr} (hp : Hs p = none) {j : Nat} (hj : ts[j]? = some .od) : ¬ Dpl H σ j p := by
  rintro ⟨c, bs, h1, h2, h3⟩
  obtain ⟨bs', g1, g2⟩ := h.2 j c hj h1
  cases (g1.at e).inj h2
  rcases h3 with rfl | h3
  · exact g1.some hp
  · exact g2 p h3 hp
theorem EnvR.put {i : Nat} {k : Bool} (E : EnvR K d ts H0 F0 F H σ ρ) (n : New K d Hs F H k v x) (e0 : Xn H0 Hs) (o : OwnIn Hs ts σ) (e : Xn Hs H) : EnvR K d (ts.set i (tgK k)) H0 F0 F H (σ.set i (some v)) (ρ.set i x) := by
  cases k with
  | false => exact E.set n
  | true =>
    obtain ⟨p, vs, xs, rfl, rfl, h3, h4, h5, h6⟩ := n
    exact E.setO h4 h5 (back_x e0 h3) h6 (fun j _ h1 h2 => o.1 j p h1 h2 h3) fun j h1 => o.not e h3 h1
theorem OwnIn.put {i : Nat} {k : Bool} (h : OwnIn Hs ts σ) (n : k = true → ∃ p, v = .ref p ∧ Hs p ≠ none) : OwnIn Hs (ts.set i (tgK k)) (σ.set i (some v)) := by
 refine ⟨fun j a h1 h2 => ?_, fun j c h1 h2 => ?_⟩
 rotate_left
 · obtain ⟨e, h1⟩ := od_ne (by cases k <;> decide) h1
   rw [List.getElem?_set_ne e] at h2
   exact h.2 j c h1 h2
 · rw [List.getElem?_set] at h1
   by_cases e : i = j
   · subst e
     rw [if_pos rfl] at h1
     split at h1
     · next l =>
       cases k with
       | false => cases h1
       | true =>
         obtain ⟨p, rfl, q⟩ := n rfl
         rw [List.getElem?_set] at h2
         rw [if_pos rfl] at h2
         split at h2
         · cases h2; exact q
         · cases h2
     · cases h1
   · rw [if_neg e] at h1
     rw [List.getElem?_set_ne e] at h2
     exact h.1 j a h1 h2
def wSetO (i : Nat) (we : WE) : WS := fun D ρ => we ρ fun x => isL true x ∧ D.nx (ρ.set i x)
def wPar (i j : Nat) (k l : Bool) (wa wb : WE) : WS := fun D ρ => wa ρ fun x => wb ρ fun y => isL k x ∧ isL l y ∧ D.nx ((ρ.set i x).set j y)
theorem New.have {k : Bool} (h : New K d Hs F H k v x) : k = true → ∃ p, v = .ref p ∧ H p ≠ none := fun e => by
  subst e
  obtain ⟨p, vs, xs, rfl, _, _, h4, _⟩ := h
  exact ⟨p, rfl, by rw [h4]; intro z; cases z⟩
theorem simS_par {i j : Nat} {k l : Bool} (ha : Sim K d (rK K d k) ts ta wa) (hb : Sim K d (rK K d l) ts tb wb) : SimS K d R bt ct ts (tPar i j (tCons ta (tCons tb tNil))) (wPar i j k l wa wb) ((ts.set i (tgK k)).set j (tgK l)) := fun H0 F0 F H σ ρ D D' E hw n r b c =>
  ha H0 F0 F H σ ρ _ _ E hw fun x v F1 H1 s1 r1 h1 => hb H0 F0 F1 H1 σ ρ _ _ (E.step s1) h1 fun y u F2 H2 s2 r2 ⟨lx, ly, h2⟩ => by
    have n1 := new_of r1 lx
    have E1 := ((E.step s1).step s2).put (i := i) (n1.step s2) E.st.ex E.ownIn (s1.trans s2).ex
    exact ⟨v, u, rfl, n F2 H2 _ _ (.of (s1.trans s2)) (E1.put (i := j) (new_of r2 ly) (E.st.ex.trans s1.ex) ((E.ownIn.step s1.ex).put n1.have) s2.ex) h2⟩
def wPar3 (i j m : Nat) (k l o : Bool) (wa wb wc : WE) : WS := fun D ρ => wa ρ fun x => wb ρ fun y => wc ρ fun z => isL k x ∧ isL l y ∧ isL o z ∧ D.nx (((ρ.set i x).set j y).set m z)
theorem simS_par3 {i j m : Nat} {k l o : Bool} (ha : Sim K d (rK K d k) ts ta wa) (hb : Sim K d (rK K d l) ts tb wb) (hc : Sim K d (rK K d o) ts tc wc) : SimS K d R bt ct ts (tPar3 i j m (tCons ta (tCons tb (tCons tc tNil)))) (wPar3 i j m k l o wa wb wc) (((ts.set i (tgK k)).set j (tgK l)).set m (tgK o)) := fun H0 F0 F H σ ρ D D' E hw n r b c =>
  ha H0 F0 F H σ ρ _ _ E hw fun x v F1 H1 s1 r1 h1 => hb H0 F0 F1 H1 σ ρ _ _ (E.step s1) h1 fun y u F2 H2 s2 r2 h2 => hc H0 F0 F2 H2 σ ρ _ _ ((E.step s1).step s2) h2 fun z q F3 H3 s3 r3 ⟨lx, ly, lz, h3⟩ => by
    have n1 := new_of r1 lx
    have n2 := new_of r2 ly
    have o1 := (E.ownIn.step s1.ex).put (i := i) n1.have
    have E1 := (((E.step s1).step s2).step s3).put (i := i) ((n1.step s2).step s3) E.st.ex E.ownIn ((s1.trans s2).trans s3).ex
    have E2 := E1.put (i := j) (n2.step s3) (E.st.ex.trans s1.ex) o1 (s2.trans s3).ex
    exact ⟨v, u, q, rfl, n F3 H3 _ _ (.of ((s1.trans s2).trans s3)) (E2.put (i := m) (new_of r3 lz) ((E.st.ex.trans s1.ex).trans s2.ex) ((o1.step s2.ex).put n2.have) s3.ex) h3⟩
def wAsg (we : WE) (wg : WG) : WS := fun D ρ => we ρ fun x => wg x ρ D.nx
theorem simS_asg {is : List Nat} {g : TG} {wg : WG} (h : Sim K d (rS K d) ts te we) (hg : SimG K d is ts g wg ts') : SimS K d R bt ct ts (tAsg te g) (wAsg we wg) ts' := fun H0 F0 F H σ ρ D D' E hw n r b c =>
  h H0 F0 F H σ ρ _ _ E hw fun x v F1 H1 s1 r1 h1 => hg H0 F0 F1 H1 σ ρ v x _ _ (E.step s1) r1 h1 fun σ' ρ' E' _ _ p => n F1 H1 σ' ρ' (.of s1) E' p
def wAug (i : Nat) (f : Int → Int → Int) (we : WE) : WS := fun D ρ => we ρ fun y => match ρ.getD i .non, y with
  | .int a, .int b => D.nx (ρ.set i (.int (f a b)))
  | _, _ => False
def wMut (i : Nat) (w : List PV → List PV → (List PV → Prop) → Prop) (wa : WA) : WS := fun D ρ => wa ρ fun zs => ∃ xs, ρ.getD i .non = .lst xs ∧ w xs zs fun ys => D.nx (ρ.set i (.lst ys))
def wAppend : List PV → List PV → (List PV → Prop) → Prop := fun xs zs P => match zs with
  | [y] => xs.length < 100000 ∧ P (xs ++ [y])
  | _ => False
def wExtend : List PV → List PV → (List PV → Prop) → Prop := fun xs zs P => match zs with
  | [.lst ys] => xs.length + ys.length ≤ 100000 ∧ P (xs ++ ys)
  | _ => False
def wInsert : List PV → List PV → (List PV → Prop) → Prop := fun xs zs P => match zs with
  | [.int i, y] => xs.length < 100000 ∧ 0 ≤ i ∧ i < 2 ^ 63 ∧ P (xs.take i.toNat ++ [y] ++ xs.drop i.toNat)
  | _ => False
def wClear : List PV → List PV → (List PV → Prop) → Prop := fun xs zs P => zs = [] ∧ P []
def wSub (i : Nat) (we wi : WE) : WS := fun D ρ => we ρ fun y => wi ρ fun j => match ρ.getD i .non, j with
  | .lst xs, .int k => ∃ m, ixN xs.length k = some m ∧ D.nx (ρ.set i (.lst (xs.set m y)))
  | _, _ => False
def wAugS (i : Nat) (f : Int → Int → Int) (wi we : WE) : WS := fun D ρ => wi ρ fun j => match ρ.getD i .non, j with
  | .lst xs, .int k => ∃ m a, ixN xs.length k = some m ∧ xs[m]? = some (.int a) ∧ we ρ fun y => match y with
    | .int b => D.nx (ρ.set i (.lst (xs.set m (.int (f a b)))))
    | _ => False
  | _, _ => False
def wDrop (we : WE) : WS := fun D ρ => we ρ fun _ => D.nx ρ
theorem simS_drop (h : Sim K d (rS K d) (shr ts) te we) : SimS K d R bt ct ts (tDrop te) (wDrop we) ts := fun H0 F0 F H σ ρ D D' E hw n r b c => by
  obtain ⟨F1, up, E1⟩ := E.conv (cv_shr ts)
  exact h H0 F0 F1 H σ ρ _ _ E1 hw fun x v F' H' s _ p => n F H' σ ρ (.of (Step.tox E.dm s.xt)) (E.step (Step.tox E.dm s.xt)) p
def wRet (we : WE) : WS := fun D ρ => we ρ D.rt
theorem simS_ret (o : ROk R) (h : Sim K d R ts te we) : SimS K d R bt ct ts (tRet te) (wRet we) ts' := fun H0 F0 F H σ ρ D D' E hw n r b c =>
  h H0 F0 F H σ ρ _ _ E hw fun x v F1 H1 s1 r1 h1 => r x v F1 H1 (E.st.trans s1) (o.back E.st r1) h1
def wIfS (wt : WT) (a b : WS) : WS := fun D ρ => wt ρ fun c => if c = true then a D ρ else b D ρ
theorem simS_if {tt : TT} {wt : WT} {t t' : TS} {a b : WS} (ht : SimT K d ts tt wt) (ha : SimS K d R bt ct ts t a ts1) (hb : SimS K d R bt ct ts t' b ts1) : SimS K d R bt ct ts (tIfS tt t t') (wIfS wt a b) ts1 := fun H0 F0 F H σ ρ D D' E hw n r b' c =>
  ht H0 F0 F H σ ρ _ _ E hw fun k H1 e p => by
    have s1 := Step.tox E.dm e
    have E1 := E.step s1
    have g1 : Gr F H F H1 := .of s1
    cases k with
    | true => exact ha H0 F0 F H1 σ ρ D D' E1 p (fun F2 H2 σ2 ρ2 g2 => n F2 H2 σ2 ρ2 (g1.trans g2)) r (fun F2 H2 σ2 ρ2 g2 => b' F2 H2 σ2 ρ2 (g1.trans g2)) fun F2 H2 σ2 ρ2 g2 => c F2 H2 σ2 ρ2 (g1.trans g2)
    | false => exact hb H0 F0 F H1 σ ρ D D' E1 p (fun F2 H2 σ2 ρ2 g2 => n F2 H2 σ2 ρ2 (g1.trans g2)) r (fun F2 H2 σ2 ρ2 g2 => b' F2 H2 σ2 ρ2 (g1.trans g2)) fun F2 H2 σ2 ρ2 g2 => c F2 H2 σ2 ρ2 (g1.trans g2)
theorem simS_never : SimS K d R bt ct ts tNever (fun _ _ => False) ts' := fun H0 F0 F H σ ρ D D' E hw n r b c => hw.elim
def wForL (wg : WG) (w : WS) (D : WEnds) : List PV → List PV → Prop
  | [], ρ => D.nx ρ
  | x :: xs, ρ => wg x ρ fun ρ2 => w { D with nx := wForL wg w D xs, ct := wForL wg w D xs, bk := D.nx } ρ2
def wFor (ww : WI) (wg : WG) (w : WS) : WS := fun D ρ => ww ρ fun xs => wForL wg w D xs ρ
theorem simS_for {is : List Nat} {wi : TI} {ww : WI} {g : TG} {wg : WG} {t : TS} {w : WS} (hi : SimI K d true ts wi ww) (hg : SimG K d is ts g wg ts1) (hb : SimS K d R ts ts ts1 t w ts2) (c : cv ts2 ts = true) : SimS K d R bt ct ts (tFor wi g t) (wFor ww wg w) ts := fun H0 F0 F H σ ρ D D' E hw n r b c' =>
  hi H0 F0 F H σ ρ _ _ E hw fun xs F1 H1 J s1 it hx => by
    obtain ⟨G, Y, wk, hG, item⟩ := it
    have stb : ∀ {H' : Hp}, keep true F1 H1 H' = Stb F1 H1 H' := rfl
    refine for_it wk (fun i σ' H' => ∃ F' ρ', EnvR K d ts H0 F0 F' H' σ' ρ' ∧ Gr F1 H1 F' H' ∧ wForL wg w D' (xs.drop i) ρ') ⟨F1, ρ, E.step s1, .refl, hx⟩ ?_ ?_ ?_
    · rintro i σ' H' _ ⟨F', ρ', _, g, _⟩
      exact hG H' g.2
    · rintro i v σ' H' H'' hlt ⟨F', ρ', E', g, hw'⟩ y
      obtain ⟨s2, z, hz, rz⟩ := item i H' F' v H'' g.2 g.1 g.2 E'.dm y hlt
      have dr : xs.drop i = z :: xs.drop (i + 1) := by
        obtain ⟨hl, e⟩ := List.getElem?_eq_some_iff.mp hz
        rw [List.drop_eq_getElem_cons hl, e]
      rw [dr] at hw'
      refine hg H0 F0 F' H'' σ' ρ' v z _ _ (E'.step s2) rz hw' fun σ2 ρ2 E2 _ _ h2 => ?_
      refine hb H0 F0 F' H'' σ2 ρ2 _ _ E2 h2 (fun F3 H3 σ3 ρ3 g3 E3 q => ?_) r (fun F3 H3 σ3 ρ3 g3 E3 q => n F3 H3 σ3 ρ3 ((Gr.of s1).trans ((g.trans (.of s2)).trans g3)) E3 q) fun F3 H3 σ3 ρ3 g3 E3 q => ⟨F3, ρ3, E3, (g.trans (.of s2)).trans g3, q⟩
      obtain ⟨F4, up4, E4⟩ := E3.conv c
      exact ⟨F4, ρ3, E4, ((g.trans (.of s2)).trans g3).trans (.up up4), q⟩
    · rintro σ' H' ⟨F', ρ', E', g, hw'⟩
      rw [List.drop_length] at hw'
      exact n F' H' σ' ρ' ((Gr.of s1).trans g) E' hw'
end
end Wx
namespace Wx
open PySem PySem.Spec PyProof.Rows L2 Evl Hn RZ
variable [TabC]
section
variable [XC]
variable {K : PySem.W.Frag} {d : Cn → Addr} {F F0 : Fz} {H H0 : Hp} {ts ts' bt ct : List Tag} {R : RR} {te : TE} {we : WE}
def wgSub (i : Nat) (wi : WE) : WG := fun y ρ P => wi ρ fun j => match ρ.getD i .non, j with
  | .lst xs, .int k => ∃ m, ixN xs.length k = some m ∧ P (ρ.set i (.lst (xs.set m y)))
  | _, _ => False
end
end Wx
namespace Wx
open PySem PySem.Spec PyProof.Rows L2 Evl Hn RZ
variable [TabC]
mutual
def fl : PV → Bool
  | .lst _ => false
  | .scr _ => false
  | .fnv _ _ => false
  | .ins _ _ => false
  | .dct _ _ => false
  | .idv _ _ => false
  | .tup xs => fls xs
  | _ => true
def fls : List PV → Bool
  | [] => true
  | x :: xs => fl x && fls xs
end
section
variable [XC]
variable {K : PySem.W.Frag} {d : Cn → Addr} {F F' F0 F1 : Fz} {H H' H0 : Hp} {ts : List Tag} {te : TE} {we : WE} {ta : TA} {wa : WA}
mutual
theorem Rv.free : ∀ {v : V} {x : PV}, Rv K d F H v x → fl x = true → Rv K d F' H v x
  | _, _, .non, _ => .non
  | _, _, .bl b, _ => .bl b
  | _, _, .int i, _ => .int i
  | _, _, .str x, _ => .str x
  | _, _, .ty n, _ => .ty n
  | _, _, .cls c, _ => .cls c
  | _, _, .lst _ _ _, e => by simp only [fl] at e; cases e
  | _, _, .tup h1 h2, e => .tup h1 (Rvs.free h2 (by simpa only [fl] using e))
  | _, _, .ins _ _, e => by simp only [fl] at e; cases e
  | _, _, .bag h, _ => .bag h
  | _, _, .scr _ _, e => by simp only [fl] at e; cases e
  | _, _, .fnv _ _, e => by simp only [fl] at e; cases e
  | _, _, .dct _ _, e => by simp only [fl] at e; cases e
  | _, _, .idv _, e => by simp only [fl] at e; cases e
theorem Rvs.free : ∀ {vs : List V} {xs : List PV}, Rvs K d F H vs xs → fls xs = true → Rvs K d F' H vs xs
  | _, _, .nil, _ => .nil
  | _, _, .cons a b, e => by
    simp only [fls, Bool.and_eq_true] at e
    exact .cons (Rv.free a e.1) (Rvs.free b e.2)
end
def flO (x : PV) : Prop := fl x = true ∨ ∃ ys, x = .lst ys ∧ fls ys = true
def wCallL (w : WF) (wa : WA) : WE := fun ρ P => wa ρ fun xs => w xs fun x => flO x ∧ P x
end
end Wx
namespace Wx
open PySem PySem.Spec PyProof.Rows L2 Evl Hn RZ
variable [TabC]
section
variable [XC]
variable {K : PySem.W.Frag} {d : Cn → Addr} {F F' F0 : Fz} {H H' H0 : Hp} {v u : V} {ts ts' : List Tag} {R : RR} {te ta tb tc : TE} {we wa wb wc : WE}
def flatP : PV → Option V
  | .non => some .non
  | .bl b => some (.bl b)
  | .int i => some (.int i)
  | .str s => some (.str s)
  | _ => none
theorem Rv.flat {x : PV} {w : V} (r : Rv K d F H v x) (h : flatP x = some w) : v = w := by
  cases r <;> simp [flatP] at h <;> exact h
theorem Rw.flat {x : PV} {w : V} (r : Rw K d F H v x) (h : flatP x = some w) : v = w := by
  rcases r with r | ⟨p, vs, xs, rfl, rfl, _⟩
  · exact r.flat h
  · cases h
def wEq : W2 := fun x y P => match x, y with
  | .int a, .int b => P (.bl (decide (a = b)))
  | .str a, .str b => P (.bl (decide (a = b)))
  | .bl a, .bl b => P (.bl (decide (a = b)))
  | x, y => wEqD false x y P
def wNe : W2 := fun x y P => match x, y with
  | .int a, .int b => P (.bl (!decide (a = b)))
  | .str a, .str b => P (.bl (!decide (a = b)))
  | .bl a, .bl b => P (.bl (!decide (a = b)))
  | x, y => wEqD true x y P
def rEqU (K : PySem.W.Frag) : R2 := orR rEq (rEqD K)
def rNeU (K : PySem.W.Frag) : R2 := orR rNe (rNeD K)
theorem u_eq {X : Cx} (h : X.K = K) (hu : X.A.units + 64 < cLine) : OpR X (compareOp .Eq) (rEqU K) := h ▸ op_or op_eq (op_eqD hu)
theorem u_ne {X : Cx} (h : X.K = K) (hu : X.A.units + 64 < cLine) : OpR X (compareOp .NotEq) (rNeU K) := h ▸ op_or op_ne (op_neD hu)
theorem ops_eq : OpS K d (rN K d) (rEqU K) wEq := fun F H v u x y Q P dm rx ry h k => by
  unfold wEq at h
  split at h
  · cases rx.intE; cases ry.intE
    exact .inl (r_eqI (fin_val dm (.bl _) h k))
  · cases rx.strE; cases ry.strE
    exact .inl (r_eqS (fin_val dm (.bl _) h k))
  · cases rx.blE; cases ry.blE
    exact .inl (r_eqB (fin_val dm (.bl _) h k))
  · exact .inr (ops_eqD F H v u x y Q P dm rx ry h k)
theorem ops_ne : OpS K d (rN K d) (rNeU K) wNe := fun F H v u x y Q P dm rx ry h k => by
  unfold wNe at h
  split at h
  · cases rx.intE; cases ry.intE
    exact .inl (r_neI (fin_val dm (.bl _) h k))
  · cases rx.strE; cases ry.strE
    exact .inl (r_neS (fin_val dm (.bl _) h k))
  · cases rx.blE; cases ry.blE
    exact .inl (r_neB (fin_val dm (.bl _) h k))
  · exact .inr (ops_neD F H v u x y Q P dm rx ry h k)
def wInT : W2 := fun x y P => match x, y with
  | .str i, .str j => P (.bl (!(Builtin.Str.occurrences j i 0 j.length 1).isEmpty))
  | _, _ => False
def wIsB : W2 := fun x y P => match x, y with
  | .bl a, .bl b => P (.bl (decide (a = b)))
  | _, _ => False
def wIsnB : W2 := fun x y P => match x, y with
  | .bl a, .bl b => P (.bl (!decide (a = b)))
  | _, _ => False
def wLcB (wg : WG) (wt : WT) (we : WE) (ρ : List PV) : List PV → List PV → (List PV → Prop) → Prop
  | [], acc, P => P acc
  | x :: xs, acc, P => wg x ρ fun ρ2 => wt ρ2 fun b => if b = true then we ρ2 fun y => acc.length < 100000 ∧ wLcB wg wt we ρ xs (acc ++ [y]) P else wLcB wg wt we ρ xs acc P
def wLc2L (wg : WG) (wt : WT) (ww1 : WI) (wg1 : WG) (wt1 : WT) (we : WE) (ρ : List PV) : List PV → List PV → (List PV → Prop) → Prop
  | [], acc, P => P acc
  | x :: xs, acc, P => wg x ρ fun ρ2 => wt ρ2 fun b => if b = true then ww1 ρ2 fun ys => wLcB wg1 wt1 we ρ2 ys acc fun acc' => wLc2L wg wt ww1 wg1 wt1 we ρ xs acc' P else wLc2L wg wt ww1 wg1 wt1 we ρ xs acc P
def wLc2 (ww : WI) (wg : WG) (wt : WT) (ww1 : WI) (wg1 : WG) (wt1 : WT) (we : WE) : WE := fun ρ P => ww ρ fun xs => wLc2L wg wt ww1 wg1 wt1 we ρ xs [] fun ys => P (.lst ys)
def LcSt (K : PySem.W.Frag) (d : Cn → Addr) (D : Addr) (F1 : Fz) (H1 : Hp) (H' : Hp) (acc : List PV) : Prop := ∃ (F' : Fz) (as : List V), H' D = some (.lst as) ∧ ¬ F' D ∧ Rvs K d F' H' as acc ∧ Step F1 H1 F' H'
theorem LcSt.push {D : Addr} {F1 : Fz} {H1 H4 : Hp} {F4 : Fz} {as : List V} {acc : List PV} {q : PV} {u : V} (nD : H1 D = none) (aD4 : H4 D = some (.lst as)) (nf4 : ¬ F4 D) (r : Rvs K d F4 H4 as acc) (r4 : Rv K d F4 H4 u q) (s5 : Step F1 H1 F4 H4) : LcSt K d D F1 H1 (upd H4 D (.lst (as ++ [u]))) (acc ++ [q]) := by
  have sb : Stb F4 H4 (upd H4 D (.lst (as ++ [u]))) := Stb.set aD4 nf4
  refine ⟨F4, as ++ [u], upd_same, nf4, (r.mono sb fun _ h => h).append (.cons (r4.mono sb fun _ h => h) .nil), ⟨Xn.mut s5.ex nD, s5.up, s5.nw, s5.dm.set aD4⟩⟩
def wLstRg (we : WE) : WE := fun ρ P => we ρ fun x => match x with
  | .int n => RgOk 0 n ∧ P (.lst (rangeP 0 n.toNat))
  | _ => False
end
instance xc0 : XC := ⟨fun _ _ => True, 0, none, [], false⟩
section
variable {P : Program} {w : World} {K : PySem.W.Frag} {mg : Str → Option Value} {base : Heap} {d : Cn → Addr} {R : RR}
def wDef (n m : Nat) (ws : WS) : WF := fun xs P => xs.length = n ∧ ws { nx := fun _ => P .non, rt := P } (xs ++ List.replicate m .non)
def tags (n m : Nat) : List Tag := List.replicate n .sh ++ List.replicate m .no
def RNon (K : PySem.W.Frag) (d : Cn → Addr) (R : RR) : Prop := ∀ F0 H0 F H, R F0 H0 F H .non .non
theorem rnonN : RNon K d (rN K d) := fun _ _ _ _ => .inl ⟨trivial, .non⟩
theorem env_start [X : XC] {N : List Str} {F : Fz} {H : Hp} {vs : List V} {xs : List PV} {n m : Nat} (dm : Dom F H) (r : Rvs K d F H vs xs) (hn : xs.length = n) (hN : N.length = n + m) (hx : X.h F H) : EnvR K d (tags n m) H F F H (L2.start N vs) (xs ++ List.replicate m .non) := by
  have lv : vs.length = n := r.length.trans hn
  have e : N.length - vs.length = m := by omega
  refine ⟨Step.refl dm, ?_, ?_, fun i h => ?_, fun i h => ?_, fun i j a h => ?_, fun i h => ?_, fun i a h => ?_, hx, fun i h => ?_⟩
  rotate_right
  · unfold tags at h
    rcases Nat.lt_or_ge i n with z | z
    · rw [List.getElem?_append_left (by rw [List.length_replicate]; exact z), List.getElem?_replicate] at h
      split at h <;> cases h
    · rw [List.getElem?_append_right (by rw [List.length_replicate]; exact z), List.getElem?_replicate] at h
      split at h <;> cases h
  · unfold L2.start tags
    rw [List.length_append, List.length_map, List.length_replicate, List.length_append, List.length_replicate, List.length_replicate, e, lv]
  · unfold tags
    rw [List.length_append, List.length_replicate, List.length_append, List.length_replicate, List.length_replicate, hn]
  · have hi : i < n := by
      rcases Nat.lt_or_ge i n with z | z
      · exact z
      · unfold tags at h
        rw [List.getElem?_append_right (by rw [List.length_replicate]; exact z), List.getElem?_replicate] at h
        split at h <;> cases h
    obtain ⟨x, hx⟩ : ∃ x, xs[i]? = some x := ⟨xs[i], List.getElem?_eq_getElem (by omega)⟩
    obtain ⟨v, hv, rv⟩ := r.get hx
    refine ⟨v, x, ?_, ?_, rv⟩
    · unfold L2.start
      rw [List.getElem?_append_left (by rw [List.length_map]; omega), List.getElem?_map, hv]
      rfl
    · rw [List.getElem?_append_left (by omega), hx]
  · unfold tags at h
    rcases Nat.lt_or_ge i n with z | z
    · rw [List.getElem?_append_left (by rw [List.length_replicate]; exact z), List.getElem?_replicate] at h
      split at h <;> cases h
    · rw [List.getElem?_append_right (by rw [List.length_replicate]; exact z), List.getElem?_replicate] at h
      split at h <;> cases h
  · unfold tags at h
    rcases Nat.lt_or_ge i n with z | z
    · rw [List.getElem?_append_left (by rw [List.length_replicate]; exact z), List.getElem?_replicate] at h
      split at h <;> cases h
    · rw [List.getElem?_append_right (by rw [List.length_replicate]; exact z), List.getElem?_replicate] at h
      split at h <;> cases h
  · unfold tags at h
    rcases Nat.lt_or_ge i n with z | z
    · rw [List.getElem?_append_left (by rw [List.length_replicate]; exact z), List.getElem?_replicate] at h
      split at h <;> cases h
    · rw [List.getElem?_append_right (by rw [List.length_replicate]; exact z), List.getElem?_replicate] at h
      split at h <;> cases h
  · unfold tags at h
    rcases Nat.lt_or_ge i n with z | z
    · rw [List.getElem?_append_left (by rw [List.length_replicate]; exact z), List.getElem?_replicate] at h
      split at h <;> cases h
    · rw [List.getElem?_append_right (by rw [List.length_replicate]; exact z), List.getElem?_replicate] at h
      split at h <;> cases h
theorem run_w {N : List Str} {n m : Nat} {t : TS} {ws : WS} {ts' : List Tag} {H : Hp} {vs : List V} {Q : VK} {E : XK} (S : SimS K d R [] [] (tags n m) t ws ts') (hR : RNon K d R) (hN : N.length = n + m) (h : spW K d R (wDef n m ws) vs H Q E) : t { nx := fun _ H' => Q .non H', rt := Q } (L2.start N vs) H := by
  obtain ⟨F, xs, P, dm, r, ⟨hl, hw⟩, k⟩ := h
  exact S H F F H _ _ _ _ (env_start dm r hl hN trivial) hw (fun F' H' σ' ρ' g E' p => k .non .non F' H' E'.st (hR _ _ _ _) p) (fun x v F' H' s rr p => k x v F' H' s rr p) (fun _ _ _ _ _ _ q => q.elim) (fun _ _ _ _ _ _ q => q.elim)
theorem okw_of {x qual : Str} {st : Stmt} {f : Addr} {N ps : List Str} {k n m : Nat} {ws : WS} {ts' : List Tag} (Df' : Df K x qual st f ps) (S : FnScope N ps (defScope st)) (hn : ps.length = n) (hN : N.length = n + m) (hR : RNon K d R)
    (hbody : ∀ (cdv : Value) (A : Around) (outer : List Env) (s : Shared) (H : Hp) (E : XK), Room k (A.deeper (envOfC qual (defScope st) s.heap.objs.size f cdv)) →
      ∃ t, PSs (cxOf CX0 P w K mg base N qual (defScope st) f cdv A outer s H E).nox (defBody st) t ∧ SimS K d R [] [] (tags n m) t ws ts') : Okf P w K mg base (k + 1) f ps (spW K d R (wDef n m ws)) :=
  okf_of Df' S (fun vs H Q E h => by
    obtain ⟨F, xs, P, dm, r, ⟨hl, _⟩, _⟩ := h
    rw [r.length, hl, hn]) fun cdv A outer s H vs Q E hr h => by
    obtain ⟨t, D, sim⟩ := hbody cdv A outer s H E hr
    exact ⟨t, D, run_w sim hR hN h⟩
theorem okwG_of {x qual : Str} {st : Stmt} {f : Addr} {N ps : List Str} {k n m : Nat} {ws : WS} {ts' : List Tag} (Df' : Df K x qual st f ps) (S : FnScope N ps (defScope st)) (hn : ps.length = n) (hN : N.length = n + m) (hR : RNon K d R)
    (hbody : ∀ (cdv : Value) (A : Around) (outer : List Env) (s : Shared) (H : Hp) (E : XK), NoG A s → Room k (A.deeper (envOfC qual (defScope st) s.heap.objs.size f cdv)) →
      ∃ t, PSs (cxOf CX0 P w K mg base N qual (defScope st) f cdv A outer s H E).nox (defBody st) t ∧ SimS K d R [] [] (tags n m) t ws ts') : OkP NoG P w K mg base (k + 1) f ps (spW K d R (wDef n m ws)) :=
  okP_of Df' S (fun vs H Q E h => by
    obtain ⟨F, xs, P, dm, r, ⟨hl, _⟩, _⟩ := h
    rw [r.length, hl, hn]) fun cdv A outer s H vs Q E hg hr h => by
    obtain ⟨t, D, sim⟩ := hbody cdv A outer s H E hg hr
    exact ⟨t, D, run_w sim hR hN h⟩
def Tells (K : PySem.W.Frag) (d : Cn → Addr) (R : RR) (sp : Sp) (w : WF) : Prop := ∀ vs H Q E, spW K d R w vs H Q E → sp vs H Q E
theorem okw_imp {k : Nat} {f : Addr} {ps : List Str} {sp : Sp} {w' : WF} (F : Okf P w K mg base k f ps sp) (h : Tells K d R sp w') : Okf P w K mg base k f ps (spW K d R w') := F.imp h
end
end Wx
namespace Wx
open PySem PySem.Spec PyProof.Rows L2 Evl Hn RZ
variable [TabC]
abbrev iL (ns : List Int) : List PV := ns.map PV.int
def clkP (s : List Int) : PV := .ins .Clock [("kept_stays", .tup (iL s)), ("kept_widths", .tup (iL (wds s)))]
def ndP (s : List Int) : PV := .ins .Needs [("kept_row", .tup (iL s))]
section
variable {K : PySem.W.Frag} {d : Cn → Addr} {F F' F0 : Fz} {H H' H0 : Hp} {v u : V} {Q : VK} {P : PV → Prop} {s : List Int}
theorem Rvs.one {vs : List V} {x : PV} (h : Rvs K d F H vs [x]) : ∃ v, vs = [v] ∧ Rv K d F H v x := by
  cases h with
  | cons a b => cases b; exact ⟨_, rfl, a⟩
theorem Rvs.two {vs : List V} {x y : PV} (h : Rvs K d F H vs [x, y]) : ∃ v u, vs = [v, u] ∧ Rv K d F H v x ∧ Rv K d F H u y := by
  cases h with
  | cons a b =>
    obtain ⟨u, rfl, q⟩ := b.one
    exact ⟨_, u, rfl, a, q⟩
theorem Rvs.three {vs : List V} {x y z : PV} (h : Rvs K d F H vs [x, y, z]) : ∃ v u w, vs = [v, u, w] ∧ Rv K d F H v x ∧ Rv K d F H u y ∧ Rv K d F H w z := by
  cases h with
  | cons a b =>
    obtain ⟨u, w, rfl, q, r⟩ := b.two
    exact ⟨_, u, w, rfl, a, q, r⟩
theorem Rv.intE {a : Int} (h : Rv K d F H v (.int a)) : v = .int a := by cases h; rfl
theorem Rv.strE {a : Str} (h : Rv K d F H v (.str a)) : v = .str a := by cases h; rfl
theorem Rv.bagE (h : Rv K d F H v .bag) : ∃ b, v = .ref b ∧ Bag H b := by
  cases h with
  | bag h => exact ⟨_, rfl, h⟩
theorem Rv.intsL {ns : List Int} (h : Rv K d F H v (.lst (iL ns))) : ∃ a, v = .ref a ∧ H a = some (.lst (ns.map V.int)) := by
  cases h with
  | lst h1 h2 h3 =>
    cases h3.ints
    exact ⟨_, rfl, h1⟩
theorem Rv.intsT {ns : List Int} (h : Rv K d F H v (.tup (iL ns))) : ∃ a, v = .ref a ∧ SqT K H a (ns.map V.int) := by
  cases h with
  | tup h1 h3 =>
    cases h3.ints
    exact ⟨_, rfl, h1⟩
def seqP (x : PV) (ns : List Int) : Prop := x = .lst (iL ns) ∨ x = .tup (iL ns)
theorem Rv.seq {x : PV} {ns : List Int} (h : Rv K d F H v x) (e : seqP x ns) : ∃ a, v = .ref a ∧ Sq K H a (ns.map V.int) := by
  rcases e with rfl | rfl
  · obtain ⟨a, rfl, q⟩ := h.intsL
    exact ⟨a, rfl, .inl (.inl (.inl q))⟩
  · obtain ⟨a, rfl, q⟩ := h.intsT
    exact ⟨a, rfl, .inr q⟩
theorem clk_of (h : Rv K d F H v (clkP s)) (g : Good s) : Clk K (d .Clock) H v s := by
  obtain ⟨p, dx, gs, rfl, h1, h2⟩ := h.insE
  cases h2 with
  | cons a b =>
    cases b with
    | cons b c =>
      cases c
      obtain ⟨q1, rfl, e1⟩ := a.intsT
      obtain ⟨q2, rfl, e2⟩ := b.intsT
      exact ⟨p, dx, q1, q2, rfl, h1, e1, e2, g⟩
theorem of_clk (h : Clk K (d .Clock) H v s) : Rv K d F H v (clkP s) := by
  obtain ⟨p, dx, a, b, rfl, h1, h2, h3, g⟩ := h
  exact .ins h1 (.cons (.tup h2 (Rvs.of_ints _)) (.cons (.tup h3 (Rvs.of_ints _)) .nil))
theorem nd_of (h : Rv K d F H v (ndP s)) (g : GoodN s) : Hn.Rw K (d .Needs) "kept_row" H v s := by
  obtain ⟨p, dx, gs, rfl, h1, h2⟩ := h.insE
  cases h2 with
  | cons a b =>
    cases b
    obtain ⟨q1, rfl, e1⟩ := a.intsT
    exact ⟨p, dx, q1, rfl, h1, e1, g⟩
theorem of_nd (h : Hn.Rw K (d .Needs) "kept_row" H v s) : Rv K d F H v (ndP s) := by
  obtain ⟨p, dx, a, rfl, h1, h2, g⟩ := h
  exact .ins h1 (.cons (.tup h2 (Rvs.of_ints _)) .nil)
abbrev KN (K : PySem.W.Frag) (d : Cn → Addr) (F : Fz) (H : Hp) (P : PV → Prop) (Q : VK) : Prop := ∀ x v F' H', Step F H F' H' → rN K d F H F' H' v x → P x → Q v H'
theorem ret_int {i : Int} (dm : Dom F H) (k : KN K d F H P Q) (p : P (.int i)) (e : Ex H H') : Q (.int i) H' := k (.int i) _ F H' (Step.to dm e) (.inl ⟨trivial, .int i⟩) p
theorem ret_bl {i : Bool} (dm : Dom F H) (k : KN K d F H P Q) (p : P (.bl i)) (e : Ex H H') : Q (.bl i) H' := k (.bl i) _ F H' (Step.to dm e) (.inl ⟨trivial, .bl i⟩) p
theorem ret_ints {ns : List Int} (dm : Dom F H) (k : KN K d F H P Q) (p : P (.lst (iL ns))) : RetN (ns.map V.int) H Q := fun q H' nq e hq =>
  k (.lst (iL ns)) _ F H' (Step.to dm e) (.inr ⟨q, _, _, rfl, rfl, nq, hq, fun f => dm.at_ q f nq, Rvs.of_ints _⟩) p
theorem ret_clk {H' : Hp} (dm : Dom F H) (k : KN K d F H P Q) (p : P (clkP s)) (e : Ex H H') (c : Clk K (d .Clock) H' v s) : Q v H' := k (clkP s) v F H' (Step.to dm e) (.inl ⟨trivial, of_clk c⟩) p
def w_take : WF := fun xs P => ∃ u : Int, xs = [.bag, .int u] ∧ 0 < u ∧ u < 1000000000000000000000000000000000000000000000000000 ∧ ∀ n : Int, 0 ≤ n → n < u → P (.int n)
theorem tells_take : Tells K d (rN K d) spTake w_take := fun vs H Q E ⟨F, xs, P, dm, r, ⟨u, ex, u0, u1, p⟩, k⟩ => by
  subst ex
  obtain ⟨v1, v2, rfl, r1, r2⟩ := r.two
  obtain ⟨b, rfl, hb⟩ := r1.bagE
  cases r2.intE
  exact ⟨b, u, rfl, hb, u0, u1, fun n n0 n1 => ret_int dm k (p n n0 n1) (Ex.refl _)⟩
def w_bag : WF := fun xs P => ∃ ns : List Int, xs = [.scr ns] ∧ P .bag
theorem tells_bag : Tells K d (rN K d) (spBag K) w_bag := fun vs H Q E ⟨F, xs, P, dm, r, ⟨ns, ex, p⟩, k⟩ => by
  subst ex
  obtain ⟨v1, rfl, r1⟩ := r.one
  cases r1 with
  | scr h1 h4 => exact ⟨_, ns, rfl, h1.sq, h4, fun b H' e hb => k .bag _ F H' (Step.to dm e) (.inl ⟨trivial, .bag hb⟩) p⟩
def w_mkClock : WF := fun xs P => ∃ (x : PV) (s : List Int), xs = [x] ∧ seqP x s ∧ Good s ∧ P (clkP s)
theorem mk_Clock : MkS K d .Clock (spClkInit K (d .Clock)) w_mkClock := fun F H vs xs Q P E dm r ⟨x, s, ex, sx, g, p⟩ k => by
  subst ex
  obtain ⟨v, rfl, r1⟩ := r.one
  obtain ⟨a, rfl, hS⟩ := r1.seq sx
  exact mkClk (Q := fun u H' => Q (.ref u) H') ⟨a, s, rfl, hS, g, fun u H' e c => k (clkP s) _ F H' (Step.to dm e) (of_clk c) trivial p⟩
def w_mkNeeds : WF := fun xs P => ∃ (x : PV) (s : List Int), xs = [x] ∧ seqP x s ∧ GoodN s ∧ P (ndP s)
theorem mk_Needs : MkS K d .Needs (spRwInit K (d .Needs) "kept_row") w_mkNeeds := fun F H vs xs Q P E dm r ⟨x, s, ex, sx, g, p⟩ k => by
  subst ex
  obtain ⟨v, rfl, r1⟩ := r.one
  obtain ⟨a, rfl, hS⟩ := r1.seq sx
  exact mkRw (Q := fun u H' => Q (.ref u) H') ⟨a, s, rfl, hS, g, fun u H' e c => k (ndP s) _ F H' (Step.to dm e) (of_nd c) trivial p⟩
theorem law_tells {R : RR} {w : WF} (h : ∀ ns : List Int, ns.length ≤ 63 → w [.scr ns] fun x => x = .bl true) (hR : ∀ F H F' H' v, R F H F' H' v (.bl true) → v = .bl true) : ∀ vs H Q E, TabsR H → spLaw K vs H Q E → spW K d R w vs H Q E := fun vs H Q E tb ⟨a, ns, e, hS, hl, k⟩ => by
  subst e
  refine ⟨fun b => b = a ∧ H a ≠ none, [.scr ns], _, ⟨fun b f => by rw [f.1]; exact f.2, tb⟩, .cons (.scr ?_ hl) .nil, h ns hl, fun x v F' H' s r p => ?_⟩
  · rcases hS with (q | ⟨o, q⟩) | q
    · exact .inl ⟨q, rfl, by rw [q]; intro y; cases y⟩
    · exact .inr (.inl ⟨o, q⟩)
    · exact .inr (.inr fun H' => .inr q)
  · subst p
    rw [hR _ _ _ _ _ r]
    exact k H'
theorem bl_N : ∀ (F : Fz) (H : Hp) (F' : Fz) (H' : Hp) (v : V), rN K d F H F' H' v (.bl true) → v = .bl true := fun _ _ _ _ v h => by
  rcases h with h | ⟨_, _, _, _, e, _⟩
  · cases h.2; rfl
  · cases e
theorem law_tells0 {R : RR} {w : WF} (e : TabC.T = []) (h : ∀ ns : List Int, ns.length ≤ 63 → w [.scr ns] fun x => x = .bl true) (hR : ∀ F H F' H' v, R F H F' H' v (.bl true) → v = .bl true) : ∀ vs H Q E, spLaw K vs H Q E → spW K d R w vs H Q E := fun vs H Q E q => law_tells h hR vs H Q E (tabs_nil e) q
end
end Wx
namespace Wx
open PySem PySem.Spec PyProof.Rows L2 Evl Hn RZ
variable [TabC]
section
variable [XC]
variable {K : PySem.W.Frag} {d : Cn → Addr} {F F' F0 : Fz} {H H' H0 : Hp} {v u : V} {ts ts' : List Tag} {R : RR} {te ta tb tc : TE} {we wa wb wc : WE}
def wFldC (c : Cn) (we : WE) (f : Str) : WE := fun ρ P => wFld (fun ρ P => we ρ fun x => (∃ fs, x = .ins c fs) ∧ P x) f ρ P
theorem okP_imp {P : Program} {w : World} {mg : Str → Option Value} {base : Heap} {Pre : Around → Shared → Prop} {k : Nat} {f : Addr} {ps : List Str} {sp sp' : Sp} (G : OkP Pre P w K mg base k f ps sp) (h : ∀ vs H Q E, sp' vs H Q E → sp vs H Q E) : OkP Pre P w K mg base k f ps sp' := by
  obtain ⟨fd, b, l, run⟩ := G
  exact ⟨fd, b, fun vs H Q E q => l vs H Q E (h _ _ _ _ q), fun A out s H ag us vs Q E pre room env bnd rel q => run A out s H ag us vs Q E pre room env bnd rel (h _ _ _ _ q)⟩
def wgLst (n : Nat) (g : WGs) : WG := fun x ρ P => match x with
  | .lst xs => xs.length = n ∧ g xs ρ P
  | _ => False
def wListZip (wa : WA) : WE := fun ρ P => wa ρ fun zs => match zs with
  | [.lst xs, .lst ys] => xs.length = ys.length ∧ 1 ≤ xs.length ∧ P (.lst (zipP xs ys))
  | [.tup xs, .lst ys] => xs.length = ys.length ∧ 1 ≤ xs.length ∧ P (.lst (zipP xs ys))
  | [.lst xs, .tup ys] => xs.length = ys.length ∧ 1 ≤ xs.length ∧ P (.lst (zipP xs ys))
  | [.tup xs, .tup ys] => xs.length = ys.length ∧ 1 ≤ xs.length ∧ P (.lst (zipP xs ys))
  | _ => False
inductive NL (K : PySem.W.Frag) (d : Cn → Addr) (F : Fz) (H : Hp) : Hp → List Bool → List V → List PV → Prop
  | nil {Hb : Hp} : NL K d F H Hb [] [] []
  | cons {Hb Hm : Hp} {k : Bool} {v : V} {x : PV} {ks : List Bool} {vs : List V} {xs : List PV} : New K d Hb F H k v x → Xn Hb Hm → Xn Hm H → (k = true → ∃ p, v = .ref p ∧ Hm p ≠ none) → NL K d F H Hm ks vs xs → NL K d F H Hb (k :: ks) (v :: vs) (x :: xs)
theorem NL.step {Hb : Hp} {ks : List Bool} {vs : List V} {xs : List PV} (h : NL K d F H Hb ks vs xs) (s : Step F H F' H') : NL K d F' H' Hb ks vs xs := by
  induction h with
  | nil => exact .nil
  | cons a b e c _ ih => exact .cons (a.step s) b (e.trans s.ex) c ih
def SimP (K : PySem.W.Frag) (d : Cn → Addr) (ks : List Bool) (ts : List Tag) (ta : TA) (wa : WA) : Prop := ∀ (H0 : Hp) (F0 F : Fz) (H : Hp) (σ : L2.St) (ρ : List PV) (Q : List V → Hp → Prop) (P : List PV → Prop), EnvR K d ts H0 F0 F H σ ρ → wa ρ P →
  (∀ xs vs F' H', Step F H F' H' → (isLs ks xs → NL K d F' H' H ks vs xs) → xs.length = ks.length → vs.length = ks.length → P xs → Q vs H') → ta σ H Q
where isLs : List Bool → List PV → Prop
  | k :: ks, x :: xs => isL k x ∧ isLs ks xs
  | _, _ => True
def putR (ρ : List PV) : List Nat → List PV → List PV
  | i :: is, x :: xs => putR (ρ.set i x) is xs
  | _, _ => ρ
def wTupO (is : List Nat) (ks : List Bool) (wa : WA) : WS := fun D ρ => wa ρ fun xs => SimP.isLs ks xs ∧ D.nx (putR ρ is xs)
def wDict3 (k1 k2 k3 : Str) (w1 w2 w3 wy : WE) : WE := fun ρ P => w1 ρ fun x1 => w2 ρ fun x2 => w3 ρ fun x3 => wy ρ fun y => ∃ k, y = .str k ∧ ((k = k1 ∧ P x1) ∨ (k = k2 ∧ P x2) ∨ (k = k3 ∧ P x3))
def wMakeK (n m : Nat) (w : WF) (wa wk : WA) : WE := fun ρ P => wa ρ fun xs => wk ρ fun zs => xs.length = n ∧ zs.length = m ∧ w (xs ++ zs) P
def oP : Option Int → PV
  | none => .non
  | some i => .int i
abbrev oL (rs : List (Option Int)) : List PV := rs.map oP
def hsP (s ns : List Int) (rs : List (Option Int)) (ks : List Int) (ds : List (Option Int)) : PV := .ins .House [("own_clock", clkP s), ("own_needs", ndP ns), ("own_rooms", .tup (oL rs)), ("own_kept", .tup (iL ks)), ("own_doors", .tup (oL ds))]
end
end Wx
namespace Wx
open PySem PySem.Spec PyProof.Rows L2 Evl Hn RZ
variable [TabC]
section
variable [XC]
variable {K : PySem.W.Frag} {d : Cn → Addr} {F F' F0 F1 : Fz} {H H' H0 H1 Hs : Hp} {ts bt ct : List Tag} {R : RR} {te : TE} {we : WE} {v : V} {x : PV}
def rD (K : PySem.W.Frag) (d : Cn → Addr) : RR := fun _ H F' H' v x => ∃ (c : Addr) (ws : List V) (zs : List PV), v = .ref c ∧ Hx H' c ws x zs ∧ H c = none ∧ (∀ b, V.ref b ∈ ws → H b = none) ∧ Ht H' c ws ∧ ¬ F' c ∧ V.ref c ∉ ws ∧ Uq ws ∧ ws.length = zs.length ∧
  ∀ (k : Nat) (w : V) (z : PV), ws[k]? = some w → zs[k]? = some z → (∃ (b : Addr) (us : List V) (ys : List PV), w = .ref b ∧ z = .lst ys ∧ H' b = some (.lst us) ∧ ¬ F' b ∧ Rvs K d F' H' us ys) ∨ Sc K d w z
theorem Sc.nl {w : V} {ys : List PV} (h : Sc K d w (.lst ys)) : False := by
  have r := h.2 (fun _ => False) (fun _ => none)
  cases r with
  | lst h1 => cases h1
theorem OdL.item {m : Nat} {ws : List V} {zs ys : List PV} (h : ∀ (k : Nat) (w : V) (z : PV), ws[k]? = some w → zs[k]? = some z → OdI K d H0 F H w z) (l : ws.length = zs.length) (hm : zs[m]? = some (.lst ys)) : ∃ b us, ws[m]? = some (.ref b) ∧ H b = some (.lst us) ∧ ¬ F b ∧ H0 b = none ∧ Rvs K d F H us ys := by
  have lm := (List.getElem?_eq_some_iff.mp hm).1
  have hw : ws[m]? = some ws[m] := List.getElem?_eq_getElem (by omega)
  rcases h m _ _ hw hm with ⟨b, us, ys', e1, e2, u1, u2, u3, u4⟩ | s
  · cases e2
    exact ⟨b, us, by rw [hw, e1], u1, u2, u3, u4⟩
  · exact s.nl.elim
theorem OdL.split (h : OdL K d H0 F H v x) : (∃ (c : Addr) (ws : List V) (zs : List PV), v = .ref c ∧ x = .lst zs ∧ H c = some (.lst ws) ∧ ¬ F c ∧ H0 c = none ∧ V.ref c ∉ ws ∧ Uq ws ∧ ws.length = zs.length ∧
  ∀ (k : Nat) (w : V) (z : PV), ws[k]? = some w → zs[k]? = some z → OdI K d H0 F H w z) ∨ ∀ zs, x ≠ .lst zs := by
  obtain ⟨c, ws, zs, rfl, hx, h3, hr⟩ := h
  rcases hx with ⟨q, rfl⟩ | ⟨q, rfl⟩ | ⟨kvs, q, rfl, _⟩
  · exact .inl ⟨c, ws, zs, rfl, rfl, q, hr⟩
  · exact .inr fun zs e => nomatch e
  · exact .inr fun zs e => nomatch e
theorem EnvR.putD {i : Nat} {σ : L2.St} {ρ : List PV} (E : EnvR K d ts H0 F0 F H σ ρ) (n : rD K d F Hs F H v x) (e0 : Xn H0 Hs) (o : OwnIn Hs ts σ) (e : Xn Hs H) : EnvR K d (ts.set i .od) H0 F0 F H (σ.set i (some v)) (ρ.set i x) := by
  obtain ⟨c, bs, yss, rfl, hx, n1, n2, n3, n4, n5, n6, n7, n8⟩ := n
  have ol : OdL K d H0 F H (.ref c) x := ⟨c, bs, yss, rfl, hx, n3, n4, back_x e0 n1, n5, n6, n7, fun k w z k1 k2 => by
    rcases n8 k w z k1 k2 with ⟨b, us, ys, rfl, rfl, u1, u2, u3⟩ | s
    · exact .inl ⟨b, us, ys, rfl, rfl, u1, u2, back_x e0 (n2 b (List.mem_of_getElem? k1)), u3⟩
    · exact .inr s⟩
  have pl : ∀ a, a = c ∨ V.ref a ∈ bs → Hs a = none := fun a h => h.elim (fun h => h ▸ n1) (n2 a)
  have nw : ∀ {j : Nat} {a : Addr}, ts[j]? = some .ow → σ[j]? = some (some (.ref a)) → ¬ (a = c ∨ V.ref a ∈ bs) := fun {j a} h1 h2 z => o.1 j a h1 h2 (pl a z)
  have nd : ∀ {j : Nat} {a : Addr}, ts[j]? = some .od → Dpl H σ j a → ¬ (a = c ∨ V.ref a ∈ bs) := fun {j a} h1 h2 z => o.not e (pl a z) h1 h2
  have self : ∀ {j : Nat} {a : Addr}, i = j → Dpl H (σ.set i (some (.ref c))) j a → a = c ∨ V.ref a ∈ bs := fun {j a} ej ⟨c', bs', z1, z2, z3⟩ => by
    subst ej
    rw [List.getElem?_set, if_pos rfl] at z1
    split at z1
    · cases z1
      cases n3.inj z2
      exact z3
    · cases z1
  have tg : ∀ {j : Nat}, (ts.set i .od)[j]? = some .od → i = j ∨ i ≠ j ∧ ts[j]? = some .od := fun {j} h => by
    by_cases ej : i = j
    · exact .inl ej
    · rw [List.getElem?_set_ne ej] at h
      exact .inr ⟨ej, h⟩
  refine ⟨E.st, by rw [List.length_set, List.length_set, E.ls], by rw [List.length_set, List.length_set, E.lr], fun j h => ?_, fun j h => ?_, fun j l a h1 h2 h3 h4 => ?_, fun j h => ?_, fun j a h q => ?_, E.xc, E.ex.set (by decide)⟩
  · have : i ≠ j ∧ ts[j]? = some .sh := by
      rw [List.getElem?_set] at h
      split at h
      · split at h <;> cases h
      · next e => exact ⟨e, h⟩
    obtain ⟨w, y, g1, g2, g3⟩ := E.sh j this.2
    exact ⟨w, y, by rw [List.getElem?_set_ne this.1]; exact g1, by rw [List.getElem?_set_ne this.1]; exact g2, g3⟩
  · obtain ⟨ej, h⟩ := ow_ne (by decide) h
    obtain ⟨a, vs, xs, g1, g2, g3⟩ := E.ow j h
    exact ⟨a, vs, xs, by rw [List.getElem?_set_ne ej]; exact g1, by rw [List.getElem?_set_ne ej]; exact g2, g3⟩
  · obtain ⟨e1, o1⟩ := ow_ne (by decide) h1
    obtain ⟨e2, o2⟩ := ow_ne (by decide) h2
    rw [List.getElem?_set_ne e1] at h3
    rw [List.getElem?_set_ne e2] at h4
    exact E.ap j l a o1 o2 h3 h4
  · rcases tg h with ej | ⟨ej, h'⟩
    · subst ej
      have l : i < ts.length := by
        have := (List.getElem?_eq_some_iff.mp h).1
        rw [List.length_set] at this
        exact this
      exact ⟨_, _, by rw [List.getElem?_set_self (by rw [E.ls]; exact l)], by rw [List.getElem?_set_self (by rw [E.lr]; exact l)], ol⟩
    · obtain ⟨w, y, g1, g2, g3⟩ := E.od j h'
      exact ⟨w, y, by rw [List.getElem?_set_ne ej]; exact g1, by rw [List.getElem?_set_ne ej]; exact g2, g3⟩
  · rcases tg h with ej | ⟨ej, h'⟩
    · have qa := self ej q
      refine ⟨fun l hl z => ?_, fun l hl z => ?_⟩
      · obtain ⟨el, hl⟩ := ow_ne (by decide) hl
        rw [List.getElem?_set_ne el] at z
        exact nw hl z qa
      · rcases tg hl with el | ⟨el, hl⟩
        · rw [← ej, el]
        · exact absurd qa (nd hl ((dp_ne el).mp z))
    · have q' := (dp_ne ej).mp q
      obtain ⟨q1, q2⟩ := E.ad j a h' q'
      refine ⟨fun l hl => ?_, fun l hl z => ?_⟩
      · obtain ⟨el, hl⟩ := ow_ne (by decide) hl
        rw [List.getElem?_set_ne el]
        exact q1 l hl
      · rcases tg hl with el | ⟨el, hl⟩
        · exact absurd (self el z) (nd h' q')
        · exact q2 l hl ((dp_ne el).mp z)
def LdSt (K : PySem.W.Frag) (d : Cn → Addr) (D : Addr) (F1 : Fz) (H1 : Hp) (F' : Fz) (H' : Hp) (acc : List PV) : Prop := ∃ (bs : List Addr) (yss : List (List PV)), acc = yss.map .lst ∧ H' D = some (.lst (bs.map .ref)) ∧ ¬ F' D ∧ D ∉ bs ∧ bs.Nodup ∧ bs.length = yss.length ∧ (∀ b ∈ bs, H1 b = none) ∧ Step F1 H1 F' H' ∧
  ∀ (k : Nat) (b : Addr) (ys : List PV), bs[k]? = some b → yss[k]? = some ys → ∃ us, H' b = some (.lst us) ∧ ¬ F' b ∧ Rvs K d F' H' us ys
theorem LdSt.step {D : Addr} {acc : List PV} (h : LdSt K d D F1 H1 F H acc) (s : Step F H F' H') : LdSt K d D F1 H1 F' H' acc := by
  obtain ⟨bs, yss, h1, h2, h3, h4, h5, h6, h7, h8, h9⟩ := h
  have nf : ∀ {a : Addr} {o : HO}, H a = some o → ¬ F a → ¬ F' a := fun {a o} q n z => (s.nw a z).elim n fun e => by rw [q] at e; cases e
  refine ⟨bs, yss, h1, s.ex.at h2, nf h2 h3, h4, h5, h6, h7, h8.trans s, fun k b ys k1 k2 => ?_⟩
  obtain ⟨us, u1, u2, u3⟩ := h9 k b ys k1 k2
  exact ⟨us, s.ex.at u1, nf u1 u2, u3.step s⟩
theorem LdSt.push {D p : Addr} {acc ys : List PV} {us : List V} {Hm : Hp} (nD : H1 D = none) (e1 : Xn H1 Hm) (hD : Hm D ≠ none) (h : LdSt K d D F1 H1 F H acc) (n1 : Hm p = none) (n2 : H p = some (.lst us)) (n3 : ¬ F p) (n4 : Rvs K d F H us ys) (old : ∀ bs : List Addr, Hm D = some (.lst (bs.map .ref)) → ∀ b ∈ bs, Hm b ≠ none) (same : H D = Hm D) :
    ∃ as, H D = some (.lst as) ∧ as.length = acc.length ∧ LdSt K d D F1 H1 F (upd H D (.lst (as ++ [.ref p]))) (acc ++ [.lst ys]) := by
  obtain ⟨bs, yss, rfl, h2, h3, h4, h5, h6, h7, h8, h9⟩ := h
  refine ⟨_, h2, by rw [List.length_map, List.length_map, h6], ?_⟩
  have pD : p ≠ D := fun e => hD (e ▸ n1)
  have pb : p ∉ bs := fun q => old bs (by rw [← same]; exact h2) p q n1
  have sb : Stb F H (upd H D (.lst (bs.map .ref ++ [.ref p]))) := Stb.set h2 h3
  refine ⟨bs ++ [p], yss ++ [ys], by rw [List.map_append]; rfl, by rw [upd_same, List.map_append]; rfl, h3, ?_, ?_, by rw [List.length_append, List.length_append, h6]; rfl, fun b hb => ?_, ⟨Xn.mut h8.ex nD, h8.up, h8.nw, h8.dm.set h2⟩, fun k b ys' k1 k2 => ?_⟩
  · rw [List.mem_append, List.mem_singleton]
    exact fun q => q.elim h4 fun e => pD e.symm
  · refine List.nodup_append.mpr ⟨h5, List.pairwise_singleton _ _, fun a ha b hb e => ?_⟩
    rw [List.mem_singleton.mp hb] at e
    exact pb (e ▸ ha)
  · rcases List.mem_append.mp hb with q | q
    · exact h7 b q
    · rw [List.mem_singleton.mp q]
      exact back_x e1 n1
  · by_cases hk : k < bs.length
    · rw [List.getElem?_append_left hk] at k1
      rw [List.getElem?_append_left (by omega)] at k2
      obtain ⟨us', u1, u2, u3⟩ := h9 k b ys' k1 k2
      have bD : b ≠ D := fun e => h4 (e ▸ List.mem_of_getElem? k1)
      exact ⟨us', by rw [upd_ne bD]; exact u1, u2, u3.mono sb fun _ z => z⟩
    · have e : k = bs.length := by
        have := (List.getElem?_eq_some_iff.mp k1).1
        rw [List.length_append, List.length_singleton] at this
        omega
      subst e
      rw [List.getElem?_append_right (Nat.le_refl _), Nat.sub_self] at k1
      rw [List.getElem?_append_right (by omega), h6, Nat.sub_self] at k2
      cases k1
      cases k2
      exact ⟨us, by rw [upd_ne pD]; exact n2, n3, n4.mono sb fun _ z => z⟩
end
end Wx
namespace Hn
open PySem PySem.Spec PyProof.Rows L2 Evl RZ
def Hk (κ : Bool) (h : Heap) (a : Addr) (its : Array Value) : Prop := if κ = true then h.IsList a its else h.IsTuple a its
def Ik (κ : Bool) (h : Heap) (it a : Addr) (i : Nat) : Prop := if κ = true then h.IsListIter it a i else h.IsTupleIter it a i
def Ok (κ : Bool) (a : Addr) : Obj := if κ = true then { cls := .type "list_iterator", data := .fields #[.ref a, .int 0 0] } else { cls := .type "tuple_iterator", data := .fields #[.ref a, .int 0 0] }
theorem Ik.at {κ : Bool} {h h' : Heap} {it a : Addr} {i : Nat} (x : Ik κ h it a i) (k : ∀ o, h.get? it = some o → h'.get? it = some o) : Ik κ h' it a i := by
  cases κ with
  | true => exact Heap.IsListIter.at x k
  | false => exact Heap.IsTupleIter.at x k
theorem Ik.obj {κ : Bool} {h : Heap} {it a : Addr} {i : Nat} (x : Ik κ h it a i) : ∃ o, h.get? it = some o ∧ ∀ v, o.data = .cell v → False := by
  cases κ with
  | true =>
    obtain ⟨o, e, _, d⟩ := (show h.IsListIter it a i from x)
    exact ⟨o, e, fun v q => by rw [d] at q; cases q⟩
  | false =>
    obtain ⟨o, e, _, d⟩ := (show h.IsTupleIter it a i from x)
    exact ⟨o, e, fun v q => by rw [d] at q; cases q⟩
theorem Ik.new {κ : Bool} {h : Heap} {it a : Addr} (e : h.get? it = some (Ok κ a)) : Ik κ h it a 0 := by
  cases κ with
  | true => exact ⟨_, e, rfl, rfl⟩
  | false => exact ⟨_, e, rfl, rfl⟩
end Hn
namespace Wx
open PySem PySem.Spec PyProof.Rows L2 Evl Hn RZ
variable [TabC]
section
variable [XC]
variable {K : PySem.W.Frag} {d : Cn → Addr} {F F0 F1 : Fz} {H H0 H1 : Hp} {ts : List Tag} {v : V} {x : PV}
end
end Wx
namespace Hn
open PySem PySem.Spec PyProof.Rows L2 Evl
end Hn
namespace Wx
open PySem PySem.Spec PyProof.Rows L2 Evl Hn RZ
variable [TabC]
section
variable [XC]
variable {K : PySem.W.Frag} {d : Cn → Addr} {F : Fz} {H : Hp} {ts : List Tag}
def wMakeKg (n m : Nat) (hP : List PV → List PV) (w : WF) (wa wk : WA) : WE := fun ρ P => wa ρ fun xs => wk ρ fun zs => xs.length = n ∧ zs.length = m ∧ w (xs ++ hP zs) P
end
end Wx
namespace Wx
open PySem PySem.Spec PyProof.Rows L2 Evl Hn RZ
variable [TabC]
section
variable {wg : WG} {wt : WT} {we : WE} {ρ : List PV} {P : List PV → Prop} {α : Type}
theorem lcl {ys : List α} {g : α → PV} {acc : List PV} (p : α → Bool) (F : α → PV)
    (h : ∀ y ∈ ys, ∀ (Kt : PV → Prop) (Kf : Prop), (p y = true → Kt (F y)) → (p y = false → Kf) → wg (g y) ρ fun ρ2 => wt ρ2 fun b => if b = true then we ρ2 Kt else Kf)
    (q : P (acc ++ (ys.filter p).map F)) : wLcL wg wt we ρ (ys.map g) acc P := by
  induction ys generalizing acc with
  | nil =>
    rw [List.filter_nil, List.map_nil, List.append_nil] at q
    exact q
  | cons y ys ih =>
    have ih' := fun acc q => ih (acc := acc) (fun z hz => h z (List.mem_cons_of_mem _ hz)) q
    refine h y List.mem_cons_self _ _ (fun py => ih' _ ?_) fun py => ih' _ ?_
    · rw [List.filter_cons, if_pos py, List.map_cons] at q
      rw [List.append_assoc]
      exact q
    · rw [List.filter_cons, if_neg (by rw [py]; exact Bool.false_ne_true)] at q
      exact q
theorem lcm {ys : List α} {g : α → PV} {acc : List PV} (F : α → PV)
    (h : ∀ y ∈ ys, ∀ (Kt : PV → Prop), Kt (F y) → wg (g y) ρ fun ρ2 => we ρ2 Kt) (q : P (acc ++ ys.map F)) : wLcL wg wTyes we ρ (ys.map g) acc P :=
  lcl (p := fun _ => true) F (fun y hy Kt Kf h1 _ => h y hy Kt (h1 rfl)) (by rw [List.filter_eq_self.mpr fun _ _ => rfl]; exact q)
theorem lca {xs : List PV} {acc : List PV} (R : PV → Prop)
    (h : ∀ x ∈ xs, ∀ (Kt : PV → Prop), (∀ z, R z → Kt z) → wg x ρ fun ρ2 => we ρ2 Kt) (q : ∀ zs : List PV, zs.length = xs.length → (∀ z ∈ zs, R z) → P (acc ++ zs)) : wLcL wg wTyes we ρ xs acc P := by
  induction xs generalizing acc with
  | nil =>
    have := q [] rfl (by simp)
    rw [List.append_nil] at this
    exact this
  | cons x xs ih =>
    refine h x List.mem_cons_self _ fun z hz => ih (fun y hy => h y (List.mem_cons_of_mem _ hy)) fun zs hl hr => ?_
    rw [List.append_assoc]
    refine q (z :: zs) (by rw [List.length_cons, List.length_cons, hl]) fun y hy => ?_
    rcases List.mem_cons.mp hy with rfl | hy
    · exact hz
    · exact hr y hy
theorem ints_pv {zs : List PV} {R : Int → Prop} (h : ∀ z ∈ zs, ∃ i, R i ∧ z = .int i) : ∃ ns : List Int, zs = iL ns ∧ ∀ i ∈ ns, R i := by
  induction zs with
  | nil => exact ⟨[], rfl, by simp⟩
  | cons z zs ih =>
    obtain ⟨ns, e, hr⟩ := ih fun y hy => h y (List.mem_cons_of_mem _ hy)
    obtain ⟨i, hi, rfl⟩ := h z List.mem_cons_self
    refine ⟨i :: ns, by rw [e]; rfl, fun j hj => ?_⟩
    rcases List.mem_cons.mp hj with rfl | hj
    · exact hi
    · exact hr j hj
theorem lci {xs : List PV} {acc : List PV} (R : Int → Prop)
    (h : ∀ x ∈ xs, ∀ (Kt : PV → Prop), (∀ i : Int, R i → Kt (.int i)) → wg x ρ fun ρ2 => we ρ2 Kt) (q : ∀ ns : List Int, ns.length = xs.length → (∀ i ∈ ns, R i) → P (acc ++ iL ns)) : wLcL wg wTyes we ρ xs acc P :=
  lca (fun z => ∃ i, R i ∧ z = .int i) (fun x hx Kt hk => h x hx Kt fun i hi => hk _ ⟨i, hi, rfl⟩) fun zs hl hr => by
    obtain ⟨ns, rfl, h2⟩ := ints_pv hr
    exact q ns (by rw [← hl, List.length_map]) h2
end
theorem forl {α : Type} {wg : WG} {w : WS} {D : WEnds} {ρ : List PV} {ys : List α} {g : α → PV} (I : Nat → List PV → Prop) (h0 : I 0 ρ)
    (hs : ∀ (i : Nat) (y : α) (ρ : List PV) (N : List PV → Prop), ys[i]? = some y → I i ρ → (∀ ρ', I (i + 1) ρ' → N ρ') → wg (g y) ρ fun ρ2 => w { D with nx := N, ct := N, bk := D.nx } ρ2)
    (hd : ∀ ρ, I ys.length ρ → D.nx ρ) : wForL wg w D (ys.map g) ρ := by
  have go : ∀ (zs : List α) (i : Nat) (ρ : List PV), ys.drop i = zs → i ≤ ys.length → I i ρ → wForL wg w D (zs.map g) ρ := by
    intro zs
    induction zs with
    | nil =>
      intro i ρ e hi h
      have : i = ys.length := by
        have := congrArg List.length e
        rw [List.length_drop, List.length_nil] at this
        omega
      subst this
      exact hd ρ h
    | cons z zs ih =>
      intro i ρ e hi h
      have hi2 : i < ys.length := by
        have := congrArg List.length e
        rw [List.length_drop, List.length_cons] at this
        omega
      rw [List.drop_eq_getElem_cons hi2] at e
      have ez : ys[i] = z := (List.cons.inj e).1
      have ezs := (List.cons.inj e).2
      refine hs i z ρ _ (by rw [List.getElem?_eq_getElem hi2, ez]) h fun ρ' h' => ih (i + 1) ρ' ezs hi2 h'
  exact go ys 0 ρ rfl (Nat.zero_le _) h0
theorem forv {wg : WG} {w : WS} {D : WEnds} {ρ : List PV} {xs : List PV} (I : Nat → List PV → Prop) (h0 : I 0 ρ)
    (hs : ∀ (i : Nat) (x : PV) (ρ : List PV) (N : List PV → Prop), xs[i]? = some x → I i ρ → (∀ ρ', I (i + 1) ρ' → N ρ') → wg x ρ fun ρ2 => w { D with nx := N, ct := N, bk := D.nx } ρ2)
    (hd : ∀ ρ, I xs.length ρ → D.nx ρ) : wForL wg w D xs ρ := by
  have := forl (g := id) (ys := xs) I h0 hs hd
  rw [List.map_id] at this
  exact this
theorem rangeP0 (n : Nat) : rangeP 0 n = (List.range n).map fun (i : Nat) => PV.int (i : Int) := by
  unfold rangeP
  refine List.map_congr_left fun i _ => ?_
  rw [Int.zero_add]
theorem forr {wg : WG} {w : WS} {D : WEnds} {ρ : List PV} {n : Nat} (I : Nat → List PV → Prop) (h0 : I 0 ρ)
    (hs : ∀ (i : Nat) (ρ : List PV) (N : List PV → Prop), i < n → I i ρ → (∀ ρ', I (i + 1) ρ' → N ρ') → wg (.int (i : Int)) ρ fun ρ2 => w { D with nx := N, ct := N, bk := D.nx } ρ2)
    (hd : ∀ ρ, I n ρ → D.nx ρ) : wForL wg w D (rangeP 0 n) ρ := by
  rw [rangeP0]
  refine forl I h0 (fun i y ρ N hy hI hN => ?_) fun ρ h => hd ρ (by rw [List.length_range] at h; exact h)
  obtain ⟨hi, e⟩ := List.getElem?_eq_some_iff.mp hy
  rw [List.length_range] at hi
  rw [List.getElem_range] at e
  subst e
  exact hs i ρ N hi hI hN
def PvD (x : PV) (w k : Nat) : Prop := ∃ e, toD x = some e ∧ Fine e w ∧ e.canLay0 = true ∧ e.depth ≤ k
theorem PvD.mono {x : PV} {w k w' k' : Nat} (h : PvD x w k) (hw : w ≤ w') (hk : k ≤ k') : PvD x w' k' :=
  let ⟨e, h1, h2, h3, h4⟩ := h
  ⟨e, h1, h2.mono hw, h3, Nat.le_trans h4 hk⟩
theorem pd_int {i : Int} (h : i.natAbs < 10 ^ 40) : PvD (.int i) 200 0 := ⟨.int i, by simp only [toD], fine_int h, rfl, Nat.le_refl _⟩
theorem pd_non : PvD .non 0 0 := ⟨.none, by simp only [toD], fine_none, rfl, Nat.le_refl _⟩
theorem pd_str {x : Str} {n : Nat} (h : Sml x n) : PvD (.str x) n 0 := ⟨.str x, by simp only [toD], fine_txt h, by
  simp only [PyData.canLay0]
  unfold PyData.strOk
  rw [Array.all_eq_true]
  intro i hi
  exact decide_eq_true (h.2 _ (by rw [← Array.getElem_toList]; exact List.getElem_mem _)), Nat.le_refl _⟩
theorem pd_all {w k : Nat} : ∀ {xs : List PV}, (∀ x ∈ xs, PvD x w k) → ∃ es, toDs xs = some es ∧ es.length = xs.length ∧ (∀ e ∈ es, Fine e w) ∧ PyData.canLayAll0 es = true ∧ PyData.depthAll es ≤ k
  | [], _ => ⟨[], by simp only [toDs], rfl, by simp, rfl, Nat.zero_le _⟩
  | x :: xs, h => by
    obtain ⟨e, h1, h2, h3, h4⟩ := h x List.mem_cons_self
    obtain ⟨es, g1, g2, g3, g4, g5⟩ := pd_all fun y hy => h y (List.mem_cons_of_mem _ hy)
    refine ⟨e :: es, by simp only [toDs, h1, g1], by rw [List.length_cons, List.length_cons, g2], fun z hz => ?_, ?_, ?_⟩
    · rcases List.mem_cons.mp hz with rfl | hz
      · exact h2
      · exact g3 z hz
    · simp only [PyData.canLayAll0, h3, g4, Bool.and_self]
    · simp only [PyData.depthAll]
      omega
theorem pd_lst {w k n : Nat} {xs : List PV} (h : ∀ x ∈ xs, PvD x w k) (hn : xs.length ≤ n) : PvD (.lst xs) (n * (w + 1)) (k + 1) := by
  obtain ⟨es, g1, g2, g3, g4, g5⟩ := pd_all h
  refine ⟨.list es, by simp only [toD, g1, Option.map_some], fine_list g3 (by rw [g2]; exact hn), by simp only [PyData.canLay0]; exact g4, ?_⟩
  simp only [PyData.depth]
  omega
theorem pd_iL {ns : List Int} {n : Nat} (h : ∀ z ∈ ns, z.natAbs < 10 ^ 40) (hn : ns.length ≤ n) : PvD (.lst (iL ns)) (n * 201) 1 :=
  pd_lst (fun x hx => by
    obtain ⟨z, hz, rfl⟩ := List.mem_map.mp hx
    exact pd_int (h z hz)) (by rw [List.length_map]; exact hn)
theorem PvD.shaped {x : PV} {w k : Nat} (h : PvD x w k) (hk : k ≤ 64) : ∃ e, toD x = some e ∧ SeqAt.shaped e = true ∧ Fine e w := by
  obtain ⟨e, h1, h2, h3, h4⟩ := h
  refine ⟨e, h1, ?_, h2⟩
  unfold SeqAt.shaped
  rw [h3, decide_eq_true (by omega : e.depth ≤ 64)]
  rfl
def shP (x : PV) : Str := match toD x with
  | some e => e.shown
  | none => ""
theorem repr_of {x : PV} {w k : Nat} {P : PV → Prop} (h : PvD x w k) (hw : w ≤ 300000) (hk : k ≤ 64) (p : P (.str (shP x))) : wRepr [x] P := by
  obtain ⟨e, h1, h2, h3, h4⟩ := h
  refine ⟨x, e, rfl, h1, h2.sh, h2.nd, Nat.le_trans h4 hk, h2.len hw, ?_⟩
  unfold shP at p
  rw [h1] at p
  exact p
theorem at0 {α : Type} {x : α} {xs : List α} : L2.atI (x :: xs) 0 = some x := by
  refine atI_nat (j := 0) ?_
  rfl
theorem at1 {α : Type} {x y : α} {xs : List α} : L2.atI (x :: y :: xs) 1 = some y := by
  refine atI_nat (j := 1) ?_
  rfl
theorem at2 {α : Type} {x y z : α} {xs : List α} : L2.atI (x :: y :: z :: xs) 2 = some z := by
  refine atI_nat (j := 2) ?_
  rfl
theorem at3 {α : Type} {x y z u : α} {xs : List α} : L2.atI (x :: y :: z :: u :: xs) 3 = some u := by
  refine atI_nat (j := 3) ?_
  rfl
theorem at4 {α : Type} {x y z u v : α} {xs : List α} : L2.atI (x :: y :: z :: u :: v :: xs) 4 = some v := by
  refine atI_nat (j := 4) ?_
  rfl
theorem sum_of {α : Type} {ys : List α} {f : α → Int} {P : PV → Prop} (p : P (.int (ys.map f).sum)) : wSum [.lst (ys.map fun y => .int (f y))] P :=
  ⟨ys.map f, .inl (by rw [List.map_map]; rfl), p⟩
def cyL {α : Type} (d : α) (xs : List α) (i : Int) : α := xs.getD (i % (xs.length : Int)).toNat d
theorem cyL_add {α : Type} {d : α} {xs : List α} {i : Int} : cyL d xs (i + (xs.length : Int)) = cyL d xs i := by
  unfold cyL
  rw [Int.add_emod_right]
theorem cyL_get {α : Type} {d : α} {xs : List α} {i : Nat} (h : i < xs.length) : cyL d xs (i : Int) = xs[i] := by
  unfold cyL
  rw [Int.emod_eq_of_lt (by omega) (by omega), Int.toNat_natCast, List.getD_eq_getElem?_getD, List.getElem?_eq_getElem h]
  rfl
theorem cyL_mem {α : Type} {d : α} {xs : List α} (h : 1 ≤ xs.length) (i : Int) : cyL d xs i ∈ xs := by
  unfold cyL
  have := mod_bd h i
  rw [List.getD_eq_getElem?_getD, List.getElem?_eq_getElem (by omega)]
  exact List.getElem_mem _
end Wx
namespace Wx
open PySem PySem.Spec PyProof.Rows L2 Evl Hn RZ
variable [TabC]
inductive Wd where
  | need | room | keep | door
  deriving DecidableEq
def Wd.s : Wd → Str
  | .need => "need"
  | .room => "room"
  | .keep => "keep"
  | .door => "door"
def Wd.on : Wd → Bool
  | .need => true
  | .keep => true
  | _ => false
structure Hs where
  s : List Int
  ns : List Int
  rs : List (Option Int)
  ks : List Int
  ds : List (Option Int)
abbrev Hs.p (X : Hs) : PV := hsP X.s X.ns X.rs X.ks X.ds
abbrev Hs.w (X : Hs) : PV := .tup [.lst (iL X.s), .lst (iL X.ns), .lst (oL X.rs), .lst (iL X.ks), .lst (oL X.ds)]
abbrev Hs.ok (X : Hs) : Prop := GoodH X.s X.ns X.rs X.ks X.ds
abbrev Hs.n (X : Hs) : Int := (X.s.length : Int)
theorem Hs.ok.pos {X : Hs} (g : X.ok) : 0 < X.n := by have := g.cs.ne; show (0 : Int) < (X.s.length : Int); omega
theorem Hs.ok.le {X : Hs} (g : X.ok) : X.n ≤ 48 := by have := g.cs.le; show (X.s.length : Int) ≤ 48; omega
def cyo (rs : List (Option Int)) (i : Int) : Option Int := rs.getD (i % (rs.length : Int)).toNat none
def Hs.lim (X : Hs) : Wd → Int → Option Int
  | .need, h => some (cyc X.ns h)
  | .room, h => cyo X.rs h
  | .keep, h => some (cyc X.ks h)
  | .door, h => cyo X.ds h
def Hs.fst (X : Hs) (w : Wd) (h : Int) : Int := match w with
  | .keep => h
  | .door => h
  | _ => (h - wd X.s h + 1) % X.n
def Hs.len (X : Hs) (w : Wd) (h : Int) : Int := match w with
  | .keep => 1
  | .door => 1
  | _ => wd X.s h
abbrev Stp4 := Wd × Int
def Hs.a (X : Hs) (t : Stp4) : Int := if t.1.on = true then X.fst t.1 t.2 else (X.fst t.1 t.2 + X.len t.1 t.2) % X.n
def Hs.b (X : Hs) (t : Stp4) : Int := if t.1.on = true then (X.fst t.1 t.2 + X.len t.1 t.2) % X.n else X.fst t.1 t.2
def Hs.l (X : Hs) (t : Stp4) : Int := if t.1.on = true then X.len t.1 t.2 else - X.len t.1 t.2
def Hs.v (X : Hs) (t : Stp4) : Int := if t.1.on = true then (X.lim t.1 t.2).getD 0 else - (X.lim t.1 t.2).getD 0
def Hs.st (X : Hs) (t : Stp4) : Prop := 0 ≤ t.2 ∧ t.2 < X.n ∧ (X.lim t.1 t.2).isSome = true
def stP (t : Stp4) : PV := .tup [.str t.1.s, .int t.2]
abbrev cyS (ts : List Stp4) (i : Int) : Stp4 := cyL (.keep, 0) ts i
def Hs.Joins (X : Hs) (ts : List Stp4) : Prop := ∀ i : Int, X.b (cyS ts i) = X.a (cyS ts (i + 1))
noncomputable instance (X : Hs) (ts : List Stp4) : Decidable (X.Joins ts) := Classical.propDecidable _
noncomputable def Hs.joins (X : Hs) (ts : List Stp4) : Bool := decide (X.Joins ts)
def Hs.trn (X : Hs) (ts : List Stp4) : Int := (ts.map X.l).sum / X.n
def Hs.val (X : Hs) (ts : List Stp4) : Int := (ts.map X.v).sum
theorem fst_bd {X : Hs} (g : X.ok) {w : Wd} {h : Int} (h0 : 0 ≤ h) (h1 : h < X.n) : 0 ≤ X.fst w h ∧ X.fst w h < X.n := by
  have := mod_bd g.cs.ne (h - wd X.s h + 1)
  cases w <;> simp only [Hs.fst] <;> first | exact ⟨h0, h1⟩ | exact this
def Wd.kd : Wd → Bool
  | .keep => true
  | .door => true
  | _ => false
theorem b_need (X : Hs) (h : Int) : ((h - wd X.s h + 1) % X.n + wd X.s h) % X.n = (h + 1) % X.n := by
  rw [Int.emod_add_emod]
  congr 1
  omega
def Hs.run (X : Hs) : Int → List Stp4 → Int → Prop
  | a, [], z => a = z
  | a, t :: r, z => X.a t = a ∧ X.run (X.b t) r z
def Hs.seg (X : Hs) (p h : Int) : List Stp4 := ((List.range ((h - wd X.s h - p) % X.n).toNat).map fun (k : Nat) => (Wd.keep, (p + 1 + (k : Int)) % X.n)) ++ [(Wd.need, h)]
def Hs.segs (X : Hs) : Int → List Int → List Stp4
  | _, [] => []
  | p, h :: r => X.seg p h ++ X.segs h r
theorem st_keep {X : Hs} (h : Int) (h0 : 0 ≤ h) (h1 : h < X.n) : X.st (.keep, h) := ⟨h0, h1, rfl⟩
def Hs.ring (X : Hs) (r : List Int) : List Stp4 := X.segs (lastH 0 r) r
theorem lastH_app : ∀ (xs : List Int) (p z : Int), lastH p (xs ++ [z]) = z
  | [], p, z => rfl
  | x :: xs, p, z => lastH_app xs x z
def Hs.rows (X : Hs) : List Stp4 :=
  (((List.range X.s.length).filter fun (i : Nat) => (cyo X.ds (i : Int)).isSome).map fun (i : Nat) => (Wd.door, (i : Int))) ++
  ((List.range X.s.length).map fun (i : Nat) => (Wd.keep, (i : Int))) ++
  ((List.range X.s.length).map fun (i : Nat) => (Wd.need, (i : Int))) ++
  (((List.range X.s.length).filter fun (i : Nat) => (cyo X.rs (i : Int)).isSome).map fun (i : Nat) => (Wd.room, (i : Int)))
theorem rows_mem {X : Hs} (t : Stp4) : t ∈ X.rows ↔ X.st t := by
  obtain ⟨w, h⟩ := t
  unfold Hs.rows Hs.st
  simp only [List.mem_append, List.mem_map, List.mem_filter, List.mem_range, Prod.mk.injEq]
  constructor
  · rintro (((⟨i, ⟨h1, h2⟩, rfl, rfl⟩ | ⟨i, h1, rfl, rfl⟩) | ⟨i, h1, rfl, rfl⟩) | ⟨i, ⟨h1, h2⟩, rfl, rfl⟩)
    · exact ⟨by omega, by show (i : Int) < (X.s.length : Int); omega, h2⟩
    · exact ⟨by omega, by show (i : Int) < (X.s.length : Int); omega, rfl⟩
    · exact ⟨by omega, by show (i : Int) < (X.s.length : Int); omega, rfl⟩
    · exact ⟨by omega, by show (i : Int) < (X.s.length : Int); omega, h2⟩
  · rintro ⟨h0, h1, h2⟩
    have h1 : h < (X.s.length : Int) := h1
    obtain ⟨i, rfl⟩ : ∃ i : Nat, h = (i : Int) := ⟨h.toNat, by omega⟩
    cases w with
    | need => exact .inl (.inr ⟨i, by omega, rfl, rfl⟩)
    | room => exact .inr ⟨i, ⟨by omega, h2⟩, rfl, rfl⟩
    | keep => exact .inl (.inl (.inr ⟨i, by omega, rfl, rfl⟩))
    | door => exact .inl (.inl (.inl ⟨i, ⟨by omega, h2⟩, rfl, rfl⟩))
structure SmC (ks : List Int) (n : Nat) (b : Int) : Prop where
  len : ks.length = n
  ok : ∀ z ∈ ks, 0 ≤ z ∧ z < b
structure SmO (rs : List (Option Int)) (n : Nat) (b : Int) : Prop where
  len : rs.length = n
  ok : ∀ z ∈ rs, ∀ i, z = some i → 0 ≤ i ∧ i < b
theorem SmC.set {ks : List Int} {n : Nat} {b z : Int} {i : Nat} (h : SmC ks n b) (h0 : 0 ≤ z) (h1 : z < b) : SmC (ks.set i z) n b :=
  ⟨by rw [List.length_set]; exact h.len, fun y hy => by
    rcases List.mem_or_eq_of_mem_set hy with hy | rfl
    · exact h.ok y hy
    · exact ⟨h0, h1⟩⟩
theorem SmO.set {rs : List (Option Int)} {n : Nat} {b z : Int} {i : Nat} (h : SmO rs n b) (h0 : 0 ≤ z) (h1 : z < b) : SmO (rs.set i (some z)) n b :=
  ⟨by rw [List.length_set]; exact h.len, fun y hy j hj => by
    rcases List.mem_or_eq_of_mem_set hy with hy | rfl
    · exact h.ok y hy j hj
    · cases hj
      exact ⟨h0, h1⟩⟩
theorem SmC.get {ks : List Int} {n : Nat} {b : Int} (h : SmC ks n b) (hn : 1 ≤ n) (i : Int) : 0 ≤ cyc ks i ∧ cyc ks i < b := h.ok _ (cyL_mem (d := (0 : Int)) (by rw [h.len]; exact hn) i)
theorem SmC.mono {ks : List Int} {n : Nat} {b c : Int} (h : SmC ks n b) (hb : b ≤ c) : SmC ks n c := ⟨h.len, fun z hz => ⟨(h.ok z hz).1, Int.lt_of_lt_of_le (h.ok z hz).2 hb⟩⟩
theorem SmC.zero (n : Nat) {b : Int} (hb : 0 < b) : SmC (List.replicate n 0) n b := ⟨List.length_replicate, fun z hz => by
  rw [List.eq_of_mem_replicate hz]
  exact ⟨Int.le_refl _, hb⟩⟩
theorem SmO.non (n : Nat) {b : Int} : SmO (List.replicate n none) n b := ⟨List.length_replicate, fun z hz i hi => by
  rw [List.eq_of_mem_replicate hz] at hi
  cases hi⟩
structure Hs.sm (X : Hs) : Prop where
  ns : SmC X.ns X.s.length (10 ^ 32)
  rs : SmO X.rs X.s.length (10 ^ 32)
  ks : SmC X.ks X.s.length (10 ^ 32)
  ds : SmO X.ds X.s.length (10 ^ 32)
theorem Hs.sm.ok {X : Hs} (h : X.sm) (g : Good X.s) : X.ok where
  cs := g
  cn := ⟨by rw [h.ns.len]; exact g.ne, by rw [h.ns.len]; exact g.le, fun i => (h.ns.get g.ne i).1⟩
  ln := h.ns.len
  lr := h.rs.len
  lk := h.ks.len
  ld := h.ds.len
  cr := fun r hr i hi => (h.rs.ok r hr i hi).1
  ck := fun z hz => (h.ks.ok z hz).1
  cd := fun r hr i hi => (h.ds.ok r hr i hi).1
theorem Hs.sm.lim {X : Hs} (h : X.sm) (g : Good X.s) {w : Wd} {i l : Int} (e : X.lim w i = some l) : 0 ≤ l ∧ l < 10 ^ 32 := by
  have key : ∀ {rs : List (Option Int)}, SmO rs X.s.length (10 ^ 32) → cyo rs i = some l → 0 ≤ l ∧ l < 10 ^ 32 := fun {rs} q e => q.ok (cyo rs i) (cyL_mem (d := (none : Option Int)) (by rw [q.len]; exact g.ne) i) l e
  cases w with
  | need => cases e; exact h.ns.get g.ne i
  | room => exact key h.rs e
  | keep => cases e; exact h.ks.get g.ne i
  | door => exact key h.ds e
theorem rep1 {x : PV} {n : Nat} : (List.replicate n [x]).flatten = List.replicate n x := by
  rw [List.flatten_replicate_singleton]
theorem tk {u : Int} {P : PV → Prop} (h0 : 0 < u) (h1 : u < 1000000000000000000000000000000000000000000000000000) (h : ∀ n : Int, 0 ≤ n → n < u → P (.int n)) : w_take [.bag, .int u] P := ⟨u, rfl, h0, h1, h⟩
end Wx
namespace Hn
open PySem PySem.W PySem.Calls PyProof.Rows PySem.HandSPX
def eA (fld : Str) (p1 p2 : Pos) : Arguments := { posonlyargs := [], args := [{ arg := "self", annotation := none, pos := p1 }, { arg := fld, annotation := none, pos := p2 }], vararg := none, kwonlyargs := [], kw_defaults := [], kwarg := none, defaults := [] }
def eB (fld : Str) (p0 p1 p2 p3 p4 p5 q1 q2 q3 q4 : Pos) : List Stmt := [.Expr (.Call (.Attribute (.Call (.Name "super" p0) [] [] p1) "__init__" p2) [.Name fld p3] [] p4) p5, .Assign [.Attribute (.Name "self" q1) fld q2] (.Name fld q3) q4]
abbrev eS (names : List (Str × NameKind)) : Scope := { kind := .function, names := names, isGenerator := false, isCoroutine := false, more := [] }
def CallEq (fld : Str) (a0 a1 a2 a3 a4 : Pos) (env : Env) : Prop := ∃ pl : Sem Bool, eval (.Call (.Attribute (.Call (.Name "super" a0) [] [] a1) "__init__" a2) [.Name fld a3] [] a4) env = (do
  let ov ← attributeBase (.Call (.Name "super" a0) [] [] a1) "__init__" env (eval (.Call (.Name "super" a0) [] [] a1) env)
  standAt a2.atName
  let (f, first) ← holding [ov] (getMethod ov "__init__" pl)
  callWith a4 f first (backTo a4 (starEach [.Name fld a3] env)) [])
structure ErrC (P : Program) (K : Frag) (mg : Str → Option Value) (x fld : Str) (C fI : Addr) : Prop where
  gC : mg x = some (.ref C)
  cls : ∃ nm q N bs bm sn sub ab col dd k0 k1 k2 k3 k5, K.lookup C = some (excClassObj nm q C N bs bm true sn sub ab col dd k0 k1 k2 k3 k5 "ValueError.__new__") ∧ refsVE bm = true
  sa : findIn K (.ref C) "__setattr__" = some (some (.builtin "object.__setattr__"))
  ga : findIn K (.ref C) "__getattribute__" = some (some (.builtin "BaseException.__getattribute__"))
  gg : findIn K (.ref C) "__getattr__" = some none
  noN : findIn K (.ref C) fld = some none
  iC : findIn K (.ref C) "__init__" = some (some (.ref fI))
  tC : typeIn K (.ref fI) = some (.type "function")
  kC : keepIn K (.ref C) = true
  exC : subIn K (.ref C) (.type "BaseException") = some true
  vB : subIn K (.ref C) (.type "ValueError") = some true
  tyC : typeIn K (.ref C) = some (.type "type")
  hdC : hasDictIn K C = true
  mr : mroIn K C (.ref C) = some true
  sup : ks_superIn K C C "__init__" = some (some (.builtin "ValueError.__init__"))
  noT : nsIn K cStatics "thirdparty.any" = some none
  noS : mg "super" = none
  sf : (fld == ("self" : Str)) = false
  db : (fld == ("__debug__" : Str)) = false
  fn : ∃ (qual : Str) (names : List (Str × NameKind)) (oc : Value) (od : Option Addr) (doc pm : Value) (an : Option Addr) (cda cc : Addr) (ct : Value) (osl : Array (Option Value)) (p1 p2 a0 a1 a2 a3 a4 a5 q1 q2 q3 q4 : Pos) (ccl cl : Value) (cdd cld : Option Addr) (vs : Array Value) (ccs csl : Array (Option Value)) (file : Str) (tf : Tok),
    K.lookup fI = some ⟨oc, od, .func (ksFn "__init__" qual (eA fld p1 p2) (eB fld a0 a1 a2 a3 a4 a5 q1 q2 q3 q4) (eS names) .none .none doc pm an (.ref cda) ct cc), osl⟩ ∧ codeIn K (.ref cda) qual = true ∧ K.lookup cda = some ⟨ccl, cdd, .fields vs, ccs⟩ ∧ vs[2]? = some (.str file tf) ∧ ((P.main.file : Str) == file) = true ∧
    K.lookup cc = some ⟨cl, cld, .cell (some (.ref C)), csl⟩ ∧ names.lookup ("super" : Str) = some .globalImplicit ∧ names.lookup ("__class__" : Str) = some .free ∧ names.lookup ("self" : Str) = some .local ∧ names.lookup fld = some .local ∧ (∀ x ∈ names, x.2 ≠ .cell) ∧
    (P.main.scope.names.lookup ("super" : Str)).isSome = false ∧ (∀ L, CallEq fld a0 a1 a2 a3 a4 (ksEnv qual (eS names) L fI (.ref cda) cc)) ∧
    (∀ (s : Shared) (e v : Value), BindsTo s (ksFn "__init__" qual (eA fld p1 p2) (eB fld a0 a1 a2 a3 a4 a5 q1 q2 q3 q4) (eS names) .none .none doc pm an (.ref cda) ct cc) ⟨[e, v], []⟩ [("self", e), (fld, v)])
structure InitE (h h' : Heap) (x C dx t1 : Addr) (fld : Str) (v : Value) : Prop where
  keep : ∀ b o, b ≠ x → h.get? b = some o → h'.get? b = some o
  obj : h'.get? x = some { cls := .ref C, dict := some dx, data := .fields #[.ref t1, .none, .none, .none, .bool false, .none] }
  dbig : h.objs.size ≤ dx
  dne : dx ≠ x
  ns : h'.Ns1 dx (fun y => if y = fld then some v else none)
section
variable {P : Program} {w : World} {A : Around} {E : Value → Shared → Prop} {R : Result → Shared → Prop} {s : Shared} {K : Frag} {mg mb : Str → Option Value} {x fld : Str} {C fI : Addr}
structure ErrMade (h h' : Heap) (e C d : Addr) (fld : Str) (v : Value) : Prop where
  keep : ∀ b o, h.get? b = some o → h'.get? b = some o
  new : h.objs.size ≤ e
  obj : ∃ oe vs, h'.get? e = some oe ∧ oe.cls = .ref C ∧ oe.dict = some d ∧ oe.data = .fields vs ∧ vs[1]? = some .none
  dbig : h.objs.size ≤ d
  dne : d ≠ e
  ns : h'.Ns1 d (fun y => if y = fld then some v else none)
end
end Hn
namespace Hn
open PySem PySem.Spec PyProof.Rows L2
section
variable {X : Cx} {C fI : Addr} {x fld : Str}
def tMkE (C : Addr) (fld : Str) (ta : TA) : L2.St → Hp → XK → Prop := fun σ H Q => ta σ H fun vs H1 => ∃ v, vs = [v] ∧ ∀ d, H1 d = none → Q (.ref C) (some d) (upd H1 d (.xd [(fld, v)]))
def rIsX (K : PySem.W.Frag) (a : Addr) (cls : Value) (d : Option Addr) : List V → Hp → VK → Prop := fun xs H Q => ∃ (D : Addr) (c : V) (cv : Value) (b : Bool), xs = [.ref a, c] ∧ cls = .ref D ∧ ExcC K D ∧ (d = none ∨ ∃ dd fs, d = some dd ∧ H dd = some (.xd fs)) ∧ (∀ u, RelV c u → u = cv) ∧ PySem.W.kitOne K (.ref D) cv = some b ∧ Q (.bl b) H
theorem call_isX {a : Addr} {oe : Obj} {cls : Value} {d : Option Addr} {pn : List (Addr × Obj)} (hz : Zc cls d oe) (hf : ∃ vs, oe.data = .fields vs) : CallR (X.suite a ((a, oe) :: pn)) (.builtin "isinstance") (rIsX X.K a cls d) := by
  intro pins s σ H xs us Q I r h
  obtain ⟨D, c, cv, b, rfl, rfl, C, hd, hcv, e, q⟩ := h
  cases r with
  | cons rx rr =>
    cases rr with
    | cons rt rr =>
      cases rr
      cases rx
      have ec := hcv _ rt
      subst ec
      obtain ⟨hget, _⟩ := I.pin (a, oe) (List.mem_append.mpr (.inl List.mem_cons_self))
      obtain ⟨vs, hv⟩ := hf
      obtain ⟨od, J⟩ : ∃ od, PySem.W.InstAt s.heap a oe D od := by
        rcases hd with rfl | ⟨dd, fs, rfl, ea⟩
        · exact ⟨none, hget, hz.1, by unfold PySem.W.notCls; rw [hv] <;> rfl, by rw [hz.2]; trivial⟩
        · have hx : ObjOk X.prog X.w H s.heap dd (.xd fs) := I.hok dd _ ea
          obtain ⟨mA, hns, hr⟩ := hx
          obtain ⟨od, ho, hl⟩ := lookIn_ns hns
          exact ⟨some od, hget, hz.1, by unfold PySem.W.notCls; rw [hv] <;> rfl, by rw [hz.2]; exact ho⟩
      obtain ⟨cd, hc, _⟩ := PySem.W.any_some C.hd
      exact PySem.W.kia_one (PySem.W.kitx_exc (by rw [hc]; rfl) C.hg C.hk C.hs C.ha C.hn C.ht C.hm) I.kIn J e (fun z => nomatch z) fun tk => ⟨.bl b, H, I.kept (t' := tk) fun _ _ z => z, rfl, q⟩
structure ExF (K : PySem.W.Frag) (D : Addr) (fld : Str) : Prop where
  ga : PySem.W.findIn K (.ref D) "__getattribute__" = some (some (.builtin "BaseException.__getattribute__"))
  gg : PySem.W.findIn K (.ref D) "__getattr__" = some none
  ex : PySem.W.subIn K (.ref D) (.type "BaseException") = some true
  hd : PySem.W.hasDictIn K D = true
  no : PySem.W.findIn K (.ref D) fld = some none
def tExF (K : PySem.W.Frag) (a : Addr) (cls : Value) (d : Option Addr) (fld : Str) (te : TE) : TE := fun σ H Q => te σ H fun x H1 => ∃ (D dd : Addr) (v : V), x = .ref a ∧ cls = .ref D ∧ ExF K D fld ∧ d = some dd ∧ H1 dd = some (.xd [(fld, v)]) ∧ Q v H1
end
section
variable {P : Program} {w : World} {K : PySem.W.Frag} {mg : Str → Option Value} {base : Heap}
theorem okx_of {x qual : Str} {st : Stmt} {f : Addr} {N ps : List Str} {k : Nat} {sp : Sp} (F : Df K x qual st f ps) (S : FnScope N ps (defScope st)) (len : ∀ vs H Q E, sp vs H Q E → vs.length = ps.length)
    (hbody : ∀ (cdv : Value) (A : Around) (outer : List Env) (s : Shared) (H : Hp) (vs : List V) (Q : VK) (E : XK), Room k (A.deeper (envOfC qual (defScope st) s.heap.objs.size f cdv)) → sp vs H Q E →
      ∃ t, PSs (cxOf (L2.CX P w) P w K mg base N qual (defScope st) f cdv A outer s H E) (defBody st) t ∧ t { nx := fun _ H' => Q .non H', rt := Q } (start N vs) H) : Okf P w K mg base (k + 1) f ps sp :=
  let ⟨fd, a, b⟩ := F
  ⟨fd, a.okX S len hbody, b⟩
end
section
variable {X : Cx} {k : Nat} {f C : Addr} {ps : List Str} {sp : Sp} {x m : Str} {p pos apos : Pos} {e o : Expr} {es : List Expr} {ta : TE} {t : TA} {E : XK}
end
section
variable {X : Cx} {k : Nat} {f C : Addr} {ps : List Str} {sp : Sp} {x m : Str} {p pos apos : Pos} {e o : Expr} {es : List Expr} {ta : TE} {t : TA} {E : L2.St → XK}
def tCallY (sp : Sp) (E : L2.St → XK) (t : TA) : TE := fun σ H Q => t σ H fun vs H1 => sp vs H1 Q (E σ)
def tMakeY (C : Addr) (sp : Sp) (E : L2.St → XK) (t : TA) : TE := fun σ H Q => t σ H fun vs H1 => ∀ x dx, H1 x = none → H1 dx = none → dx ≠ x → sp (.ref x :: (vs ++ [])) (upd (upd H1 dx (.own x)) x (.ins C dx [])) (fun v H2 => v = .non ∧ Q (.ref x) H2) (E σ)
def tMethY (C : Addr) (m : Str) (sp : Sp) (E : L2.St → XK) (ta : TE) (t : TA) : TE := fun σ H Q => ta σ H fun x H1 => ∃ a dx fs, x = .ref a ∧ H1 a = some (.ins C dx fs) ∧ fs.lookup m = none ∧ t σ H1 fun vs H2 => sp (.ref a :: vs) H2 Q (E σ)
theorem pf_callS (G : Okf X.prog X.w X.K X.mg X.base k f ps sp) (hr : Room k X.A) (hg : Gl X x) (hm : X.mg x = some (.ref f)) (hk : PySem.W.keepIn X.K (.ref f) = true) (hx : ∀ σ, PassesAt (L2.CX X.prog X.w) X σ (E σ))
    (ha : PA X (e :: es) t) (hdb : (x == ("__debug__" : Str)) = false := by decide) (he : starEach (e :: es) X.env = (false, eval e X.env) :: starEach es X.env := by rfl) (hpl : (backTo pos (starEach es X.env)).any (·.1) = false := by rfl) :
    PE X (.Call (.Name x p) (e :: es) [] pos) (tCallY sp E t) := by
  obtain ⟨_, F, hb⟩ := G
  refine ⟨fun pins s σ H Q I h => ?_⟩
  refine wpAny_Call_Name_kw (ld_glob I hg hm ?_ hdb)
  refine PySem.W.callWith_K (h₀ := X.base) I.ok.mod.kin hk (thn (ha.run pos pins s σ H _ I h) fun us s1 ⟨vs, H1, I1, r, q⟩ => ⟨I1.kIn, ?_⟩) he hpl
  exact run_fnS F hr hb (hx σ) I1 r q
end
section
variable {X : Cx} {C fI : Addr} {x fld : Str}
def tRaiseE (C : Addr) (fld : Str) (W : WX) (ta : TA) : TS := fun _ σ H => tMkE C fld ta σ H fun cls d H' => W cls d σ H'
theorem r_raiseE {W : WX} {ta : TA} {D : Ends} {σ : L2.St} {H : Hp} (h : ta σ H fun vs H1 => ∃ v, vs = [v] ∧ ∀ d, H1 d = none → W (.ref C) (some d) σ (upd H1 d (.xd [(fld, v)]))) : tRaiseE C fld W ta D σ H := h
theorem r_callY {sp : Sp} {E : L2.St → XK} {t : TA} {σ : L2.St} {H : Hp} {Q : VK} (h : t σ H fun vs H1 => sp vs H1 Q (E σ)) : tCallY sp E t σ H Q := h
theorem r_makeY {sp : Sp} {E : L2.St → XK} {t : TA} {σ : L2.St} {H : Hp} {Q : VK} (h : t σ H fun vs H1 => ∀ x dx, H1 x = none → H1 dx = none → dx ≠ x → sp (.ref x :: (vs ++ [])) (upd (upd H1 dx (.own x)) x (.ins C dx [])) (fun v H2 => v = .non ∧ Q (.ref x) H2) (E σ)) : tMakeY C sp E t σ H Q := h
theorem r_methY {m : Str} {sp : Sp} {E : L2.St → XK} {ta : TE} {t : TA} {σ : L2.St} {H : Hp} {Q : VK} (h : ta σ H fun x H1 => ∃ a dx fs, x = .ref a ∧ H1 a = some (.ins C dx fs) ∧ fs.lookup m = none ∧ t σ H1 fun vs H2 => sp (.ref a :: vs) H2 Q (E σ)) : tMethY C m sp E ta t σ H Q := h
theorem r_exF {K : PySem.W.Frag} {a : Addr} {cls : Value} {d : Option Addr} {te : TE} {σ : L2.St} {H : Hp} {Q : VK} (h : te σ H fun x H1 => ∃ (D dd : Addr) (v : V), x = .ref a ∧ cls = .ref D ∧ ExF K D fld ∧ d = some dd ∧ H1 dd = some (.xd [(fld, v)]) ∧ Q v H1) : tExF K a cls d fld te σ H Q := h
end
end Hn
namespace Hn
open PySem L2
end Hn
namespace Hn
open PySem PySem.Spec PyProof.Rows L2 Srt SrtO
section
variable {prog : Program} {w : World} {A : Around} {s : Shared}
end
section
variable {X : Cx}
end
end Hn
namespace Hn
open PySem PySem.Spec PyProof.Rows L2 Srt SrtO
def wrk (s : Str) : Int := if s = "door" then 0 else if s = "keep" then 1 else if s = "need" then 2 else 3
def Wrd (s : Str) : Prop := s = "door" ∨ s = "keep" ∨ s = "need" ∨ s = "room"
def IsPairW (h : Heap) (v : Value) (r y : Int) : Prop := ∃ (s : Str) (a : Addr) (o : Obj) (t u : Tok) (n : Nat), Wrd s ∧ wrk s = r ∧ v = .ref a ∧ h.get? a = some o ∧ o.cls = .type "tuple" ∧ o.data = .seq #[.str s t, .int y u] n
theorem IsPairW.keeps {h h' : Heap} {v : Value} {x y : Int} (p : IsPairW h v x y) (k : ∀ b o, h.get? b = some o → o.cls = .type "tuple" → h'.get? b = some o) : IsPairW h' v x y := by
  obtain ⟨s, a, o, t, u, n, w, e0, e, ho, hc, hd⟩ := p
  exact ⟨s, a, o, t, u, n, w, e0, e, k _ _ ho hc, hc, hd⟩
section
variable {prog : Program} {w : World} {A : Around} {s : Shared} {E : Value → Shared → Prop}
end
noncomputable def kV (h : Heap) (v : Value) : Int × Int := @dite _ (∃ p : Int × Int, IsPairW h v p.1 p.2) (Classical.propDecidable _) (fun e => e.choose) fun _ => (0, 0)
def Wd.r : Wx.Wd → Int
  | .door => 0
  | .keep => 1
  | .need => 2
  | .room => 3
section
variable {X : Cx}
end
end Hn
namespace Wx
open PySem PySem.Spec PyProof.Rows L2 Evl Hn RZ
variable [TabC]
section
variable [XC]
variable {K : PySem.W.Frag} {d : Cn → Addr} {F : Fz} {H : Hp}
end
end Wx
namespace Wx
open PySem PySem.Spec PyProof.Rows L2 Evl Hn RZ
variable [TabC]
section
variable [XC]
variable {K : PySem.W.Frag} {d : Cn → Addr} {F F' : Fz} {H H' : Hp} {v : V} {P : PV → Prop} {Q : VK}
end
def Hs.ed (X : Hs) (t : Stp4) : Ed Stp := ⟨(X.a t).toNat, (X.b t).toNat, (X.a t + X.l t) / X.n, X.v t, some (t.1.s, t.2)⟩
section
variable [XC]
variable {K : PySem.W.Frag} {d : Cn → Addr} {ts bt ct : List Tag} {R : RR} {te : TE} {we : WE}
def wSubN (i j : Nat) (we wi : WE) : WS := fun D ρ => we ρ fun z => match z with
  | .tup [y, y2] => wi ρ fun q => match ρ.getD i .non, q with
    | .lst xs, .int k => ∃ m, ixN xs.length k = some m ∧ D.nx ((ρ.set i (.lst (xs.set m y))).set j y2)
    | _, _ => False
  | _ => False
end
section
variable [XC]
variable {K : PySem.W.Frag} {d : Cn → Addr} {ts : List Tag} {te : TE} {we : WE} {ta : TA} {wa : WA}
end
end Wx
namespace L2
open PySem PySem.Spec PyProof.Rows
section
variable {X : Cx} {ta tb tc td : TE} {a b c d : Expr} {pos : Pos}
end
end L2
namespace Wx
open PySem PySem.Spec PyProof.Rows L2 Evl Hn RZ
variable [TabC]
section
variable [XC]
variable {K : PySem.W.Frag} {d : Cn → Addr} {ts : List Tag} {ta tb tc td : TE} {wa wb wc wd : WE}
def wChain3 (w w' w'' : W2) (wa wb wc wd : WE) : WE := fun ρ P => wa ρ fun x => wb ρ fun y => w x y fun z => match z with
  | .bl c => if c = true then wc ρ fun u => w' y u fun z => match z with
    | .bl c => if c = true then wd ρ fun t => w'' u t P else P (.bl false)
    | _ => False
    else P (.bl false)
  | _ => False
end
end Wx
namespace Wx
open PySem PySem.Spec PyProof.Rows L2 Evl Hn RZ
variable [TabC]
inductive En where
  | Wrong | Overtaken | NoHour | Unlike | NoBegin | TooFew | NoStep | Stuck | Impossible | OutOf | NoNumber | Unfit | Never | TooLong | NoDays | NoPace | NoText | NoDeed | Full | Refused | Nothing | NoEntry | NoCommand
  deriving DecidableEq
def En.fld : En → Option Str
  | .Wrong => some "place"
  | .Overtaken => some "hour"
  | .NoHour => some "hour"
  | .NoBegin => some "hour"
  | .TooFew => some "ring"
  | .NoStep => some "step"
  | .Stuck => some "ways"
  | .Impossible => some "way"
  | .NoNumber => some "index"
  | .Never => some "ways"
  | .TooLong => some "most"
  | .NoDays => some "days"
  | .NoPace => some "fraction"
  | .Full => some "limit"
  | .Refused => some "deed"
  | .NoEntry => some "many"
  | _ => none
def En.nw : En → Bool
  | .TooFew => true
  | .Impossible => true
  | _ => false
abbrev Fs := List (Str × PV)
abbrev WFX := List PV → (PV → Prop) → (En → Fs → Prop) → Prop
def XdOk (K : PySem.W.Frag) (d : Cn → Addr) (H0 : Hp) (n : En) (F : Fz) (H : Hp) (o : Option Addr) (fs : Fs) : Prop := (o = none ∧ fs = []) ∨ ∃ dd gs, o = some dd ∧ H dd = some (.xd gs) ∧ Rvf K d F H gs fs ∧ (n.nw = true → XdN H0 gs fs)
section
variable (K : PySem.W.Frag) (d : Cn → Addr) (ea : En → Option Addr)
def spWX (R : RR) (w : WFX) : Sp := fun vs H Q E => ∃ (F : Fz) (xs : List PV) (P : PV → Prop) (EX : En → Fs → Prop), Dom F H ∧ Rvs K d F H vs xs ∧ w xs P EX ∧ (∀ x v F' H', Step F H F' H' → R F H F' H' v x → P x → Q v H') ∧
  ∀ n C fs o F' H', ea n = some C → Step F H F' H' → XdOk K d H n F' H' o fs → EX n fs → E (.ref C) o H'
@[reducible] def xcOf (W : WX) (EX : List PV → En → Fs → Prop) (tx : List Tag) : XC where
  h := fun F0 H0 => ∀ n C fs o F' H' σ' ρ', ea n = some C → @EnvR _ xc0 K d tx H0 F0 F' H' σ' ρ' → XdOk K d H0 n F' H' o fs → EX ρ' n fs → W (.ref C) o σ' H'
  a := 0
  o := none
  fs := []
  nw := false
end
@[reducible] def xcS (a : Addr) (o : Option Addr) (fs : Fs) (n : En) : XC := ⟨Dom, a, o, fs, n.nw⟩
section
variable {K : PySem.W.Frag} {d : Cn → Addr} {ea : En → Option Addr} {F F' F0 F1 F2 : Fz} {H H' H0 H1 H2 : Hp} {v u : V} {ts ts' ts1 ts2 bt ct tx : List Tag} {R : RR} {te : TE} {we : WE} {σ : L2.St} {ρ : List PV} {W : WX} {EX : List PV → En → Fs → Prop}
theorem XdOk.mono {n : En} {o : Option Addr} {fs : Fs} (e : Stb F H H') (f : ∀ a, F a → F' a) (h : XdOk K d H0 n F H o fs) : XdOk K d H0 n F' H' o fs := by
  rcases h with h | ⟨dd, gs, h1, h2, h3, h4⟩
  · exact .inl h
  · exact .inr ⟨dd, gs, h1, e _ _ h2 (.inl rfl), h3.mono e f, h4⟩
theorem XdOk.back {n : En} {o : Option Addr} {fs : Fs} (e : Xn H0 H1) (h : XdOk K d H1 n F H o fs) : XdOk K d H0 n F H o fs := by
  rcases h with h | ⟨dd, gs, h1, h2, h3, h4⟩
  · exact .inl h
  · refine .inr ⟨dd, gs, h1, h2, h3, fun q k f v ys k1 k2 => ?_⟩
    obtain ⟨p, e1, e2⟩ := h4 q k f v ys k1 k2
    exact ⟨p, e1, back_x e e2⟩
def noX (ts : List Tag) : Bool := ts.all fun t => !decide (t = .ex)
theorem noX_get (h : noX ts = true) {i : Nat} (q : ts[i]? = some .ex) : False := by
  have := List.all_eq_true.mp h _ (List.mem_of_getElem? q)
  simp at this
structure EnvB (K : PySem.W.Frag) (d : Cn → Addr) (ts : List Tag) (H0 : Hp) (F0 F : Fz) (H : Hp) (σ : L2.St) (ρ : List PV) : Prop where
  st : Step F0 H0 F H
  ls : σ.length = ts.length
  lr : ρ.length = ts.length
  sh : ∀ i : Nat, ts[i]? = some .sh → ∃ v x, σ[i]? = some (some v) ∧ ρ[i]? = some x ∧ Rv K d F H v x
  ow : ∀ i : Nat, ts[i]? = some .ow → ∃ a vs xs, σ[i]? = some (some (.ref a)) ∧ ρ[i]? = some (.lst xs) ∧ H a = some (.lst vs) ∧ ¬ F a ∧ H0 a = none ∧ Rvs K d F H vs xs
  ap : ∀ (i j : Nat) (a : Addr), ts[i]? = some .ow → ts[j]? = some .ow → σ[i]? = some (some (.ref a)) → σ[j]? = some (some (.ref a)) → i = j
  od : ∀ i : Nat, ts[i]? = some .od → ∃ v x, σ[i]? = some (some v) ∧ ρ[i]? = some x ∧ OdL K d H0 F H v x
  ad : ∀ (i : Nat) (a : Addr), ts[i]? = some .od → Dpl H σ i a → (∀ j : Nat, ts[j]? = some .ow → σ[j]? ≠ some (some (.ref a))) ∧ ∀ j : Nat, ts[j]? = some .od → Dpl H σ j a → i = j
theorem EnvR.base {X : XC} (E : @EnvR _ X K d ts H0 F0 F H σ ρ) : EnvB K d ts H0 F0 F H σ ρ := ⟨E.st, E.ls, E.lr, E.sh, E.ow, E.ap, E.od, E.ad⟩
theorem EnvR.xc_ {X : XC} (E : @EnvR _ X K d ts H0 F0 F H σ ρ) : X.h F0 H0 := E.xc
theorem EnvR.ex_ {X : XC} (E : @EnvR _ X K d ts H0 F0 F H σ ρ) : @Exv X K d ts H0 F H σ := E.ex
theorem EnvR.step_ {X : XC} (E : @EnvR _ X K d ts H0 F0 F H σ ρ) (s : Step F H F' H') : @EnvR _ X K d ts H0 F0 F' H' σ ρ := E.step s
theorem EnvR.conv_ {X : XC} (E : @EnvR _ X K d ts H0 F0 F H σ ρ) (c : cv ts ts' = true) : ∃ F', (∀ a, F a → F' a) ∧ @EnvR _ X K d ts' H0 F0 F' H σ ρ := E.conv c
theorem EnvR.drop_ {X : XC} {i : Nat} {o : Option V} (E : @EnvR _ X K d ts H0 F0 F H σ ρ) : @EnvR _ X K d (ts.set i .no) H0 F0 F H (σ.set i o) ρ := E.drop1
theorem EnvB.to {X : XC} (B : EnvB K d ts H0 F0 F H σ ρ) (hx : X.h F0 H0) (n : noX ts = true) : @EnvR _ X K d ts H0 F0 F H σ ρ := ⟨B.st, B.ls, B.lr, B.sh, B.ow, B.ap, B.od, B.ad, hx, fun i h => (noX_get n h).elim⟩
theorem EnvR.swap {X Y : XC} (E : @EnvR _ X K d ts H0 F0 F H σ ρ) (n : noX ts = true) (hx : Y.h F0 H0) : @EnvR _ Y K d ts H0 F0 F H σ ρ := E.base.to hx n
theorem EnvR.to0 {X : XC} (E : @EnvR _ X K d ts H0 F0 F H σ ρ) (c : cv ts tx = true) (n : noX tx = true) : ∃ F', (∀ a, F a → F' a) ∧ @EnvR _ xc0 K d tx H0 F0 F' H σ ρ := by
  obtain ⟨F', up, E1⟩ := E.conv_ c
  exact ⟨F', up, E1.swap n trivial⟩
theorem xc_goes (E : @EnvR _ (xcOf K d ea W EX tx) K d ts H0 F0 F H σ ρ) (c : cv ts tx = true) (nx : noX tx = true) {n : En} {C : Addr} {fs : Fs} {o : Option Addr} (hn : ea n = some C) (xd : XdOk K d H0 n F H o fs) (ex : EX ρ n fs) : W (.ref C) o σ H := by
  obtain ⟨F2, up, E2⟩ := E.to0 c nx
  exact E.xc_ n C fs o F2 H σ ρ hn E2 (xd.mono .refl up) ex
def wCallX (EX : List PV → En → Fs → Prop) (w : WFX) (wa : WA) : WE := fun ρ P => wa ρ fun xs => w xs P (EX ρ)
theorem sim_callX {w : WFX} {ar : TA} {wr : WA} (o : ROk R) (c : cv ts tx = true) (nx : noX tx = true) (ha : @SimA _ (xcOf K d ea W EX tx) K d ts ar wr) : @Sim _ (xcOf K d ea W EX tx) K d R ts (tCallY (spWX K d ea R w) (fun σ c o H => W c o σ H) ar) (wCallX EX w wr) := fun H0 F0 F H σ ρ Q P E hw k =>
  ha H0 F0 F H σ ρ _ _ E hw fun xs vs F1 H1 s1 r1 h1 => ⟨F1, xs, P, EX ρ, s1.dm, r1, h1, fun x v F' H' s r p => k x v F' H' (s1.trans s) (o.back s1 r) p, fun n C fs oo F' H' hn s xd ex => xc_goes ((E.step_ s1).step_ s) c nx hn (xd.back (E.step_ s1).base.st.ex) ex⟩
def wMethX (EX : List PV → En → Fs → Prop) (c : Cn) (m : Str) (w : WFX) (wo : WE) (wa : WA) : WE := fun ρ P => wo ρ fun x => (∃ fs, x = .ins c fs ∧ fs.lookup m = none) ∧ wa ρ fun xs => w (x :: xs) P (EX ρ)
def noEX : List PV → En → Fs → Prop := fun _ _ _ => False
theorem sim_call0 [XC] {w : WFX} {ar : TA} {wr : WA} {E : XK} (o : ROk R) (ha : SimA K d ts ar wr) : Sim K d R ts (tCall (spWX K d ea R w) [] E ar) (wCallX noEX w wr) := fun H0 F0 F H σ ρ Q P E hw k =>
  ha H0 F0 F H σ ρ _ _ E hw fun xs vs F1 H1 s1 r1 h1 => ⟨F1, xs, P, _, s1.dm, by rw [List.append_nil]; exact r1, h1, fun x v F' H' s r p => k x v F' H' (s1.trans s) (o.back s1 r) p, fun _ _ _ _ _ _ _ _ _ q => q.elim⟩
theorem opt_or (o : Option Addr) : o = none ∨ ∃ dd, o = some dd := by
  cases o with
  | none => exact .inl rfl
  | some d => exact .inr ⟨d, rfl⟩
def wRaise (EX : List PV → En → Fs → Prop) (n : En) (f : Str) (we : WE) : WS := fun _ ρ => we ρ fun x => EX ρ n [(f, x)]
def wTry (wb : (List PV → En → Fs → Prop) → WS) (wu : En → Fs → WS) : WS := fun D ρ => wb (fun ρ' n fs => wu n fs { nx := D.nx, rt := D.rt } ρ') { nx := D.nx, rt := D.rt } ρ
def nos (ts : List Tag) : List Tag := ts.map fun t => match t with | .sh => .sh | _ => .no
def shno (ts : List Tag) : Bool := ts.all fun t => decide (t = .sh) || decide (t = .no)
theorem shno_get (h : shno ts = true) {i : Nat} {t : Tag} (q : ts[i]? = some t) : t = .sh ∨ t = .no := by
  have := List.all_eq_true.mp h _ (List.mem_of_getElem? q)
  simpa using this
theorem shno_noX (h : shno ts = true) : noX ts = true := List.all_eq_true.mpr fun t ht => by
  have := List.all_eq_true.mp h t ht
  cases t <;> simp_all
theorem nos_get {i : Nat} {t : Tag} (q : (nos ts)[i]? = some t) : (t = .sh ∧ ts[i]? = some .sh) ∨ t = .no := by
  unfold nos at q
  rw [List.getElem?_map] at q
  cases e : ts[i]? with
  | none => rw [e] at q; cases q
  | some u =>
    rw [e] at q
    cases q
    cases u
    · exact .inl ⟨rfl, rfl⟩
    all_goals exact .inr rfl
theorem EnvB.under (E : EnvB K d ts H F F' H' σ ρ) (s : Step F0 H0 F H) : EnvB K d ts H0 F0 F' H' σ ρ where
  st := s.trans E.st
  ls := E.ls
  lr := E.lr
  sh := E.sh
  ow := fun i h => let ⟨a, vs, xs, h1, h2, h3, h4, h5, h6⟩ := E.ow i h; ⟨a, vs, xs, h1, h2, h3, h4, back_x s.ex h5, h6⟩
  ap := E.ap
  od := fun i h => by
    obtain ⟨v, x, h1, h2, c, bs, yss, e1, e2, h3, h4, h5, h6, h7, h8, h9⟩ := E.od i h
    refine ⟨v, x, h1, h2, c, bs, yss, e1, e2, h3, h4, back_x s.ex h5, h6, h7, h8, fun k w z q1 q2 => ?_⟩
    rcases h9 k w z q1 q2 with ⟨b, us, ys, rfl, rfl, u1, u2, u3, u4⟩ | t
    · exact .inl ⟨b, us, ys, rfl, rfl, u1, u2, back_x s.ex u3, u4⟩
    · exact .inr t
  ad := E.ad
theorem EnvR.under {X Y : XC} (E : @EnvR _ X K d ts H F F' H' σ ρ) (s : Step F0 H0 F H) (hx : Y.h F0 H0) (n : noX ts = true) : @EnvR _ Y K d ts H0 F0 F' H' σ ρ := (E.base.under s).to hx n
theorem EnvB.nos_ (E : EnvB K d ts H0 F0 F H σ ρ) : EnvB K d (nos ts) H F F H σ ρ where
  st := Step.refl E.st.dm
  ls := by rw [E.ls]; unfold nos; rw [List.length_map]
  lr := by rw [E.lr]; unfold nos; rw [List.length_map]
  sh := fun i h => by
    rcases nos_get h with ⟨_, q⟩ | q
    · exact E.sh i q
    · cases q
  ow := fun i h => by rcases nos_get h with ⟨q, _⟩ | q <;> cases q
  ap := fun i j a h => by rcases nos_get h with ⟨q, _⟩ | q <;> cases q
  od := fun i h => by rcases nos_get h with ⟨q, _⟩ | q <;> cases q
  ad := fun i a h => by rcases nos_get h with ⟨q, _⟩ | q <;> cases q
theorem nos_noX : noX (nos ts) = true := List.all_eq_true.mpr fun t ht => by
  unfold nos at ht
  obtain ⟨u, _, rfl⟩ := List.mem_map.mp ht
  cases u <;> rfl
theorem EnvR.nos_ {X Y : XC} (E : @EnvR _ X K d ts H0 F0 F H σ ρ) (hx : Y.h F H) : @EnvR _ Y K d (nos ts) H F F H σ ρ := E.base.nos_.to hx nos_noX
theorem EnvR.suite {i : Nat} {a : Addr} {n : En} {o : Option Addr} {fs : Fs} (E : @EnvR _ xc0 K d tx H0 F0 F H σ ρ) (dm0 : Dom F0 H0) (s : shno tx = true) (hi : i < tx.length) (xd : XdOk K d H0 n F H o fs) : @EnvR _ (xcS a o fs n) K d (tx.set i .ex) H0 F0 F H (σ.set i (some (.ref a))) ρ := by
  have ne : ∀ {j : Nat} {t : Tag}, t ≠ .ex → (tx.set i .ex)[j]? = some t → i ≠ j ∧ tx[j]? = some t := fun {j t} ht h => by
    rw [List.getElem?_set] at h
    by_cases e : i = j
    · subst e
      rw [if_pos rfl, if_pos hi] at h
      cases h
      exact absurd rfl ht
    · rw [if_neg e] at h
      exact ⟨e, h⟩
  have no : ∀ {j : Nat} {t : Tag}, t ≠ .sh → t ≠ .no → t ≠ .ex → (tx.set i .ex)[j]? = some t → False := fun {j t} h1 h2 h3 h => by
    rcases shno_get s (ne h3 h).2 with e | e
    · exact h1 e
    · exact h2 e
  have B := E.base
  have l1 : (σ.set i (some (V.ref a))).length = (tx.set i Tag.ex).length := by rw [List.length_set, List.length_set, B.ls]
  have l2 : ρ.length = (tx.set i Tag.ex).length := by rw [List.length_set, B.lr]
  refine @EnvR.mk _ (xcS a o fs n) K d (tx.set i .ex) H0 F0 F H _ _ B.st l1 l2 (fun j h => ?_) (fun j h => (no (by decide) (by decide) (by decide) h).elim) (fun j l b h => (no (by decide) (by decide) (by decide) h).elim) (fun j h => (no (by decide) (by decide) (by decide) h).elim) (fun j b h => (no (by decide) (by decide) (by decide) h).elim) dm0 (fun j h => ?_)
  · obtain ⟨e, h⟩ := ne (by decide) h
    obtain ⟨w, y, g1, g2, g3⟩ := B.sh j h
    exact ⟨w, y, by rw [List.getElem?_set_ne e]; exact g1, g2, g3⟩
  · have e : i = j := by
      rw [List.getElem?_set] at h
      split at h
      · next e => exact e
      · exact (noX_get (shno_noX s) h).elim
    subst e
    refine ⟨(List.getElem?_set_self (by rw [B.ls]; exact hi)).trans rfl, fun dd hd => ?_⟩
    rcases xd with ⟨e, _⟩ | ⟨d2, gs, e, h2, h3, h4⟩
    · rw [show o = some dd from hd] at e; cases e
    · rw [show o = some dd from hd] at e
      cases e
      exact ⟨gs, h2, h3, h4⟩
theorem simS_try {X : XC} {i : Nat} {c : Value} {tb : WX → TS} {tu : Addr → Value → Option Addr → TS} {wb : (List PV → En → Fs → Prop) → WS} {wu : En → Fs → WS} (o : ROk R)
    (hb : ∀ (W : WX) (EX : List PV → En → Fs → Prop), @SimS _ (xcOf K d ea W EX tx) K d R [] [] (nos ts) (tb W) (wb EX) ts1)
    (hu : ∀ (a : Addr) (n : En) (C : Addr) (o : Option Addr) (fs : Fs), ea n = some C → (o = none → fs = []) → @SimS _ (xcS a o fs n) K d R [] [] (tx.set i .ex) (tu a (.ref C) o) (wu n fs) ts2)
    (hc : ∀ n C, ea n = some C → PySem.W.exmOne K (.ref C) c = some true)
    (s : shno tx = true) (hi : decide (i < tx.length) = true) (n1 : noX ts1 = true) (n2 : noX (ts2.set i .no) = true) (c1 : cv ts1 ts' = true) (c2 : cv (ts2.set i .no) ts' = true)
    {t : TS} (ht : t = fun D σ H => tb (wAs K c i tu (fun _ _ _ _ => False) D) D σ H) : @SimS _ X K d R bt ct ts t (wTry wb wu) ts' := fun H0 F0 F H σ ρ D D' E hw n r b c' => by
  subst ht
  have hx : (xcOf K d ea (wAs K c i tu (fun _ _ _ _ => False) D) (fun ρ' n fs => wu n fs { nx := D'.nx, rt := D'.rt } ρ') tx).h F H := by
    intro m C fs oo F1 H1 σ1 ρ1 hm E1 xd hex
    refine ⟨true, hc m C hm, fun _ a na => ?_, fun q => nomatch q⟩
    have hz : oo = none → fs = [] := fun e => by
      rcases xd with ⟨_, q⟩ | ⟨dd, _, q, _⟩
      · exact q
      · rw [e] at q; cases q
    refine hu a m C oo fs hm hz H F F1 H1 (σ1.set i (some (.ref a))) ρ1 _ _ (E1.suite E.base.st.dm s (of_decide_eq_true hi) xd) hex (fun F2 H2 σ2 ρ2 g2 E2 p => ?_) (fun x v F2 H2 st rr p => r x v F2 H2 (E.base.st.trans st) (o.back E.base.st rr) p) (fun _ _ _ _ _ _ q => q.elim) (fun _ _ _ _ _ _ q => q.elim)
    obtain ⟨F3, up, E3⟩ := (EnvR.under (Y := X) (EnvR.drop_ (i := i) (o := none) E2) E.base.st E.xc_ n2).conv_ c2
    exact n F3 H2 _ _ ⟨fun z h => up z (E2.base.st.up z h), .of E2.base.st.ex⟩ E3 p
  refine hb _ _ H F F H σ ρ D { nx := D'.nx, rt := D'.rt } (E.nos_ hx) hw (fun F2 H2 σ2 ρ2 g2 E2 p => ?_) (fun x v F2 H2 st rr p => r x v F2 H2 (E.base.st.trans st) (o.back E.base.st rr) p) (fun _ _ _ _ _ _ q => q.elim) (fun _ _ _ _ _ _ q => q.elim)
  obtain ⟨F3, up, E3⟩ := (EnvR.under (Y := X) E2 E.base.st E.xc_ n1).conv_ c1
  exact n F3 H2 _ _ ⟨fun z h => up z (E2.base.st.up z h), .of E2.base.st.ex⟩ E3 p
def wTryC (cat : En → Bool) (EXo : List PV → En → Fs → Prop) (wb : (List PV → En → Fs → Prop) → WS) (wu : En → Fs → WS) : WS := fun D ρ => wb (fun ρ' n fs => if cat n = true then wu n fs { nx := D.nx, rt := D.rt } ρ' else EXo ρ' n fs) { nx := D.nx, rt := D.rt } ρ
def wIsX (n m : En) : WE := fun _ P => P (.bl (decide (n = m)))
theorem sim_isX {a C C2 : Addr} {o : Option Addr} {fs : Fs} {i : Nat} {n m : En} (hi : ts[i]? = some .ex) (hn : ea n = some C) (hm : ea m = some C2) (hk : ∀ n m C C2, ea n = some C → ea m = some C2 → PySem.W.kitOne K (.ref C) (.ref C2) = some (decide (n = m))) (hx : ∀ n C, ea n = some C → ExcC K C) (ho : o = none ∨ ∃ dd, o = some dd) :
    @Sim _ (xcS a o fs n) K d (rN K d) ts (tCB (rIsX K a (.ref C) o) (tCons (tVar i) (tCons (tC (.ref C2)) tNil))) (wIsX n m) := fun H0 F0 F H σ ρ Q P E hw k => by
  obtain ⟨h1, h2⟩ := E.ex_ i hi
  refine ⟨_, h1, C, .ref C2, .ref C2, decide (n = m), rfl, rfl, hx n C hn, ?_, fun u r => r, hk n m C C2 hn hm, fin_val E.base.st.dm (.bl _) hw k⟩
  rcases ho with h | ⟨dd, h⟩
  · exact .inl h
  · obtain ⟨gs, g1, _⟩ := h2 dd h
    exact .inr ⟨dd, gs, h, g1⟩
def wExF (n : En) (f : Str) (fs : Fs) : WE := fun _ P => n.fld = some f ∧ ∃ x, fs = [(f, x)] ∧ P x
end
section
variable {P : Program} {w : World} {K : PySem.W.Frag} {mg : Str → Option Value} {base : Heap} {d : Cn → Addr} {ea : En → Option Addr} {R : RR}
def wDefX (n m : Nat) (ws : (List PV → En → Fs → Prop) → WS) : WFX := fun xs P EX => xs.length = n ∧ ws (fun _ => EX) { nx := fun _ => P .non, rt := P } (xs ++ List.replicate m .non)
theorem okwX_of {x qual : Str} {st : Stmt} {f : Addr} {N ps : List Str} {k n m : Nat} {ws : (List PV → En → Fs → Prop) → WS} {tx ts' : List Tag} (Df' : Df K x qual st f ps) (S : FnScope N ps (defScope st)) (hn : ps.length = n) (hN : N.length = n + m) (hR : RNon K d R)
    (hbody : ∀ (cdv : Value) (A : Around) (outer : List Env) (s : Shared) (H : Hp) (E : XK), Room k (A.deeper (envOfC qual (defScope st) s.heap.objs.size f cdv)) →
      ∃ t, PSs (cxOf (L2.CX P w) P w K mg base N qual (defScope st) f cdv A outer s H E) (defBody st) t ∧ ∀ EX, @SimS _ (xcOf K d ea (fun c o _ H' => E c o H') EX tx) K d R [] [] (tags n m) t (ws EX) ts') : Okf P w K mg base (k + 1) f ps (spWX K d ea R (wDefX n m ws)) :=
  okx_of Df' S (fun vs H Q E h => by
    obtain ⟨F, xs, P, EX, dm, r, ⟨hl, _⟩, _⟩ := h
    rw [r.length, hl, hn]) fun cdv A outer s H vs Q E hr h => by
    obtain ⟨t, D, sim⟩ := hbody cdv A outer s H E hr
    obtain ⟨F, xs, P, EX, dm, r, ⟨hl, hw⟩, k, kE⟩ := h
    refine ⟨t, D, sim (fun _ => EX) H F F H _ _ _ _ (env_start (X := xcOf K d ea (fun c o _ H' => E c o H') (fun _ => EX) tx) dm r hl hN fun n C fs o F' H' σ' ρ' hn E1 xd ex => kE n C fs o F' H' hn E1.base.st xd ex) hw (fun F' H' σ' ρ' g E' p => k .non .non F' H' E'.base.st (hR _ _ _ _) p) (fun x v F' H' s rr p => k x v F' H' s rr p) (fun _ _ _ _ _ _ q => q.elim) (fun _ _ _ _ _ _ q => q.elim)⟩
end
end Wx
namespace Hn
open PySem PySem.W PySem.Calls PyProof.Rows PySem.HandSPX
def eA0 (p1 : Pos) : Arguments := { posonlyargs := [], args := [{ arg := "self", annotation := none, pos := p1 }], vararg := none, kwonlyargs := [], kw_defaults := [], kwarg := none, defaults := [] }
def eB0 (p0 p1 p2 p4 p5 : Pos) : List Stmt := [.Expr (.Call (.Attribute (.Call (.Name "super" p0) [] [] p1) "__init__" p2) [] [] p4) p5]
def CallEq0 (a0 a1 a2 a4 : Pos) (env : Env) : Prop := ∃ pl : Sem Bool, eval (.Call (.Attribute (.Call (.Name "super" a0) [] [] a1) "__init__" a2) [] [] a4) env = (do
  let ov ← attributeBase (.Call (.Name "super" a0) [] [] a1) "__init__" env (eval (.Call (.Name "super" a0) [] [] a1) env)
  standAt a2.atName
  let (f, first) ← holding [ov] (getMethod ov "__init__" pl)
  callWith a4 f first (backTo a4 (starEach [] env)) [])
structure ErrC0 (P : Program) (K : Frag) (mg : Str → Option Value) (x : Str) (C fI : Addr) : Prop where
  gC : mg x = some (.ref C)
  cls : ∃ nm q N bs bm sn sub ab col dd k0 k1 k2 k3 k5, K.lookup C = some (excClassObj nm q C N bs bm true sn sub ab col dd k0 k1 k2 k3 k5 "ValueError.__new__") ∧ refsVE bm = true
  ga : findIn K (.ref C) "__getattribute__" = some (some (.builtin "BaseException.__getattribute__"))
  gg : findIn K (.ref C) "__getattr__" = some none
  iC : findIn K (.ref C) "__init__" = some (some (.ref fI))
  tC : typeIn K (.ref fI) = some (.type "function")
  kC : keepIn K (.ref C) = true
  exC : subIn K (.ref C) (.type "BaseException") = some true
  vB : subIn K (.ref C) (.type "ValueError") = some true
  tyC : typeIn K (.ref C) = some (.type "type")
  hdC : hasDictIn K C = true
  mr : mroIn K C (.ref C) = some true
  sup : ks_superIn K C C "__init__" = some (some (.builtin "ValueError.__init__"))
  noT : nsIn K cStatics "thirdparty.any" = some none
  noS : mg "super" = none
  fn : ∃ (qual : Str) (names : List (Str × NameKind)) (oc : Value) (od : Option Addr) (doc pm : Value) (an : Option Addr) (cda cc : Addr) (ct : Value) (osl : Array (Option Value)) (p1 a0 a1 a2 a4 a5 : Pos) (ccl cl : Value) (cdd cld : Option Addr) (vs : Array Value) (ccs csl : Array (Option Value)) (file : Str) (tf : Tok),
    K.lookup fI = some ⟨oc, od, .func (ksFn "__init__" qual (eA0 p1) (eB0 a0 a1 a2 a4 a5) (eS names) .none .none doc pm an (.ref cda) ct cc), osl⟩ ∧ codeIn K (.ref cda) qual = true ∧ K.lookup cda = some ⟨ccl, cdd, .fields vs, ccs⟩ ∧ vs[2]? = some (.str file tf) ∧ ((P.main.file : Str) == file) = true ∧
    K.lookup cc = some ⟨cl, cld, .cell (some (.ref C)), csl⟩ ∧ names.lookup ("super" : Str) = some .globalImplicit ∧ names.lookup ("__class__" : Str) = some .free ∧ names.lookup ("self" : Str) = some .local ∧ (∀ x ∈ names, x.2 ≠ .cell) ∧
    (P.main.scope.names.lookup ("super" : Str)).isSome = false ∧ (∀ L, CallEq0 a0 a1 a2 a4 (ksEnv qual (eS names) L fI (.ref cda) cc)) ∧
    (∀ (s : Shared) (e : Value), BindsTo s (ksFn "__init__" qual (eA0 p1) (eB0 a0 a1 a2 a4 a5) (eS names) .none .none doc pm an (.ref cda) ct cc) ⟨[e], []⟩ [("self", e)])
structure InitE0 (h h' : Heap) (x C t1 : Addr) : Prop where
  keep : ∀ b o, b ≠ x → h.get? b = some o → h'.get? b = some o
  obj : h'.get? x = some (excO C t1)
section
variable {P : Program} {w : World} {A : Around} {E : Value → Shared → Prop} {R : Result → Shared → Prop} {s : Shared} {K : Frag} {mg mb : Str → Option Value} {x : Str} {C fI : Addr}
theorem err_init0 (T : ErrC0 P K mg x C fI) {e t0 : Addr} (X : K.In s.heap) (G : s.heap.Ns mainGlobals mg) (Bt : s.heap.Ns builtinsNs mb) (hb : mb "super" = some (.type "super")) (hlim : s.heap.NoLimit) (hx : s.heap.get? e = some (excO C t0)) (hKe : K.lookup e = none) (hroom : A.depth < recursionLimit)
    (hq : ∀ h' tk t1, InitE0 s.heap h' e C t1 → R (.ok (.ret .none)) { s with heap := h', toks := tk }) :
    codeAny (model P w) A (.call (.ref fI) ⟨[.ref e], []⟩) R s := by
  obtain ⟨qual, names, oc, od, doc, pm, an, cda, cc, ct, osl, p1, a0, a1, a2, a4, a5, ccl, cl, cdd, cld, vs, ccs, csl, file, tf, ho, hcd, hcda, hvs, hfile, hcell, hks, hkc, hksf, hnc, htop, hceq, hbd⟩ := T.fn
  obtain ⟨nm, q, N, bs, bm, sn, sub, ab, col, dd, k0, k1, k2, k3, k5, hC, hbm⟩ := T.cls
  have hcl : clsIn K C = some { name := nm, bases := bs, mro := .ref C :: bm, ns := N, qualname := q, hasDict := true, slotNames := sn, subclasses := sub, abstract := ab, collection := col, hasDel := false } := by unfold clsIn; rw [hC] <;> rfl
  refine ks_codeAny_call_defAt (fd := ksFn "__init__" qual (eA0 p1) (eB0 a0 a1 a2 a4 a5) (eS names) .none .none doc pm an (.ref cda) ct cc) (body := eB0 a0 a1 a2 a4 a5) (binds := [("self", .ref e)]) hroom (X _ _ ho) rfl hlim (codeRec_of X hcd) rfl ?_ hnc ?_ (fun h₁ hn k => ?_) rfl rfl rfl
  · exact hbd _ _
  · intro y hy
    simp only [List.mem_cons, List.not_mem_nil, or_false] at hy
    rcases hy with rfl
    exact hksf
  have X₁ : K.In h₁ := X.keeps k
  have hx₁ := k _ _ hx
  have hCe : e ≠ C := ks_ne (ox := excO C t0) (odx := none) X ⟨hx, rfl, rfl, trivial⟩ hcl
  have hself : (fun y => ([("self", Value.ref e)] : List (Str × Value)).reverse.lookup y) "self" = some (.ref e) := by
    show List.lookup ("self" : Str) [("self", Value.ref e)] = _
    simp only [List.lookup, beq_self_eq_true]
  have hI : ∀ h', (∀ b o, h₁.get? b = some o → h'.get? b = some o) → Looks (model P w) h' (isInstance (.ref e) (.type "ValueError")) true := fun h' k' =>
    (InstAt.type (od := none) (ox := excO C t0) ⟨k' _ _ hx₁, rfl, rfl, trivial⟩).andThen (looks_subIn (X₁.keeps k') T.vB)
  obtain ⟨oD, hD1, hD2⟩ : ∃ oD, h₁.get? C = some oD ∧ oD.data = .cls _ := ⟨_, X₁ _ _ hC, rfl⟩
  have hsup := T.sup
  unfold ks_superIn at hsup
  rw [hcl] at hsup
  obtain ⟨sh, sg, sd, st, sos⟩ := s
  obtain ⟨pl, hpl⟩ := hceq sh.objs.size
  refine ks_wpAt_execs_cons (ks_wpAt_Expr_any (ks_wpAt_MethodCall (pl := pl) ?_ hpl))
  refine ks_wpAt_super_base (env := ksEnv qual (eS names) _ fI (.ref cda) cc) hks hkc rfl rfl (X₁ _ _ ho) rfl rfl rfl (X₁ _ _ hcda) rfl hvs hfile htop ?_
  refine ks_loadName_global rfl hks (loadGlobal_builtin (env := ksEnv qual (eS names) _ fI (.ref cda) cc) (G.keeps k) T.noS (Bt.keeps k) hb ⟨rfl, ?_⟩)
  refine wpAny_loadName_free rfl hkc rfl ⟨_, X₁ _ _ hcell, rfl⟩ ?_
  refine wpAny_loadName_local rfl hksf hn hself ?_
  refine ks_wpAny_isType_cls hD1 hD2 ⟨rfl, ?_⟩
  refine ks_wpAny_call_super hD1 hD2 hx₁ rfl (fun c z => nomatch z) (looks_mroIn X₁ T.mr) (fun h₂ hso k₂ => ?_)
  have X₂ : K.In h₂ := X₁.keeps k₂
  refine kxs_getMethod kxs_ValueError hso (looks_opaque X₂ T.noT) (l₀ := .ref C :: bm) (fun A Q E s kk q => wpAny_bind ((looks_clsIn X₂ hcl) A _ E s kk (wpAny_pure q))) rfl X₂ hsup (hI h₂ k₂) hCe rfl ?_
  have k₃ : ∀ b o, h₁.get? b = some o → (h₂.push (kxs_mw "ValueError.__init__" e)).get? b = some o := fun b o z => Heap.get?_push_of_some _ (k₂ b o z)
  have hu : (h₂.push (kxs_mw "ValueError.__init__" e)).get? h₂.objs.size = some (kxs_mw "ValueError.__init__" e) := Heap.get?_push_at rfl rfl
  show wpAny _ _ (callWith a4 (.ref h₂.objs.size) [] (backTo a4 (starEach [] (ksEnv qual (eS names) sh.objs.size fI (.ref cda) cc))) []) _ _ _
  refine kxs_callWith (i := "ValueError.__init__") (x := e) rfl (evalArgs_empty ?_)
  refine ⟨hu, ?_⟩
  refine wpAny_call (codeAny_of_tree ?_)
  show wpAny _ _ (callAny (.ref h₂.objs.size) ⟨[], []⟩) _ _ _
  simp only [callAny]
  refine wpAny_bind (wpAny_load hu ?_)
  simp only [kxs_mw, show (Value.type "method-wrapper" == Value.type "method" || Value.type "method-wrapper" == Value.type "builtin_function_or_method" || Value.type "method-wrapper" == Value.type "method-wrapper") = true by decide, if_true]
  refine KFB.if_so (by decide) ?_
  refine wpAny_bind (check_bound_init F.excBase_ValueError.toExcCallFacts (k₃ _ _ (X₁ _ _ hC)) (k₃ _ _ hx₁) rfl ?_)
  refine wpAny_bind (wpAny_pure (wpAny_pure ?_))
  refine ⟨plainId_quiet F.excBase_ValueError.init.plain _, codeAny_builtin F.excBase_ValueError.initEntry ?_⟩
  refine exc_init_tree (cls := .ref C) (t0 := t0) (dv := none) (c2 := .none) (c3 := .none) (b4 := .bool false) (k₃ _ _ hx₁) (by rw [sizeLine_eq]; exact (by decide : 0 ≤ 16777216)) fun h₄ k₄ e₄ t₄ => ?_
  have k₅ : ∀ b o, b ≠ e → h₁.get? b = some o → h₄.get? b = some o := fun b o hb z => k₄ b o hb (k₃ b o z)
  show PySem.wpAt _ _ _ (execs _ _) _ _ _
  exact wpAt_of_wpAny (wpAny_execs_nil (hq h₄ _ _ ⟨fun b o hb z => k₅ b o hb (k b o z), e₄⟩))
structure ErrMade0 (h h' : Heap) (e C : Addr) : Prop where
  keep : ∀ b o, h.get? b = some o → h'.get? b = some o
  new : h.objs.size ≤ e
  obj : ∃ oe vs, h'.get? e = some oe ∧ oe.cls = .ref C ∧ oe.dict = none ∧ oe.data = .fields vs ∧ vs[1]? = some .none
theorem err_made0 (T : ErrC0 P K mg x C fI) (X : K.In s.heap) (G : s.heap.Ns mainGlobals mg) (Bt : s.heap.Ns builtinsNs mb) (hb : mb "super" = some (.type "super")) (hlim : s.heap.NoLimit) (hroom : A.depth + 1 < recursionLimit)
    (hq : ∀ h' tk e, ErrMade0 s.heap h' e C → R (.ok (.ret (.ref e))) { s with heap := h', toks := tk }) :
    codeAny (model P w) A (.call (.ref C) ⟨[], []⟩) R s := by
  obtain ⟨nm, q, N, bs, bm, sn, sub, ab, col, dd, k0, k1, k2, k3, k5, hC, hbm⟩ := T.cls
  obtain ⟨hp, g, dr, tk, os⟩ := s
  have k : ∀ b o, hp.get? b = some o → ((hp.push (kdv_tup [])).push (excO C hp.objs.size)).get? b = some o := fun b o e => Heap.get?_push_of_some _ (Heap.get?_push_of_some _ e)
  have hget : ((hp.push (kdv_tup [])).push (excO C hp.objs.size)).get? (hp.objs.size + 1) = some (excO C hp.objs.size) := by heap_get
  have hnx : K.lookup (hp.objs.size + 1) = none := by
    cases e : K.lookup (hp.objs.size + 1) with
    | none => rfl
    | some o =>
      have z : hp.get? (hp.objs.size + 1) = some o := X _ _ e
      exact absurd (Nat.lt_of_succ_lt (Heap.lt_size z)) (Nat.lt_irrefl _)
  refine call_own F.excBase_ValueError (fun X => refsVE_contains X bm hbm) (X _ _ hC) (looks_findIn X T.iC) (fun self => bind_fn X self T.tC) (by rw [sizeLine_eq]; exact (by decide : 0 ≤ 16777216)) ?_
  refine err_init0 (s := ⟨(hp.push (kdv_tup [])).push (excO C hp.objs.size), g, dr, tk, os⟩) T (X.keeps k) (G.keeps k) (Bt.keeps k) hb (hlim.keeps k) hget hnx ?_ fun h' tk' t1 ⟨k', hx⟩ => ?_
  · show A.depth + 1 < recursionLimit
    exact hroom
  · have old : ∀ b o, hp.get? b = some o → h'.get? b = some o := fun b o e => k' b o (Nat.ne_of_lt (Nat.lt_succ_of_lt (Heap.lt_size e))) (k b o e)
    exact ⟨rfl, hq h' tk' (hp.objs.size + 1) ⟨old, Nat.le_succ _, ⟨_, _, hx, rfl, rfl, rfl, rfl⟩⟩⟩
end
end Hn
namespace Hn
open PySem PySem.Spec PyProof.Rows L2
section
variable {X : Cx} {C fI : Addr} {x : Str}
def tMkE0 (C : Addr) : L2.St → Hp → XK → Prop := fun σ H Q => Q (.ref C) none H
theorem pmk_err0 {p pos : Pos} {k : Nat} (T : ErrC0 X.prog X.K X.mg x C fI) (hr : Room k X.A) (hg : Gl X x)
    (hxd : (x == ("__debug__" : Str)) = false := by decide) :
    PMk X (.Call (.Name x p) [] [] pos) (tMkE0 C) := by
  intro pins s σ H Q I h
  refine wpAny_Call_Name_kw (ld_glob I hg T.gC ?_ hxd)
  refine PySem.W.callWith_K0 I.kIn T.kC ?_
  show wpAny _ _ (call (.ref C) []) _ _ _
  have hlim := I.nolimit
  obtain ⟨mb, b1, b2⟩ := I.mod.blt
  have G1 := I.mod.glob.keeps I.bk
  have B1 := b1.keeps I.bk
  have hb : mb "super" = some (.type "super") := (b2 "super" (by decide)).trans rfl
  obtain ⟨hp, g, dr, tk, os⟩ := s
  refine wpAny_call (err_made0 T I.kIn G1 B1 hb hlim (by have := hr.dp; omega) fun h' tk' e M => ?_)
  show MkP X pins σ Q (.ref e) ⟨h', g, dr, tk', os⟩
  obtain ⟨oe, fv, hoe, hc, hd, hdat, h1⟩ := M.obj
  obtain ⟨G', g1, g2⟩ := restrict h' fun b => decide (b ≠ e)
  have gk : ∀ b, b ≠ e → G'.get? b = h'.get? b := fun b hb => g1 b (decide_eq_true hb)
  have ge : G'.get? e = none := g2 e (by simp)
  have old : ∀ b o, hp.get? b = some o → G'.get? b = some o := fun b o q => (gk b (Nat.ne_of_lt (Nat.lt_of_lt_of_le (Heap.lt_size q) M.new))).trans (M.keep b o q)
  have J : L2.Inv X pins σ H ⟨G', g, dr, tk', os⟩ := I.kept (t' := tk') old
  refine ⟨e, oe, fv, ⟨G', g, dr, tk', os⟩, _, .ref C, none, rfl, J, fun b o q => ?_, ge, hoe, ⟨hc, hd⟩, hdat, h1, ?_, rfl, I.bare, raises_own T.exC T.tyC, h⟩
  · by_cases hb : b = e
    · have q' : G'.get? b = some o := q
      rw [hb, ge] at q'; cases q'
    · exact (gk b hb).symm.trans q
  · exact I.hok.fresh M.new
def tRaiseE0 (C : Addr) (W : WX) : TS := fun _ σ H => tMkE0 C σ H fun cls d H' => W cls d σ H'
theorem ps_raiseE0 {W : WX} {p pos pos2 : Pos} {k : Nat} (hc : X.calm = true) (T : ErrC0 X.prog X.K X.mg x C fI) (hr : Room k X.A) (tk : Takes X W) (hg : Gl X x)
    (hxd : (x == ("__debug__" : Str)) = false := by decide) :
    PS X (.Raise (some (.Call (.Name x p) [] [] pos)) none pos2) (tRaiseE0 C W) := ps_raise hc tk (pmk_err0 T hr hg hxd)
end
end Hn
namespace Wx
open PySem PySem.Spec PyProof.Rows L2 Evl Hn
variable [TabC]
def wRaise0 (EX : List PV → En → Fs → Prop) (n : En) : WS := fun _ ρ => EX ρ n []
section
variable {K : PySem.W.Frag} {d : Cn → Addr} {ea : En → Option Addr} {R : RR} {ts tx : List Tag} {bt ct : List Tag} {W : WX} {EX : List PV → En → Fs → Prop}
theorem simS_raise0 {n : En} {C : Addr} (hn : ea n = some C) (c : cv ts tx = true) (nx : noX tx = true) : @SimS _ (xcOf K d ea W EX tx) K d R bt ct ts (tRaiseE0 C W) (wRaise0 EX n) ts := fun H0 F0 F H σ ρ D D' E hw n' r b c' =>
  xc_goes E c nx hn (.inl ⟨rfl, rfl⟩) hw
end
end Wx
namespace Wx
open PySem PySem.Spec PyProof.Rows L2 Evl Hn RZ
variable [TabC]
def Hs.es (X : Hs) : List (Ed Stp) := X.rows.map X.ed
def Hs.x0 (X : Hs) (t : Stp4) : Int := match t.1 with
  | .need => t.2 - wd X.s t.2 + 1
  | .room => t.2 + 1
  | .keep => t.2
  | .door => t.2 + 1
theorem ed_mk {X : Hs} (g : X.ok) {t : Stp4} (ht : X.st t) : X.ed t = mkE X.s.length (X.x0 t) (X.l t) (X.v t) (some (t.1.s, t.2)) := by
  obtain ⟨w, h⟩ := t
  obtain ⟨h0, h1, h2⟩ := ht
  have hn := g.cs.ne
  have hm : h % X.n = h := Int.emod_eq_of_lt h0 h1
  have key : ∀ (f l x len v : Int) (s : Stp), f = x % X.n → l = (x + len) % X.n → (⟨f.toNat, l.toNat, (f + len) / X.n, v, s⟩ : Ed Stp) = mkE X.s.length x len v s := fun f l x len v s e1 e2 => by
    unfold mkE
    rw [mdN_int hn]
    subst e1 e2
    rfl
  unfold Hs.ed
  cases w with
  | need =>
    refine key _ _ _ _ _ _ rfl ?_
    show ((h - wd X.s h + 1) % X.n + wd X.s h) % X.n = _
    rw [Int.emod_add_emod]
    rfl
  | room =>
    refine key _ _ _ _ _ _ (b_need X h) ?_
    show (h - wd X.s h + 1) % X.n = (h + 1 + -wd X.s h) % X.n
    congr 1
    omega
  | keep =>
    refine key _ _ _ _ _ _ hm.symm rfl
  | door =>
    refine key _ _ _ _ _ _ rfl ?_
    show h = (h + 1 + -1) % X.n
    rw [show h + 1 + -1 = h from by omega, hm]
theorem es_of {X : Hs} {e : Ed Stp} : e ∈ X.es ↔ ∃ t, X.st t ∧ e = X.ed t := by
  unfold Hs.es
  rw [List.mem_map]
  constructor
  · rintro ⟨t, ht, rfl⟩
    exact ⟨t, (rows_mem t).mp ht, rfl⟩
  · rintro ⟨t, ht, rfl⟩
    exact ⟨t, (rows_mem t).mpr ht, rfl⟩
def Hs.Kp (X : Hs) (P : Int) (A : Int → Int) : Prop := ∀ t, X.st t → X.v t ≤ ext X.s.length P A (X.x0 t + X.l t) - ext X.s.length P A (X.x0 t)
def Hs.Pt (X : Hs) (pa pb : Int) (Y : Nat → Int) : Prop := ∀ e ∈ X.es, Y e.f + gn pa pb e ≤ Y e.l
def Hs.Can (X : Hs) (P : Int) : Prop := ∃ Y, X.Pt P 1 Y
theorem Hs.Kp.mono {X : Hs} (g : X.ok) {P : Int} {A : Int → Int} (h : X.Kp P A) (h0 : A 0 = 0) (hP : A X.n = P) : Hn.mono X.s.length A := fun j hj => by
  have k : X.st (.keep, (j : Int)) := st_keep _ (by omega) (by show (j : Int) < (X.s.length : Int); omega)
  have a := h _ k
  have b : X.v (.keep, (j : Int)) = cyc X.ks (j : Int) := rfl
  have c : 0 ≤ cyc X.ks (j : Int) := g.ck _ (cyL_mem (d := (0 : Int)) (by rw [g.lk]; exact g.cs.ne) _)
  have d := ext_step g.cs.ne h0 hP (j : Int)
  have e : cyc (byS X.s.length A) (j : Int) = A ((j : Int) + 1) - A (j : Int) := by
    unfold byS
    rw [cyc_rowOf _ g.cs.ne, Int.emod_eq_of_lt (by omega) (by omega)]
  have f : ext X.s.length P A (X.x0 (.keep, (j : Int)) + X.l (.keep, (j : Int))) = ext X.s.length P A ((j : Int) + 1) := rfl
  have f2 : ext X.s.length P A (X.x0 (.keep, (j : Int))) = ext X.s.length P A (j : Int) := rfl
  rw [f, f2] at a
  omega
structure Hs.Keep (X : Hs) (bs : List Int) : Prop where
  len : bs.length = X.s.length
  need : ∀ h, 0 ≤ h → h < X.n → cyc X.ns h ≤ thF X.s.length X.s (cyc bs) h
  room : ∀ h, 0 ≤ h → h < X.n → ∀ r, cyo X.rs h = some r → thF X.s.length X.s (cyc bs) h ≤ r
  keep : ∀ h, 0 ≤ h → h < X.n → cyc X.ks h ≤ cyc bs h
  door : ∀ h, 0 ≤ h → h < X.n → ∀ r, cyo X.ds h = some r → cyc bs h ≤ r
theorem keep_goodN {X : Hs} (g : X.ok) {bs : List Int} (h : X.Keep bs) : GoodN bs := by
  refine ⟨by rw [h.len]; exact g.cs.ne, by rw [h.len]; exact g.cs.le, fun i => ?_⟩
  have hb := mod_bd g.cs.ne i
  have a := h.keep (i % X.n) hb.1 hb.2
  have c : 0 ≤ cyc X.ks (i % X.n) := g.ck _ (cyL_mem (d := (0 : Int)) (by rw [g.lk]; exact g.cs.ne) _)
  have e : cyc bs (i % X.n) = cyc bs i := by
    unfold cyc
    rw [h.len]
    show bs.getD (i % X.n % X.n).toNat 0 = bs.getD (i % X.n).toNat 0
    rw [Int.emod_emod_of_dvd _ (Int.dvd_refl _)]
  omega
theorem val_wo {X : Hs} : ∀ ts : List Stp4, wo (ts.map X.ed) = X.val ts
  | [] => rfl
  | t :: ts => by
    have := val_wo (X := X) ts
    unfold wo Hs.val at *
    rw [List.map_cons, List.map_cons, List.sum_cons, List.map_cons, List.sum_cons, this]
    rfl
theorem ab_bd {X : Hs} (g : X.ok) {t : Stp4} (ht : X.st t) : 0 ≤ X.a t ∧ X.a t < X.n ∧ 0 ≤ X.b t ∧ X.b t < X.n := by
  have f := fst_bd g (w := t.1) ht.1 ht.2.1
  have m : 0 ≤ (X.fst t.1 t.2 + X.len t.1 t.2) % X.n ∧ (X.fst t.1 t.2 + X.len t.1 t.2) % X.n < X.n := mod_bd g.cs.ne _
  unfold Hs.a Hs.b
  split <;> exact ⟨by omega, by omega, by omega, by omega⟩
theorem ed_f {X : Hs} (g : X.ok) {t : Stp4} (ht : X.st t) : ((X.ed t).f : Int) = X.a t ∧ ((X.ed t).l : Int) = X.b t := by
  have := ab_bd g ht
  exact ⟨Int.toNat_of_nonneg this.1, Int.toNat_of_nonneg this.2.2.1⟩
theorem walk_len {X : Hs} (g : X.ok) : ∀ {ts : List Stp4} {a b : Nat}, (∀ t ∈ ts, X.st t) → Wk a (ts.map X.ed) b → (a : Int) + (ts.map X.l).sum = b + X.n * tn (ts.map X.ed)
  | [], a, b, _, h => by
    have h : a = b := h
    subst h
    show (a : Int) + 0 = a + X.n * 0
    rw [Int.mul_zero]
  | t :: ts, a, b, hs, h => by
    have ht := hs t List.mem_cons_self
    have ih := walk_len g (fun u hu => hs u (List.mem_cons_of_mem _ hu)) h.2
    have q := mkE_len g.cs.ne (X.x0 t) (X.l t) (X.v t) (some (t.1.s, t.2))
    rw [← ed_mk g ht, show (X.ed t).f = a from h.1] at q
    have e : tn ((t :: ts).map X.ed) = (X.ed t).t + tn (ts.map X.ed) := by
      unfold tn
      rw [List.map_cons, List.map_cons, List.sum_cons]
    rw [e, List.map_cons, List.sum_cons, Int.mul_add]
    have hN : X.n = (X.s.length : Int) := rfl
    rw [← hN] at q
    omega
theorem trn_tn {X : Hs} (g : X.ok) {ts : List Stp4} {a : Nat} (hs : ∀ t ∈ ts, X.st t) (h : Wk a (ts.map X.ed) a) : X.trn ts = tn (ts.map X.ed) := by
  have := walk_len g hs h
  unfold Hs.trn
  rw [show (ts.map X.l).sum = X.n * tn (ts.map X.ed) from by omega]
  exact Int.mul_ediv_cancel_left _ (by have := g.pos; omega)
theorem wk_run {X : Hs} (g : X.ok) : ∀ {ts : List Stp4} {a b : Nat}, (∀ t ∈ ts, X.st t) → (Wk a (ts.map X.ed) b ↔ X.run a ts b)
  | [], a, b, _ => by
    show a = b ↔ (a : Int) = b
    omega
  | t :: ts, a, b, hs => by
    have ht := hs t List.mem_cons_self
    have q := ed_f g ht
    have ih := wk_run g (ts := ts) (a := (X.ed t).l) (b := b) (fun u hu => hs u (List.mem_cons_of_mem _ hu))
    rw [q.2] at ih
    show ((X.ed t).f = a ∧ Wk (X.ed t).l (ts.map X.ed) b) ↔ (X.a t = a ∧ X.run (X.b t) ts b)
    rw [ih]
    exact ⟨fun ⟨h1, h2⟩ => ⟨by omega, h2⟩, fun ⟨h1, h2⟩ => ⟨by omega, h2⟩⟩
structure Hs.Way (X : Hs) (ts : List Stp4) : Prop where
  st : ∀ t ∈ ts, X.st t
  ne : 1 ≤ ts.length
  jn : X.joins ts = true
theorem joins_run {X : Hs} {ts : List Stp4} (h1 : 1 ≤ ts.length) (h : X.joins ts = true) : X.run (X.a (cyS ts 0)) ts (X.a (cyS ts 0)) := by
  have J : X.Joins ts := of_decide_eq_true h
  have key : ∀ (k : Nat), k ≤ ts.length → X.run (X.a (cyS ts ((ts.length - k : Nat) : Int))) (ts.drop (ts.length - k)) (X.a (cyS ts 0)) := by
    intro k
    induction k with
    | zero =>
      intro _
      rw [Nat.sub_zero, List.drop_length]
      show X.a (cyS ts (ts.length : Int)) = X.a (cyS ts 0)
      have := cyL_add (d := ((.keep, 0) : Stp4)) (xs := ts) (i := 0)
      rw [Int.zero_add] at this
      unfold cyS
      rw [this]
    | succ k ih =>
      intro hk
      have hi : ts.length - (k + 1) < ts.length := by omega
      rw [List.drop_eq_getElem_cons hi]
      have e1 : ts[ts.length - (k + 1)] = cyS ts ((ts.length - (k + 1) : Nat) : Int) := (cyL_get hi).symm
      have e2 : ts.length - (k + 1) + 1 = ts.length - k := by omega
      rw [e1, e2]
      refine ⟨rfl, ?_⟩
      rw [J, show (((ts.length - (k + 1) : Nat) : Int) + 1) = ((ts.length - k : Nat) : Int) from by omega]
      exact ih (by omega)
  have := key ts.length (Nat.le_refl _)
  rw [Nat.sub_self] at this
  exact this
theorem Hs.Way.wk {X : Hs} (g : X.ok) {ts : List Stp4} (W : X.Way ts) : ∃ a : Nat, Wk a (ts.map X.ed) a := by
  have r := joins_run W.ne W.jn
  have m : X.st (cyS ts 0) := W.st _ (cyL_mem W.ne 0)
  have b := ab_bd g m
  refine ⟨(X.a (cyS ts 0)).toNat, (wk_run g W.st).mpr ?_⟩
  rw [Int.toNat_of_nonneg b.1]
  exact r
theorem Hs.Way.trn {X : Hs} (g : X.ok) {ts : List Stp4} (W : X.Way ts) : X.trn ts = tn (ts.map X.ed) := let ⟨_, h⟩ := W.wk g; trn_tn g W.st h
theorem Hs.Way.pt {X : Hs} (g : X.ok) {ts : List Stp4} (W : X.Way ts) {pa pb : Int} {Y : Nat → Int} (h : X.Pt pa pb Y) : pb * X.val ts ≤ pa * X.trn ts := by
  obtain ⟨a, w⟩ := W.wk g
  have q := pot_sum (pa := pa) (pb := pb) (X := Y) w fun e he => by
    obtain ⟨t, ht, rfl⟩ := List.mem_map.mp he
    exact h _ (es_of.mpr ⟨t, W.st t ht, rfl⟩)
  rw [gn_sum, val_wo, ← W.trn g] at q
  omega
theorem Hs.Way.can {X : Hs} (g : X.ok) {ts : List Stp4} (W : X.Way ts) {P : Int} (h : X.Can P) : X.val ts ≤ P * X.trn ts := by
  obtain ⟨Y, h⟩ := h
  have := W.pt g h
  omega
structure Hs.Lw (X : Hs) (pa pb : Int) (w : List (Ed Stp)) (ts : List Stp4) : Prop where
  e : w = ts.map X.ed
  way : X.Way ts
  len : ts.length ≤ X.s.length
  tn : tn w = X.trn ts
  wo : wo w = X.val ts
  gain : pa * X.trn ts < pb * X.val ts
def Hs.all (X : Hs) : List Stp4 := [Wd.need, .room, .keep, .door].flatMap fun w => (List.range X.s.length).map fun (i : Nat) => (w, (i : Int))
def Hs.stB (X : Hs) (t : Stp4) : Bool := decide (0 ≤ t.2) && decide (t.2 < X.n) && (X.lim t.1 t.2).isSome
structure Hs.Lst (X : Hs) (z : Int) : Prop where
  can : X.Can z
  le : ∀ P, X.Can P → z ≤ P
inductive Hs.Stk (X : Hs) : List (List Stp4) → Prop
  | one {w : List Stp4} : X.Way w → w.length ≤ X.s.length → X.trn w = 0 → 0 < X.val w → Stk X [w]
  | two {a b : List Stp4} (p : Int) : X.Way a → a.length ≤ X.s.length → X.Way b → b.length ≤ X.s.length → 0 < X.trn a → X.trn b < 0 → (p - 1) * X.trn a < X.val a → p * X.trn b < X.val b → Stk X [a, b]
theorem Hs.Stk.no {X : Hs} (g : X.ok) {ws : List (List Stp4)} (h : X.Stk ws) {P : Int} : ¬ X.Can P := fun c => by
  cases h with
  | @one w W _ t v =>
    have := W.can g c
    rw [t, Int.mul_zero] at this
    omega
  | @two a b p A _ B _ ta tb va vb =>
    have h1 := A.can g c
    have h2 := B.can g c
    rcases Int.lt_or_le P p with q | q
    · have : P * X.trn a ≤ (p - 1) * X.trn a := Int.mul_le_mul_of_nonneg_right (by omega : P ≤ p - 1) (Int.le_of_lt ta)
      omega
    · have := Int.mul_le_mul_of_nonpos_right q (Int.le_of_lt tb)
      omega
structure Hs.Ls (X : Hs) (B p : Int) (low : List Stp4) : Prop where
  p0 : 0 ≤ p
  way : X.Way low
  len : low.length ≤ X.s.length
  tn : 0 < X.trn low
  lo : p ≤ upI (X.val low) (X.trn low)
  hi : p ≤ B
end Wx
namespace Wx
open PySem PySem.Spec PyProof.Rows L2 Evl Hn RZ
variable [TabC]
section
variable {wg : WG} {wt : WT} {we : WE} {ρ : List PV} {P : List PV → Prop} {α : Type}
end
structure RC (ks : List Int) (n : Nat) (R : Int → Int → Prop) : Prop where
  len : ks.length = n
  ok : ∀ i : Nat, i < n → R (i : Int) (cyc ks (i : Int))
structure RO (rs : List (Option Int)) (n : Nat) (R : Int → Int → Prop) : Prop where
  len : rs.length = n
  ok : ∀ i : Nat, i < n → ∀ z, cyo rs (i : Int) = some z → R (i : Int) z
theorem cyc_set {ks : List Int} {i j : Nat} {z : Int} (hi : i < ks.length) (hj : j < ks.length) : cyc (ks.set i z) (j : Int) = if i = j then z else cyc ks (j : Int) := by
  rw [cyc_at (by rw [List.length_set]; exact hj), cyc_at hj, List.getD_eq_getElem?_getD, List.getD_eq_getElem?_getD]
  split
  · next e =>
    subst e
    rw [List.getElem?_set_self hi]
    rfl
  · next e => rw [List.getElem?_set_ne e]
theorem cyo_at {rs : List (Option Int)} {j : Nat} (h : j < rs.length) : cyo rs (j : Int) = rs.getD j none := by
  unfold cyo
  rw [Int.emod_eq_of_lt (by omega) (by omega), Int.toNat_natCast]
theorem cyo_set {rs : List (Option Int)} {i j : Nat} {z : Option Int} (hi : i < rs.length) (hj : j < rs.length) : cyo (rs.set i z) (j : Int) = if i = j then z else cyo rs (j : Int) := by
  rw [cyo_at (by rw [List.length_set]; exact hj), cyo_at hj, List.getD_eq_getElem?_getD, List.getD_eq_getElem?_getD]
  split
  · next e =>
    subst e
    rw [List.getElem?_set_self hi]
    rfl
  · next e => rw [List.getElem?_set_ne e]
theorem RC.set {ks : List Int} {n : Nat} {R : Int → Int → Prop} {i : Nat} {z : Int} (h : RC ks n R) (hi : i < n) (r : R (i : Int) z) : RC (ks.set i z) n R :=
  ⟨by rw [List.length_set]; exact h.len, fun j hj => by
    rw [cyc_set (by rw [h.len]; exact hi) (by rw [h.len]; exact hj)]
    split
    · next e => subst e; exact r
    · exact h.ok j hj⟩
theorem RO.set {rs : List (Option Int)} {n : Nat} {R : Int → Int → Prop} {i : Nat} {z : Int} (h : RO rs n R) (hi : i < n) (r : R (i : Int) z) : RO (rs.set i (some z)) n R :=
  ⟨by rw [List.length_set]; exact h.len, fun j hj y hy => by
    rw [cyo_set (by rw [h.len]; exact hi) (by rw [h.len]; exact hj)] at hy
    split at hy
    · next e => subst e; cases hy; exact r
    · exact h.ok j hj y hy⟩
theorem RC.zero (n : Nat) {R : Int → Int → Prop} (h : ∀ i : Nat, i < n → R (i : Int) 0) : RC (List.replicate n 0) n R :=
  ⟨List.length_replicate, fun i hi => by
    rw [cyc_at (by rw [List.length_replicate]; exact hi), List.getD_eq_getElem?_getD, List.getElem?_replicate, if_pos hi]
    exact h i hi⟩
theorem RO.non (n : Nat) {R : Int → Int → Prop} : RO (List.replicate n none) n R :=
  ⟨List.length_replicate, fun i hi z hz => by
    rw [cyo_at (by rw [List.length_replicate]; exact hi), List.getD_eq_getElem?_getD, List.getElem?_replicate, if_pos hi] at hz
    cases hz⟩
theorem RC.at {ks : List Int} {n : Nat} {R : Int → Int → Prop} (h : RC ks n R) {x : Int} (h0 : 0 ≤ x) (h1 : x < (n : Int)) : R x (cyc ks x) := by
  have := h.ok x.toNat (by omega)
  rw [Int.toNat_of_nonneg h0] at this
  exact this
theorem RO.at {rs : List (Option Int)} {n : Nat} {R : Int → Int → Prop} (h : RO rs n R) {x : Int} (h0 : 0 ≤ x) (h1 : x < (n : Int)) {z : Int} (hz : cyo rs x = some z) : R x z := by
  have := h.ok x.toNat (by omega) z
  rw [Int.toNat_of_nonneg h0] at this
  exact this hz
theorem RC.sm {ks : List Int} {n : Nat} {R : Int → Int → Prop} {b : Int} (h : RC ks n R) (hb : ∀ i : Nat, i < n → ∀ z, R (i : Int) z → 0 ≤ z ∧ z < b) : SmC ks n b :=
  ⟨h.len, fun z hz => by
    obtain ⟨i, hi, e⟩ := List.getElem_of_mem hz
    have := h.ok i (by rw [← h.len]; exact hi)
    rw [cyc_at hi, List.getD_eq_getElem?_getD, List.getElem?_eq_getElem hi, e] at this
    exact hb i (by rw [← h.len]; exact hi) z this⟩
theorem RO.sm {rs : List (Option Int)} {n : Nat} {R : Int → Int → Prop} {b : Int} (h : RO rs n R) (hb : ∀ i : Nat, i < n → ∀ z, R (i : Int) z → 0 ≤ z ∧ z < b) : SmO rs n b :=
  ⟨h.len, fun z hz y hy => by
    obtain ⟨i, hi, e⟩ := List.getElem_of_mem hz
    refine hb i (by rw [← h.len]; exact hi) y (h.ok i (by rw [← h.len]; exact hi) y ?_)
    rw [cyo_at hi, List.getD_eq_getElem?_getD, List.getElem?_eq_getElem hi, e]
    exact hy⟩
theorem sum_bd {b : Int} : ∀ {bs : List Int}, (∀ z ∈ bs, 0 ≤ z ∧ z < b) → 0 ≤ bs.sum ∧ bs.sum ≤ bs.length * b
  | [], _ => by simp
  | x :: l, h => by
    have a := h x List.mem_cons_self
    have c := sum_bd fun z hz => h z (List.mem_cons_of_mem _ hz)
    rw [List.sum_cons, List.length_cons, show ((l.length + 1 : Nat) : Int) * b = l.length * b + b from by rw [Int.natCast_add, Int.add_mul]; omega]
    omega
theorem SmC.sum {bs : List Int} {n : Nat} {b : Int} (h : SmC bs n b) : 0 ≤ bs.sum ∧ bs.sum ≤ n * b := by
  have := sum_bd h.ok
  rw [h.len] at this
  exact this
structure Hs.sB (X : Hs) (b : Int) : Prop where
  ns : SmC X.ns X.s.length b
  rs : SmO X.rs X.s.length b
  ks : SmC X.ks X.s.length b
  ds : SmO X.ds X.s.length b
theorem SmO.mono {rs : List (Option Int)} {n : Nat} {b c : Int} (h : SmO rs n b) (hb : b ≤ c) : SmO rs n c := ⟨h.len, fun z hz i hi => ⟨(h.ok z hz i hi).1, Int.lt_of_lt_of_le (h.ok z hz i hi).2 hb⟩⟩
theorem Hs.sB.mono {X : Hs} {b c : Int} (h : X.sB b) (hb : b ≤ c) : X.sB c := ⟨h.ns.mono hb, h.rs.mono hb, h.ks.mono hb, h.ds.mono hb⟩
theorem Hs.sB.sm {X : Hs} {b : Int} (h : X.sB b) (hb : b ≤ 10 ^ 32) : X.sm := ⟨h.ns.mono hb, h.rs.mono hb, h.ks.mono hb, h.ds.mono hb⟩
end Wx
namespace Wx
open PySem PySem.Spec PyProof.Rows L2 Evl Hn RZ
variable [TabC]
theorem cutP_take {xs : List PV} {k : Nat} : cutP xs none (some (k : Int)) = xs.take k := by
  unfold cutP
  rw [HT.sIx_none, HT.sIx_nat, List.drop_zero, Nat.sub_zero]
  rcases Nat.le_total k xs.length with h | h
  · rw [Nat.min_eq_left h]
  · rw [Nat.min_eq_right h, List.take_of_length_le (Nat.le_refl _), List.take_of_length_le h]
theorem cutP_drop {xs : List PV} {k : Nat} : cutP xs (some (k : Int)) none = xs.drop k := by
  unfold cutP
  rw [HT.sIx_none, HT.sIx_nat, List.take_of_length_le (by rw [List.length_drop]; exact Nat.le_refl _)]
  rcases Nat.le_total k xs.length with h | h
  · rw [Nat.min_eq_left h]
  · rw [Nat.min_eq_right h, List.drop_of_length_le (Nat.le_refl _), List.drop_of_length_le h]
def Hs.set (X : Hs) (w : Wd) (h : Nat) (z : Option Int) : Hs := match w with
  | .need => ⟨X.s, X.ns.set h (z.getD 0), X.rs, X.ks, X.ds⟩
  | .room => ⟨X.s, X.ns, X.rs.set h z, X.ks, X.ds⟩
  | .keep => ⟨X.s, X.ns, X.rs, X.ks.set h (z.getD 0), X.ds⟩
  | .door => ⟨X.s, X.ns, X.rs, X.ks, X.ds.set h z⟩
abbrev Hs.nd (X : Hs) (h : Nat) (z : Int) : Hs := X.set .need h (some z)
end Wx
namespace Wx
open PySem PySem.Spec PyProof.Rows L2 Evl Hn RZ
variable [TabC]
structure Hs.Rc (X : Hs) (pa pb : Int) (m : Nat) (R : Nat → Int) : Prop where
  pt : X.Pt pa pb R
  zero : R m = 0
  le : ∀ Y, X.Pt pa pb Y → ∀ v, v < X.s.length → R v ≤ Y v - Y m
  wk : ∀ v, v < X.s.length → ∃ w : List (Ed Stp), Wk m w v ∧ (∀ e ∈ w, e ∈ X.es) ∧ R v = (w.map (gn pa pb)).sum
def Hs.sp (X : Hs) (P : Int) (Y : Nat → Int) (m len : Int) : Int := ext X.s.length P (fun k => Y k.toNat) (m + len) - ext X.s.length P (fun k => Y k.toNat) m
structure Hs.Rg (X : Hs) (P m len a b : Int) : Prop where
  lo : ∀ Y, X.Pt P 1 Y → a ≤ X.sp P Y m len
  hi : ∀ Y, X.Pt P 1 Y → X.sp P Y m len ≤ b
  atl : ∃ Y, X.Pt P 1 Y ∧ X.sp P Y m len = a
  ath : ∃ Y, X.Pt P 1 Y ∧ X.sp P Y m len = b
theorem Hs.Rg.le {X : Hs} {P m len a b : Int} (h : X.Rg P m len a b) : a ≤ b := by
  obtain ⟨Y, y1, y2⟩ := h.atl
  have := h.hi Y y1
  omega
def Hs.at (X : Hs) (bs : List Int) (w : Wd) (h : Int) : Int := if w.kd = true then cyc bs h else thF X.s.length X.s (cyc bs) h
structure Hs.Rb (X : Hs) (P : Int) (w : Wd) (h a b : Int) : Prop where
  lo : ∀ bs, X.Keep bs → bs.sum = P → a ≤ X.at bs w h
  hi : ∀ bs, X.Keep bs → bs.sum = P → X.at bs w h ≤ b
  atl : ∃ bs, X.Keep bs ∧ bs.sum = P ∧ X.at bs w h = a
  ath : ∃ bs, X.Keep bs ∧ bs.sum = P ∧ X.at bs w h = b
end Wx
namespace Wx
open PySem PySem.Spec PyProof.Rows L2 Evl Hn RZ
variable [TabC]
mutual
def peq : PV → PV → Bool
  | .non, .non => true
  | .bl a, .bl b => a == b
  | .bl a, .int j => (if a then 1 else 0) == j
  | .int i, .bl b => i == (if b then 1 else 0)
  | .int i, .int j => decide (i = j)
  | .str x, .str y => x == y
  | .lst xs, .lst ys => peqs xs ys
  | .tup xs, .tup ys => peqs xs ys
  | _, _ => false
def peqs : List PV → List PV → Bool
  | [], [] => true
  | x :: xs, y :: ys => peq x y && peqs xs ys
  | _, _ => false
end
mutual
theorem eqv_peq : ∀ {x y : PV} {a b : PyData}, toD x = some a → toD y = some b → PyData.eqv a b = peq x y
  | .lst xs, y, a, b, ha, hb => by
    simp only [toD, Option.map_eq_some_iff] at ha
    obtain ⟨as, h1, rfl⟩ := ha
    cases y with
    | lst ys =>
      simp only [toD, Option.map_eq_some_iff] at hb
      obtain ⟨bs, h2, rfl⟩ := hb
      simp only [PyData.eqv, peq]
      exact eqvs_peqs h1 h2
    | tup ys =>
      simp only [toD, Option.map_eq_some_iff] at hb
      obtain ⟨bs, h2, rfl⟩ := hb
      rfl
    | _ => simp only [toD, Option.some.injEq, reduceCtorEq] at hb <;> (subst hb; rfl)
  | .tup xs, y, a, b, ha, hb => by
    simp only [toD, Option.map_eq_some_iff] at ha
    obtain ⟨as, h1, rfl⟩ := ha
    cases y with
    | tup ys =>
      simp only [toD, Option.map_eq_some_iff] at hb
      obtain ⟨bs, h2, rfl⟩ := hb
      simp only [PyData.eqv, peq]
      exact eqvs_peqs h1 h2
    | lst ys =>
      simp only [toD, Option.map_eq_some_iff] at hb
      obtain ⟨bs, h2, rfl⟩ := hb
      rfl
    | _ => simp only [toD, Option.some.injEq, reduceCtorEq] at hb <;> (subst hb; rfl)
  | .non, y, a, b, ha, hb => by
    simp only [toD, Option.some.injEq] at ha
    subst ha
    cases y <;> simp only [toD, Option.map_eq_some_iff, Option.some.injEq, reduceCtorEq] at hb <;> first | (subst hb; rfl) | (obtain ⟨bs, h2, rfl⟩ := hb; rfl)
  | .bl p, y, a, b, ha, hb => by
    simp only [toD, Option.some.injEq] at ha
    subst ha
    cases y <;> simp only [toD, Option.map_eq_some_iff, Option.some.injEq, reduceCtorEq] at hb <;> first | (subst hb; rfl) | (obtain ⟨bs, h2, rfl⟩ := hb; rfl)
  | .int p, y, a, b, ha, hb => by
    simp only [toD, Option.some.injEq] at ha
    subst ha
    cases y <;> simp only [toD, Option.map_eq_some_iff, Option.some.injEq, reduceCtorEq] at hb <;> first | (subst hb; rfl) | (obtain ⟨bs, h2, rfl⟩ := hb; rfl) | (subst hb; simp only [PyData.eqv, peq]; rw [Bool.eq_iff_iff, beq_iff_eq, decide_eq_true_iff])
  | .str p, y, a, b, ha, hb => by
    simp only [toD, Option.some.injEq] at ha
    subst ha
    cases y <;> simp only [toD, Option.map_eq_some_iff, Option.some.injEq, reduceCtorEq] at hb <;> first | (subst hb; rfl) | (obtain ⟨bs, h2, rfl⟩ := hb; rfl)
  | .ty _, _, _, _, ha, _ => by simp only [toD, reduceCtorEq] at ha
  | .cls _, _, _, _, ha, _ => by simp only [toD, reduceCtorEq] at ha
  | .ins _ _, _, _, _, ha, _ => by simp only [toD, reduceCtorEq] at ha
  | .bag, _, _, _, ha, _ => by simp only [toD, reduceCtorEq] at ha
  | .scr _, _, _, _, ha, _ => by simp only [toD, reduceCtorEq] at ha
  | .fnv _ _, _, _, _, ha, _ => by simp only [toD, reduceCtorEq] at ha
  | .dct _ _, _, _, _, ha, _ => by simp only [toD, reduceCtorEq] at ha
  | .idv _ _, _, _, _, ha, _ => by simp only [toD, reduceCtorEq] at ha
theorem eqvs_peqs : ∀ {xs ys : List PV} {as bs : List PyData}, toDs xs = some as → toDs ys = some bs → PyData.eqvAll as bs = peqs xs ys
  | [], [], as, bs, ha, hb => by
    simp only [toDs, Option.some.injEq] at ha hb
    subst ha hb
    rfl
  | [], y :: ys, as, bs, ha, hb => by
    simp only [toDs, Option.some.injEq] at ha hb
    subst ha
    split at hb
    · cases hb; rfl
    · cases hb
  | x :: xs, [], as, bs, ha, hb => by
    simp only [toDs, Option.some.injEq] at ha hb
    subst hb
    split at ha
    · cases ha; rfl
    · cases ha
  | x :: xs, y :: ys, as, bs, ha, hb => by
    simp only [toDs] at ha hb
    split at ha
    · next h1 h2 =>
      split at hb
      · next h3 h4 =>
        cases ha
        cases hb
        simp only [PyData.eqvAll, peqs]
        rw [eqv_peq h1 h3, eqvs_peqs h2 h4]
      · cases hb
    · cases ha
end
def Dt (x : PV) (k : Nat) : Prop := ∃ e, toD x = some e ∧ e.canLay0 = true ∧ e.depth ≤ k
theorem PvD.dt {x : PV} {w k : Nat} (h : PvD x w k) : Dt x k := let ⟨e, h1, _, h3, h4⟩ := h; ⟨e, h1, h3, h4⟩
theorem Dt.mono {x : PV} {k l : Nat} (h : Dt x k) (hk : k ≤ l) : Dt x l := let ⟨e, h1, h3, h4⟩ := h; ⟨e, h1, h3, Nat.le_trans h4 hk⟩
theorem Dt.shaped {x : PV} {k : Nat} (h : Dt x k) (hk : k ≤ 64) : ∃ e, toD x = some e ∧ SeqAt.shaped e = true := by
  obtain ⟨e, h1, h3, h4⟩ := h
  refine ⟨e, h1, ?_⟩
  unfold SeqAt.shaped
  rw [h3, decide_eq_true (by omega : e.depth ≤ 64)]
  rfl
theorem eq_dt {x y : PV} {k l : Nat} {P : PV → Prop} (hx : Dt x k) (hy : Dt y l) (p : P (.bl (peq x y))) (hk : k ≤ 64 := by decide) (hl : l ≤ 64 := by decide) : wEqD false x y P := by
  obtain ⟨a, h1, h2⟩ := hx.shaped hk
  obtain ⟨b, h3, h4⟩ := hy.shaped hl
  refine ⟨a, b, h1, h3, h2, h4, ?_⟩
  rw [if_neg Bool.false_ne_true, eqv_peq h1 h3]
  exact p
theorem ne_dt {x y : PV} {k l : Nat} {P : PV → Prop} (hx : Dt x k) (hy : Dt y l) (p : P (.bl (!peq x y))) (hk : k ≤ 64 := by decide) (hl : l ≤ 64 := by decide) : wEqD true x y P := by
  obtain ⟨a, h1, h2⟩ := hx.shaped hk
  obtain ⟨b, h3, h4⟩ := hy.shaped hl
  refine ⟨a, b, h1, h3, h2, h4, ?_⟩
  rw [if_pos rfl, eqv_peq h1 h3]
  exact p
mutual
theorem peq_self : ∀ x : PV, (∃ e, toD x = some e) → peq x x = true
  | .non, _ => rfl
  | .bl b, _ => by simp [peq]
  | .int i, _ => by simp [peq]
  | .str s, _ => by simp [peq]
  | .lst xs, ⟨e, h⟩ => by
    simp only [toD, Option.map_eq_some_iff] at h
    obtain ⟨es, h, _⟩ := h
    simp only [peq]
    exact peqs_self xs ⟨es, h⟩
  | .tup xs, ⟨e, h⟩ => by
    simp only [toD, Option.map_eq_some_iff] at h
    obtain ⟨es, h, _⟩ := h
    simp only [peq]
    exact peqs_self xs ⟨es, h⟩
  | .ty _, ⟨_, h⟩ => by simp only [toD, reduceCtorEq] at h
  | .cls _, ⟨_, h⟩ => by simp only [toD, reduceCtorEq] at h
  | .ins _ _, ⟨_, h⟩ => by simp only [toD, reduceCtorEq] at h
  | .bag, ⟨_, h⟩ => by simp only [toD, reduceCtorEq] at h
  | .scr _, ⟨_, h⟩ => by simp only [toD, reduceCtorEq] at h
  | .fnv _ _, ⟨_, h⟩ => by simp only [toD, reduceCtorEq] at h
  | .dct _ _, ⟨_, h⟩ => by simp only [toD, reduceCtorEq] at h
  | .idv _ _, ⟨_, h⟩ => by simp only [toD, reduceCtorEq] at h
theorem peqs_self : ∀ xs : List PV, (∃ e, toDs xs = some e) → peqs xs xs = true
  | [], _ => rfl
  | x :: xs, ⟨e, h⟩ => by
    simp only [toDs] at h
    split at h
    · next h1 h2 =>
      simp only [peqs]
      rw [peq_self x ⟨_, h1⟩, peqs_self xs ⟨_, h2⟩]
      rfl
    · cases h
end
theorem Dt.self {x : PV} {k : Nat} (h : Dt x k) : peq x x = true := let ⟨e, h1, _⟩ := h; peq_self x ⟨e, h1⟩
theorem ne_self {x : PV} {k : Nat} {P : PV → Prop} (h : Dt x k) (p : P (.bl false)) (hk : k ≤ 64 := by decide) : wEqD true x x P := ne_dt h h (by rw [h.self]; exact p) hk hk
theorem eq_self {x : PV} {k : Nat} {P : PV → Prop} (h : Dt x k) (p : P (.bl true)) (hk : k ≤ 64 := by decide) : wEqD false x x P := eq_dt h h (by rw [h.self]; exact p) hk hk
end Wx
namespace Wx
open PySem PySem.Spec PyProof.Rows L2 Evl Hn RZ
variable [TabC]
def Hs.Str (X : Hs) (w : Wd) (h z : Int) : Prop := ∀ l, X.lim w h = some l → if w.on = true then l ≤ z else z ≤ l
theorem at_eq {X : Hs} {bs : List Int} {v w : Wd} {h : Int} (e : v.kd = w.kd) : X.at bs v h = X.at bs w h := by
  unfold Hs.at
  rw [e]
theorem Hs.Rb.to {X : Hs} {P : Int} {v w : Wd} {h a b : Int} (R : X.Rb P v h a b) (e : v.kd = w.kd) : X.Rb P w h a b := by
  have q := fun bs => at_eq (X := X) (bs := bs) (h := h) e
  refine ⟨fun bs K s => ?_, fun bs K s => ?_, ?_, ?_⟩
  · rw [← q]; exact R.lo bs K s
  · rw [← q]; exact R.hi bs K s
  · obtain ⟨bs, K, s, m⟩ := R.atl
    exact ⟨bs, K, s, by rw [← q]; exact m⟩
  · obtain ⟨bs, K, s, m⟩ := R.ath
    exact ⟨bs, K, s, by rw [← q]; exact m⟩
theorem at_nn {X : Hs} (g : X.ok) {bs : List Int} (K : X.Keep bs) (w : Wd) (h : Int) : 0 ≤ X.at bs w h := by
  have q := keep_goodN g K
  unfold Hs.at
  split
  · exact q.nn h
  · exact th_nn q.nn h
theorem Hs.Rb.nn {X : Hs} (g : X.ok) {P : Int} {w : Wd} {h a b : Int} (R : X.Rb P w h a b) : 0 ≤ a ∧ a ≤ b := by
  obtain ⟨bs, K, s, m⟩ := R.atl
  have := at_nn g K w h
  have := R.hi bs K s
  omega
end Wx
namespace Wx
open PySem PySem.Spec PyProof.Rows L2 Evl Hn RZ
variable [TabC]
theorem hops_app (s : List Int) : ∀ (xs ys : List Int) (h : Int), hops s h (xs ++ ys) = hops s h xs + hops s (lastH h xs) ys
  | [], ys, h => by show hops s h ys = 0 + hops s h ys; omega
  | x :: xs, ys, h => by
    show stp s h x + hops s x (xs ++ ys) = stp s h x + hops s x xs + hops s (lastH x xs) ys
    rw [hops_app s xs ys x]
    omega
theorem sumD_app (d p q : List Int) : sumD d (p ++ q) = sumD d p + sumD d q := by
  unfold sumD
  rw [List.map_append, List.sum_append]
end Wx
namespace Wx
open PySem PySem.Spec PyProof.Rows L2 Evl Hn RZ
variable [TabC]
end Wx
namespace Wx
open PySem PySem.Spec PyProof.Rows L2 Evl Hn RZ
variable [TabC]
def Hs.abs (X : Hs) : Int := (X.rows.map fun t => ((X.v t).natAbs : Int)).sum
structure Hs.Lp (X : Hs) (pa pb : Int) : Prop where
  a0 : 0 ≤ pa
  b1 : 1 ≤ pb
  bn : pb ≤ X.n
  cp : Int.gcd pa pb = 1
  can : ∃ Y, X.Pt pa pb Y
  le : ∀ qa qb, 0 < qb → (∃ Y, X.Pt qa qb Y) → pa * qb ≤ qa * pb
  bd : pa ≤ X.abs * pb
inductive Hs.Nv (X : Hs) : List (List Stp4) → Prop
  | one {w : List Stp4} : X.Way w → w.length ≤ X.s.length → X.trn w = 0 → 0 < X.val w → Nv X [w]
  | two {a b : List Stp4} : X.Way a → a.length ≤ X.s.length → X.Way b → b.length ≤ X.s.length → 0 < X.trn a → X.trn b < 0 → X.val a * X.trn b < X.val b * X.trn a → Nv X [a, b]
theorem Hs.Nv.no {X : Hs} (g : X.ok) {ws : List (List Stp4)} (h : X.Nv ws) {pa pb : Int} (hb : 0 < pb) : ¬ ∃ Y, X.Pt pa pb Y := fun ⟨Y, c⟩ => by
  cases h with
  | @one w W _ t v =>
    have := W.pt g c
    rw [t, Int.mul_zero] at this
    have := Int.mul_pos hb v
    omega
  | @two a b A _ B _ ta tb v =>
    have h1 := A.pt g c
    have h2 := B.pt g c
    have k1 : pb * X.val a * (-X.trn b) ≤ pa * X.trn a * (-X.trn b) := Int.mul_le_mul_of_nonneg_right h1 (by omega)
    have k2 : pb * X.val b * X.trn a ≤ pa * X.trn b * X.trn a := Int.mul_le_mul_of_nonneg_right h2 (by omega)
    have k3 : pb * (X.val a * X.trn b) < pb * (X.val b * X.trn a) := Int.mul_lt_mul_of_pos_left v hb
    have e1 : pb * X.val a * (-X.trn b) = -(pb * (X.val a * X.trn b)) := by rw [Int.mul_neg, Int.mul_assoc]
    have e2 : pb * X.val b * X.trn a = pb * (X.val b * X.trn a) := by rw [Int.mul_assoc]
    have e3 : pa * X.trn a * (-X.trn b) = -(pa * X.trn b * X.trn a) := by rw [Int.mul_neg, Int.mul_assoc, Int.mul_comm (X.trn a), ← Int.mul_assoc]
    omega
structure Hs.Ps (X : Hs) (pa pb : Int) (low : List Stp4) : Prop where
  a0 : 0 ≤ pa
  b1 : 1 ≤ pb
  bn : pb ≤ X.n
  cp : Int.gcd pa pb = 1
  bd : pa ≤ X.abs * pb
  way : X.Way low
  len : low.length ≤ X.s.length
  tn : 0 < X.trn low
  lo : pa * X.trn low ≤ pb * X.val low
end Wx
namespace Wx
variable [TabC]
theorem seq_id {a b : WS} {D : WEnds} {ρ : List PV} (h1 : ∀ N : List PV → Prop, N ρ → a { D with nx := N } ρ) (h2 : b D ρ) : wSeq a b D ρ := h1 (b D) h2
theorem seq_two {a b : WS} {D : WEnds} {ρ : List PV} (I : List PV → Prop) (h1 : ∀ N : List PV → Prop, (∀ ρ', I ρ' → N ρ') → a { D with nx := N } ρ) (h2 : ∀ ρ', I ρ' → b D ρ') : wSeq a b D ρ := h1 (b D) fun _ q => h2 _ q
end Wx
namespace Wx
open PySem PySem.Spec PyProof.Rows L2 Evl Hn RZ
variable [TabC]
def Kpt (is : List Nat) (σ σ' : L2.St) : Prop := ∀ j, j ∉ is → σ'[j]? = σ[j]?
theorem Kpt.refl {is : List Nat} {σ : L2.St} : Kpt is σ σ := fun _ _ => rfl
theorem Kpt.trans {is : List Nat} {σ σ1 σ2 : L2.St} (a : Kpt is σ σ1) (b : Kpt is σ1 σ2) : Kpt is σ σ2 := fun j h => (b j h).trans (a j h)
theorem Kpt.of {is : List Nat} {σ σ' : L2.St} (h : wipe σ' is = wipe σ is) : Kpt is σ σ' := fun j hj => by
  rw [← wipe_out (σ := σ') hj, ← wipe_out (σ := σ) hj, h]
section
variable [XC]
variable {K : PySem.W.Frag} {d : Cn → Addr} {R : RR} {is : List Nat} {bt ct ts ts1 ts2 ts' : List Tag} {F F' F0 F1 : Fz} {H H' H0 H1 : Hp} {te : TE} {we : WE}
end
section
variable {K : PySem.W.Frag} {d : Cn → Addr} {F F' F0 F1 : Fz} {H H' H0 H1 : Hp}
end
section
variable {P : Program} {w : World} {K : PySem.W.Frag} {mg : Str → Option Value} {base : Heap} {d : Cn → Addr}
end
section
variable [XC]
variable {K : PySem.W.Frag} {d : Cn → Addr} {R : RR} {is : List Nat} {bt ct ts ts1 ts2 ts' : List Tag} {F F' F0 F1 : Fz} {H H' H0 H1 : Hp} {te : TE} {we : WE}
end
end Wx
namespace Wx
open PySem PySem.Spec PyProof.Rows L2 Evl Hn RZ
variable [TabC]
section
variable [XC]
variable {K : PySem.W.Frag} {d : Cn → Addr} {F F' F0 F1 : Fz} {H H' H0 H1 Hs : Hp} {ts bt ct : List Tag} {R : RR} {te : TE} {we : WE} {v : V} {x : PV}
def plainP : PV → Prop
  | .non => True
  | .int _ => True
  | .bl _ => True
  | _ => False
def wLstD (w1 w2 : WE) : WE := fun ρ P => w1 ρ fun y => w2 ρ fun z => (∃ s, y = .str s) ∧ ((∃ ys, z = .lst ys) ∨ plainP z) ∧ P (.lst [y, z])
theorem plain_sc {z : PV} {u : V} (h : plainP z) (r : Rv K d F H u z) : Sc K d u z := by
  cases z with
  | non =>
    cases r
    exact ⟨(fun a e => nomatch e), fun F H => .non⟩
  | int i =>
    cases r
    exact ⟨(fun a e => nomatch e), fun F H => .int _⟩
  | bl b =>
    cases r
    exact ⟨(fun a e => nomatch e), fun F H => .bl _⟩
  | _ => exact h.elim
def wMutD (i : Nat) (w1 we : WE) : WS := fun D ρ => w1 ρ fun j1 => match ρ.getD i .non, j1 with
  | .lst xs, .int k1 => ∃ m1 ys, ixN xs.length k1 = some m1 ∧ xs[m1]? = some (.lst ys) ∧ ys.length < 100000 ∧ we ρ fun y => D.nx (ρ.set i (.lst (xs.set m1 (.lst (ys ++ [y])))))
  | _, _ => False
def wPE (we : WE) : WE := fun ρ P => we ρ fun x => plainP x ∧ P x
def wSetE (i : Nat) (we : WE) : WS := fun D ρ => we ρ fun y => (∃ ys, y = .lst ys) ∧ D.nx (ρ.set i y)
end
section
variable {K : PySem.W.Frag} {d : Cn → Addr} {ea : En → Option Addr} {F F' F0 F1 F2 : Fz} {H H' H0 H1 H2 : Hp} {ts ts' bt ct tx : List Tag} {R : RR} {te : TE} {we : WE} {W : WX} {EX : List PV → En → Fs → Prop}
def wRetEx (n : En) (f : Str) (fs : Fs) (w1 : WE) : WS := fun D ρ => w1 ρ fun y => (∃ s, y = .str s) ∧ n.fld = some f ∧ ∃ x, fs = [(f, x)] ∧ ((n.nw = true ∧ ∃ ys, x = .lst ys ∧ fls ys = true) ∨ plainP x) ∧ D.rt (.lst [y, x])
end
end Wx
namespace Wx
open PySem PySem.Spec PyProof.Rows L2 Evl Hn RZ
variable [TabC]
open Classical in
noncomputable def delP (H : Hp) (S : Addr → Prop) : Hp := fun a => if S a then none else H a
section
variable {H : Hp} {S : Addr → Prop} {F F0 : Fz} {H0 : Hp}
theorem delP_in {a : Addr} (h : S a) : delP H S a = none := if_pos h
theorem delP_out {a : Addr} (h : ¬ S a) : delP H S a = H a := if_neg h
theorem delP_ex : Ex (delP H S) H := fun a o h => by
  by_cases e : S a
  · rw [delP_in e] at h; cases h
  · rw [delP_out e] at h; exact h
theorem TabsR.keep {H H' : Hp} (t : TabsR H) (k : ∀ a o, H a = some o → (isTb o = true ∨ isEx o = true) → H' a = some o) : TabsR H' := fun q hq => by
  obtain ⟨ps, h1, h2, h3⟩ := t q hq
  refine ⟨ps, k _ _ h1 (.inl rfl), h2, fun pos cv hc => ?_⟩
  obtain ⟨c, e1, e2⟩ := h3 pos cv hc
  exact ⟨c, e1, k _ _ e2 (.inr rfl)⟩
theorem dom_delP (dm : Dom F H) (hS : ∀ a, S a → ∃ vs, H a = some (.lst vs)) (nf : ∀ a, S a → ¬ F a) : Dom F (delP H S) := ⟨fun a f => by rw [delP_out (fun q => nf a q f)]; exact dm.at_ a f, dm.tb.keep fun a o h z => by
  have : ¬ S a := fun q => by
    obtain ⟨vs, e⟩ := hS a q
    rw [e] at h
    cases h
    rcases z with z | z <;> cases z
  rw [delP_out this]
  exact h⟩
theorem stb_delP (hS : ∀ a, S a → ∃ vs, H a = some (.lst vs)) (nf : ∀ a, S a → ¬ F a) : Stb F H (delP H S) := fun a o h z => by
  have : ¬ S a := fun q => by
    obtain ⟨vs, e⟩ := hS a q
    rw [e] at h
    cases h
    rcases z with z | z
    · cases z
    · exact nf a q z.1
  rw [delP_out this]
  exact h
theorem step_delP (s : Step F0 H0 F H) (hS : ∀ a, S a → ∃ vs, H a = some (.lst vs)) (nf : ∀ a, S a → ¬ F a) (n0 : ∀ a, S a → H0 a = none) : Step F0 H0 F (delP H S) :=
  ⟨⟨fun a o h n => by rw [delP_out (fun q => by rw [n0 a q] at h; cases h)]; exact s.ex.kp a o h n, fun a h => by rw [delP_out (fun q => h (n0 a q))]; exact s.ex.dm a h⟩, s.up, s.nw, dom_delP s.dm hS nf⟩
end
def SD (H : Hp) (v : V) : Addr → Prop := fun a => ∃ c ws, v = .ref c ∧ H c = some (.lst ws) ∧ (a = c ∨ V.ref a ∈ ws)
section
variable {K : PySem.W.Frag} {d : Cn → Addr} {F F' F0 F1 : Fz} {H H' H0 H1 Hs : Hp} {ts ts' ts0 ts1 bt ct : List Tag} {R : RR} {te : TE} {we : WE} {v : V} {x y : PV} {σ : L2.St} {ρ : List PV} {i : Nat}
theorem OdL.plc (h : OdL K d H0 F H v x) {a : Addr} (q : SD H v a) : (∃ vs, H a = some (.lst vs)) ∧ ¬ F a ∧ H0 a = none := by
  obtain ⟨c, ws, zs, rfl, hx, h3, h4, h5, h6, h7, h8, h9⟩ := h
  obtain ⟨c', ws', e, e2, q⟩ := q
  cases e
  cases h3.inj (.lst e2)
  rcases q with rfl | q
  · exact ⟨⟨_, e2⟩, h4, h5⟩
  · obtain ⟨k, hk, e⟩ := List.mem_iff_getElem.mp q
    rcases h9 k (.ref a) _ (by rw [List.getElem?_eq_getElem hk, e]) (List.getElem?_eq_getElem (by omega)) with ⟨b, us, ys, e1, e2, u1, u2, u3, u4⟩ | s
    · cases e1
      exact ⟨⟨_, u1⟩, u2, u3⟩
    · exact absurd rfl (s.1 a)
theorem OdL.rebase {H2 : Hp} (hl : ∃ ys, x = .lst ys) (h : OdL K d H0 F H v x) (k : ∀ a, SD H v a → H2 a = none) : OdL K d H2 F H v x := by
  obtain ⟨ys, rfl⟩ := hl
  obtain ⟨c, ws, zs, rfl, hx, h0, h4, h5, h6, h7, h8, h9⟩ := h
  have h3 := hx.of_lst.1
  refine ⟨c, ws, zs, rfl, hx, h0, h4, k c ⟨c, ws, rfl, h3, .inl rfl⟩, h6, h7, h8, fun j w z k1 k2 => ?_⟩
  rcases h9 j w z k1 k2 with ⟨b, us, ys, rfl, rfl, u1, u2, u3, u4⟩ | s
  · exact .inl ⟨b, us, ys, rfl, rfl, u1, u2, k b ⟨c, ws, rfl, h3, .inr (List.mem_of_getElem? k1)⟩, u4⟩
  · exact .inr s
theorem OdL.rd (h : OdL K d H F' H' v x) : rD K d F H F' H' v x := by
  obtain ⟨c, ws, zs, rfl, hx, h3, h4, h5, h6, h7, h8, h9⟩ := h
  refine ⟨c, ws, zs, rfl, hx, h5, fun b hb => ?_, h3, h4, h6, h7, h8, fun k w z k1 k2 => ?_⟩
  · obtain ⟨k, hk, e⟩ := List.mem_iff_getElem.mp hb
    rcases h9 k (.ref b) _ (by rw [List.getElem?_eq_getElem hk, e]) (List.getElem?_eq_getElem (by omega)) with ⟨b', us, ys, e1, e2, u1, u2, u3, u4⟩ | s
    · cases e1
      exact u3
    · exact absurd rfl (s.1 b)
  · rcases h9 k w z k1 k2 with ⟨b, us, ys, rfl, rfl, u1, u2, u3, u4⟩ | s
    · exact .inl ⟨b, us, ys, rfl, rfl, u1, u2, u4⟩
    · exact .inr s
theorem OdL.stp (h : OdL K d H0 F H v x) (s : Step F H F' H') : OdL K d H0 F' H' v x := h.to s.ex (fun a z => s.nw a z) fun r => r.step s
theorem set_no {t : Tag} {j : Nat} (ht : t ≠ .no) (h : (ts.set i .no)[j]? = some t) : i ≠ j ∧ ts[j]? = some t := by
  rw [List.getElem?_set] at h
  split at h
  · split at h
    · cases h; exact absurd rfl ht
    · cases h
  · next e => exact ⟨e, h⟩
theorem EnvR.dropD [X : XC] (E : EnvR K d ts H0 F0 F H σ ρ) (hi : ts[i]? = some .od) (hs : σ[i]? = some (some v)) : EnvR K d (ts.set i .no) H0 F0 F (delP H (SD H v)) σ ρ := by
  obtain ⟨v', x, g1, g2, g3⟩ := E.od i hi
  rw [hs] at g1
  cases g1
  have hS : ∀ a, SD H v a → ∃ vs, H a = some (.lst vs) := fun a q => (g3.plc q).1
  have nf : ∀ a, SD H v a → ¬ F a := fun a q => (g3.plc q).2.1
  have n0 : ∀ a, SD H v a → H0 a = none := fun a q => (g3.plc q).2.2
  have dpl : ∀ a, SD H v a → Dpl H σ i a := fun a ⟨c, ws, e1, e2, e3⟩ => ⟨c, ws, by rw [hs, e1], .lst e2, e3⟩
  have sb : Stb F H (delP H (SD H v)) := stb_delP hS nf
  have bk : ∀ {j : Nat} {a : Addr}, Dpl (delP H (SD H v)) σ j a → Dpl H σ j a := fun {j a} ⟨c, ws, e1, ⟨o, e2, e4⟩, e3⟩ => ⟨c, ws, e1, ⟨o, delP_ex _ _ e2, e4⟩, e3⟩
  have out : ∀ {j : Nat} {a : Addr}, i ≠ j → ts[j]? = some .od → Dpl H σ j a → ¬ SD H v a := fun {j a} ne hj q z => ne ((E.ad i a hi (dpl a z)).2 j hj q)
  refine ⟨step_delP E.st hS nf n0, by rw [E.ls, List.length_set], by rw [E.lr, List.length_set], fun j h => ?_, fun j h => ?_, fun j l a h1 h2 => E.ap j l a (set_no (by decide) h1).2 (set_no (by decide) h2).2, fun j h => ?_, fun j a h q => ?_, E.xc, fun j h => ?_⟩
  · obtain ⟨w, z, h1, h2, h3⟩ := E.sh j (set_no (by decide) h).2
    exact ⟨w, z, h1, h2, h3.mono sb fun _ z => z⟩
  · obtain ⟨a, vs, xs, h1, h2, h3, h4, h5, h6⟩ := E.ow j (set_no (by decide) h).2
    exact ⟨a, vs, xs, h1, h2, by rw [delP_out fun q => (E.ad i a hi (dpl a q)).1 j (set_no (by decide) h).2 h1]; exact h3, h4, h5, h6.mono sb fun _ z => z⟩
  · obtain ⟨ne, hj⟩ := set_no (by decide) h
    obtain ⟨w, z, h1, h2, h3⟩ := E.od j hj
    have od := fun {a : Addr} (q : Dpl H σ j a) => out (a := a) ne hj q
    obtain ⟨c, ws, zs, rfl, hx, k3, k4, k5, k6, k7, k8, k9⟩ := h3
    have un := delP_out (H := H) (od ⟨c, ws, h1, k3, .inl rfl⟩)
    refine ⟨_, _, h1, h2, c, ws, zs, rfl, hx.same un, k3.same un, k4, k5, k6, k7, k8, fun k w z q1 q2 => ?_⟩
    rcases k9 k w z q1 q2 with ⟨b, us, ys, rfl, rfl, u1, u2, u3, u4⟩ | s
    · exact .inl ⟨b, us, ys, rfl, rfl, by rw [delP_out (od ⟨c, ws, h1, k3, .inr (List.mem_of_getElem? q1)⟩)]; exact u1, u2, u3, u4.mono sb fun _ z => z⟩
    · exact .inr s
  · obtain ⟨q1, q2⟩ := E.ad j a (set_no (by decide) h).2 (bk q)
    exact ⟨fun l hl => q1 l (set_no (by decide) hl).2, fun l hl z => q2 l (set_no (by decide) hl).2 (bk z)⟩
  · exact (E.ex.mono sb fun _ z => z) j (set_no (by decide) h).2
end
def spC (K : PySem.W.Frag) (d : Cn → Addr) (R : RR) (w : WF) : Sp := fun vs H Q _ => ∃ (F : Fz) (us : List V) (v : V) (xs : List PV) (y : PV) (P : PV → Prop), vs = us ++ [v] ∧ Dom F H ∧ Rvs K d F H us xs ∧ OdL K d (delP H (SD H v)) F H v y ∧ w (xs ++ [y]) P ∧ ∀ x v' F' H', Step F (delP H (SD H v)) F' H' → R F (delP H (SD H v)) F' H' v' x → P x → Q v' H'
def tagsC (n m : Nat) : List Tag := List.replicate n .sh ++ (.od :: List.replicate m .no)
section
variable {K : PySem.W.Frag} {d : Cn → Addr} {F F' F0 F1 : Fz} {H H' H0 H1 : Hp}
theorem tagsC_get {n m i : Nat} {t : Tag} (h : (tagsC n m)[i]? = some t) : (i < n ∧ t = .sh) ∨ (i = n ∧ t = .od) ∨ (n < i ∧ t = .no) := by
  unfold tagsC at h
  rcases Nat.lt_trichotomy i n with z | z | z
  · rw [List.getElem?_append_left (by rw [List.length_replicate]; exact z), List.getElem?_replicate, if_pos z] at h
    cases h
    exact .inl ⟨z, rfl⟩
  · subst z
    rw [List.getElem?_append_right (by rw [List.length_replicate]; exact Nat.le_refl _), List.length_replicate, Nat.sub_self] at h
    cases h
    exact .inr (.inl ⟨rfl, rfl⟩)
  · rw [List.getElem?_append_right (by rw [List.length_replicate]; omega), List.length_replicate] at h
    obtain ⟨k, hk⟩ : ∃ k, i - n = k + 1 := ⟨i - n - 1, by omega⟩
    rw [hk, List.getElem?_cons_succ, List.getElem?_replicate] at h
    split at h
    · cases h; exact .inr (.inr ⟨z, rfl⟩)
    · cases h
theorem env_startC [X : XC] {N : List Str} {us : List V} {v : V} {xs : List PV} {y : PV} {n m : Nat} (dm : Dom F H) (r : Rvs K d F H us xs) (ol : OdL K d (delP H (SD H v)) F H v y) (hn : xs.length = n) (hN : N.length = n + 1 + m) (hx : X.h F (delP H (SD H v))) : EnvR K d (tagsC n m) (delP H (SD H v)) F F H (L2.start N (us ++ [v])) (xs ++ [y] ++ List.replicate m .non) := by
  have lv : us.length = n := r.length.trans hn
  have e : N.length - (us ++ [v]).length = m := by rw [List.length_append, List.length_singleton]; omega
  have st : L2.start N (us ++ [v]) = us.map some ++ (some v :: List.replicate m none) := by
    unfold L2.start
    rw [e, List.map_append, List.append_assoc]
    rfl
  have at_n : (us.map some ++ (some v :: List.replicate m none))[n]? = some (some v) := by
    rw [List.getElem?_append_right (by rw [List.length_map]; omega), List.length_map, lv, Nat.sub_self]
    rfl
  rw [st]
  refine ⟨⟨.of delP_ex, fun _ h => h, fun _ h => .inl h, dm⟩, ?_, ?_, fun i h => ?_, fun i h => ?_, fun i j b h1 h2 _ _ => ?_, fun i h => ?_, fun i b h q => ?_, hx, fun i h => ?_⟩
  · unfold tagsC
    simp only [List.length_cons, List.length_append, List.length_map, List.length_replicate, lv]
  · unfold tagsC
    simp only [List.length_cons, List.length_append, List.length_replicate, hn, List.length_nil]
    omega
  · rcases tagsC_get h with ⟨z, _⟩ | ⟨_, q⟩ | ⟨_, q⟩
    · obtain ⟨w, hw⟩ : ∃ w, us[i]? = some w := ⟨_, List.getElem?_eq_getElem (by omega)⟩
      obtain ⟨x, hx', rx⟩ := r.getV hw
      refine ⟨w, x, ?_, ?_, rx⟩
      · rw [List.getElem?_append_left (by rw [List.length_map]; omega), List.getElem?_map, hw]
        rfl
      · rw [List.append_assoc, List.getElem?_append_left (by omega)]
        exact hx'
    · cases q
    · cases q
  · rcases tagsC_get h with ⟨_, q⟩ | ⟨_, q⟩ | ⟨_, q⟩ <;> cases q
  · rcases tagsC_get h1 with ⟨_, q⟩ | ⟨_, q⟩ | ⟨_, q⟩ <;> cases q
  · rcases tagsC_get h with ⟨_, q⟩ | ⟨rfl, _⟩ | ⟨_, q⟩
    · cases q
    · refine ⟨v, y, at_n, ?_, ol⟩
      rw [List.append_assoc, List.getElem?_append_right (by omega), hn, Nat.sub_self]
      rfl
    · cases q
  · rcases tagsC_get h with ⟨_, z⟩ | ⟨rfl, _⟩ | ⟨_, z⟩
    · cases z
    · refine ⟨fun j hj => ?_, fun j hj _ => ?_⟩
      · rcases tagsC_get hj with ⟨_, q⟩ | ⟨_, q⟩ | ⟨_, q⟩ <;> cases q
      · rcases tagsC_get hj with ⟨_, q⟩ | ⟨q, _⟩ | ⟨_, q⟩
        · cases q
        · exact q.symm
        · cases q
    · cases z
  · rcases tagsC_get h with ⟨_, q⟩ | ⟨_, q⟩ | ⟨_, q⟩ <;> cases q
end
section
variable {P : Program} {w : World} {K : PySem.W.Frag} {mg : Str → Option Value} {base : Heap} {d : Cn → Addr} {R : RR}
theorem okwUCG_of {x qual : Str} {st : Stmt} {f : Addr} {N ps : List Str} {k n m : Nat} {ws : WS} {ts' : List Tag} (Df' : Df K x qual st f ps) (S : FnScope N ps (defScope st)) (hn : ps.length = n + 1) (hN : N.length = n + 1 + m) (hR : RNon K d R)
    (hbody : ∀ (cdv : Value) (A : Around) (outer : List Env) (s : Shared) (H : Hp) (E : XK), NoG A s → Room k (A.deeper (envOfC qual (defScope st) s.heap.objs.size f cdv)) →
      ∃ t, PSs (cxOf CX0 P w K mg base N qual (defScope st) f cdv A outer s H E).nox (defBody st) t ∧ SimS K d R [] [] (tagsC n m) t ws ts') : OkP NoG P w K mg base (k + 1) f ps (spC K d R (wDef (n + 1) m ws)) :=
  okP_of Df' S (fun vs H Q E h => by
    obtain ⟨F, us, v, xs, y, P, rfl, dm, r, ol, ⟨hl, _⟩, _⟩ := h
    rw [List.length_append, r.length, hn]
    rw [List.length_append] at hl
    simpa using hl) fun cdv A outer s H vs Q E hg hr h => by
    obtain ⟨t, D, sim⟩ := hbody cdv A outer s H E hg hr
    obtain ⟨F, us, v, xs, y, P, rfl, dm, r, ol, ⟨hl, hw⟩, kk⟩ := h
    have hl' : xs.length = n := by rw [List.length_append] at hl; simpa using hl
    exact ⟨t, D, sim (delP H (SD H v)) F F H _ _ _ _ (env_startC dm r ol hl' hN trivial) hw (fun F' H' σ' ρ' g E' p => kk .non .non F' H' E'.st (hR _ _ _ _) p) (fun x v F' H' s rr p => kk x v F' H' s rr p) (fun _ _ _ _ _ _ q => q.elim) (fun _ _ _ _ _ _ q => q.elim)⟩
end
section
variable {K : PySem.W.Frag} {d : Cn → Addr} {ea : En → Option Addr} {F F' F0 F1 F2 : Fz} {H H' H0 H1 H2 : Hp} {ts ts' ts1 bt ct tx : List Tag} {R : RR} {te : TE} {we : WE} {W : WX} {EX : List PV → En → Fs → Prop}
end
section
variable [XC]
variable {K : PySem.W.Frag} {d : Cn → Addr} {F F' F0 F1 : Fz} {H H' H0 H1 Hs : Hp} {ts ts' ts0 ts1 bt ct : List Tag} {R : RR} {te : TE} {we : WE} {ta : TA} {wa : WA} {v : V} {x y : PV} {i : Nat}
def wVarD (i : Nat) : WE := fun ρ P => (∃ ys, ρ.getD i .non = .lst ys) ∧ P (ρ.getD i .non)
def SimAC (K : PySem.W.Frag) (d : Cn → Addr) (i : Nat) (ts : List Tag) (ta : TA) (wa : WA) : Prop := ∀ (H0 : Hp) (F0 F : Fz) (H : Hp) (σ : L2.St) (ρ : List PV) (Q : List V → Hp → Prop) (P : List PV → Prop), EnvR K d ts H0 F0 F H σ ρ → wa ρ P →
  (∀ xs us y v F' H', Step F H F' H' → Rvs K d F' H' us xs → σ[i]? = some (some v) → ρ[i]? = some y → (∃ ys, y = .lst ys) → P (xs ++ [y]) → Q (us ++ [v]) H') → ta σ H Q
theorem simAC_last (hi : ts[i]? = some .od) : SimAC K d i ts (tCons (tVar i) tNil) (wCons (wVarD i) wNil) := fun H0 F0 F H σ ρ Q P E hw k => by
  obtain ⟨v, x, g1, g2, g3⟩ := E.od i hi
  have hw : (∃ ys, ρ.getD i .non = .lst ys) ∧ P [ρ.getD i .non] := hw
  rw [getD_of g2] at hw
  exact ⟨_, g1, k [] [] x v F H (Step.refl E.dm) .nil g1 g2 hw.1 hw.2⟩
theorem simAC_cons (he : Sim K d (rS K d) ts te we) (ha : SimAC K d i ts ta wa) : SimAC K d i ts (tCons te ta) (wCons we wa) := fun H0 F0 F H σ ρ Q P E hw k =>
  he H0 F0 F H σ ρ _ _ E hw fun x v F1 H1 s1 r1 h1 => ha H0 F0 F1 H1 σ ρ _ _ (E.step s1) h1 fun xs us y u F2 H2 s2 r2 g1 g2 gl h2 => k (x :: xs) (v :: us) y u F2 H2 (s1.trans s2) (.cons (r1.step s2) r2) g1 g2 gl h2
def SimTC (K : PySem.W.Frag) (d : Cn → Addr) (ts ts' : List Tag) (tt : TT) (wt : WT) : Prop := ∀ (H0 : Hp) (F0 F : Fz) (H : Hp) (σ : L2.St) (ρ : List PV) (Q : Bool → Hp → Prop) (P : Bool → Prop), EnvR K d ts H0 F0 F H σ ρ → wt ρ P →
  (∀ b F' H', Gr F H F' H' → EnvR K d ts' H0 F0 F' H' σ ρ → P b → Q b H') → tt σ H Q
theorem use_up {w : WF} {E' : XK} (hi : ts[i]? = some .od) (ha : SimAC K d i ts ta wa) {H0 : Hp} {F0 F : Fz} {H : Hp} {σ : L2.St} {ρ : List PV} {Q : VK} {P : PV → Prop} (E : EnvR K d ts H0 F0 F H σ ρ) (hw : wCall w wa ρ P)
    (k : ∀ x v F1 H1 F' H', Gr F H F' H' → EnvR K d (ts.set i .no) H0 F0 F' H' σ ρ → Step F0 H0 F1 H1 → R F1 H1 F' H' v x → P x → Q v H') : tCall (spC K d R w) [] E' ta σ H Q :=
  ha H0 F0 F H σ ρ _ _ E hw fun xs us y v F1 H1 s1 r1 g1 g2 gl h1 => by
    have E1 := E.step s1
    obtain ⟨v', x, q1, q2, q3⟩ := E1.od i hi
    rw [g1] at q1
    cases q1
    rw [g2] at q2
    cases q2
    have E2 := E1.dropD hi g1
    have hS : ∀ a, SD H1 v a → ∃ vs, H1 a = some (.lst vs) := fun a q => (q3.plc q).1
    have nf : ∀ a, SD H1 v a → ¬ F1 a := fun a q => (q3.plc q).2.1
    refine ⟨F1, us, v, xs, y, P, by rw [List.append_nil], s1.dm, r1, q3.rebase gl fun a q => delP_in q, h1, fun x v' F' H' s r p => ?_⟩
    exact k x v' F1 _ F' H' ((Gr.of s1).trans (Gr.trans ⟨fun _ h => h, stb_delP hS nf⟩ (.of s))) (E2.step s) E2.st r p
theorem simTC_call {w : WF} {E' : XK} (hi : ts[i]? = some .od) (ha : SimAC K d i ts ta wa) : SimTC K d ts (ts.set i .no) (tB (tCall (spC K d (rN K d) w) [] E' ta)) (wTest (wCall w wa)) := fun H0 F0 F H σ ρ Q P E hw k =>
  use_up (R := rN K d) hi ha E hw fun x v F1 H1 F' H' g E' s r p => by
    cases x with
    | bl b =>
      rcases r with ⟨_, r⟩ | ⟨_, _, _, _, e, _⟩
      · cases r
        exact ⟨b, rfl, k b F' H' g E' p⟩
      · cases e
    | _ => exact p.elim
theorem simTC_not {t : TT} {a : WT} (ha : SimTC K d ts ts' t a) : SimTC K d ts ts' (tNot t) (wTnot a) := fun H0 F0 F H σ ρ Q P E hw k =>
  ha H0 F0 F H σ ρ _ _ E hw fun c F1 H1 g e p => k _ F1 H1 g e p
theorem simS_ifC {tt : TT} {wt : WT} {t t' : TS} {a b : WS} (ht : SimTC K d ts ts0 tt wt) (ha : SimS K d R bt ct ts0 t a ts1) (hb : SimS K d R bt ct ts0 t' b ts1) : SimS K d R bt ct ts (tIfS tt t t') (wIfS wt a b) ts1 := fun H0 F0 F H σ ρ D D' E hw n r b' c =>
  ht H0 F0 F H σ ρ _ _ E hw fun k F1 H1 g1 E1 p => by
    cases k with
    | true => exact ha H0 F0 F1 H1 σ ρ D D' E1 p (fun F2 H2 σ2 ρ2 g2 => n F2 H2 σ2 ρ2 (g1.trans g2)) r (fun F2 H2 σ2 ρ2 g2 => b' F2 H2 σ2 ρ2 (g1.trans g2)) fun F2 H2 σ2 ρ2 g2 => c F2 H2 σ2 ρ2 (g1.trans g2)
    | false => exact hb H0 F0 F1 H1 σ ρ D D' E1 p (fun F2 H2 σ2 ρ2 g2 => n F2 H2 σ2 ρ2 (g1.trans g2)) r (fun F2 H2 σ2 ρ2 g2 => b' F2 H2 σ2 ρ2 (g1.trans g2)) fun F2 H2 σ2 ρ2 g2 => c F2 H2 σ2 ρ2 (g1.trans g2)
end
section
variable {K : PySem.W.Frag} {d : Cn → Addr} {F F' F0 F1 : Fz} {H H' H0 H1 Hs : Hp} {ts ts' ts0 ts1 bt ct : List Tag} {R : RR} {te : TE} {we : WE} {v : V} {x y : PV} {i : Nat} {ws : List Str}
end
end Wx
namespace Wx
open PySem PySem.Spec PyProof.Rows L2 Evl Hn RZ
variable [TabC]
section
variable {is : List Nat}
structure DEq (is : List Nat) (σ0 : L2.St) (D D' : Ends) : Prop where
  nx : ∀ σ H, Kpt is σ0 σ → D.nx σ H = D'.nx σ H
  rt : D.rt = D'.rt
  bk : ∀ σ H, Kpt is σ0 σ → D.bk σ H = D'.bk σ H
  ct : ∀ σ H, Kpt is σ0 σ → D.ct σ H = D'.ct σ H
theorem DEq.symm {σ0 : L2.St} {D D' : Ends} (h : DEq is σ0 D D') : DEq is σ0 D' D := ⟨fun σ H k => (h.nx σ H k).symm, h.rt.symm, fun σ H k => (h.bk σ H k).symm, fun σ H k => (h.ct σ H k).symm⟩
def KpS (is : List Nat) (t : TS) : Prop := ∀ (σ0 : L2.St) (D D' : Ends), DEq is σ0 D D' → ∀ σ H, Kpt is σ0 σ → t D σ H → t D' σ H
def KpG (is : List Nat) (g : TG) : Prop := ∀ (σ0 : L2.St) (Q Q' : L2.St → Hp → Prop), (∀ σ H, Kpt is σ0 σ → Q σ H = Q' σ H) → ∀ v σ H, Kpt is σ0 σ → g v σ H Q = g v σ H Q'
def KpGs (is : List Nat) (g : TGs) : Prop := ∀ (σ0 : L2.St) (Q Q' : L2.St → Hp → Prop), (∀ σ H, Kpt is σ0 σ → Q σ H = Q' σ H) → ∀ vs σ H, Kpt is σ0 σ → g vs σ H Q = g vs σ H Q'
theorem KpS.eq {t : TS} (k : KpS is t) {σ0 : L2.St} {D D' : Ends} (h : DEq is σ0 D D') {σ : L2.St} (kp : Kpt is σ0 σ) (H : Hp) : t D σ H = t D' σ H := propext ⟨k σ0 D D' h σ H kp, k σ0 D' D h.symm σ H kp⟩
theorem Kpt.set {σ0 σ : L2.St} {i : Nat} {v : Option V} (k : Kpt is σ0 σ) (hi : i ∈ is) : Kpt is σ0 (σ.set i v) := fun j hj => by
  have : i ≠ j := by rintro rfl; exact hj hi
  rw [List.getElem?_set_ne this]
  exact k j hj
theorem kp_next : KpS is tNext := fun σ0 D D' h σ H k p => by
  show D'.nx σ H
  rw [← h.nx σ H k]
  exact p
theorem kp_seq {t u : TS} (a : KpS is t) (b : KpS is u) : KpS is (tSeq t u) := fun σ0 D D' h σ H k p =>
  a σ0 { D with nx := u D } { D' with nx := u D' } ⟨fun σ' H' k' => b.eq h k' H', h.rt, h.bk, h.ct⟩ σ H k p
theorem kp_if {c : TT} {t u : TS} (a : KpS is t) (b : KpS is u) : KpS is (tIfS c t u) := fun σ0 D D' h σ H k p => by
  have e : (fun (q : Bool) (H1 : Hp) => if q = true then t D σ H1 else u D σ H1) = fun (q : Bool) (H1 : Hp) => if q = true then t D' σ H1 else u D' σ H1 := by
    funext q H1
    rw [a.eq h k H1, b.eq h k H1]
  show c σ H _
  rw [← e]
  exact p
theorem kp_asg {te : TE} {g : TG} (a : KpG is g) : KpS is (tAsg te g) := fun σ0 D D' h σ H k p => by
  have e : (fun x H1 => g x σ H1 D.nx) = fun x H1 => g x σ H1 D'.nx := by
    funext x H1
    exact a σ0 _ _ h.nx x σ H1 k
  show te σ H _
  rw [← e]
  exact p
theorem kp_asgx {te : TE} {g : TG} (a : KpG is g) : KpS is (fun D σ H1 => te σ H1 fun x H2 => g x σ H2 D.nx) := kp_asg a
theorem kg_name {i : Nat} (hi : i ∈ is) : KpG is (gName i) := fun σ0 Q Q' h v σ H k => h _ _ (k.set hi)
theorem kg_nil : KpGs is gNil := fun σ0 Q Q' h vs σ H k => by
  show (vs = [] ∧ Q σ H) = (vs = [] ∧ Q' σ H)
  rw [h σ H k]
theorem kg_cons {g : TG} {u : TGs} (a : KpG is g) (b : KpGs is u) : KpGs is (gCons g u) := fun σ0 Q Q' h vs σ H k => by
  show (∃ v r, vs = v :: r ∧ g v σ H fun σ' H' => u r σ' H' Q) = ∃ v r, vs = v :: r ∧ g v σ H fun σ' H' => u r σ' H' Q'
  congr 1
  funext v
  congr 1
  funext r
  rw [a σ0 _ _ (fun σ' H' k' => b σ0 Q Q' h r σ' H' k') v σ H k]
theorem kg_tup {K : PySem.W.Frag} {n : Nat} {u : TGs} (b : KpGs is u) : KpG is (gTup K n u) := fun σ0 Q Q' h v σ H k => by
  show (∃ a xs, v = .ref a ∧ SqT K H a xs ∧ xs.length = n ∧ u xs σ H Q) = ∃ a xs, v = .ref a ∧ SqT K H a xs ∧ xs.length = n ∧ u xs σ H Q'
  congr 1
  funext a
  congr 1
  funext xs
  rw [b σ0 Q Q' h xs σ H k]
theorem kp_ret {te : TE} : KpS is (tRet te) := fun σ0 D D' h σ H k p => by
  show te σ H D'.rt
  rw [← h.rt]
  exact p
theorem kp_retN : KpS is tRetN := fun σ0 D D' h σ H k p => by
  show D'.rt .non H
  rw [← h.rt]
  exact p
theorem kp_drop {te : TE} : KpS is (tDrop te) := fun σ0 D D' h σ H k p => by
  have e : (fun (_ : V) (H1 : Hp) => D.nx σ H1) = fun (_ : V) (H1 : Hp) => D'.nx σ H1 := by
    funext x H1
    exact h.nx σ H1 k
  show te σ H _
  rw [← e]
  exact p
theorem kp_break : KpS is tBreak := fun σ0 D D' h σ H k p => by
  show D'.bk σ H
  rw [← h.bk σ H k]
  exact p
theorem kp_cont : KpS is tCont := fun σ0 D D' h σ H k p => by
  show D'.ct σ H
  rw [← h.ct σ H k]
  exact p
theorem kp_never : KpS is tNever := fun σ0 D D' h σ H k p => p
theorem kp_par {i j : Nat} {ta : TA} (hi : i ∈ is) (hj : j ∈ is) : KpS is (tPar i j ta) := fun σ0 D D' h σ H k p => by
  have e : (fun (vs : List V) (H1 : Hp) => ∃ v w, vs = [v, w] ∧ D.nx ((σ.set i (some v)).set j (some w)) H1) = fun (vs : List V) (H1 : Hp) => ∃ v w, vs = [v, w] ∧ D'.nx ((σ.set i (some v)).set j (some w)) H1 := by
    funext vs H1
    congr 1
    funext v
    congr 1
    funext w
    rw [h.nx _ H1 ((k.set hi).set hj)]
  show ta σ H _
  rw [← e]
  exact p
theorem kp_aug {i : Nat} {te : TE} {ti : TIp} (hi : i ∈ is) : KpS is (tAug i te ti) := fun σ0 D D' h σ H k p => by
  obtain ⟨x, hx, p⟩ := p
  refine ⟨x, hx, ?_⟩
  have e : (fun y H1 => ti x y H1 fun z H2 => D.nx (σ.set i (some z)) H2) = fun y H1 => ti x y H1 fun z H2 => D'.nx (σ.set i (some z)) H2 := by
    funext y H1
    congr 1
    funext z H2
    exact h.nx _ H2 (k.set hi)
  rw [← e]
  exact p
theorem kp_cut {t u : TS} (a : KpS is t) (b : KpS is u) : KpS is (Evl.tCut t u) := fun σ0 D D' h σ H k p => by
  obtain ⟨Mid, p1, p2⟩ := p
  refine ⟨fun σ' H' => Mid σ' H' ∧ Kpt is σ0 σ', ?_, fun σ' H' q => b σ0 D D' h σ' H' q.2 (p2 σ' H' q.1)⟩
  exact a σ0 { D with nx := Mid } { D' with nx := fun σ' H' => Mid σ' H' ∧ Kpt is σ0 σ' } ⟨fun σ' H' k' => propext ⟨fun m => ⟨m, k'⟩, fun m => m.1⟩, h.rt, h.bk, h.ct⟩ σ H k p1
theorem kp_for {wi : TI} {g : TG} {tb : TS} (a : KpG is g) (b : KpS is tb) : KpS is (tFor wi g tb) := fun σ0 D D' h σ H k p => by
  have e : ∀ (J : It) (H1 : Hp), (∃ W : Nat → Nat → L2.St → Hp → Prop, (∃ m, W 0 m σ H1) ∧ ∀ i m σ H, W i m σ H →
      (J.stop i H ∧ D.nx σ H) ∨ (J.go i H ∧ ∃ N : L2.St → Hp → Prop, (∀ σ' H', N σ' H' → ∃ m', m' < m ∧ W (i + 1) m' σ' H') ∧ ∀ x H', J.yld i H x H' → g x σ H' fun σ2 H2 => tb { D with nx := N, ct := N, bk := D.nx } σ2 H2)) →
      ∃ W : Nat → Nat → L2.St → Hp → Prop, (∃ m, W 0 m σ H1) ∧ ∀ i m σ H, W i m σ H →
      (J.stop i H ∧ D'.nx σ H) ∨ (J.go i H ∧ ∃ N : L2.St → Hp → Prop, (∀ σ' H', N σ' H' → ∃ m', m' < m ∧ W (i + 1) m' σ' H') ∧ ∀ x H', J.yld i H x H' → g x σ H' fun σ2 H2 => tb { D' with nx := N, ct := N, bk := D'.nx } σ2 H2) := by
    rintro J H1 ⟨W, ⟨m, w0⟩, tr⟩
    refine ⟨fun i m σ H => W i m σ H ∧ Kpt is σ0 σ, ⟨m, w0, k⟩, ?_⟩
    rintro i m σ1 H1 ⟨w1, k1⟩
    rcases tr i m σ1 H1 w1 with ⟨s, q⟩ | ⟨go, N, n1, n2⟩
    · exact .inl ⟨s, by rw [← h.nx σ1 H1 k1]; exact q⟩
    · refine .inr ⟨go, fun σ' H' => N σ' H' ∧ Kpt is σ0 σ', fun σ' H' q => ?_, fun x H' y => ?_⟩
      · obtain ⟨m', lt, w'⟩ := n1 σ' H' q.1
        exact ⟨m', lt, w', q.2⟩
      · have := n2 x H' y
        rw [← a σ0 _ _ (fun σ2 H2 k2 => b.eq (D := { D with nx := N, ct := N, bk := D.nx }) (D' := { D' with nx := fun σ' H' => N σ' H' ∧ Kpt is σ0 σ', ct := fun σ' H' => N σ' H' ∧ Kpt is σ0 σ', bk := D'.nx }) ⟨fun σ' H' k' => propext ⟨fun q => ⟨q, k'⟩, fun q => q.1⟩, h.rt, h.nx, fun σ' H' k' => propext ⟨fun q => ⟨q, k'⟩, fun q => q.1⟩⟩ k2 H2) x σ1 H' k1]
        exact this
  have e2 : ∀ (J : It) (H1 : Hp), (∃ W : Nat → Nat → L2.St → Hp → Prop, (∃ m, W 0 m σ H1) ∧ ∀ i m σ H, W i m σ H →
      (J.stop i H ∧ D'.nx σ H) ∨ (J.go i H ∧ ∃ N : L2.St → Hp → Prop, (∀ σ' H', N σ' H' → ∃ m', m' < m ∧ W (i + 1) m' σ' H') ∧ ∀ x H', J.yld i H x H' → g x σ H' fun σ2 H2 => tb { D' with nx := N, ct := N, bk := D'.nx } σ2 H2)) →
      ∃ W : Nat → Nat → L2.St → Hp → Prop, (∃ m, W 0 m σ H1) ∧ ∀ i m σ H, W i m σ H →
      (J.stop i H ∧ D.nx σ H) ∨ (J.go i H ∧ ∃ N : L2.St → Hp → Prop, (∀ σ' H', N σ' H' → ∃ m', m' < m ∧ W (i + 1) m' σ' H') ∧ ∀ x H', J.yld i H x H' → g x σ H' fun σ2 H2 => tb { D with nx := N, ct := N, bk := D.nx } σ2 H2) := by
    have h := h.symm
    rintro J H1 ⟨W, ⟨m, w0⟩, tr⟩
    refine ⟨fun i m σ H => W i m σ H ∧ Kpt is σ0 σ, ⟨m, w0, k⟩, ?_⟩
    rintro i m σ1 H1 ⟨w1, k1⟩
    rcases tr i m σ1 H1 w1 with ⟨s, q⟩ | ⟨go, N, n1, n2⟩
    · exact .inl ⟨s, by rw [← h.nx σ1 H1 k1]; exact q⟩
    · refine .inr ⟨go, fun σ' H' => N σ' H' ∧ Kpt is σ0 σ', fun σ' H' q => ?_, fun x H' y => ?_⟩
      · obtain ⟨m', lt, w'⟩ := n1 σ' H' q.1
        exact ⟨m', lt, w', q.2⟩
      · have := n2 x H' y
        rw [← a σ0 _ _ (fun σ2 H2 k2 => b.eq (D := { D' with nx := N, ct := N, bk := D'.nx }) (D' := { D with nx := fun σ' H' => N σ' H' ∧ Kpt is σ0 σ', ct := fun σ' H' => N σ' H' ∧ Kpt is σ0 σ', bk := D.nx }) ⟨fun σ' H' k' => propext ⟨fun q => ⟨q, k'⟩, fun q => q.1⟩, h.rt, h.nx, fun σ' H' k' => propext ⟨fun q => ⟨q, k'⟩, fun q => q.1⟩⟩ k2 H2) x σ1 H' k1]
        exact this
  have f : (fun (J : It) (H1 : Hp) => ∃ W : Nat → Nat → L2.St → Hp → Prop, (∃ m, W 0 m σ H1) ∧ ∀ i m σ H, W i m σ H →
      (J.stop i H ∧ D.nx σ H) ∨ (J.go i H ∧ ∃ N : L2.St → Hp → Prop, (∀ σ' H', N σ' H' → ∃ m', m' < m ∧ W (i + 1) m' σ' H') ∧ ∀ x H', J.yld i H x H' → g x σ H' fun σ2 H2 => tb { D with nx := N, ct := N, bk := D.nx } σ2 H2)) =
      fun (J : It) (H1 : Hp) => ∃ W : Nat → Nat → L2.St → Hp → Prop, (∃ m, W 0 m σ H1) ∧ ∀ i m σ H, W i m σ H →
      (J.stop i H ∧ D'.nx σ H) ∨ (J.go i H ∧ ∃ N : L2.St → Hp → Prop, (∀ σ' H', N σ' H' → ∃ m', m' < m ∧ W (i + 1) m' σ' H') ∧ ∀ x H', J.yld i H x H' → g x σ H' fun σ2 H2 => tb { D' with nx := N, ct := N, bk := D'.nx } σ2 H2) := by
    funext J H1
    exact propext ⟨e J H1, e2 J H1⟩
  show wi σ H _
  rw [← f]
  exact p
end
mutual
def fx : PV → Bool
  | .lst _ => false
  | .scr _ => false
  | .fnv _ _ => false
  | .ins _ fs => fxf fs
  | .dct _ _ => false
  | .idv _ _ => false
  | .tup xs => fxs xs
  | _ => true
def fxs : List PV → Bool
  | [] => true
  | x :: xs => fx x && fxs xs
def fxf : List (Str × PV) → Bool
  | [] => true
  | (_, x) :: xs => fx x && fxf xs
end
section
variable {K : PySem.W.Frag} {d : Cn → Addr} {F F' F0 F1 : Fz} {H H' H0 : Hp}
mutual
theorem Rv.frx : ∀ {v : V} {x : PV}, Rv K d F H v x → fx x = true → Rv K d F' H v x
  | _, _, .non, _ => .non
  | _, _, .bl b, _ => .bl b
  | _, _, .int i, _ => .int i
  | _, _, .str x, _ => .str x
  | _, _, .ty n, _ => .ty n
  | _, _, .cls c, _ => .cls c
  | _, _, .lst _ _ _, e => by simp only [fx] at e; cases e
  | _, _, .tup h1 h2, e => .tup h1 (Rvs.frx h2 (by simpa only [fx] using e))
  | _, _, .ins h1 h2, e => .ins h1 (Rvf.frx h2 (by simpa only [fx] using e))
  | _, _, .bag h, _ => .bag h
  | _, _, .scr _ _, e => by simp only [fx] at e; cases e
  | _, _, .fnv _ _, e => by simp only [fx] at e; cases e
  | _, _, .dct _ _, e => by simp only [fx] at e; cases e
  | _, _, .idv _, e => by simp only [fx] at e; cases e
theorem Rvs.frx : ∀ {vs : List V} {xs : List PV}, Rvs K d F H vs xs → fxs xs = true → Rvs K d F' H vs xs
  | _, _, .nil, _ => .nil
  | _, _, .cons a b, e => by
    simp only [fxs, Bool.and_eq_true] at e
    exact .cons (Rv.frx a e.1) (Rvs.frx b e.2)
theorem Rvf.frx : ∀ {vs : List (Str × V)} {xs : List (Str × PV)}, Rvf K d F H vs xs → fxf xs = true → Rvf K d F' H vs xs
  | _, _, .nil, _ => .nil
  | _, _, .cons a b, e => by
    simp only [fxf, Bool.and_eq_true] at e
    exact .cons (Rv.frx a e.1) (Rvf.frx b e.2)
end
end
def lendT (ls : List Nat) : Nat → List Tag → List Tag
  | _, [] => []
  | k, t :: ts => (if ls.contains k then (match t with | .ow => .sh | .od => .sh | t => t) else t) :: lendT ls (k + 1) ts
def mx1 (ls is ks : List Nat) (k : Nat) (t u : Tag) : Tag :=
  if ls.contains k then t else if ks.contains k then (match u with | .sh => .sh | _ => .no) else if is.contains k then .no else match t with | .sh => .sh | _ => .no
def mixT (ls is ks : List Nat) : Nat → List Tag → List Tag → List Tag
  | k, t :: ts, u :: us => mx1 ls is ks k t u :: mixT ls is ks (k + 1) ts us
  | _, _, _ => []
def mixV (js : List Nat) : Nat → List PV → List PV → List PV
  | k, x :: xs, y :: ys => (if js.contains k then y else x) :: mixV js (k + 1) xs ys
  | _, _, _ => []
theorem cv_lend (ls : List Nat) : ∀ (k : Nat) (ts : List Tag), cv ts (lendT ls k ts) = true
  | _, [] => rfl
  | k, t :: ts => by
    show (cv1 t _ && cv ts (lendT ls (k + 1) ts)) = true
    rw [cv_lend ls (k + 1) ts, Bool.and_true]
    split
    · cases t <;> rfl
    · cases t <;> rfl
theorem lend_get {ls : List Nat} : ∀ {ts : List Tag} {k j : Nat} {t : Tag}, ts[j]? = some t → (lendT ls k ts)[j]? = some (if ls.contains (k + j) then (match t with | .ow => .sh | .od => .sh | t => t) else t)
  | [], _, _, _, h => by simp at h
  | a :: ts, k, 0, t, h => by cases h; rfl
  | a :: ts, k, j + 1, t, h => by
    have := lend_get (ls := ls) (ts := ts) (k := k + 1) (j := j) (t := t) h
    rw [show k + (j + 1) = k + 1 + j by omega]
    exact this
theorem mixT_len {ls is ks : List Nat} : ∀ {ts us : List Tag} {k : Nat}, ts.length = us.length → (mixT ls is ks k ts us).length = ts.length
  | [], [], _, _ => rfl
  | t :: ts, u :: us, k, h => by
    show (mixT ls is ks (k + 1) ts us).length + 1 = ts.length + 1
    rw [mixT_len (by simpa using h)]
  | [], _ :: _, _, h => by cases h
  | _ :: _, [], _, h => by cases h
theorem mixT_get {ls is ks : List Nat} : ∀ {ts us : List Tag} {k j : Nat} {c : Tag}, (mixT ls is ks k ts us)[j]? = some c → ∃ t u, ts[j]? = some t ∧ us[j]? = some u ∧ c = mx1 ls is ks (k + j) t u
  | [], _, _, _, _, h => by simp [mixT] at h
  | _ :: _, [], _, _, _, h => by simp [mixT] at h
  | t :: ts, u :: us, k, 0, c, h => by
    have h : some (mx1 ls is ks k t u) = some c := h
    cases h
    exact ⟨t, u, rfl, rfl, rfl⟩
  | t :: ts, u :: us, k, j + 1, c, h => by
    obtain ⟨t', u', h1, h2, h3⟩ := mixT_get (ts := ts) (us := us) (k := k + 1) (j := j) (c := c) h
    exact ⟨t', u', h1, h2, by rw [show k + (j + 1) = k + 1 + j by omega]; exact h3⟩
theorem mixV_len {js : List Nat} : ∀ {xs ys : List PV} {k : Nat}, xs.length = ys.length → (mixV js k xs ys).length = xs.length
  | [], [], _, _ => rfl
  | x :: xs, y :: ys, k, h => by
    show (mixV js (k + 1) xs ys).length + 1 = xs.length + 1
    rw [mixV_len (by simpa using h)]
  | [], _ :: _, _, h => by cases h
  | _ :: _, [], _, h => by cases h
theorem mixV_get {js : List Nat} : ∀ {xs ys : List PV} {k j : Nat} {x y : PV}, xs[j]? = some x → ys[j]? = some y → (mixV js k xs ys)[j]? = some (if js.contains (k + j) then y else x)
  | [], _, _, _, _, _, h, _ => by simp at h
  | _ :: _, [], _, _, _, _, _, h => by simp at h
  | x :: xs, y :: ys, k, 0, _, _, h, h' => by cases h; cases h'; rfl
  | x :: xs, y :: ys, k, j + 1, a, b, h, h' => by
    rw [show k + (j + 1) = k + 1 + j by omega]
    exact mixV_get (xs := xs) (ys := ys) (k := k + 1) (j := j) h h'
def flks : List Nat → List PV → Bool
  | [], _ => true
  | k :: ks, ρ => fx (ρ.getD k .non) && flks ks ρ
theorem flks_at : ∀ {ks : List Nat} {ρ : List PV} {k : Nat}, flks ks ρ = true → k ∈ ks → fx (ρ.getD k .non) = true
  | k0 :: ks, ρ, k, h, hk => by
    have h : (fx (ρ.getD k0 .non) && flks ks ρ) = true := h
    rw [Bool.and_eq_true] at h
    rcases List.mem_cons.mp hk with rfl | hk
    · exact h.1
    · exact flks_at h.2 hk
section
variable [XC]
variable {K : PySem.W.Frag} {d : Cn → Addr} {F F' F0 F1 F2 : Fz} {H H' H0 H1 H2 : Hp} {ts ts' ts2 bt ct : List Tag} {R : RR} {σ σ2 : L2.St} {ρ ρ2 : List PV} {v : V} {x : PV}
theorem OdL.held (hl : ∃ ys, x = .lst ys) (h : OdL K d H0 F H v x) (r : Rv K d F1 H v x) (sb : Stb F1 H H2) (F3 : Fz) (f3 : ∀ a, F a → F3 a) (sb0 : Stb F H H2) (nf : ∀ (c : Addr) (ws : List V) (a : Addr), v = .ref c → Ht H c ws → (a = c ∨ V.ref a ∈ ws) → ¬ F3 a) : OdL K d H0 F3 H2 v x ∧ ∀ (c : Addr) (ws : List V), v = .ref c → Ht H c ws → Ht H2 c ws ∧ F1 c ∧ ∀ a, V.ref a ∈ ws → F1 a := by
  obtain ⟨ys, rfl⟩ := hl
  obtain ⟨c, ws, zs, rfl, hx, h3, h4, h5, h6, h7, h8, h9⟩ := h
  obtain ⟨q, rfl⟩ := hx.of_lst
  have hc : H2 c = H c ∧ F1 c ∧ Rvs K d F1 H ws zs := by
    cases r with
    | lst g1 g2 g3 =>
      rw [q] at g1
      cases g1
      exact ⟨by rw [q, sb _ _ q (.inr ⟨g2, rfl⟩)], g2, g3⟩
  obtain ⟨hc, fc, rs⟩ := hc
  have it : ∀ (k : Nat) (b : Addr) (us : List V) (ys : List PV), ws[k]? = some (.ref b) → zs[k]? = some (.lst ys) → H b = some (.lst us) → F1 b ∧ H2 b = some (.lst us) := fun k b us ys k1 k2 hb => by
    obtain ⟨y, hy, rb⟩ := rs.getV k1
    rw [k2] at hy
    cases hy
    cases rb with
    | lst g1 g2 g3 => exact ⟨g2, sb _ _ hb (.inr ⟨g2, rfl⟩)⟩
  refine ⟨⟨c, ws, zs, rfl, hx.same hc, h3.same hc, nf c ws c rfl h3 (.inl rfl), h5, h6, h7, h8, fun k w z k1 k2 => ?_⟩, fun c' ws' e q => ?_⟩
  · rcases h9 k w z k1 k2 with ⟨b, us, ys, rfl, rfl, u1, u2, u3, u4⟩ | s
    · exact .inl ⟨b, us, ys, rfl, rfl, (it k b us ys k1 k2 u1).2, nf c ws b rfl h3 (.inr (List.mem_of_getElem? k1)), u3, u4.mono sb0 f3⟩
    · exact .inr s
  · cases e
    cases h3.inj q
    refine ⟨h3.same hc, fc, fun a ha => ?_⟩
    obtain ⟨k, hk, e⟩ := List.mem_iff_getElem.mp ha
    rcases h9 k (.ref a) _ (by rw [List.getElem?_eq_getElem hk, e]) (List.getElem?_eq_getElem (by omega)) with ⟨b, us, ys, e1, e2, u1, u2, u3, u4⟩ | s
    · cases e1
      exact (it k a us ys (by rw [List.getElem?_eq_getElem hk, e]) (by rw [List.getElem?_eq_getElem (by omega), e2]) u1).1
    · exact absurd rfl (s.1 a)
theorem OdL.heldT (hl : ∃ ys, x = .tup ys) (h : OdL K d H0 F H v x) (r : ∀ (c : Addr) (ws : List V) (a : Addr), v = .ref c → Ht H c ws → V.ref a ∈ ws → F1 a) (sb : Stb F1 H H2) (F3 : Fz) (f3 : ∀ a, F a → F3 a) (sb0 : Stb F H H2) (nf : ∀ (c : Addr) (ws : List V) (a : Addr), v = .ref c → Ht H c ws → (a = c ∨ V.ref a ∈ ws) → ¬ F3 a) : OdL K d H0 F3 H2 v x ∧ ∀ (c : Addr) (ws : List V), v = .ref c → Ht H c ws → Ht H2 c ws := by
  obtain ⟨ys, rfl⟩ := hl
  obtain ⟨c, ws, zs, rfl, hx, h3, h4, h5, h6, h7, h8, h9⟩ := h
  obtain ⟨q, rfl⟩ := hx.of_tup
  have hc : H2 c = H c := by rw [q, sb _ _ q (.inl rfl)]
  have it : ∀ (k : Nat) (b : Addr) (us : List V) (ys : List PV), ws[k]? = some (.ref b) → zs[k]? = some (.lst ys) → H b = some (.lst us) → H2 b = some (.lst us) := fun k b us ys k1 k2 hb =>
    sb _ _ hb (.inr ⟨r c ws b rfl h3 (List.mem_of_getElem? k1), rfl⟩)
  refine ⟨⟨c, ws, zs, rfl, hx.same hc, h3.same hc, nf c ws c rfl h3 (.inl rfl), h5, h6, h7, h8, fun k w z k1 k2 => ?_⟩, fun c' ws' e q => ?_⟩
  · rcases h9 k w z k1 k2 with ⟨b, us, ys, rfl, rfl, u1, u2, u3, u4⟩ | s
    · exact .inl ⟨b, us, ys, rfl, rfl, it k b us ys k1 k2 u1, nf c ws b rfl h3 (.inr (List.mem_of_getElem? k1)), u3, u4.mono sb0 f3⟩
    · exact .inr s
  · cases e
    exact q.same hc
def isLst : PV → Bool
  | .lst _ => true
  | .tup _ => true
  | _ => false
theorem isLst_ex {x : PV} (h : isLst x = true) : (∃ ys, x = .lst ys) ∨ ∃ ys, x = .tup ys := by
  cases x with
  | lst ys => exact .inl ⟨ys, rfl⟩
  | tup ys => exact .inr ⟨ys, rfl⟩
  | _ => cases h
def wBorrow (ls is ks : List Nat) (w : WS) : WS := fun D ρ => (∀ i ∈ ls, isLst (ρ.getD i .non) = true) ∧ w { nx := fun ρ2 => flks ks ρ2 = true ∧ D.nx (mixV (is ++ ks) 0 ρ ρ2), rt := D.rt } ρ
theorem simS_borrow {ls is ks : List Nat} {t : TS} {w : WS} (h : SimS K d R [] [] (lendT ls 0 ts) t w ts2) (kp : KpS is t) (dj : (ls.all fun i => !is.contains i && !ks.contains i) = true) (l2 : ts.length = ts2.length) : SimS K d R bt ct ts t (wBorrow ls is ks w) (mixT ls is ks 0 ts ts2) := fun H0 F0 F H σ ρ D D' E hw n r b c => by
  obtain ⟨hl, hw⟩ := hw
  obtain ⟨F1, up, pls, E1⟩ := E.convP (cv_lend ls 0 ts)
  have key : t ⟨fun σ' H' => Kpt is σ σ' → D.nx σ' H', D.rt, D.bk, D.ct⟩ σ H := by
    refine h H0 F0 F1 H σ ρ _ _ E1 hw (fun F2 H2 σ2 ρ2 g E2 ⟨fk, p⟩ kpt => ?_) (fun x v F' H' s rr p => r x v F' H' s rr p) (fun _ _ _ _ _ _ q => q.elim) (fun _ _ _ _ _ _ q => q.elim)
    have nis : ∀ {i : Nat}, ls.contains i = true → is.contains i = false ∧ ks.contains i = false := fun {i} hi => by
      have := List.all_eq_true.mp dj i (List.contains_iff_mem.mp hi)
      simpa using this
    have lent : ∀ {i : Nat}, ls.contains i = true → (ts[i]? = some .ow ∨ ts[i]? = some .od) → (lendT ls 0 ts)[i]? = some .sh := fun {i} hi q => by
      rcases q with q | q
      · rw [lend_get q, Nat.zero_add, if_pos hi]
      · rw [lend_get q, Nat.zero_add, if_pos hi]
    let Pl : Addr → Prop := fun a => ∃ i, ls.contains i = true ∧ ((ts[i]? = some .ow ∧ σ[i]? = some (some (.ref a))) ∨ (ts[i]? = some .od ∧ Dpl H σ i a))
    have plF : ∀ a, Pl a → ¬ F a := fun a ⟨i, _, q⟩ f => by
      rcases q with ⟨q1, q2⟩ | ⟨q1, q2⟩
      · obtain ⟨a', vs, xs, g1, g2, g3, g4, g5, g6⟩ := E.ow i q1
        rw [q2] at g1
        cases g1
        exact g4 f
      · obtain ⟨v, x, g1, g2, g3⟩ := E.od i q1
        exact (g3.have_ g1 q2).2.1 f
    let F3 : Fz := fun a => F2 a ∧ ¬ Pl a
    have f3 : ∀ a, F a → F3 a := fun a f => ⟨g.1 a (up a f), fun q => plF a q f⟩
    have sb1 : Stb F1 H H2 := g.2
    have sb : Stb F H H2 := fun a o ha z => sb1 a o ha (z.elim .inl fun q => .inr ⟨up a q.1, q.2⟩)
    have st3 : Step F0 H0 F3 H2 := ⟨E2.st.ex, fun a f => f3 a (E.st.up a f), fun a f => E2.st.nw a f.1, E2.dm.of fun a f => E2.dm.at_ a f.1⟩
    have lρ : ρ.length = ρ2.length := by rw [E.lr, E2.lr, l2]
    have g0 : Gr F H F3 H2 := ⟨f3, sb⟩
    have lo : ∀ {i : Nat}, ls.contains i = true → ts[i]? = some .ow → ∃ a vs xs, σ2[i]? = some (some (.ref a)) ∧ ρ[i]? = some (.lst xs) ∧ H2 a = some (.lst vs) ∧ ¬ F3 a ∧ H0 a = none ∧ Rvs K d F3 H2 vs xs ∧ σ[i]? = some (some (.ref a)) ∧ F1 a := fun {i} hi ht => by
      obtain ⟨a, vs, xs, g1, g2, g3, g4, g5, g6⟩ := E.ow i ht
      obtain ⟨v1, x1, k1, k2, k3⟩ := E1.sh i (lent hi (.inl ht))
      rw [g1] at k1
      cases k1
      rw [g2] at k2
      cases k2
      have fa : F1 a := by
        cases k3 with
        | lst q1 q2 q3 => exact q2
      exact ⟨a, vs, xs, by rw [kpt i (by have := (nis hi).1; simpa using this)]; exact g1, g2, sb1 a _ g3 (.inr ⟨fa, rfl⟩), fun f => f.2 ⟨i, hi, .inl ⟨ht, g1⟩⟩, g5, g6.mono sb f3, g1, fa⟩
    have ld : ∀ {i : Nat}, ls.contains i = true → ts[i]? = some .od → ∃ v x, σ2[i]? = some (some v) ∧ ρ[i]? = some x ∧ OdL K d H0 F3 H2 v x ∧ σ[i]? = some (some v) ∧ ∀ a, Dpl H2 σ2 i a → Dpl H σ i a := fun {i} hi ht => by
      obtain ⟨v, x, g1, g2, g3⟩ := E.od i ht
      obtain ⟨v1, x1, k1, k2, k3⟩ := E1.sh i (lent hi (.inr ht))
      rw [g1] at k1
      cases k1
      rw [g2] at k2
      cases k2
      have hx := isLst_ex (by have := hl i (List.contains_iff_mem.mp hi); rw [getD_of g2] at this; exact this)
      have nfq : ∀ (c : Addr) (ws : List V) (a : Addr), v = .ref c → Ht H c ws → (a = c ∨ V.ref a ∈ ws) → ¬ F3 a := fun c ws a e q z f => f.2 ⟨i, hi, .inr ⟨ht, c, ws, by rw [g1, e], q, z⟩⟩
      obtain ⟨o1, o2⟩ : OdL K d H0 F3 H2 v x ∧ ∀ (c : Addr) (ws : List V), v = .ref c → Ht H c ws → Ht H2 c ws := by
        rcases hx with hx | hx
        · obtain ⟨o1, o2⟩ := g3.held hx k3 sb1 F3 f3 sb nfq
          exact ⟨o1, fun c ws e q => (o2 c ws e q).1⟩
        · exact g3.heldT hx (fun c ws a e q z => pls i a ht (lent hi (.inr ht)) ⟨c, ws, by rw [g1, e], q, .inr z⟩) sb1 F3 f3 sb nfq
      have e2 : σ2[i]? = some (some v) := by rw [kpt i (by have := (nis hi).1; simpa using this)]; exact g1
      refine ⟨v, x, e2, g2, o1, g1, fun a ⟨c, ws, q1, q2, q3⟩ => ?_⟩
      rw [e2] at q1
      cases q1
      obtain ⟨c', ws', zs, e, _, q4, _⟩ := id g3
      cases e
      cases q2.inj (o2 c ws' rfl q4)
      exact ⟨c, ws, g1, q4, q3⟩
    have kept : ∀ {k : Nat}, ks.contains k = true → fx (ρ2.getD k .non) = true := fun {k} hk => flks_at fk (List.contains_iff_mem.mp hk)
    have mv : ∀ {j : Nat} {x y : PV}, ρ[j]? = some x → ρ2[j]? = some y → (mixV (is ++ ks) 0 ρ ρ2)[j]? = some (if (is ++ ks).contains j then y else x) := fun {j x y} h1 h2 => by
      have := mixV_get (js := is ++ ks) (k := 0) h1 h2
      rwa [Nat.zero_add] at this
    have at2 : ∀ {j : Nat} {x : PV}, ρ[j]? = some x → ∃ y, ρ2[j]? = some y := fun {j x} h1 => ⟨_, List.getElem?_eq_getElem (by have := (List.getElem?_eq_some_iff.mp h1).1; omega)⟩
    have at1 : ∀ {j : Nat} {y : PV}, ρ2[j]? = some y → ∃ x, ρ[j]? = some x := fun {j x} h1 => ⟨_, List.getElem?_eq_getElem (by have := (List.getElem?_eq_some_iff.mp h1).1; omega)⟩
    have mvo : ∀ {j : Nat} {x : PV}, ρ[j]? = some x → is.contains j = false → ks.contains j = false → (mixV (is ++ ks) 0 ρ ρ2)[j]? = some x := fun {j x} h1 h2 h3 => by
      obtain ⟨y, hy⟩ := at2 h1
      rw [mv h1 hy, if_neg]
      simp only [List.contains_iff_mem, List.mem_append] at *
      simp at h2 h3
      exact fun z => z.elim h2 h3
    have mvk : ∀ {j : Nat} {y : PV}, ρ2[j]? = some y → ks.contains j = true → (mixV (is ++ ks) 0 ρ ρ2)[j]? = some y := fun {j y} h1 h2 => by
      obtain ⟨x, hx⟩ := at1 h1
      rw [mv hx h1, if_pos]
      simp only [List.contains_iff_mem, List.mem_append] at *
      exact .inr h2
    have tg : ∀ {j : Nat} {q : Tag}, (mixT ls is ks 0 ts ts2)[j]? = some q → q ≠ .no → (ls.contains j = true ∧ ts[j]? = some q) ∨ (ls.contains j = false ∧ ks.contains j = true ∧ ts2[j]? = some q ∧ q = .sh) ∨ (is.contains j = false ∧ ks.contains j = false ∧ ts[j]? = some .sh ∧ q = .sh) := fun {j q} hq nq => by
      obtain ⟨a, u, h1, h2, h3⟩ := mixT_get hq
      rw [Nat.zero_add] at h3
      unfold mx1 at h3
      split at h3
      · next e => subst h3; exact .inl ⟨e, h1⟩
      · next e =>
        have e : ls.contains j = false := by simpa using e
        split at h3
        · next e2 =>
          cases u <;> first | (subst h3; exact .inr (.inl ⟨e, e2, h2, rfl⟩)) | exact absurd h3 nq
        · next e2 =>
          have e2 : ks.contains j = false := by simpa using e2
          split at h3
          · exact absurd h3 nq
          · next e3 =>
            have e3 : is.contains j = false := by simpa using e3
            cases a <;> first | (subst h3; exact .inr (.inr ⟨e3, e2, h1, rfl⟩)) | exact absurd h3 nq
    have E3 : EnvR K d (mixT ls is ks 0 ts ts2) H0 F0 F3 H2 σ2 (mixV (is ++ ks) 0 ρ ρ2) := by
      refine ⟨st3, by rw [mixT_len l2, E2.ls, l2], by rw [mixT_len l2, mixV_len lρ, E.lr], fun j hj => ?_, fun j hj => ?_, fun i j a hi hj e1 e2 => ?_, fun j hj => ?_, fun j a hj q => ?_, E.xc, fun j hj => ?_⟩
      · rcases tg hj (by decide) with ⟨q1, q2⟩ | ⟨q0, q1, q2, _⟩ | ⟨q1, q2, q3, _⟩
        · obtain ⟨v, x, k1, k2, k3⟩ := E.sh j q2
          exact ⟨v, x, by rw [kpt j (by have := (nis q1).1; simpa using this)]; exact k1, mvo k2 (nis q1).1 (nis q1).2, k3.mono sb f3⟩
        · obtain ⟨v, x, k1, k2, k3⟩ := E2.sh j q2
          have := kept q1
          rw [getD_of k2] at this
          exact ⟨v, x, k1, mvk k2 q1, k3.frx this⟩
        · obtain ⟨v, x, k1, k2, k3⟩ := E.sh j q3
          exact ⟨v, x, by rw [kpt j (by simpa using q1)]; exact k1, mvo k2 q1 q2, k3.mono sb f3⟩
      · rcases tg hj (by decide) with ⟨q1, q2⟩ | ⟨q0, q1, q2, _⟩ | ⟨_, _, _, e⟩
        · obtain ⟨a, vs, xs, k1, k2, k3, k4, k5, k6, _⟩ := lo q1 q2
          exact ⟨a, vs, xs, k1, mvo k2 (nis q1).1 (nis q1).2, k3, k4, k5, k6⟩
        · rename_i e
          cases e
        · cases e
      · rcases tg hi (by decide) with ⟨q1, q2⟩ | ⟨_, _, _, e⟩ | ⟨_, _, _, e⟩
        · obtain ⟨a1, vs, xs, k1, k2, k3, k4, k5, k6, k7, k8⟩ := lo q1 q2
          rw [e1] at k1
          cases k1
          rcases tg hj (by decide) with ⟨p1, p2⟩ | ⟨_, _, _, e⟩ | ⟨_, _, _, e⟩
          · obtain ⟨a2, vs2, xs2, m1, m2, m3, m4, m5, m6, m7, m8⟩ := lo p1 p2
            rw [e2] at m1
            cases m1
            exact E.ap i j a q2 p2 k7 m7
          · cases e
          · cases e
        · cases e
        · cases e
      · rcases tg hj (by decide) with ⟨q1, q2⟩ | ⟨_, _, _, e⟩ | ⟨_, _, _, e⟩
        · obtain ⟨v, x, k1, k2, k3, _⟩ := ld q1 q2
          exact ⟨v, x, k1, mvo k2 (nis q1).1 (nis q1).2, k3⟩
        · cases e
        · cases e
      · rcases tg hj (by decide) with ⟨q1, q2⟩ | ⟨_, _, _, e⟩ | ⟨_, _, _, e⟩
        · obtain ⟨v, x, k1, k2, k3, k4, k5⟩ := ld q1 q2
          have d1 := k5 a q
          refine ⟨fun l hl2 e => ?_, fun l hl2 z => ?_⟩
          · rcases tg hl2 (by decide) with ⟨p1, p2⟩ | ⟨_, _, _, e'⟩ | ⟨_, _, _, e'⟩
            · obtain ⟨a2, vs2, xs2, m1, m2, m3, m4, m5, m6, m7, m8⟩ := lo p1 p2
              rw [e] at m1
              cases m1
              exact (E.ad j a q2 d1).1 l p2 m7
            · cases e'
            · cases e'
          · rcases tg hl2 (by decide) with ⟨p1, p2⟩ | ⟨_, _, _, e⟩ | ⟨_, _, _, e⟩
            · obtain ⟨_, _, _, _, _, _, m5⟩ := ld p1 p2
              exact (E.ad j a q2 d1).2 l p2 (m5 a z)
            · cases e
            · cases e
        · cases e
        · cases e
      · rcases tg hj (by decide) with ⟨q1, q2⟩ | ⟨_, _, _, e⟩ | ⟨_, _, _, e⟩
        · exact (E.ex.mono sb f3 j q2).imp (fun z => by rw [kpt j (by have := (nis q1).1; simpa using this)]; exact z) fun z => z
        · cases e
        · cases e
    exact n F3 H2 σ2 _ g0 E3 p
  exact kp σ ⟨fun σ' H' => Kpt is σ σ' → D.nx σ' H', D.rt, D.bk, D.ct⟩ D ⟨fun σ' H' k' => propext ⟨fun (q : Kpt is σ σ' → D.nx σ' H') => q k', fun q _ => q⟩, rfl, fun _ _ _ => rfl, fun _ _ _ => rfl⟩ σ H .refl key
end
section
variable [XC]
variable {K : PySem.W.Frag} {d : Cn → Addr} {ts ts1 ts' bt ct : List Tag} {R : RR} {a b c e f g h i r : TS} {w w' : WS}
end
end Wx
namespace Wx
open PySem PySem.Spec PyProof.Rows L2 Evl Hn RZ
variable [TabC]
section
variable [XC]
variable {K : PySem.W.Frag} {d : Cn → Addr} {F F' F0 F1 : Fz} {H H' H0 H1 Hs : Hp} {ts ts' bt ct : List Tag} {R : RR} {te : TE} {we : WE} {v : V} {x y : PV} {i : Nat}
theorem EnvR.pushD {c : Addr} {ws : List V} {zs : List PV} {σ : L2.St} {ρ : List PV} (E : EnvR K d ts H0 F0 F H σ ρ) (hi : ts[i]? = some .od) (hs : σ[i]? = some (some (.ref c))) (hr : ρ[i]? = some (.lst zs)) (hc : H c = some (.lst ws)) (sv : Sc K d v y) :
    EnvR K d ts H0 F0 F (upd H c (.lst (ws ++ [v]))) σ (ρ.set i (.lst (zs ++ [y]))) := by
  obtain ⟨v0, x', g1, g2, g3⟩ := E.od i hi
  rw [hs] at g1
  rw [hr] at g2
  cases g1
  cases g2
  obtain ⟨c', bs, yss, e1, hx0, n3, n4, n4', n5, n6, n7, n8⟩ := g3
  cases e1
  obtain ⟨hc', ez⟩ := hx0.of_lst
  subst ez
  rw [hc] at hc'
  cases hc'
  have sb : Stb F H (upd H c (.lst (ws ++ [v]))) := Stb.set hc n4
  have hk : Ht H c ws := .lst hc
  have hk' : Ht (upd H c (.lst (ws ++ [v]))) c (ws ++ [v]) := .lst upd_same
  have dpl : Dpl H σ i c := ⟨c, ws, hs, hk, .inl rfl⟩
  have mem : ∀ a, V.ref a ∈ ws ++ [v] → V.ref a ∈ ws := fun a h => by
    rcases List.mem_append.mp h with h | h
    · exact h
    · rw [List.mem_singleton] at h
      exact absurd h.symm (sv.1 a)
  have bk : ∀ {l : Nat} {y : Addr}, ts[l]? = some .od → Dpl (upd H c (.lst (ws ++ [v]))) σ l y → Dpl H σ l y := fun {l y} hl ⟨c2, bs2, z1, z2, z3⟩ => by
    by_cases e : c2 = c
    · subst e
      cases hk'.inj z2
      exact ⟨c2, ws, z1, hk, z3.imp id (mem _)⟩
    · exact ⟨c2, bs2, z1, z2.same (upd_ne e).symm, z3⟩
  have ic : ∀ (k : Nat) (b : Addr), ws[k]? = some (.ref b) → b ≠ c := fun k b hk e => n5 (e ▸ List.mem_of_getElem? hk)
  refine ⟨⟨Xn.mut E.st.ex n4', E.st.up, E.st.nw, E.dm.set hc⟩, E.ls, by rw [List.length_set, E.lr], fun j h => ?_, fun j h => ?_, E.ap, fun j h => ?_, fun j y h q => ?_, E.xc, E.ex.mono sb fun _ z => z⟩
  · obtain ⟨w, y, h1, h2, h3⟩ := E.sh j h
    have ne : i ≠ j := by rintro rfl; rw [hi] at h; cases h
    exact ⟨w, y, h1, by rw [List.getElem?_set_ne ne]; exact h2, h3.mono sb fun _ z => z⟩
  · obtain ⟨a, us, ys, h1, h2, h3, h4, h5, h6⟩ := E.ow j h
    have ne : i ≠ j := by rintro rfl; rw [hi] at h; cases h
    have na : a ≠ c := fun e => (E.ad i c hi dpl).1 j h (e ▸ h1)
    exact ⟨a, us, ys, h1, by rw [List.getElem?_set_ne ne]; exact h2, by rw [upd_ne na]; exact h3, h4, h5, h6.mono sb fun _ z => z⟩
  · by_cases e : i = j
    · subst e
      have li : i < ρ.length := (List.getElem?_eq_some_iff.mp hr).1
      refine ⟨_, _, hs, by rw [List.getElem?_set_self li], c, ws ++ [v], yss ++ [y], rfl, Hx.lst upd_same, hk', n4, n4', fun h => n5 (mem _ h), fun k l a k1 k2 => ?_, by rw [List.length_append, List.length_append, n7]; rfl, fun k w z k1 k2 => ?_⟩
      · have lt : ∀ {k : Nat}, (ws ++ [v])[k]? = some (.ref a) → ws[k]? = some (.ref a) := fun {k} h => by
          rcases Nat.lt_or_ge k ws.length with z | z
          · rwa [List.getElem?_append_left z] at h
          · rw [List.getElem?_append_right z] at h
            have hk0 : k - ws.length = 0 := by
              have := (List.getElem?_eq_some_iff.mp h).1
              simp at this
              omega
            rw [hk0] at h
            have h : some v = some (V.ref a) := h
            exact absurd (Option.some.inj h) (sv.1 a)
        exact n6 k l a (lt k1) (lt k2)
      · rcases Nat.lt_or_ge k ws.length with z0 | z0
        · rw [List.getElem?_append_left z0] at k1
          rw [List.getElem?_append_left (by omega)] at k2
          rcases n8 k w z k1 k2 with ⟨b, us, ys, rfl, rfl, w1, w2, w3, w4⟩ | s
          · exact .inl ⟨b, us, ys, rfl, rfl, by rw [upd_ne (ic k b k1)]; exact w1, w2, w3, w4.mono sb fun _ z => z⟩
          · exact .inr s
        · rw [List.getElem?_append_right z0] at k1
          rw [List.getElem?_append_right (by omega)] at k2
          have hk0 : k - ws.length = 0 := by
            have := (List.getElem?_eq_some_iff.mp k1).1
            simp at this
            omega
          rw [hk0] at k1
          rw [show k - yss.length = 0 by omega] at k2
          cases k1
          cases k2
          exact .inr sv
    · obtain ⟨w, y, h1, h2, h3⟩ := E.od j h
      have na : ∀ a, Dpl H σ j a → a ≠ c := fun a q e' => e ((E.ad i c hi dpl).2 j h (e' ▸ q))
      obtain ⟨c2, bs2, yss2, rfl, hx2, k1, k2, k3, k4, k5, k6, k7⟩ := h3
      have un := upd_ne (H := H) (o := .lst (ws ++ [v])) (na c2 ⟨c2, bs2, h1, k1, .inl rfl⟩)
      refine ⟨_, _, h1, by rw [List.getElem?_set_ne e]; exact h2, c2, bs2, yss2, rfl, hx2.same un, k1.same un, k2, k3, k4, k5, k6, fun k w z q1 q2 => ?_⟩
      rcases k7 k w z q1 q2 with ⟨a, us, ys, rfl, rfl, w1, w2, w3, w4⟩ | s
      · exact .inl ⟨a, us, ys, rfl, rfl, by rw [upd_ne (na a ⟨c2, bs2, h1, k1, .inr (List.mem_of_getElem? q1)⟩)]; exact w1, w2, w3, w4.mono sb fun _ z => z⟩
      · exact .inr s
  · obtain ⟨q1, q2⟩ := E.ad j y h (bk h q)
    exact ⟨q1, fun l hl z => q2 l hl (bk hl z)⟩
def wMutP (i : Nat) (we : WE) : WS := fun D ρ => ∃ xs, ρ.getD i .non = .lst xs ∧ xs.length < 100000 ∧ we ρ fun y => plainP y ∧ D.nx (ρ.set i (.lst (xs ++ [y])))
theorem simS_mutP (hi : ts[i]? = some .od) (h : Sim K d (rS K d) ts te we) : SimS K d R bt ct ts (tDrop (tBM K "list" rAppend (tVar i) (tCons te tNil))) (wMutP i we) ts := fun H0 F0 F H σ ρ D D' E hw n r bk c => by
  obtain ⟨v0, x, g1, g2, g3⟩ := E.od i hi
  obtain ⟨xs, e, hl, p⟩ := hw
  rw [getD_of g2] at e
  subst e
  obtain ⟨c, ws, zs, rfl, hx, _, nf, _, _, _, hlen, _⟩ := id g3
  obtain ⟨hc, ez⟩ := hx.of_lst
  subst ez
  refine ⟨_, g1, ty_lst hc, h H0 F0 F H σ ρ _ _ E p fun y v F1 H1 s1 r1 ⟨py, p1⟩ => ?_⟩
  have hc1 : H1 c = some (.lst ws) := s1.ex.at hc
  have nf1 : ¬ F1 c := fun f => (s1.nw _ f).elim nf fun z => by rw [hc] at z; cases z
  exact ⟨c, ws, v, rfl, rfl, hc1, by rw [hlen]; exact sz_lt hl, n F1 _ σ _ ((Gr.of s1).trans ⟨fun _ h => h, Stb.set hc1 nf1⟩) ((E.step s1).pushD hi g1 g2 hc1 (plain_sc py r1)) p1⟩
def wSetND (i : Nat) (we : WE) : WS := fun D ρ => we ρ fun y => (∃ ys, y = .lst ys ∧ ∀ z ∈ ys, plainP z) ∧ D.nx (ρ.set i y)
theorem rN_rD (h : rN K d F H F' H' v x) (p : ∃ ys, x = .lst ys ∧ ∀ z ∈ ys, plainP z) : rD K d F H F' H' v x := by
  obtain ⟨ys, rfl, p⟩ := p
  rcases h with ⟨nl, _⟩ | ⟨q, vs, xs, rfl, e, n1, n2, n3, n4⟩
  · exact nl.elim
  · cases e
    have sc : ∀ (k : Nat) (w : V) (z : PV), vs[k]? = some w → ys[k]? = some z → Sc K d w z := fun k w z k1 k2 => by
      obtain ⟨z', hz, rz⟩ := n4.getV k1
      rw [k2] at hz
      cases hz
      exact plain_sc (p z (List.mem_of_getElem? k2)) rz
    have nr : ∀ a, V.ref a ∉ vs := fun a h => by
      obtain ⟨k, hk, e⟩ := List.mem_iff_getElem.mp h
      have hl := n4.length
      exact (sc k (.ref a) _ (by rw [List.getElem?_eq_getElem hk, e]) (List.getElem?_eq_getElem (by omega))).1 a rfl
    exact ⟨q, vs, ys, rfl, .lst n2, n1, fun b hb => absurd hb (nr b), .lst n2, n3, nr q, fun k l a h _ => absurd (List.mem_of_getElem? h) (nr a), n4.length, fun k w z k1 k2 => .inr (sc k w z k1 k2)⟩
theorem simS_setND (h : Sim K d (rN K d) ts te we) : SimS K d R bt ct ts (tAsg te (gName i)) (wSetND i we) (ts.set i .od) := fun H0 F0 F H σ ρ D D' E hw n r b c =>
  h H0 F0 F H σ ρ _ _ E hw fun x v F1 H1 s1 r1 ⟨p, h1⟩ => n F1 H1 _ _ (.of s1) ((E.step s1).putD (rN_rD r1 p) E.st.ex E.ownIn s1.ex) h1
end
end Wx
namespace Hn
open PySem PySem.Spec PyProof.Rows L2 Evl
theorem walkGE {l : PySem.W.OpenLaw} {n k : Nat} {q : Program} {loose : List Str} {XP : (Str → Option Value) → Heap → Prop} {YP : World → Heap → Prop} {d : DefRec} {x : Str}
    (most : l.most = some n) (line : n ≤ sizeLine) (nodf : d.params.defaults = []) (room : Room k callerA)
    (F : ∀ (w : World) (mg : Str → Option Value) (fa : Addr) (h : Heap), YP w h → h.Ns mainGlobals mg → mg d.name = some (.ref fa) → ∃ (K : PySem.W.Frag) (sp : Sp), K.In h ∧ (∀ (H : Hp) (a : Addr) (ns : List Int), ns.length ≤ n → SqL K H a (ns.map V.int) → sp [.ref a] H (fun v _ => v = .bl true) E0) ∧
      ∀ base : Heap, K.In base → base.Ns mainGlobals mg → OkP NoG l.prog w K mg base k fa [x] sp) : PySem.W.WalkO q loose XP YP l.row.toRowW d [] (fun f vs => PySem.call f vs) := by
  refine Att.attach_call most nodf fun w s₀ s₁ mg mb fa o pm cd doc a vs ns G Y _ _ _ hmg obj inn len gens => ?_
  obtain ⟨K, sp, kX, hsp, hF⟩ := F w mg fa _ Y G.T.g hmg
  exact head_law kX G.T.g G.T.b G.T.builtins G.T.nolimit gens obj inn (Nat.le_trans len line) room hF fun H hS => hsp H a ns len hS
end Hn
namespace L2
open PySem PySem.Spec PyProof.Rows
end L2
namespace Pf
open PySem PySem.Spec PyProof.Rows L2 Evl Hn Wx
local macro_rules | `(tactic| walk_at "rd") => `(tactic| repeat (first
  | with_reducible refine r_raiseE ?_
  | with_reducible refine r_callY ?_
  | with_reducible refine r_makeY ?_
  | with_reducible refine r_methY ?_
  | with_reducible refine r_exF ?_
  | with_reducible refine r_m1 ?_
  | with_reducible refine r_isS ?_
  | with_reducible refine r_break ?_
  | with_reducible refine r_cont ?_
  | with_reducible refine r_listZip ?_
  | with_reducible refine r_smeth ?_
  | with_reducible refine r_isC ?_
  | with_reducible refine r_lstRg ?_
  | with_reducible refine r_rg1 ?_
  | with_reducible refine r_seq ?_
  | with_reducible refine r_next ?_
  | with_reducible refine r_asg ?_
  | with_reducible refine r_name ?_
  | with_reducible refine r_ret ?_
  | with_reducible refine r_retN ?_
  | with_reducible refine r_drop ?_
  | with_reducible refine r_ifS ?_
  | with_reducible refine r_test ?_
  | with_reducible refine r_B ?_
  | with_reducible refine r_and ?_
  | with_reducible refine r_or ?_
  | with_reducible refine r_not ?_
  | with_reducible refine r_andV ?_
  | with_reducible refine r_orV ?_
  | with_reducible refine r_notV ?_
  | with_reducible refine r_if ?_
  | with_reducible refine r_c ?_
  | with_reducible refine r_op ?_
  | with_reducible refine r_un ?_
  | with_reducible refine r_chain ?_
  | with_reducible refine r_lst ?_
  | with_reducible refine r_tup ?_
  | with_reducible refine r_nil ?_
  | with_reducible refine r_cons ?_
  | with_reducible refine r_call ?_
  | with_reducible refine r_meth ?_
  | with_reducible refine r_make ?_
  | with_reducible refine r_prop ?_
  | with_reducible refine r_cb ?_
  | with_reducible refine r_bm ?_
  | with_reducible refine r_bm0 ?_
  | with_reducible refine r_sl ?_
  | with_reducible refine r_noPart ?_
  | with_reducible refine r_part ?_
  | with_reducible refine r_int1 ?_
  | with_reducible refine r_bl1 ?_
  | with_reducible refine r_revL ?_
  | with_reducible refine r_lc ?_
  | with_reducible refine r_par ?_
  | with_reducible refine r_par3 ?_
  | with_reducible refine r_two ?_
  | with_reducible refine r_three ?_
  | with_reducible refine r_augS ?_
  | with_reducible refine r_sub ?_
  | with_reducible refine r_fld ?_
  | with_reducible refine r_sfld ?_
  | with_reducible refine r_iList ?_
  | with_reducible refine r_iTup ?_
  | with_reducible refine r_iRng1 ?_
  | with_reducible refine r_iRng2 ?_
  | with_reducible refine r_iEnum ?_
  | with_reducible refine r_iZip ?_
  | with_reducible refine r_iZipA ?_
  | with_reducible refine r_iSeq ?_
  | with_reducible refine r_iOwn ?_
  | with_reducible refine r_iEnumS ?_
  | with_reducible refine r_revT ?_
  | with_reducible refine r_ixO ?_
  | with_reducible refine r_yes ?_
  | with_reducible refine r_for ?_
  | with_reducible refine r_I0 ?_
  | with_reducible refine r_U ?_
  | with_reducible refine r_eqI ?_
  | with_reducible refine r_neI ?_
  | with_reducible refine r_eqB ?_
  | with_reducible refine r_neB ?_
  | with_reducible refine r_eqS ?_
  | with_reducible refine r_neS ?_
  | with_reducible refine r_ipI ?_
  | with_reducible refine r_abs ?_
  | with_reducible refine r_intP ?_
  | with_reducible refine r_intB ?_
  | with_reducible refine r_min2 ?_
  | with_reducible refine r_max2 ?_
  | with_reducible refine r_isNi ?_
  | with_reducible refine r_isNr ?_
  | with_reducible refine r_isNn ?_
  | with_reducible refine r_notNi ?_
  | with_reducible refine r_notNr ?_
  | with_reducible refine r_notNn ?_
  | with_reducible refine r_call1 ?_
  | (with_reducible refine' r_var ?hv ?_); (case hv => exact rfl)
  | (with_reducible refine' r_aug ?hv ?_); (case hv => exact rfl)
  | (with_reducible refine r_wipe ?hv ?_); (case hv => exact rfl)
  | (with_reducible refine r_I ?hv ?_); (case hv => (first | (show (0 : Int) < _; omega) | exact Or.inl ⟨by omega, by omega⟩ | exact Or.inr ⟨by omega, by omega⟩ | exact ⟨by omega, by omega⟩ | exact ⟨by omega, by omega, by decide⟩))
  | (with_reducible refine r_range1 ?hv ?hw ?_); (case hv => omega); (case hw => omega)))
local macro_rules | `(tactic| walk_at "ex") => `(tactic| first
  | assumption
  | exact Ex.refl _
  | exact Ex.new (by assumption)
  | (refine Ex.trans ?_ (Ex.new (by assumption)); walk_at "ex")
  | (refine Ex.mut ?_ (by walk_at "fr"); walk_at "ex")
  | (refine Ex.trans ?_ (by assumption); walk_at "ex"))
local macro_rules | `(tactic| walk_at "xl") => `(tactic| first
  | exact Xl.refl _
  | (refine Xl.trans ?_ (Xl.of (by assumption)); walk_at "xl")
  | (refine Xl.trans ?_ (Xl.of (Ex.new (by assumption))); walk_at "xl")
  | (refine Xl.trans ?_ (Xl.set (by assumption)); walk_at "xl")
  | (refine Xl.trans ?_ (Xl.set (by walk_at "kn")); walk_at "xl"))
local macro_rules | `(tactic| walk_at "fr") => `(tactic| first
  | assumption
  | (refine fresh_back ?_ (by assumption); walk_at "ex"))
local macro_rules | `(tactic| walk_at "kn") => `(tactic| first
  | assumption
  | exact upd_same
  | (refine mv_bag (by assumption) ?_; walk_at "xl")
  | (refine mv_rw (by assumption) ?_; walk_at "xl")
  | (refine mv_ps (by assumption) ?_; walk_at "xl")
  | (refine mv_clk (by assumption) ?_; walk_at "xl")
  | (refine mv_sqL (by assumption) ?_; walk_at "ex")
  | (refine mv_sqT (by assumption) ?_; walk_at "ex")
  | (refine mv_at (by assumption) ?_; walk_at "ex")
  | (refine' mv_at upd_same ?hk; (case hk => walk_at "ex"))
  | (refine' at_sqL ?hk; (case hk => walk_at "kn"))
  | (refine' at_sqT ?hk; (case hk => walk_at "kn"))
  | (refine mv_sq (by assumption) ?_; walk_at "ex")
  | (refine' sqL_sq ?hk; (case hk => walk_at "kn"))
  | (refine' sqT_sq ?hk; (case hk => walk_at "kn"))
  | (refine' ps_rw ?hk; (case hk => walk_at "kn")))
structure Ads where
  c_Clock : Addr
  c_Needs : Addr
  f__law_bag : Addr
  f__law_take : Addr
  f__law_stays : Addr
  f__law_number : Addr
  f__law_numbers : Addr
  f__law_wants : Addr
  f_is_integer : Addr
  f_are_stays : Addr
  f_need_order : Addr
  f_width_of : Addr
  f_Clock___init__ : Addr
  f__law_clock : Addr
  f__law_ring : Addr
  f__law_serving : Addr
  f__law_hop : Addr
  f__law_wound : Addr
  f__law_bound_of : Addr
  f_is_hour : Addr
  f_Clock_hours : Addr
  q_Clock_hours : Addr
  f_Clock_widths : Addr
  f_step_hours : Addr
  f__law_alike : Addr
  f_winds : Addr
  f_up : Addr
  f_Needs___getitem__ : Addr
  f_ring_bound : Addr
  f_Needs_hours : Addr
  q_Needs_hours : Addr
  f_need_alike : Addr
  f_bound : Addr
  f_is_count : Addr
  f_are_counts : Addr
  f_is_row : Addr
  f_Needs___init__ : Addr
  f__law_heard : Addr
  f_Clock_even : Addr
  p_Clock_even : Addr
  f__law_by_turns : Addr
  f_law : Addr
  c_NeedError : Addr
  c_Unlike : Addr
  fi_Unlike : Addr
def cnA (d : Ads) : Cn → Addr
  | .Clock => d.c_Clock
  | .Needs => d.c_Needs
  | .Plan => 0
  | .House => 0
  | .Book => 0
  | .Desk => 0
  | .Endless => 0
structure Tx (P : Program) (K : PySem.W.Frag) (mg : Str → Option Value) (d : Ads) : Prop where
  g_Clock : mg "Clock" = some (.ref d.c_Clock)
  cl_Clock : Cls K d.c_Clock
  sf_Clock : PySem.W.selfFirst K d.c_Clock = true
  g_Needs : mg "Needs" = some (.ref d.c_Needs)
  cl_Needs : Cls K d.c_Needs
  sf_Needs : PySem.W.selfFirst K d.c_Needs = true
  n_Clock_kept_stays : NoAttr K d.c_Clock "kept_stays"
  n_Clock_kept_widths : NoAttr K d.c_Clock "kept_widths"
  n_Needs_kept_row : NoAttr K d.c_Needs "kept_row"
  g__law_bag : mg "_law_bag" = some (.ref d.f__law_bag)
  d__law_bag : Df K "_law_bag" "_law_bag" s__law_bag d.f__law_bag ["_law_script"]
  g__law_take : mg "_law_take" = some (.ref d.f__law_take)
  d__law_take : Df K "_law_take" "_law_take" s__law_take d.f__law_take ["_law_bag_here", "_law_upto"]
  g__law_stays : mg "_law_stays" = some (.ref d.f__law_stays)
  d__law_stays : Df K "_law_stays" "_law_stays" s__law_stays d.f__law_stays ["_law_bag_here", "_law_many"]
  g__law_number : mg "_law_number" = some (.ref d.f__law_number)
  d__law_number : Df K "_law_number" "_law_number" s__law_number d.f__law_number ["_law_bag_here"]
  g__law_numbers : mg "_law_numbers" = some (.ref d.f__law_numbers)
  d__law_numbers : Df K "_law_numbers" "_law_numbers" s__law_numbers d.f__law_numbers ["_law_bag_here", "_law_many"]
  g__law_wants : mg "_law_wants" = some (.ref d.f__law_wants)
  d__law_wants : Df K "_law_wants" "_law_wants" s__law_wants d.f__law_wants ["_law_bag_here", "_law_many"]
  g_is_integer : mg "is_integer" = some (.ref d.f_is_integer)
  d_is_integer : Df K "is_integer" "is_integer" s_is_integer d.f_is_integer ["thing"]
  g_are_stays : mg "are_stays" = some (.ref d.f_are_stays)
  d_are_stays : Df K "are_stays" "are_stays" s_are_stays d.f_are_stays ["thing"]
  g_need_order : mg "need_order" = some (.ref d.f_need_order)
  d_need_order : Df K "need_order" "need_order" s_need_order d.f_need_order ["stays"]
  g_width_of : mg "width_of" = some (.ref d.f_width_of)
  d_width_of : Df K "width_of" "width_of" s_width_of d.f_width_of ["stays", "hour"]
  mk_Clock : Mk K d.c_Clock d.f_Clock___init__
  d_Clock___init__ : Df K "__init__" "Clock.__init__" s_Clock___init__ d.f_Clock___init__ ["self", "stays"]
  g__law_clock : mg "_law_clock" = some (.ref d.f__law_clock)
  d__law_clock : Df K "_law_clock" "_law_clock" s__law_clock d.f__law_clock ["_law_bag_here", "_law_stays_here"]
  g__law_ring : mg "_law_ring" = some (.ref d.f__law_ring)
  d__law_ring : Df K "_law_ring" "_law_ring" s__law_ring d.f__law_ring ["_law_bag_here", "_law_many"]
  g__law_serving : mg "_law_serving" = some (.ref d.f__law_serving)
  d__law_serving : Df K "_law_serving" "_law_serving" s__law_serving d.f__law_serving ["_law_stays_here", "_law_hour"]
  g__law_hop : mg "_law_hop" = some (.ref d.f__law_hop)
  d__law_hop : Df K "_law_hop" "_law_hop" s__law_hop d.f__law_hop ["_law_stays_here", "_law_hour", "_law_later"]
  g__law_wound : mg "_law_wound" = some (.ref d.f__law_wound)
  d__law_wound : Df K "_law_wound" "_law_wound" s__law_wound d.f__law_wound ["_law_stays_here", "_law_ring_here"]
  g__law_bound_of : mg "_law_bound_of" = some (.ref d.f__law_bound_of)
  d__law_bound_of : Df K "_law_bound_of" "_law_bound_of" s__law_bound_of d.f__law_bound_of ["_law_stays_here", "_law_wants_here", "_law_ring_here"]
  g_is_hour : mg "is_hour" = some (.ref d.f_is_hour)
  d_is_hour : Df K "is_hour" "is_hour" s_is_hour d.f_is_hour ["hours", "thing"]
  p_Clock_hours : PropOf K d.c_Clock "hours" d.q_Clock_hours d.f_Clock_hours
  d_Clock_hours : Df K "hours" "Clock.hours" s_Clock_hours d.f_Clock_hours ["self"]
  m_Clock_widths : Meth K d.c_Clock "widths" d.f_Clock_widths
  d_Clock_widths : Df K "widths" "Clock.widths" s_Clock_widths d.f_Clock_widths ["self"]
  g_step_hours : mg "step_hours" = some (.ref d.f_step_hours)
  d_step_hours : Df K "step_hours" "step_hours" s_step_hours d.f_step_hours ["clock", "hour", "later"]
  g__law_alike : mg "_law_alike" = some (.ref d.f__law_alike)
  d__law_alike : Df K "_law_alike" "_law_alike" s__law_alike d.f__law_alike ["_law_found", "_law_due"]
  g_winds : mg "winds" = some (.ref d.f_winds)
  d_winds : Df K "winds" "winds" s_winds d.f_winds ["clock", "ring"]
  g_up : mg "up" = some (.ref d.f_up)
  d_up : Df K "up" "up" s_up d.f_up ["above", "below"]
  m_Needs___getitem__ : Meth K d.c_Needs "__getitem__" d.f_Needs___getitem__
  fi_Needs___getitem__ : PySem.W.fnIn K d.f_Needs___getitem__ = true
  d_Needs___getitem__ : Df K "__getitem__" "Needs.__getitem__" s_Needs___getitem__ d.f_Needs___getitem__ ["self", "hour"]
  g_ring_bound : mg "ring_bound" = some (.ref d.f_ring_bound)
  d_ring_bound : Df K "ring_bound" "ring_bound" s_ring_bound d.f_ring_bound ["clock", "needs", "ring"]
  p_Needs_hours : PropOf K d.c_Needs "hours" d.q_Needs_hours d.f_Needs_hours
  d_Needs_hours : Df K "hours" "Needs.hours" s_Needs_hours d.f_Needs_hours ["self"]
  g_need_alike : mg "need_alike" = some (.ref d.f_need_alike)
  d_need_alike : Df K "need_alike" "need_alike" s_need_alike d.f_need_alike ["clock", "needs"]
  g_bound : mg "bound" = some (.ref d.f_bound)
  d_bound : Df K "bound" "bound" s_bound d.f_bound ["clock", "needs", "ring"]
  g_is_count : mg "is_count" = some (.ref d.f_is_count)
  d_is_count : Df K "is_count" "is_count" s_is_count d.f_is_count ["thing"]
  g_are_counts : mg "are_counts" = some (.ref d.f_are_counts)
  d_are_counts : Df K "are_counts" "are_counts" s_are_counts d.f_are_counts ["hours", "thing"]
  g_is_row : mg "is_row" = some (.ref d.f_is_row)
  d_is_row : Df K "is_row" "is_row" s_is_row d.f_is_row ["thing"]
  mk_Needs : Mk K d.c_Needs d.f_Needs___init__
  d_Needs___init__ : Df K "__init__" "Needs.__init__" s_Needs___init__ d.f_Needs___init__ ["self", "row"]
  g__law_heard : mg "_law_heard" = some (.ref d.f__law_heard)
  d__law_heard : Df K "_law_heard" "_law_heard" s__law_heard d.f__law_heard ["_law_clock_here", "_law_wants_here", "_law_ring_here"]
  st_Clock_even : SMet K d.c_Clock (.type "type") "even" d.p_Clock_even d.f_Clock_even
  d_Clock_even : Df K "even" "Clock.even" s_Clock_even d.f_Clock_even ["hours", "stay"]
  g__law_by_turns : mg "_law_by_turns" = some (.ref d.f__law_by_turns)
  d__law_by_turns : Df K "_law_by_turns" "_law_by_turns" s__law_by_turns d.f__law_by_turns ["_law_bag_here", "_law_clock_here", "_law_stays_here", "_law_rows", "_law_ring_here"]
  d_law : Df K "law" "law" s_law d.f_law ["_law_script"]
  z_abs : mg "abs" = none
  z_all : mg "all" = none
  z_bool : mg "bool" = none
  z_enumerate : mg "enumerate" = none
  z_int : mg "int" = none
  z_isinstance : mg "isinstance" = none
  z_len : mg "len" = none
  z_list : mg "list" = none
  z_min : mg "min" = none
  z_range : mg "range" = none
  z_repr : mg "repr" = none
  z_sum : mg "sum" = none
  z_tuple : mg "tuple" = none
  z_zip : mg "zip" = none
  k_MOST_HOURS : ∃ t : Tok, mg "MOST_HOURS" = some (.int 48 t)
  g_NeedError : mg "NeedError" = some (.ref d.c_NeedError)
  g_Unlike : mg "Unlike" = some (.ref d.c_Unlike)
  er_Unlike : ErrC0 P K mg "Unlike" d.c_Unlike d.fi_Unlike
  xc_Unlike : ExcC K d.c_Unlike
  xm_Unlike : PySem.W.exmOne K (.ref d.c_Unlike) (.ref d.c_NeedError) = some true
  ix_Unlike_Unlike : PySem.W.kitOne K (.ref d.c_Unlike) (.ref d.c_Unlike) = some true
section
variable [TabC] {P : Program} {w : World} {K : PySem.W.Frag} {mg : Str → Option Value} {base : Heap} {d : Ads}
abbrev Nd (K : PySem.W.Frag) (d : Ads) (H : Hp) (v : V) (s : List Int) : Prop := Rw K d.c_Needs "kept_row" H v s
def eaA (d : Ads) : En → Option Addr
  | .Unlike => some d.c_Unlike
  | _ => none
theorem ea_is {n : En} {C : Addr} (h : eaA d n = some C) : n = .Unlike ∧ C = d.c_Unlike := by
  cases n <;> first | (cases h; done) | (cases h; simp)
theorem ex_kit (T : Tx P K mg d) : ∀ n m C C2, eaA d n = some C → eaA d m = some C2 → PySem.W.kitOne K (.ref C) (.ref C2) = some (decide (n = m)) := fun n m C C2 h1 h2 => by
  rcases ea_is h1 with ⟨rfl, rfl⟩ <;> rcases ea_is h2 with ⟨rfl, rfl⟩ <;> first | exact T.ix_Unlike_Unlike
theorem ex_exc (T : Tx P K mg d) : ∀ n C, eaA d n = some C → ExcC K C := fun n C h => by
  rcases ea_is h with ⟨rfl, rfl⟩ <;> first | exact T.xc_Unlike
theorem ex_all (T : Tx P K mg d) : ∀ n C, eaA d n = some C → PySem.W.exmOne K (.ref C) (.ref d.c_NeedError) = some true := fun n C h => by
  rcases ea_is h with ⟨rfl, rfl⟩ <;> first | exact T.xm_Unlike
theorem sc__law_bag : FnScope ["_law_script", "_law_cell"] ["_law_script"] (defScope s__law_bag) := ⟨rfl, rfl, rfl, by decide +kernel, rfl, by decide +kernel, by decide +kernel⟩
theorem absI (i : Int) : 0 ≤ (if i < 0 then -i else i) := by split <;> omega
theorem cut_some (xs : List V) (h : xs.length ≤ 63) : cutV xs none (some 63) = xs := by
  unfold cutV
  rw [HT.sIx_none, show HT.sIx xs.length xs.length (some 63) = min 63 xs.length from HT.sIx_nat xs.length xs.length 63]
  rw [List.drop_zero, Nat.sub_zero, Nat.min_eq_right h, List.take_length]
def sp__law_bag (K : PySem.W.Frag) (d : Ads) : Sp := spBag K
def spBagL0 (K : PySem.W.Frag) (d : Ads) : Sp := spBagL K
set_option maxHeartbeats 4000000 in
theorem ok0__law_bag (T : Tx P K mg d) : Okf P w K mg base 1 d.f__law_bag ["_law_script"] (spBagL0 K d) := by
  refine okf_of T.d__law_bag sc__law_bag (fun vs H Q E h => ?_) (fun cdv A outer s H vs Q E hr h => ?_)
  · obtain ⟨a, ns, rfl, hS, hl, k⟩ := h
    rfl
  · obtain ⟨a, ns, rfl, hS, hl, k⟩ := h
    refine ⟨_, (pss_one (ps_ret (pe_lst (pa_cons pe_int (pa_cons pe_int (pa_cons pe_int (pa_cons (pe_lc (own := [("_law_cell", 1)]) rfl sc__law_bag.nd (k_piL (K := K) rfl (pe_slice (k_slL (K := K) rfl) (pv 0) po_none (po_some pe_int))) (blkOk_by (by kernel_rfl)) (fun _ _ _ _ _ => (pg_name (i := 1) sc__law_bag.nd rfl (by first | exact Or.inl rfl | exact Or.inr rfl))) (fun _ _ _ _ _ => pts_nil) (fun _ _ _ _ _ => (pe_callB k_abs (by rfl) T.z_abs (by decide +kernel) (pa_cons (pv 1) pa_nil)))) pa_nil))))))), ?_⟩
    walk_at "rd"
    refine ⟨a, _, rfl, hS, fun c nc => ?_⟩
    rw [cut_some _ (by rw [List.length_map]; exact hl)]
    refine ⟨c, rfl, ⟨_, .inl (.inl upd_same)⟩, lc_fun (walk_list (xs := ns.map V.int)) (fun i => .int (if ns.getD i 0 < 0 then - ns.getD i 0 else ns.getD i 0)) (fun H' e => .inl (.inl (e _ _ upd_same))) (by rw [List.length_map]; omega) ?_ ?_⟩
    · rintro i x H1 H2 hi e ⟨rfl, hx⟩ kk hk
      obtain rfl := int_at hx
      walk_at "rd"
      exact hk _ (Ex.refl _)
    · intro D H' nD e hD
      rw [List.length_map] at hD
      walk_at "rd"
      refine ⟨by show 4 ≤ sizeLine; decide, fun b nb => ?_⟩
      have e1 : Ex H H' := (Ex.new nc).trans e
      have nH : H D = none := fresh_back (Ex.new nc) nD
      refine k b D ((List.range ns.length).map fun i => if ns.getD i 0 < 0 then - ns.getD i 0 else ns.getD i 0) _ (e1.trans (Ex.new nb)) (fresh_back e1 nb) nH upd_same ?_ ?_ ?_
      · rw [upd_ne (ne_of_none hD nb), hD, List.map_map]
        rfl
      · intro c hc
        obtain ⟨i, _, rfl⟩ := List.mem_map.mp hc
        exact absI _
      · rw [List.length_map, List.length_range]
        exact hl
theorem ok__law_bag (T : Tx P K mg d) : Okf P w K mg base 1 d.f__law_bag ["_law_script"] (sp__law_bag K d) := bag_ok (ok0__law_bag T)
theorem ow__law_bag (T : Tx P K mg d) : Okf P w K mg base 1 d.f__law_bag ["_law_script"] (spW K (cnA d) (rN K (cnA d)) w_bag) := okw_imp (ok__law_bag T) tells_bag
theorem sc__law_take : FnScope ["_law_bag_here", "_law_upto", "_law_cell", "_law_mixed", "_law_drawn", "_law_early", "_law_second"] ["_law_bag_here", "_law_upto"] (defScope s__law_take) := ⟨rfl, rfl, rfl, by decide +kernel, rfl, by decide +kernel, by decide +kernel⟩
def sp__law_take (K : PySem.W.Frag) (d : Ads) : Sp := spTake
def spTakeL0 (K : PySem.W.Frag) (d : Ads) : Sp := spTakeL
set_option maxHeartbeats 4000000 in
theorem ok0__law_take (T : Tx P K mg d) : Okf P w K mg base 1 d.f__law_take ["_law_bag_here", "_law_upto"] (spTakeL0 K d) := by
  refine okf_of T.d__law_take sc__law_take (fun vs H Q E h => ?_) (fun cdv A outer s H vs Q E hr h => ?_)
  · obtain ⟨b, l, u, o, cs, xs, rfl, hb, ⟨c0, c1, c2, rfl, h0, h1, h1u, h2⟩, hL, hc, hcl, hu0, hu1, k⟩ := h
    rfl
  · obtain ⟨b, l, u, o, cs, xs, rfl, hb, ⟨c0, c1, c2, rfl, h0, h1, h1u, h2⟩, hL, hc, hcl, hu0, hu1, k⟩ := h
    refine ⟨_, (Evl.pss_cut (ps_if (pt_cmpR op_eq (pe_ix (k_ixL (K := K) rfl) (pv 0) pe_int (fun _ _ => rfl)) pe_int (nomark _)) (pss_cons (ps_set (i := 2) sc__law_take.nd rfl (by first | exact Or.inl rfl | exact Or.inr rfl) pe_int)
      (Evl.pss_cut (ps_if (pt_cmpR op_lt (pe_ix (k_ixL (K := K) rfl) (pv 0) pe_int (fun _ _ => rfl)) (pe_callB (k_len (K := K) rfl) (by rfl) T.z_len (by decide +kernel) (pa_cons (pe_ix (k_ixL (K := K) rfl) (pv 0) pe_int (fun _ _ => rfl)) pa_nil)) (nomark _)) (pss_one (ps_set (i := 2) sc__law_take.nd rfl (by first | exact Or.inl rfl | exact Or.inr rfl) (pe_ix (k_ixL (K := K) rfl) (pe_ix (k_ixL (K := K) rfl) (pv 0) pe_int (fun _ _ => rfl)) (pe_ix (k_ixL (K := K) rfl) (pv 0) pe_int (fun _ _ => rfl)) (fun _ _ => rfl)))) pss_nil)
      (pss_cons (ps_augS (pv 0) pe_int (k_getL (K := K) rfl) pe_int ip_add set_list)
      (Evl.pss_cut (ps_if (pt_cmpR op_ge (pv 2) pe_int (nomark _)) (pss_one (ps_asg (pv 2) (pg_sub (pv 0) pe_int set_list))) pss_nil)
      (pss_cons (ps_set (i := 3) sc__law_take.nd rfl (by first | exact Or.inl rfl | exact Or.inr rfl) (pe_op op_add (pe_op op_add (pe_op op_mul (pe_ix (k_ixL (K := K) rfl) (pv 0) pe_int (fun _ _ => rfl)) pe_int) (pe_op op_mod (pe_callTy k_int1 (by rfl) T.z_int (by decide +kernel) (pa_cons (pv 2) pa_nil)) pe_int)) (pe_op op_mul pe_int (pe_ix (k_ixL (K := K) rfl) (pv 0) pe_int (fun _ _ => rfl)))))
      (pss_one (ps_asg (pe_op op_mod (pe_callTy k_int1 (by rfl) T.z_int (by decide +kernel) (pa_cons (pv 3) pa_nil)) pe_int) (pg_sub (pv 0) pe_int set_list)))))))) pss_nil)
      (pss_cons (ps_if (pt_cmpR op_gt (pe_ix (k_ixL (K := K) rfl) (pv 0) pe_int (fun _ _ => rfl)) pe_int (nomark _)) (pss_cons (ps_set (i := 4) sc__law_take.nd rfl (by first | exact Or.inl rfl | exact Or.inr rfl) (pe_op op_mod (pe_callTy k_int1 (by rfl) T.z_int (by decide +kernel) (pa_cons (pe_ix (k_ixL (K := K) rfl) (pv 0) pe_int (fun _ _ => rfl)) pa_nil)) (pv 1)))
      (pss_cons (ps_asg (pe_op op_fdivW (pe_callTy k_int1 (by rfl) T.z_int (by decide +kernel) (pa_cons (pe_ix (k_ixL (K := K) rfl) (pv 0) pe_int (fun _ _ => rfl)) pa_nil)) (pv 1)) (pg_sub (pv 0) pe_int set_list))
      (pss_one (ps_ret (pv 4))))) pss_nil)
      (pss_cons (ps_set (i := 5) sc__law_take.nd rfl (by first | exact Or.inl rfl | exact Or.inr rfl) (pe_op op_mod (pe_callTy k_int1 (by rfl) T.z_int (by decide +kernel) (pa_cons (pe_op op_mul (pe_op op_add (pe_ix (k_ixL (K := K) rfl) (pv 0) pe_int (fun _ _ => rfl)) pe_int) pe_int) pa_nil)) pe_int))
      (pss_cons (ps_set (i := 6) sc__law_take.nd rfl (by first | exact Or.inl rfl | exact Or.inr rfl) (pe_op op_mod (pe_callTy k_int1 (by rfl) T.z_int (by decide +kernel) (pa_cons (pe_op op_mul (pe_op op_mod (pe_callTy k_int1 (by rfl) T.z_int (by decide +kernel) (pa_cons (pe_op op_mul (pv 5) (pv 5)) pa_nil)) pe_int) pe_int) pa_nil)) pe_int))
      (pss_one (ps_ret (pe_op op_mod (pe_callTy k_int1 (by rfl) T.z_int (by decide +kernel) (pa_cons (pe_op op_fdiv (pv 6) pe_int) pa_nil)) (pv 1)))))))), ?_⟩
    have lb : l ≠ b := ne_of hL hb (by intro z; cases z)
    refine ⟨fun σ H' => ∃ (d0 d1 d2 : Int) (y2 y3 : Option V), σ = [some (.ref b), some (.int u), y2, y3, none, none, none] ∧ H' = upd H b (.lst [.int d0, .int d1, .int d2, .ref l]) ∧ 0 ≤ d0 ∧ 0 ≤ d1 ∧ d1 < 2147483647 ∧ 0 ≤ d2, ?_, ?_⟩
    · refine ⟨_, rfl, b, _, 0, _, rfl, rfl, SqL.of hb, rfl, rfl, _, rfl, ite2 (fun _ => ?_) (fun _ => ?_)⟩
      ·
        refine ⟨fun σ H' => ∃ cell : Int, 0 ≤ cell ∧ σ = [some (.ref b), some (.int u), some (.int cell), none, none, none, none] ∧ H' = H, ?_, ?_⟩
        · refine ⟨_, rfl, b, _, 2, _, rfl, rfl, SqL.of hb, rfl, _, rfl, b, _, 3, _, rfl, rfl, SqL.of hb, rfl, l, _, rfl, .inl (.inl (.inr ⟨o, hL⟩)), _, _, rfl, rfl, _, rfl, ite2 (fun hlt => ?_) (fun _ => ?_)⟩
          · have hlt' : c2 < ((cs.map V.int).length : Int) := of_decide_eq_true hlt
            rw [List.length_map] at hlt'
            have hx := at_int (ns := cs) h2 hlt'
            refine ⟨_, rfl, b, _, 3, _, rfl, rfl, SqL.of hb, rfl, _, rfl, b, _, 2, _, rfl, rfl, SqL.of hb, rfl, l, _, c2, _, rfl, rfl, .inl (.inr ⟨o, hL⟩), hx, _, hc _ (gD_mem (by omega)), rfl, rfl⟩
          · exact ⟨0, Int.le_refl 0, rfl, rfl⟩
        · rintro σ' H' ⟨cell, hcell, rfl, hH⟩
          rw [hH]
          refine ⟨_, rfl, b, _, 2, _, rfl, rfl, SqL.of hb, rfl, _, _, rfl, rfl, b, _, 2, 2, rfl, rfl, hb, rfl, ?_⟩
          refine ⟨fun σ H' => ∃ d0 : Int, 0 ≤ d0 ∧ σ = [some (.ref b), some (.int u), some (.int cell), none, none, none, none] ∧ H' = upd H b (.lst [.int d0, .int c1, .int (c2 + 1), .ref l]), ?_, ?_⟩
          · refine ⟨_, rfl, _, _, rfl, rfl, _, rfl, ite2 (fun _ => ?_) (fun _ => ?_)⟩
            · refine ⟨_, rfl, _, rfl, b, _, 0, 0, rfl, rfl, upd_same, rfl, cell, hcell, rfl, ?_⟩
              rw [upd_upd]
              rfl
            · exact ⟨c0, h0, rfl, rfl⟩
          · rintro σ' H' ⟨d0, hd0, rfl, rfl⟩
            refine ⟨_, rfl, b, _, 1, _, rfl, rfl, SqL.of upd_same, rfl, c1, _, rfl, rfl, .inl ⟨by omega, by omega⟩, _, rfl, .inl ⟨_, rfl, _, _, rfl, rfl, (by show (0 : Int) < 2147483647; decide), _, _, rfl, rfl, _, rfl, b, _, 2, _, rfl, rfl, SqL.of upd_same, rfl, _, _, rfl, rfl, .inl ⟨by decide, by decide⟩, _, _, rfl, rfl, ?_⟩⟩
            refine ⟨_, rfl, .inl ⟨_, rfl, _, _, rfl, rfl, (by show (0 : Int) < 2147483647; decide), _, rfl, b, _, 1, 1, rfl, rfl, upd_same, rfl, ?_⟩⟩
            refine ⟨d0, _, c2 + 1, _, _, rfl, by rw [upd_upd]; rfl, hd0, Int.emod_nonneg _ (by decide), Int.emod_lt_of_pos _ (by decide), by omega⟩
      · refine ⟨c0, c1, c2, none, none, rfl, ?_, h0, h1, h1u, h2⟩
        funext a
        by_cases ha : a = b
        · subst ha
          rw [upd_same, hb]
        · rw [upd_ne ha]
    · rintro σ' H' ⟨d0, d1, d2, y2, y3, rfl, rfl, g0, g1, g1u, g2⟩
      have kk : ∀ (n : Int) (ys : List V), 0 ≤ n → n < u → BagV l ys → Q (.int n) (upd (upd H b (.lst [.int d0, .int d1, .int d2, .ref l])) b (.lst ys)) := fun n ys a1 a2 a3 => by
        rw [upd_upd]
        exact k n ys a1 a2 a3
      refine ⟨_, rfl, b, _, 0, _, rfl, rfl, SqL.of upd_same, rfl, _, _, rfl, rfl, _, rfl, ite2 (fun hp => ?_) (fun _ => ?_)⟩
      · have hp' : 0 < d0 := of_decide_eq_true hp
        refine ⟨_, rfl, b, _, 0, _, rfl, rfl, SqL.of upd_same, rfl, .inl ⟨_, rfl, _, rfl, _, _, rfl, rfl, hu0, ?_⟩⟩
        refine ⟨_, rfl, b, _, 0, _, rfl, rfl, SqL.of upd_same, rfl, .inl ⟨_, rfl, _, rfl, _, _, rfl, rfl, ⟨hu0, Nat.lt_of_lt_of_le (PySem.Flt.log2_lt_of (by decide : 0 < 200) (by omega)) (by decide)⟩, _, rfl, b, _, 0, 0, rfl, rfl, upd_same, rfl, _, rfl, ?_⟩⟩
        exact kk _ _ (Int.emod_nonneg _ (by omega)) (Int.emod_lt_of_pos _ hu0) ⟨_, d1, d2, rfl, Int.ediv_nonneg (by omega) (by omega), g1, g1u, g2⟩
      · refine ⟨_, rfl, b, _, 1, _, rfl, rfl, SqL.of upd_same, rfl, _, _, rfl, rfl, _, _, rfl, rfl, .inr ⟨by decide, by decide⟩, .inl ⟨_, rfl, _, _, rfl, rfl, (by show (0 : Int) < 1000000007; decide), ?_⟩⟩
        have e0 : 0 ≤ (d1 + 1) * 39373 % 1000000007 := Int.emod_nonneg _ (by decide)
        have e1 : (d1 + 1) * 39373 % 1000000007 < 1000000007 := Int.emod_lt_of_pos _ (by decide)
        refine ⟨_, rfl, _, rfl, _, _, rfl, rfl, .inl ⟨by omega, by omega⟩, .inl ⟨_, rfl, _, _, rfl, rfl, (by show (0 : Int) < 998244353; decide), _, _, rfl, rfl, .inr ⟨by decide, by decide⟩, .inl ⟨_, rfl, _, _, rfl, rfl, (by show (0 : Int) < 998244353; decide), ?_⟩⟩⟩
        refine ⟨_, rfl, _, _, rfl, rfl, ⟨by decide, by decide⟩, .inl ⟨_, rfl, _, rfl, _, _, rfl, rfl, hu0, ?_⟩⟩
        exact k _ _ (Int.emod_nonneg _ (by omega)) (Int.emod_lt_of_pos _ hu0) ⟨d0, d1, d2, rfl, g0, g1, g1u, g2⟩
theorem ok__law_take (T : Tx P K mg d) : Okf P w K mg base 1 d.f__law_take ["_law_bag_here", "_law_upto"] (sp__law_take K d) := take_ok (ok0__law_take T) rfl
theorem ow__law_take (T : Tx P K mg d) : Okf P w K mg base 1 d.f__law_take ["_law_bag_here", "_law_upto"] (spW K (cnA d) (rN K (cnA d)) w_take) := okw_imp (ok__law_take T) tells_take
theorem sc__law_stays : FnScope ["_law_bag_here", "_law_many", "_law_most", "_law_drawn", "_law_hour", "_law_ahead"] ["_law_bag_here", "_law_many"] (defScope s__law_stays) := ⟨rfl, rfl, rfl, by decide +kernel, rfl, by decide +kernel, by decide +kernel⟩
def sp__law_stays (K : PySem.W.Frag) (d : Ads) : Sp := fun vs H Q _ => ∃ (b : Addr) (n : Nat), vs = [.ref b, .int (n : Int)] ∧ Bag H b ∧ 1 ≤ n ∧ n ≤ 48 ∧ ∀ s : List Int, s.length = n → Good s → RetN (s.map V.int) H Q
set_option maxHeartbeats 4000000 in
theorem ok__law_stays (T : Tx P K mg d) : Okf P w K mg base 2 d.f__law_stays ["_law_bag_here", "_law_many"] (sp__law_stays K d) := by
  refine okf_of T.d__law_stays sc__law_stays (fun vs H Q E h => ?_) (fun cdv A outer s H vs Q E hr h => ?_)
  · obtain ⟨b, n, rfl, hB, hn, hn2, k⟩ := h
    rfl
  · obtain ⟨b, n, rfl, hB, hn, hn2, k⟩ := h
    refine ⟨_, (pss_cons (ps_if (pt_cmpR op_eq (pf_call (ok__law_take T) (hr.mono (by decide)) (by rfl) T.g__law_take T.d__law_take.kp (pa_cons (pv 0) (pa_cons pe_int pa_nil))) pe_int (nomark _)) (pss_one (ps_ret (pe_op op_rep (pe_lst (pa_cons (pe_op op_add pe_int (pf_call (ok__law_take T) (hr.mono (by decide)) (by rfl) T.g__law_take T.d__law_take.kp (pa_cons (pv 0) (pa_cons (pv 1) pa_nil)))) pa_nil)) (pv 1)))) pss_nil)
      (pss_cons (ps_set (i := 2) sc__law_stays.nd rfl (by first | exact Or.inl rfl | exact Or.inr rfl) (pe_op op_add pe_int (pf_call (ok__law_take T) (hr.mono (by decide)) (by rfl) T.g__law_take T.d__law_take.kp (pa_cons (pv 0) (pa_cons (pv 1) pa_nil)))))
      (pss_cons (ps_set (i := 3) sc__law_stays.nd rfl (by first | exact Or.inl rfl | exact Or.inr rfl) (pe_lc (own := [("_law_hour", 4)]) rfl sc__law_stays.nd (pi_range1 (by rfl) T.z_range (pa_cons (pv 1) pa_nil)) (blkOk_by (by kernel_rfl)) (fun _ _ _ _ _ => (pg_name (i := 4) sc__law_stays.nd rfl (by first | exact Or.inl rfl | exact Or.inr rfl))) (fun _ _ _ _ _ => pts_nil) (fun _ _ _ _ _ => (pe_op op_add pe_int (pf_call (ok__law_take T) (hr.mono (by decide)) (by rfl) T.g__law_take T.d__law_take.kp (pa_cons (pv 0) (pa_cons (pv 2) pa_nil)))))))
      (pss_one (ps_ret (pe_lc (own := [("_law_hour", 4)]) rfl sc__law_stays.nd (pi_range1 (by rfl) T.z_range (pa_cons (pv 1) pa_nil)) (blkOk_by (by kernel_rfl)) (fun _ _ _ _ _ => (pg_name (i := 4) sc__law_stays.nd rfl (by first | exact Or.inl rfl | exact Or.inr rfl))) (fun _ _ _ _ _ => pts_nil) (fun _ _ _ _ _ => (pe_callB (k_min (K := K) rfl rfl) (by rfl) T.z_min (by decide +kernel) (pa_cons (pe_lc (own := [("_law_ahead", 5)]) rfl sc__law_stays.nd (pi_range1 (by rfl) T.z_range (pa_cons (pv 1) pa_nil)) (blkOk_by (by kernel_rfl)) (fun _ _ _ _ _ => (pg_name (i := 5) sc__law_stays.nd rfl (by first | exact Or.inl rfl | exact Or.inr rfl))) (fun _ _ _ _ _ => pts_nil) (fun _ _ _ _ _ => (pe_op op_add (pe_ix (k_ixL (K := K) rfl) (pv 3) (pe_op op_mod (pe_callTy k_int1 (by rfl) T.z_int (by decide +kernel) (pa_cons (pe_op op_add (pv 4) (pv 5)) pa_nil)) (pv 1)) (fun _ _ => rfl)) (pv 5)))) pa_nil))))))))), ?_⟩
    walk_at "rd"
    refine ⟨b, _, rfl, hB, by omega, by omega, fun c0 _ _ => ?_⟩
    walk_at "rd"
    refine r_ite (fun _ => ?_) (fun _ => ?_)
    · walk_at "rd"
      refine ⟨b, _, rfl, hB, by omega, by omega, fun c c1 c2 => ?_⟩
      walk_at "rd"
      refine ⟨szc rfl, fun p np => ?_⟩
      walk_at "rd"
      refine ⟨p, _, _, rfl, rfl, upd_same, by omega, by omega, ?_, fun q nq => ?_⟩
      · rw [Int.toNat_natCast]
        show 1 * n ≤ sizeLine
        have : (48 : Nat) ≤ sizeLine := by decide
        omega
      · refine k (List.replicate n (1 + c)) List.length_replicate (Good.const hn hn2 (by omega) (by omega)) q _ ?_ ((Ex.new np).trans (Ex.new nq)) ?_
        · exact fresh_back (Ex.new np) nq
        · rw [upd_same, Int.toNat_natCast, flat_rep, List.map_replicate]
    · walk_at "rd"
      refine ⟨b, _, rfl, hB, by omega, by omega, fun c c1 c2 => ?_⟩
      walk_at "rd"
      refine lc_val walk_r0 (fun _ v => ∃ z : Int, 0 ≤ z ∧ z < 1 + c ∧ v = .int (1 + z)) (fun _ _ => trivial) (by omega) ?_ ?_
      · rintro i x H1 H2 hi e ⟨rfl, rfl⟩ kk hk
        walk_at "rd"
        refine ⟨b, _, rfl, hB.mono (.of e), by omega, by omega, fun z z1 z2 => ?_⟩
        walk_at "rd"
        exact hk _ _ (Ex.refl _) ⟨z, z1, z2, rfl⟩
      · intro D H1 ys nD e1 hD yl yv
        rw [Int.toNat_natCast] at yl
        obtain ⟨dr, hdr, rfl⟩ : ∃ dr : List Int, (∀ z ∈ dr, 1 ≤ z ∧ z ≤ 1 + c) ∧ ys = dr.map V.int := ints_of fun v hv => by
          obtain ⟨i, hi, rfl⟩ := List.mem_iff_getElem.mp hv
          obtain ⟨z, z0, z1, ez⟩ := yv i _ (List.getElem?_eq_getElem hi)
          exact ⟨1 + z, by omega, ez⟩
        rw [List.length_map] at yl
        have hcy : ∀ i, 1 ≤ cyc dr i ∧ cyc dr i ≤ 1 + c := fun i => hdr _ (cyc_mem (by omega) i)
        walk_at "rd"
        refine lc_val walk_r0 (fun i v => ∃ m : Int, v = .int m ∧ (∃ a : Nat, a < n ∧ m = cyc dr ((i : Int) + a) + a) ∧ ∀ a : Nat, a < n → m ≤ cyc dr ((i : Int) + a) + a) (fun _ _ => trivial) (by omega) ?_ ?_
        · rintro i x H2 H3 hi e ⟨rfl, rfl⟩ kk hk
          walk_at "rd"
          refine lc_fun walk_r0 (fun a => .int (cyc dr ((i : Int) + a) + a)) (fun _ _ => trivial) (by omega) ?_ ?_
          · rintro a x H4 H5 ha e' ⟨rfl, rfl⟩ kk' hk'
            walk_at "rd"
            have ea := at_cyc (ns := dr) (by omega) ((i : Int) + a)
            rw [yl] at ea
            refine r_ixL (.inl (.inl (e' _ _ (e _ _ hD)))) ea ?_
            walk_at "rd"
            exact hk' _ (Ex.refl _)
          · intro D2 H4 nD2 e4 hD2
            walk_at "rd"
            refine ⟨D2, (List.range n).map (fun a : Nat => cyc dr ((i : Int) + a) + a), rfl, .inl (.inl ?_), ?_, fun m hm hle => ?_⟩
            · rw [hD2, List.map_map, Int.toNat_natCast]
              rfl
            · rw [List.length_map, List.length_range]
              omega
            · refine hk _ _ e4 ⟨m, rfl, ?_, fun a ha => hle _ (List.mem_map.mpr ⟨a, List.mem_range.mpr ha, rfl⟩)⟩
              obtain ⟨a, ha, ea⟩ := List.mem_map.mp hm
              exact ⟨a, List.mem_range.mp ha, ea.symm⟩
        · intro D2 H2 zs nD2 e2 hD2 zl zv
          rw [Int.toNat_natCast] at zl
          obtain ⟨m, _, rfl⟩ : ∃ m : List Int, (∀ z ∈ m, True) ∧ zs = m.map V.int := ints_of fun v hv => by
            obtain ⟨i, hi, rfl⟩ := List.mem_iff_getElem.mp hv
            obtain ⟨z, ez, _⟩ := zv i _ (List.getElem?_eq_getElem hi)
            exact ⟨z, trivial, ez⟩
          rw [List.length_map] at zl
          refine k m zl (Good.least (dr := dr) (top := 1 + c) hn hn2 zl yl (by omega) hcy fun j hj => ?_) D2 H2 (fresh_back e1 nD2) (e1.trans e2) hD2
          obtain ⟨z, ez, h1, h2⟩ := zv j _ (by rw [List.getElem?_map, List.getElem?_eq_getElem (by omega)]; rfl)
          have ez' : m.getD j 0 = z := by
            rw [List.getD_eq_getElem?_getD, List.getElem?_eq_getElem (by omega)]
            exact V.int.inj ez
          rw [ez']
          exact ⟨h1, h2⟩
def w__law_stays : WF := fun xs P => ∃ (n : Nat), xs = [.bag, .int (n : Int)] ∧ 1 ≤ n ∧ n ≤ 48 ∧ ∀ s : List Int, s.length = n → Good s → P (.lst (iL s))
theorem ow__law_stays (T : Tx P K mg d) : Okf P w K mg base 2 d.f__law_stays ["_law_bag_here", "_law_many"] (spW K (cnA d) (rN K (cnA d)) w__law_stays) := okw_imp (ok__law_stays T) (fun vs H Q E ⟨F, xs, P, dm, r, ⟨n, ex, c1, c2, p⟩, k⟩ => by
  subst ex
  obtain ⟨v1, v2, rfl, r1, r2⟩ := r.two
  obtain ⟨a1, rfl, h1⟩ := r1.bagE
  cases r2.intE
  exact ⟨a1, n, rfl, h1, c1, c2, fun s hl g => ret_ints dm k (p s hl g)⟩)
theorem sc__law_number : FnScope ["_law_bag_here", "_law_way"] ["_law_bag_here"] (defScope s__law_number) := ⟨rfl, rfl, rfl, by decide +kernel, rfl, by decide +kernel, by decide +kernel⟩
def sp__law_number (K : PySem.W.Frag) (d : Ads) : Sp := fun vs H Q _ => ∃ (b : Addr), vs = [.ref b] ∧ Bag H b ∧ ∀ n : Int, 0 ≤ n → n < 10 ^ 30 → Q (.int n) H
set_option maxHeartbeats 4000000 in
theorem ok__law_number (T : Tx P K mg d) : Okf P w K mg base 2 d.f__law_number ["_law_bag_here"] (sp__law_number K d) := by
  refine okf_of T.d__law_number sc__law_number (fun vs H Q E h => ?_) (fun cdv A outer s H vs Q E hr h => ?_)
  · obtain ⟨b, rfl, hB, k⟩ := h
    rfl
  · obtain ⟨b, rfl, hB, k⟩ := h
    refine ⟨_, (pss_cons (ps_set (i := 1) sc__law_number.nd rfl (by first | exact Or.inl rfl | exact Or.inr rfl) (pf_call (ok__law_take T) (hr.mono (by decide)) (by rfl) T.g__law_take T.d__law_take.kp (pa_cons (pv 0) (pa_cons pe_int pa_nil))))
      (pss_cons (ps_if (pt_cmpR op_lt (pv 1) pe_int (nomark _)) (pss_one (ps_ret (pf_call (ok__law_take T) (hr.mono (by decide)) (by rfl) T.g__law_take T.d__law_take.kp (pa_cons (pv 0) (pa_cons pe_int pa_nil))))) pss_nil)
      (pss_one (ps_ret (pe_ifExp (pt_cmpR op_eq (pv 1) pe_int (nomark _)) (pf_call (ok__law_take T) (hr.mono (by decide)) (by rfl) T.g__law_take T.d__law_take.kp (pa_cons (pv 0) (pa_cons pe_int pa_nil))) (pe_op op_sub (pe_op op_sub (pe_op op_pow pe_int pe_int) pe_int) (pf_call (ok__law_take T) (hr.mono (by decide)) (by rfl) T.g__law_take T.d__law_take.kp (pa_cons (pv 0) (pa_cons pe_int pa_nil))))))))), ?_⟩
    walk_at "rd"
    refine ⟨b, _, rfl, hB, by omega, by omega, fun c c0 c1 => ?_⟩
    walk_at "rd"
    refine r_ite (fun _ => ?_) (fun _ => ?_)
    · walk_at "rd"
      exact ⟨b, _, rfl, hB, by omega, by omega, fun z z0 z1 => k z z0 (by omega)⟩
    · walk_at "rd"
      refine r_ite (fun _ => ?_) (fun _ => ?_)
      · walk_at "rd"
        exact ⟨b, _, rfl, hB, by omega, by omega, fun z z0 z1 => k z z0 (by omega)⟩
      · walk_at "rd"
        refine ⟨b, _, rfl, hB, by omega, by omega, fun z z0 z1 => ?_⟩
        walk_at "rd"
        exact k _ (by show 0 ≤ (10 : Int) ^ 30 - 1 - z; omega) (by show (10 : Int) ^ 30 - 1 - z < 10 ^ 30; omega)
theorem sc__law_numbers : FnScope ["_law_bag_here", "_law_many", "_law_way", "_law_hour", "_law_found", "_law_one"] ["_law_bag_here", "_law_many"] (defScope s__law_numbers) := ⟨rfl, rfl, rfl, by decide +kernel, rfl, by decide +kernel, by decide +kernel⟩
def sp__law_numbers (K : PySem.W.Frag) (d : Ads) : Sp := fun vs H Q _ => ∃ (b : Addr) (n : Nat), vs = [.ref b, .int (n : Int)] ∧ Bag H b ∧ 1 ≤ n ∧ n ≤ 48 ∧ ∀ s : List Int, s.length = n → (∀ z ∈ s, 0 ≤ z ∧ z < 10 ^ 30) → RetN (s.map V.int) H Q
set_option maxHeartbeats 4000000 in
theorem ok__law_numbers (T : Tx P K mg d) : Okf P w K mg base 3 d.f__law_numbers ["_law_bag_here", "_law_many"] (sp__law_numbers K d) := by
  refine okf_of T.d__law_numbers sc__law_numbers (fun vs H Q E h => ?_) (fun cdv A outer s H vs Q E hr h => ?_)
  · obtain ⟨b, n, rfl, hB, n1, n8, k⟩ := h
    rfl
  · obtain ⟨b, n, rfl, hB, n1, n8, k⟩ := h
    refine ⟨_, (pss_cons (ps_set (i := 2) sc__law_numbers.nd rfl (by first | exact Or.inl rfl | exact Or.inr rfl) (pf_call (ok__law_take T) (hr.mono (by decide)) (by rfl) T.g__law_take T.d__law_take.kp (pa_cons (pv 0) (pa_cons pe_int pa_nil))))
      (pss_cons (ps_if (pt_cmpR op_eq (pv 2) pe_int (nomark _)) (pss_one (ps_ret (pe_lc (own := [("_law_hour", 3)]) rfl sc__law_numbers.nd (pi_range1 (by rfl) T.z_range (pa_cons (pv 1) pa_nil)) (blkOk_by (by kernel_rfl)) (fun _ _ _ _ _ => (pg_name (i := 3) sc__law_numbers.nd rfl (by first | exact Or.inl rfl | exact Or.inr rfl))) (fun _ _ _ _ _ => pts_nil) (fun _ _ _ _ _ => (pf_call (ok__law_take T) (hr.mono (by decide)) (by rfl) T.g__law_take T.d__law_take.kp (pa_cons (pv 0) (pa_cons pe_int pa_nil))))))) pss_nil)
      (pss_cons (ps_if (pt_cmpR op_eq (pv 2) pe_int (nomark _)) (pss_one (ps_ret (pe_lc (own := [("_law_hour", 3)]) rfl sc__law_numbers.nd (pi_range1 (by rfl) T.z_range (pa_cons (pv 1) pa_nil)) (blkOk_by (by kernel_rfl)) (fun _ _ _ _ _ => (pg_name (i := 3) sc__law_numbers.nd rfl (by first | exact Or.inl rfl | exact Or.inr rfl))) (fun _ _ _ _ _ => pts_nil) (fun _ _ _ _ _ => (pe_op op_mul (pf_call (ok__law_take T) (hr.mono (by decide)) (by rfl) T.g__law_take T.d__law_take.kp (pa_cons (pv 0) (pa_cons pe_int pa_nil))) (pf_call (ok__law_take T) (hr.mono (by decide)) (by rfl) T.g__law_take T.d__law_take.kp (pa_cons (pv 0) (pa_cons pe_int pa_nil)))))))) pss_nil)
      (pss_cons (ps_if (pt_cmpR op_eq (pv 2) pe_int (nomark _)) (pss_one (ps_ret (pe_op op_rep (pe_lst (pa_cons (pe_op op_add pe_int (pf_call (ok__law_take T) (hr.mono (by decide)) (by rfl) T.g__law_take T.d__law_take.kp (pa_cons (pv 0) (pa_cons pe_int pa_nil)))) pa_nil)) (pv 1)))) pss_nil)
      (pss_cons (ps_setLc (i := 4) (own := [("_law_hour", 3)]) rfl sc__law_numbers.nd rfl rfl (sw_true rfl rfl rfl (by decide +kernel)) (pi_range1 (by rfl) T.z_range (pa_cons (pv 1) pa_nil)) (blkOk_by (by kernel_rfl)) (fun _ _ _ _ _ => (pg_name (i := 3) sc__law_numbers.nd rfl (by first | exact Or.inl rfl | exact Or.inr rfl))) (fun _ _ _ _ _ => pts_nil) (fun _ _ _ _ _ => (pf_call (ok__law_number T) (hr.mono (by decide)) (by rfl) T.g__law_number T.d__law_number.kp (pa_cons (pv 0) pa_nil))))
      (pss_one (ps_ret (pe_lc (own := [("_law_one", 5)]) rfl sc__law_numbers.nd (k_piL (K := K) rfl (pv 4)) (blkOk_by (by kernel_rfl)) (fun _ _ _ _ _ => (pg_name (i := 5) sc__law_numbers.nd rfl (by first | exact Or.inl rfl | exact Or.inr rfl))) (fun _ _ _ _ _ => pts_nil) (fun _ _ _ _ _ => (pe_ifExp (pt_cmpR op_lt (pv 5) pe_int (nomark _)) (pv 5) (pe_op op_fdiv (pv 5) (pe_op op_mul pe_int (pv 1))))))))))))), ?_⟩
    walk_at "rd"
    refine ⟨b, _, rfl, hB, by omega, by omega, fun c c0 c1 => ?_⟩
    walk_at "rd"
    refine r_ite (fun _ => ?_) (fun _ => ?_)
    · walk_at "rd"
      refine lc_ints walk_r0 (fun z => 0 ≤ z ∧ z < 10 ^ 30) (fun _ _ => trivial) (by omega) ?_ ?_
      · rintro j x H4 H5 hj e4 ⟨rfl, rfl⟩ kk hk
        walk_at "rd"
        exact ⟨b, _, rfl, (by walk_at "kn"), by omega, by omega, fun z z0 z1 => hk _ _ (Ex.refl _) (by omega)⟩
      intro D1 H4 ms nD1 e4 hD1 hl hm
      exact k ms (by omega) hm D1 H4 nD1 e4 hD1
    walk_at "rd"
    refine r_ite (fun _ => ?_) (fun _ => ?_)
    · walk_at "rd"
      refine lc_ints walk_r0 (fun z => 0 ≤ z ∧ z < 10 ^ 30) (fun _ _ => trivial) (by omega) ?_ ?_
      · rintro j x H4 H5 hj e4 ⟨rfl, rfl⟩ kk hk
        walk_at "rd"
        refine ⟨b, _, rfl, (by walk_at "kn"), by omega, by omega, fun y y0 y1 => ?_⟩
        walk_at "rd"
        refine ⟨b, _, rfl, (by walk_at "kn"), by omega, by omega, fun z z0 z1 => ?_⟩
        walk_at "rd"
        exact hk _ _ (Ex.refl _) (mul_in y0 y1 z0 z1)
      intro D1 H4 ms nD1 e4 hD1 hl hm
      exact k ms (by omega) hm D1 H4 nD1 e4 hD1
    walk_at "rd"
    refine r_ite (fun _ => ?_) (fun _ => ?_)
    · walk_at "rd"
      refine ⟨b, _, rfl, (by walk_at "kn"), by omega, by omega, fun z z0 z1 => ?_⟩
      walk_at "rd"
      refine ⟨szc rfl, fun p np => ?_⟩
      walk_at "rd"
      refine ⟨p, (n : Int), _, rfl, rfl, upd_same, by omega, by omega, ?_, fun p2 np2 => ?_⟩
      · rw [Int.toNat_natCast, List.length_singleton]
        exact line_le (by omega)
      rw [Int.toNat_natCast, rep_flat1, rep_map]
      exact k _ List.length_replicate (rep_in (by omega)) p2 _ (by walk_at "fr") (by walk_at "ex") upd_same
    walk_at "rd"
    refine lc_ints walk_r0 (fun z => 0 ≤ z ∧ z < 10 ^ 30) (fun _ _ => trivial) (by omega) ?_ ?_
    · rintro j x H4 H5 hj e4 ⟨rfl, rfl⟩ kk hk
      walk_at "rd"
      exact ⟨b, rfl, (by walk_at "kn"), fun z z0 z1 => hk _ _ (Ex.refl _) ⟨z0, z1⟩⟩
    intro D1 H4 ms nD1 e4 hD1 hl hm
    walk_at "rd"
    refine ⟨D1, rfl, ⟨_, at_sqL hD1⟩, ?_⟩
    refine lc_ints (walk_list (xs := ms.map V.int)) (fun z => 0 ≤ z ∧ z < 10 ^ 30) (fun H' e => (by walk_at "kn")) (by rw [List.length_map]; omega) ?_ ?_
    · rintro j x H6 H7 hj e6 ⟨rfl, hx⟩ kk hk
      obtain rfl := int_at hx
      rw [List.length_map] at hj
      have hz := hm _ (gD_mem hj)
      walk_at "rd"
      refine r_ite (fun _ => ?_) (fun _ => ?_)
      · walk_at "rd"
        exact hk _ _ (Ex.refl _) hz
      · walk_at "rd"
        exact hk _ _ (Ex.refl _) (div_in hz.1 hz.2 (by omega))
    intro D2 H6 ks nD2 e6 hD2 hl2 hm2
    rw [List.length_map] at hl2
    exact k ks (by omega) hm2 D2 H6 (by walk_at "fr") (by walk_at "ex") hD2
theorem sc__law_wants : FnScope ["_law_bag_here", "_law_many", "_law_way", "_law_hour"] ["_law_bag_here", "_law_many"] (defScope s__law_wants) := ⟨rfl, rfl, rfl, by decide +kernel, rfl, by decide +kernel, by decide +kernel⟩
def sp__law_wants (K : PySem.W.Frag) (d : Ads) : Sp := fun vs H Q _ => ∃ (b : Addr) (n : Nat), vs = [.ref b, .int (n : Int)] ∧ Bag H b ∧ 1 ≤ n ∧ n ≤ 48 ∧ ∀ s : List Int, s.length = n → (∀ z ∈ s, 0 ≤ z ∧ z < 10 ^ 30) → RetN (s.map V.int) H Q
set_option maxHeartbeats 4000000 in
theorem ok__law_wants (T : Tx P K mg d) : Okf P w K mg base 4 d.f__law_wants ["_law_bag_here", "_law_many"] (sp__law_wants K d) := by
  refine okf_of T.d__law_wants sc__law_wants (fun vs H Q E h => ?_) (fun cdv A outer s H vs Q E hr h => ?_)
  · obtain ⟨b, n, rfl, hB, n1, n8, k⟩ := h
    rfl
  · obtain ⟨b, n, rfl, hB, n1, n8, k⟩ := h
    refine ⟨_, (pss_cons (ps_set (i := 2) sc__law_wants.nd rfl (by first | exact Or.inl rfl | exact Or.inr rfl) (pf_call (ok__law_take T) (hr.mono (by decide)) (by rfl) T.g__law_take T.d__law_take.kp (pa_cons (pv 0) (pa_cons pe_int pa_nil))))
      (pss_cons (ps_if (pt_cmpR op_eq (pv 2) pe_int (nomark _)) (pss_one (ps_ret (pe_op op_rep (pe_lst (pa_cons pe_int pa_nil)) (pv 1)))) pss_nil)
      (pss_cons (ps_if (pt_cmpR op_eq (pv 2) pe_int (nomark _)) (pss_one (ps_ret (pe_lc (own := [("_law_hour", 3)]) rfl sc__law_wants.nd (pi_range1 (by rfl) T.z_range (pa_cons (pv 1) pa_nil)) (blkOk_by (by kernel_rfl)) (fun _ _ _ _ _ => (pg_name (i := 3) sc__law_wants.nd rfl (by first | exact Or.inl rfl | exact Or.inr rfl))) (fun _ _ _ _ _ => pts_nil) (fun _ _ _ _ _ => (pf_call (ok__law_number T) (hr.mono (by decide)) (by rfl) T.g__law_number T.d__law_number.kp (pa_cons (pv 0) pa_nil)))))) pss_nil)
      (pss_one (ps_ret (pf_call (ok__law_numbers T) (hr.mono (by decide)) (by rfl) T.g__law_numbers T.d__law_numbers.kp (pa_cons (pv 0) (pa_cons (pv 1) pa_nil)))))))), ?_⟩
    walk_at "rd"
    refine ⟨b, _, rfl, hB, by omega, by omega, fun c c0 c1 => ?_⟩
    walk_at "rd"
    refine r_ite (fun _ => ?_) (fun _ => ?_)
    · walk_at "rd"
      refine ⟨szc rfl, fun p np => ?_⟩
      walk_at "rd"
      refine ⟨p, (n : Int), _, rfl, rfl, upd_same, by omega, by omega, ?_, fun p2 np2 => ?_⟩
      · rw [Int.toNat_natCast, List.length_singleton]
        exact line_le (by omega)
      rw [Int.toNat_natCast, rep_flat1, rep_map]
      exact k _ List.length_replicate (rep_in (by omega)) p2 _ (by walk_at "fr") (by walk_at "ex") upd_same
    walk_at "rd"
    refine r_ite (fun _ => ?_) (fun _ => ?_)
    · walk_at "rd"
      refine lc_ints walk_r0 (fun z => 0 ≤ z ∧ z < 10 ^ 30) (fun _ _ => trivial) (by omega) ?_ ?_
      · rintro j x H4 H5 hj e4 ⟨rfl, rfl⟩ kk hk
        walk_at "rd"
        exact ⟨b, rfl, (by walk_at "kn"), fun z z0 z1 => hk _ _ (Ex.refl _) ⟨z0, z1⟩⟩
      intro D1 H4 ms nD1 e4 hD1 hl hm
      exact k ms (by omega) hm D1 H4 nD1 e4 hD1
    walk_at "rd"
    exact ⟨b, n, rfl, (by walk_at "kn"), n1, n8, k⟩
def w__law_wants : WF := fun xs P => ∃ (n : Nat), xs = [.bag, .int (n : Int)] ∧ 1 ≤ n ∧ n ≤ 48 ∧ ∀ s : List Int, s.length = n → (∀ z ∈ s, 0 ≤ z ∧ z < 10 ^ 30) → P (.lst (iL s))
theorem ow__law_wants (T : Tx P K mg d) : Okf P w K mg base 4 d.f__law_wants ["_law_bag_here", "_law_many"] (spW K (cnA d) (rN K (cnA d)) w__law_wants) := okw_imp (ok__law_wants T) (fun vs H Q E ⟨F, xs, P, dm, r, ⟨n, ex, c1, c2, p⟩, k⟩ => by
  subst ex
  obtain ⟨v1, v2, rfl, r1, r2⟩ := r.two
  obtain ⟨a1, rfl, h1⟩ := r1.bagE
  cases r2.intE
  exact ⟨a1, n, rfl, h1, c1, c2, fun s hl g => ret_ints dm k (p s hl g)⟩)
theorem sc_is_integer : FnScope ["thing"] ["thing"] (defScope s_is_integer) := ⟨rfl, rfl, rfl, by decide +kernel, rfl, by decide +kernel, by decide +kernel⟩
def sp_is_integer (K : PySem.W.Frag) (d : Ads) : Sp := fun vs H Q _ => ∃ i : Int, vs = [.int i] ∧ Q (.bl true) H
set_option maxHeartbeats 4000000 in
theorem ok_is_integer (T : Tx P K mg d) : Okf P w K mg base 1 d.f_is_integer ["thing"] (sp_is_integer K d) := by
  refine okf_of T.d_is_integer sc_is_integer (fun vs H Q E h => ?_) (fun cdv A outer s H vs Q E hr h => ?_)
  · obtain ⟨i, rfl, k⟩ := h
    rfl
  · obtain ⟨i, rfl, k⟩ := h
    refine ⟨_, (pss_one (ps_ret (pe_and (pe_callB (k_isi (K := K) rfl) (by rfl) T.z_isinstance (by decide +kernel) (pa_cons (pv 0) (pa_cons (pe_bty (n := "int") (by rfl) T.z_int (by decide +kernel)) pa_nil))) (pe_one (pe_not (pe_callB (k_isi (K := K) rfl) (by rfl) T.z_isinstance (by decide +kernel) (pa_cons (pv 0) (pa_cons (pe_bty (n := "bool") (by rfl) T.z_bool (by decide +kernel)) pa_nil)))))))), ?_⟩
    walk_at "rd"
    refine r_isiInt ?_
    walk_at "rd"
    refine iteT ?_
    walk_at "rd"
    refine r_isiIntB ?_
    walk_at "rd"
    exact k
theorem sc_are_stays : FnScope ["thing", "stay"] ["thing"] (defScope s_are_stays) := ⟨rfl, rfl, rfl, by decide +kernel, rfl, by decide +kernel, by decide +kernel⟩
def sp_are_stays (K : PySem.W.Frag) (d : Ads) : Sp := fun vs H Q _ => ∃ (a : Addr) (ns : List Int), vs = [.ref a] ∧ Sq K H a (ns.map V.int) ∧ ns.length ≤ 1000 ∧ ∀ H', Ex H H' → Q (.bl (okStays ns)) H'
set_option maxHeartbeats 4000000 in
theorem ok_are_stays (T : Tx P K mg d) : Okf P w K mg base 2 d.f_are_stays ["thing"] (sp_are_stays K d) := by
  refine okf_of T.d_are_stays sc_are_stays (fun vs H Q E h => ?_) (fun cdv A outer s H vs Q E hr h => ?_)
  · obtain ⟨a, ns, rfl, hS, hl, k⟩ := h
    rfl
  · obtain ⟨a, ns, rfl, hS, hl, k⟩ := h
    refine ⟨_, (pss_cons (ps_if (PW.pt (pw_or (pt_not (pt_val (pe_callB (k_isiT (K := K) rfl) (by rfl) T.z_isinstance (by decide +kernel) (pa_cons (pv 0) (pa_cons (pe_tup (pa_cons (pe_bty (n := "list") (by rfl) T.z_list (by decide +kernel)) (pa_cons (pe_bty (n := "tuple") (by rfl) T.z_tuple (by decide +kernel)) pa_nil))) pa_nil))))) (pw_or1 (pt_not (pt_chain op_le op_le pe_int (pe_callB (k_len (K := K) rfl) (by rfl) T.z_len (by decide +kernel) (pa_cons (pv 0) pa_nil)) (pe_gint (by rfl) T.k_MOST_HOURS)))))) (pss_one (ps_ret pe_bl)) pss_nil)
      (pss_one (ps_ret (pe_callB (k_all (K := K) rfl rfl) (by rfl) T.z_all (by decide +kernel) (pa_cons (pe_lc (own := [("stay", 1)]) rfl sc_are_stays.nd (k_piS (K := K) rfl (pv 0)) (blkOk_by (by kernel_rfl)) (fun _ _ _ _ _ => (pg_name (i := 1) sc_are_stays.nd rfl (by first | exact Or.inl rfl | exact Or.inr rfl))) (fun _ _ _ _ _ => pts_nil) (fun _ _ _ _ _ => (pe_and (pf_call (ok_is_integer T) (hr.mono (by decide)) (by rfl) T.g_is_integer T.d_is_integer.kp (pa_cons (pv 1) pa_nil)) (pe_one (pe_chain op_le op_le pe_int (pv 1) (pe_callB (k_len (K := K) rfl) (by rfl) T.z_len (by decide +kernel) (pa_cons (pv 0) pa_nil))))))) pa_nil))))), ?_⟩
    walk_at "rd"
    refine ⟨szc rfl, fun tp np => ?_⟩
    have e1 : Ex H (upd H tp (.tup [.ty "list", .ty "tuple"])) := Ex.new np
    walk_at "rd"
    refine r_isiSeq (hS.mono e1) upd_same ?_
    walk_at "rd"
    refine iteF ?_
    walk_at "rd"
    refine r_len (hS.mono e1) ?_
    walk_at "rd"
    rw [List.length_map]
    have fls : ¬ (1 ≤ ns.length ∧ ns.length ≤ 48) → Q (.bl false) (upd H tp (.tup [.ty "list", .ty "tuple"])) := fun h => by
      have z : okStays ns = false := by
        rw [Bool.eq_false_iff]
        intro z
        have := okStays_iff.mp z
        exact h ⟨this.1, this.2.1⟩
      have := k _ e1
      rw [z] at this
      exact this
    refine r_ite (fun h1 => ?_) (fun h1 => ?_)
    · walk_at "rd"
      refine r_itn (fun h2 => ?_) (fun h2 => ?_)
      · walk_at "rd"
        exact fls (by omega)
      · walk_at "rd"
        refine ⟨a, _, _, rfl, hS.mono e1, Ex.refl _, fun J ⟨G, wk, hG⟩ => lc_fun wk (fun i => .bl (decide (1 ≤ ns.getD i 0) && decide (ns.getD i 0 ≤ (ns.length : Int)))) hG (by rw [List.length_map]; omega) ?_ ?_⟩
        · rintro i x H1 H2 hi e ⟨rfl, hx⟩ kk hk
          obtain rfl := int_at hx
          walk_at "rd"
          refine ⟨_, rfl, ?_⟩
          walk_at "rd"
          refine iteT ?_
          walk_at "rd"
          cases h0 : decide (1 ≤ ns.getD i 0) with
          | true =>
            refine iteT ?_
            walk_at "rd"
            refine r_len (hS.mono (e1.trans e)) ?_
            walk_at "rd"
            rw [List.length_map]
            have := hk _ (Ex.refl _)
            rw [h0] at this
            exact this
          | false =>
            refine iteF ?_
            have := hk _ (Ex.refl _)
            rw [h0] at this
            exact this
        · intro D H' nD e hD
          walk_at "rd"
          rw [List.length_map, map_range_int ns (fun x => V.bl (decide (1 ≤ x) && decide (x ≤ (ns.length : Int))))] at hD
          refine r_all (bs := ns.map fun x => decide (1 ≤ x) && decide (x ≤ (ns.length : Int))) (.inl (.inl (by rw [List.map_map]; exact hD))) ?_
          have := k _ (e1.trans e)
          unfold okStays at this
          rw [decide_eq_true (by omega : 1 ≤ ns.length), decide_eq_true (by omega : ns.length ≤ 48)] at this
          rw [List.all_map]
          exact this
    · walk_at "rd"
      refine iteT ?_
      walk_at "rd"
      exact fls (by omega)
theorem sc_need_order : FnScope ["stays", "hour", "stay"] ["stays"] (defScope s_need_order) := ⟨rfl, rfl, rfl, by decide +kernel, rfl, by decide +kernel, by decide +kernel⟩
def sp_need_order (K : PySem.W.Frag) (d : Ads) : Sp := fun vs H Q _ => ∃ (a : Addr) (ns : List Int), vs = [.ref a] ∧ Sq K H a (ns.map V.int) ∧ Good ns ∧ ∀ H', Ex H H' → Q .non H'
set_option maxHeartbeats 4000000 in
theorem ok_need_order (T : Tx P K mg d) : Okf P w K mg base 1 d.f_need_order ["stays"] (sp_need_order K d) := by
  refine okf_of T.d_need_order sc_need_order (fun vs H Q E h => ?_) (fun cdv A outer s H vs Q E hr h => ?_)
  · obtain ⟨a, ns, rfl, hS, g, k⟩ := h
    rfl
  · obtain ⟨a, ns, rfl, hS, g, k⟩ := h
    refine ⟨_, (pss_one (ps_for PassesOwn.never rfl (k_piE (K := K) rfl (by rfl) T.z_enumerate (pa_cons (pv 0) pa_nil)) (k_gtup (K := K) (n := 2) rfl rfl (pgs_cons (pg_name (i := 1) sc_need_order.nd rfl (by first | exact Or.inl rfl | exact Or.inr rfl)) (pgs_cons (pg_name (i := 2) sc_need_order.nd rfl (by first | exact Or.inl rfl | exact Or.inr rfl)) pgs_nil))) (pss_one (ps_if (pt_cmpR op_gt (pv 2) (pe_op op_add pe_int (pe_ix (k_ixS (K := K) rfl) (pv 0) (pe_op op_mod (pe_op op_add (pv 1) pe_int) (pe_callB (k_len (K := K) rfl) (by rfl) T.z_len (by decide +kernel) (pa_cons (pv 0) pa_nil))) (fun _ _ => rfl))) (nomark _)) (pss_one ps_never) pss_nil)))), ?_⟩
    walk_at "rd"
    refine ⟨a, _, _, rfl, hS, Ex.refl _, fun J ⟨G, wk, hG⟩ => for_w wk (fun i σ H' => ∃ y1 y2, σ = [some (.ref a), y1, y2] ∧ Ex H H') ⟨none, none, rfl, Ex.refl H⟩ (fun i σ H' _ ⟨_, _, _, e⟩ => hG _ e) ?_ ?_⟩
    · rintro i x σ H1 H2 hi ⟨y1, y2, rfl, e⟩ ⟨T', x1, x2, rfl, nT, rfl, hx1, hx2⟩
      cases hx1
      obtain rfl := int_at hx2
      rw [List.length_map] at hi
      refine r_pair ?_
      have e2 := e.trans (Ex.new nT (o := .tup [.int (i : Nat), .int (ns.getD i 0)]))
      walk_at "rd"
      refine r_len (hS.mono e2) ?_
      rw [List.length_map]
      have hn := g.ne
      walk_at "rd"
      refine r_ixS (hS.mono e2) (at_cyc g.ne _) ?_
      walk_at "rd"
      refine r_ite (fun hc => ?_) (fun hc => ?_)
      · have := g.od (i : Int)
        rw [cyc_at hi] at this
        exact absurd this (by omega)
      · walk_at "rd"
        exact ⟨_, _, rfl, e2⟩
    · rintro σ H' ⟨y1, y2, rfl, e⟩
      exact k _ e
theorem sc_width_of : FnScope ["stays", "hour", "back"] ["stays", "hour"] (defScope s_width_of) := ⟨rfl, rfl, rfl, by decide +kernel, rfl, by decide +kernel, by decide +kernel⟩
def sp_width_of (K : PySem.W.Frag) (d : Ads) : Sp := fun vs H Q _ => ∃ (a : Addr) (ns : List Int) (h : Int), vs = [.ref a, .int h] ∧ Sq K H a (ns.map V.int) ∧ 1 ≤ ns.length ∧ ns.length ≤ 48 ∧ ∀ H', Ex H H' → Q (.int (wd ns h)) H'
set_option maxHeartbeats 4000000 in
theorem ok_width_of (T : Tx P K mg d) : Okf P w K mg base 1 d.f_width_of ["stays", "hour"] (sp_width_of K d) := by
  refine okf_of T.d_width_of sc_width_of (fun vs H Q E h => ?_) (fun cdv A outer s H vs Q E hr h => ?_)
  · obtain ⟨a, ns, h, rfl, hS, h1, h2, k⟩ := h
    rfl
  · obtain ⟨a, ns, h, rfl, hS, h1, h2, k⟩ := h
    refine ⟨_, (pss_one (ps_ret (pe_callB (k_len (K := K) rfl) (by rfl) T.z_len (by decide +kernel) (pa_cons (pe_lc (own := [("back", 2)]) rfl sc_width_of.nd (pi_range1 (by rfl) T.z_range (pa_cons (pe_callB (k_len (K := K) rfl) (by rfl) T.z_len (by decide +kernel) (pa_cons (pv 0) pa_nil)) pa_nil)) (blkOk_by (by kernel_rfl)) (fun _ _ _ _ _ => (pg_name (i := 2) sc_width_of.nd rfl (by first | exact Or.inl rfl | exact Or.inr rfl))) (fun _ _ _ _ _ => (pts_one (pt_cmpR op_gt (pe_ix (k_ixS (K := K) rfl) (pv 0) (pe_op op_mod (pe_op op_sub (pv 1) (pv 2)) (pe_callB (k_len (K := K) rfl) (by rfl) T.z_len (by decide +kernel) (pa_cons (pv 0) pa_nil))) (fun _ _ => rfl)) (pv 2) (nomark _)))) (fun _ _ _ _ _ => (pv 2))) pa_nil)))), ?_⟩
    walk_at "rd"
    refine r_len hS ?_
    rw [List.length_map]
    walk_at "rd"
    refine lc_filf walk_r0 (fun b => decide ((b : Int) < cyc ns (h - (b : Int)))) (fun b => .int (b : Int)) (fun _ _ => trivial) (by omega) ?_ ?_
    · rintro i x H1 H2 hi e ⟨rfl, rfl⟩ kb kk hk1 hk2
      walk_at "rd"
      refine r_len (hS.mono e) ?_
      rw [List.length_map]
      walk_at "rd"
      refine r_ixS (hS.mono e) (at_cyc h1 _) ?_
      walk_at "rd"
      refine r_ite (fun hc => ?_) (fun hc => ?_)
      · walk_at "rd"
        exact hk1 _ (decide_eq_true hc) (Ex.refl _)
      · exact hk2 _ (decide_eq_false hc) (Ex.refl _)
    · intro D H' nD e hD
      walk_at "rd"
      refine r_len (.inl (.inl (.inl hD))) ?_
      rw [List.length_map, Int.toNat_natCast]
      exact k _ e
theorem sc_Clock___init__ : FnScope ["self", "stays", "hour"] ["self", "stays"] (defScope s_Clock___init__) := ⟨rfl, rfl, rfl, by decide +kernel, rfl, by decide +kernel, by decide +kernel⟩
def sp_Clock___init__ (K : PySem.W.Frag) (d : Ads) : Sp := spClkInit K d.c_Clock
set_option maxHeartbeats 4000000 in
theorem ok_Clock___init__ (T : Tx P K mg d) : Okf P w K mg base 3 d.f_Clock___init__ ["self", "stays"] (sp_Clock___init__ K d) := by
  refine okf_of T.d_Clock___init__ sc_Clock___init__ (fun vs H Q E h => ?_) (fun cdv A outer s H vs Q E hr h => ?_)
  · obtain ⟨H0, x, dx, a, s, rfl, rfl, nx, ndx, ne, hS, g, k⟩ := h
    rfl
  · obtain ⟨H0, x, dx, a, s, rfl, rfl, nx, ndx, ne, hS, g, k⟩ := h
    refine ⟨_, (pss_cons (ps_if (pt_not (pt_val (pf_call (ok_are_stays T) (hr.mono (by decide)) (by rfl) T.g_are_stays T.d_are_stays.kp (pa_cons (pv 1) pa_nil)))) (pss_one ps_never) pss_nil)
      (pss_cons (ps_expr (pf_call (ok_need_order T) (hr.mono (by decide)) (by rfl) T.g_need_order T.d_need_order.kp (pa_cons (pv 1) pa_nil)))
      (pss_cons (k_sfld (K := K) rfl (pv 0) (pe_callTy (k_tupOf (K := K) rfl) (by rfl) T.z_tuple (by decide +kernel) (pa_cons (pv 1) pa_nil)))
      (pss_one (k_sfld (K := K) rfl (pv 0) (pe_callTy (k_tupOf (K := K) rfl) (by rfl) T.z_tuple (by decide +kernel) (pa_cons (pe_lc (own := [("hour", 2)]) rfl sc_Clock___init__.nd (pi_range1 (by rfl) T.z_range (pa_cons (pe_callB (k_len (K := K) rfl) (by rfl) T.z_len (by decide +kernel) (pa_cons (pv 1) pa_nil)) pa_nil)) (blkOk_by (by kernel_rfl)) (fun _ _ _ _ _ => (pg_name (i := 2) sc_Clock___init__.nd rfl (by first | exact Or.inl rfl | exact Or.inr rfl))) (fun _ _ _ _ _ => pts_nil) (fun _ _ _ _ _ => (pf_call (ok_width_of T) (hr.mono (by decide)) (by rfl) T.g_width_of T.d_width_of.kp (pa_cons (pv 1) (pa_cons (pv 2) pa_nil))))) pa_nil))))))), ?_⟩
    have e0 : Ex H0 (upd (upd H0 dx (.own x)) x (.ins d.c_Clock dx [])) := Ex.mut (Ex.new ndx) nx
    have hn := g.ne
    have hl := g.le
    walk_at "rd"
    refine ⟨a, s, rfl, hS.mono e0, by omega, fun H1 e1 => ?_⟩
    rw [g.ok]
    walk_at "rd"
    refine iteF ?_
    walk_at "rd"
    refine ⟨a, s, rfl, hS.mono (e0.trans e1), g, fun H2 e2 => ?_⟩
    have x2 : H2 x = some (.ins d.c_Clock dx []) := e2 _ _ (e1 _ _ upd_same)
    have e02 : Ex H0 H2 := (e0.trans e1).trans e2
    walk_at "rd"
    refine r_tupOf (hS.mono e02) fun p H3 e3 hp => ?_
    walk_at "rd"
    refine ⟨x, _, dx, _, rfl, e3 _ _ x2, T.cl_Clock, T.n_Clock_kept_stays, by show 0 < 1000; decide, ?_⟩
    have e04 : Ex H0 (upd H3 x (.ins d.c_Clock dx (putF "kept_stays" (.ref p) []))) := Ex.mut (e02.trans e3) nx
    have hp4 : SqT K (upd H3 x (.ins d.c_Clock dx (putF "kept_stays" (.ref p) []))) p (s.map V.int) := tup_ins (e3 _ _ x2) hp
    walk_at "rd"
    refine r_len (hS.mono e04) ?_
    rw [List.length_map]
    walk_at "rd"
    refine lc_fun walk_r0 (fun i => .int (wd s (i : Int))) (fun _ _ => trivial) (by omega) ?_ ?_
    · rintro i y H5 H6 hi e ⟨rfl, rfl⟩ kk hk
      walk_at "rd"
      refine ⟨a, s, _, rfl, hS.mono (e04.trans e), hn, hl, fun H7 e7 => ?_⟩
      exact hk _ e7
    · intro D H5 nD e5 hD
      have x5 : H5 x = some (.ins d.c_Clock dx (putF "kept_stays" (.ref p) [])) := e5 _ _ upd_same
      walk_at "rd"
      refine r_tupOf (.inl (.inl (.inl hD))) fun q H6 e6 hq => ?_
      walk_at "rd"
      refine ⟨x, _, dx, _, rfl, e6 _ _ x5, T.cl_Clock, T.n_Clock_kept_widths, by show 1 < 1000; decide, ?_⟩
      refine k _ (Ex.mut ((e04.trans e5).trans e6) nx) ⟨x, dx, p, q, rfl, upd_same, tup_ins (e6 _ _ x5) (ex_t (e5.trans e6) hp4), tup_ins (e6 _ _ x5) ?_, g⟩
      unfold wds
      rw [List.map_map]
      rw [Int.toNat_natCast] at hq
      exact hq
theorem sc__law_clock : FnScope ["_law_bag_here", "_law_stays_here", "_law_row", "_law_clock_here"] ["_law_bag_here", "_law_stays_here"] (defScope s__law_clock) := ⟨rfl, rfl, rfl, by decide +kernel, rfl, by decide +kernel, by decide +kernel⟩
def sp__law_clock (K : PySem.W.Frag) (d : Ads) : Sp := fun vs H Q _ => ∃ (b a : Addr) (s : List Int), vs = [.ref b, .ref a] ∧ Bag H b ∧ Sq K H a (s.map V.int) ∧ Good s ∧ ∀ u H', Ex H H' → Clk K d.c_Clock H' u s → Q u H'
set_option maxHeartbeats 4000000 in
theorem ok__law_clock (T : Tx P K mg d) : Okf P w K mg base 5 d.f__law_clock ["_law_bag_here", "_law_stays_here"] (sp__law_clock K d) := by
  refine okf_of T.d__law_clock sc__law_clock (fun vs H Q E h => ?_) (fun cdv A outer s H vs Q E hr h => ?_)
  · obtain ⟨b, a, s, rfl, hB, hS, g, k⟩ := h
    rfl
  · obtain ⟨b, a, s, rfl, hB, hS, g, k⟩ := h
    refine ⟨_, (pss_cons (ps_if (pt_cmpR op_eq (pf_call (ok__law_take T) (hr.mono (by decide)) (by rfl) T.g__law_take T.d__law_take.kp (pa_cons (pv 0) (pa_cons pe_int pa_nil))) pe_int (nomark _)) (pss_one (ps_ret (pf_make (ok_Clock___init__ T) (hr.mono (by decide)) T.mk_Clock (by rfl) T.g_Clock (pa_cons (pe_callTy (k_tupOf (K := K) rfl) (by rfl) T.z_tuple (by decide +kernel) (pa_cons (pv 1) pa_nil)) pa_nil)))) pss_nil)
      (pss_cons (ps_set (i := 2) sc__law_clock.nd rfl (by first | exact Or.inl rfl | exact Or.inr rfl) (pe_callTy (k_listOf (K := K) rfl) (by rfl) T.z_list (by decide +kernel) (pa_cons (pv 1) pa_nil)))
      (pss_cons (ps_set (i := 3) sc__law_clock.nd rfl (by first | exact Or.inl rfl | exact Or.inr rfl) (pf_make (ok_Clock___init__ T) (hr.mono (by decide)) T.mk_Clock (by rfl) T.g_Clock (pa_cons (pv 2) pa_nil)))
      (pss_cons (ps_asg pe_int (pg_sub (pv 2) pe_int set_list))
      (pss_cons (ps_expr (pe_bm PySem.F.plainAttrs_list PySem.F.slot_list_append PySem.F.type_list_append mt_append (pv 2) (pa_cons pe_int pa_nil)))
      (pss_one (ps_ret (pv 3)))))))), ?_⟩
    have hne := g.ne
    have hle := g.le
    walk_at "rd"
    refine ⟨b, _, rfl, hB, by omega, by omega, fun c0 _ _ => ?_⟩
    walk_at "rd"
    refine r_ite (fun _ => ?_) (fun _ => ?_)
    · walk_at "rd"
      refine r_tupOf hS fun p H1 e1 hp => ?_
      walk_at "rd"
      exact mkClk ⟨p, s, rfl, .inr hp, g, fun u H2 e2 c => k _ H2 (e1.trans e2) c⟩
    · walk_at "rd"
      refine r_listOf hS fun l nl => ?_
      walk_at "rd"
      refine mkClk ⟨l, s, rfl, .inl (.inl (.inl upd_same)), g, fun u H2 e2 c => ?_⟩
      have hl := e2 _ _ (upd_same (H := H) (a := l) (o := .lst (s.map V.int)))
      have e02 := (Ex.new nl).trans e2
      walk_at "rd"
      have hix : ixN (s.map V.int).length (0 : Int) = some 0 := by
        rw [List.length_map]
        exact Hn.ixN_nat hne
      refine r_setL hl hix ?_
      walk_at "rd"
      refine ⟨ty_lst upd_same, ?_⟩
      walk_at "rd"
      refine ⟨l, _, _, rfl, rfl, upd_same, sz_lt (by rw [List.length_set, List.length_map]; omega), ?_⟩
      walk_at "rd"
      refine k _ _ (Ex.mut (Ex.mut e02 nl) nl) ((c.mono (Xl.set hl)).mono (Xl.set upd_same))
def w__law_clock : WF := fun xs P => ∃ (x : PV) (s : List Int), xs = [.bag, x] ∧ seqP x s ∧ Good s ∧ P (clkP s)
theorem ow__law_clock (T : Tx P K mg d) : Okf P w K mg base 5 d.f__law_clock ["_law_bag_here", "_law_stays_here"] (spW K (cnA d) (rN K (cnA d)) w__law_clock) := okw_imp (ok__law_clock T) (fun vs H Q E ⟨F, xs, P, dm, r, ⟨x, s, ex, c1, c2, p⟩, k⟩ => by
  subst ex
  obtain ⟨v1, v2, rfl, r1, r2⟩ := r.two
  obtain ⟨a1, rfl, h1⟩ := r1.bagE
  obtain ⟨a2, rfl, h2⟩ := r2.seq c1
  exact ⟨a1, a2, s, rfl, h1, h2, c2, fun u H' e c => ret_clk dm k p e c⟩)
def t__law_ring : WS := (wSeq (wAsg (wTup (wCons (wCall w_take (wCons (wVar 0) (wCons (wC (.int 4)) wNil))) (wCons (wOp wAdd (wC (.int 1)) (wCall w_take (wCons (wVar 0) (wCons (wOp wMul (wC (.int 2)) (wVar 1)) wNil)))) (wCons (wCall w_take (wCons (wVar 0) (wCons (wVar 1) wNil))) wNil)))) (wgTup 3 (wgCons (wgName 2) (wgCons (wgName 3) (wgCons (wgName 4) wgNil)))))
      (wSeq (wIfS (wTest (wOp wEq (wVar 2) (wC (.int 0)))) (wRet (wLst (wCons (wVar 4) wNil))) (fun D ρ => D.nx ρ))
      (wSeq (wIfS (wTest (wOp wEq (wVar 2) (wC (.int 1)))) (wRet (wLc (wRng1 (wCons (wVar 3) wNil)) (wgName 5) wTyes (wOp (wII (fun _ j => 0 < j) fun i j => i % j) (wCB wInt1 (wCons (wOp wAdd (wVar 4) (wVar 5)) wNil)) (wVar 1)))) (fun D ρ => D.nx ρ))
      (wSeq (wIfS (wTest (wOp wEq (wVar 2) (wC (.int 2)))) (wRet (wLc (wRng1 (wCons (wVar 3) wNil)) (wgName 5) wTyes (wOp (wII (fun _ j => 0 < j) fun i j => i % j) (wCB wInt1 (wCons (wOp (wI0 fun i j => i - j) (wVar 4) (wVar 5)) wNil)) (wVar 1)))) (fun D ρ => D.nx ρ))
      (wRet (wLc (wRng1 (wCons (wVar 3) wNil)) (wgName 5) wTyes (wCall w_take (wCons (wVar 0) (wCons (wVar 1) wNil)))))))))
def w__law_ring : WF := wDef 2 4 t__law_ring
theorem scw__law_ring : FnScope ["_law_bag_here", "_law_many", "_law_way", "_law_size", "_law_hour", "_law_k"] ["_law_bag_here", "_law_many"] (defScope s__law_ring) := ⟨rfl, rfl, rfl, by decide +kernel, rfl, by decide +kernel, by decide +kernel⟩
set_option maxHeartbeats 4000000 in
theorem ow__law_ring (T : Tx P K mg d) : Okf P w K mg base 2 d.f__law_ring ["_law_bag_here", "_law_many"] (spW K (cnA d) (rN K (cnA d)) w__law_ring) :=
  okw_of (ts' := [.sh, .sh, .sh, .sh, .sh, .no]) T.d__law_ring scw__law_ring rfl rfl rnonN fun cdv A outer s H E hr =>
    ⟨_, (pss_cons (ps_asg (pe_tup (pa_cons (pf_call (ow__law_take T) (hr.mono (by decide)) (by rfl) T.g__law_take T.d__law_take.kp (pa_cons (pv 0) (pa_cons pe_int pa_nil))) (pa_cons (pe_op (u_add (K := K) rfl) pe_int (pf_call (ow__law_take T) (hr.mono (by decide)) (by rfl) T.g__law_take T.d__law_take.kp (pa_cons (pv 0) (pa_cons (pe_op u_mul pe_int (pv 1)) pa_nil)))) (pa_cons (pf_call (ow__law_take T) (hr.mono (by decide)) (by rfl) T.g__law_take T.d__law_take.kp (pa_cons (pv 0) (pa_cons (pv 1) pa_nil))) pa_nil)))) (k_gtup (K := K) (n := 3) rfl rfl (pgs_cons (pg_name (i := 2) scw__law_ring.nd rfl (by first | exact Or.inl rfl | exact Or.inr rfl)) (pgs_cons (pg_name (i := 3) scw__law_ring.nd rfl (by first | exact Or.inl rfl | exact Or.inr rfl)) (pgs_cons (pg_name (i := 4) scw__law_ring.nd rfl (by first | exact Or.inl rfl | exact Or.inr rfl)) pgs_nil)))))
      (pss_cons (ps_if (pt_cmpR (u_eq (K := K) rfl hr.units) (pv 2) pe_int (nomark _)) (pss_one (ps_ret (pe_lst (pa_cons (pv 4) pa_nil)))) pss_nil)
      (pss_cons (ps_if (pt_cmpR (u_eq (K := K) rfl hr.units) (pv 2) pe_int (nomark _)) (pss_one (ps_ret (pe_lc (own := [("_law_k", 5)]) rfl scw__law_ring.nd (pi_range1 (by rfl) T.z_range (pa_cons (pv 3) pa_nil)) (blkOk_by (by kernel_rfl)) (fun _ _ _ _ _ => (pg_name (i := 5) scw__law_ring.nd rfl (by first | exact Or.inl rfl | exact Or.inr rfl))) (fun _ _ _ _ _ => pts_nil) (fun _ _ _ _ _ => (pe_op op_mod (pe_callTy u_int (by rfl) T.z_int (by decide +kernel) (pa_cons (pe_op (u_add (K := K) rfl) (pv 4) (pv 5)) pa_nil)) (pv 1)))))) pss_nil)
      (pss_cons (ps_if (pt_cmpR (u_eq (K := K) rfl hr.units) (pv 2) pe_int (nomark _)) (pss_one (ps_ret (pe_lc (own := [("_law_k", 5)]) rfl scw__law_ring.nd (pi_range1 (by rfl) T.z_range (pa_cons (pv 3) pa_nil)) (blkOk_by (by kernel_rfl)) (fun _ _ _ _ _ => (pg_name (i := 5) scw__law_ring.nd rfl (by first | exact Or.inl rfl | exact Or.inr rfl))) (fun _ _ _ _ _ => pts_nil) (fun _ _ _ _ _ => (pe_op op_mod (pe_callTy u_int (by rfl) T.z_int (by decide +kernel) (pa_cons (pe_op op_sub (pv 4) (pv 5)) pa_nil)) (pv 1)))))) pss_nil)
      (pss_one (ps_ret (pe_lc (own := [("_law_k", 5)]) rfl scw__law_ring.nd (pi_range1 (by rfl) T.z_range (pa_cons (pv 3) pa_nil)) (blkOk_by (by kernel_rfl)) (fun _ _ _ _ _ => (pg_name (i := 5) scw__law_ring.nd rfl (by first | exact Or.inl rfl | exact Or.inr rfl))) (fun _ _ _ _ _ => pts_nil) (fun _ _ _ _ _ => (pf_call (ow__law_take T) (hr.mono (by decide)) (by rfl) T.g__law_take T.d__law_take.kp (pa_cons (pv 0) (pa_cons (pv 1) pa_nil))))))))))),
    (simS_seq (simS_asg (sim_NS (sim_tup (simA_cons (sim_NS (sim_call okN (simA_cons (sim_var rfl) (simA_cons (sim_NS sim_int) simA_nil)))) (simA_cons (sim_NS (sim_op okN ops_add (sim_NW sim_int) (sim_NW (sim_call okN (simA_cons (sim_var rfl) (simA_cons (sim_NS (sim_op okN ops_mul (sim_NW sim_int) (sim_SW (sim_var rfl)))) simA_nil)))))) (simA_cons (sim_NS (sim_call okN (simA_cons (sim_var rfl) (simA_cons (sim_var rfl) simA_nil)))) simA_nil))))) (simG_tup (simGs_cons (simG_name (i := 2)) (simGs_cons (simG_name (i := 3)) (simGs_cons (simG_name (i := 4)) simGs_nil)))))
      (simS_seq (simS_if (simT_test (sim_NS (sim_op okN ops_eq (sim_SW (sim_var rfl)) (sim_NW sim_int)))) (simS_ret okN (sim_lst (simA_cons (sim_var rfl) simA_nil))) simS_nil)
      (simS_seq (simS_if (simT_test (sim_NS (sim_op okN ops_eq (sim_SW (sim_var rfl)) (sim_NW sim_int)))) (simS_ret okN (sim_lc (vs := [5]) (simI_rng1 (simAW_cons (sim_SW (sim_var rfl)) simAW_nil)) (simG_name (i := 5)) simT_yes (sim_NS (sim_op okN (ops_II (C := fun _ j => 0 < j) (g := fun i j => i % j)) (sim_NW (sim_cb okN cas_int (simAW_cons (sim_NW (sim_op okN ops_add (sim_SW (sim_var rfl)) (sim_SW (sim_var rfl)))) simAW_nil))) (sim_SW (sim_var rfl)))))) simS_nil)
      (simS_seq (simS_if (simT_test (sim_NS (sim_op okN ops_eq (sim_SW (sim_var rfl)) (sim_NW sim_int)))) (simS_ret okN (sim_lc (vs := [5]) (simI_rng1 (simAW_cons (sim_SW (sim_var rfl)) simAW_nil)) (simG_name (i := 5)) simT_yes (sim_NS (sim_op okN (ops_II (C := fun _ j => 0 < j) (g := fun i j => i % j)) (sim_NW (sim_cb okN cas_int (simAW_cons (sim_NW (sim_op okN (ops_I0 (g := fun i j => i - j)) (sim_SW (sim_var rfl)) (sim_SW (sim_var rfl)))) simAW_nil))) (sim_SW (sim_var rfl)))))) simS_nil)
      (simS_ret okN (sim_lc (vs := [5]) (simI_rng1 (simAW_cons (sim_SW (sim_var rfl)) simAW_nil)) (simG_name (i := 5)) simT_yes (sim_NS (sim_call okN (simA_cons (sim_var rfl) (simA_cons (sim_var rfl) simA_nil))))))))))⟩
theorem sc__law_serving : FnScope ["_law_stays_here", "_law_hour", "_law_many", "_law_found", "_law_back"] ["_law_stays_here", "_law_hour"] (defScope s__law_serving) := ⟨rfl, rfl, rfl, by decide +kernel, rfl, by decide +kernel, by decide +kernel⟩
def sp__law_serving (K : PySem.W.Frag) (d : Ads) : Sp := fun vs H Q _ => ∃ (l : Addr) (s : List Int) (h : Int), vs = [.ref l, .int h] ∧ SqL K H l (s.map V.int) ∧ Good s ∧ RetN ((servingOf s h).map V.int) H Q
set_option maxHeartbeats 4000000 in
theorem ok__law_serving (T : Tx P K mg d) : Okf P w K mg base 1 d.f__law_serving ["_law_stays_here", "_law_hour"] (sp__law_serving K d) := by
  refine okf_of T.d__law_serving sc__law_serving (fun vs H Q E h => ?_) (fun cdv A outer s H vs Q E hr h => ?_)
  · obtain ⟨l, s, h, rfl, hS, g, k⟩ := h
    rfl
  · obtain ⟨l, s, h, rfl, hS, g, k⟩ := h
    refine ⟨_, (pss_cons (ps_set (i := 2) sc__law_serving.nd rfl (by first | exact Or.inl rfl | exact Or.inr rfl) (pe_callB (k_len (K := K) rfl) (by rfl) T.z_len (by decide +kernel) (pa_cons (pv 0) pa_nil)))
      (pss_cons (ps_setLc (i := 3) (own := [("_law_back", 4)]) rfl sc__law_serving.nd rfl rfl (sw_true rfl rfl rfl (by decide +kernel)) (pi_range1 (by rfl) T.z_range (pa_cons (pv 2) pa_nil)) (blkOk_by (by kernel_rfl)) (fun _ _ _ _ _ => (pg_name (i := 4) sc__law_serving.nd rfl (by first | exact Or.inl rfl | exact Or.inr rfl))) (fun _ _ _ _ _ => (pts_one (pt_cmpR op_gt (pe_ix (k_ixL (K := K) rfl) (pv 0) (pe_op op_mod (pe_callTy k_int1 (by rfl) T.z_int (by decide +kernel) (pa_cons (pe_op op_sub (pv 1) (pv 4)) pa_nil)) (pv 2)) (fun _ _ => rfl)) (pv 4) (nomark _)))) (fun _ _ _ _ _ => (pe_op op_mod (pe_callTy k_int1 (by rfl) T.z_int (by decide +kernel) (pa_cons (pe_op op_sub (pv 1) (pv 4)) pa_nil)) (pv 2))))
      (pss_one (ps_ret (k_revL (K := K) rfl (pv 3)))))), ?_⟩
    have hne := g.ne
    have hle := g.le
    walk_at "rd"
    refine r_len (.inl hS) ?_
    rw [List.length_map]
    walk_at "rd"
    refine lc_filf walk_r0 (fun b => decide ((b : Int) < cyc s (h - (b : Int)))) (fun b => .int ((h - (b : Int)) % (s.length : Int))) (fun _ _ => trivial) (by omega) ?_ ?_
    · rintro i x H1 H2 hi e ⟨rfl, rfl⟩ kb kk hk1 hk2
      walk_at "rd"
      refine r_ixL (ex_l e hS) (at_cyc hne _) ?_
      walk_at "rd"
      refine r_ite (fun hc => ?_) (fun hc => ?_)
      · walk_at "rd"
        exact hk1 _ (decide_eq_true hc) (Ex.refl _)
      · exact hk2 _ (decide_eq_false hc) (Ex.refl _)
    · intro D H' nD e hD
      walk_at "rd"
      refine ⟨D, _, rfl, .inl (.inl hD), fun p np => ?_⟩
      refine k p _ (fresh_back e np) (e.trans (Ex.new np)) ?_
      rw [upd_same, Int.toNat_natCast, ← serving_filter g, List.map_reverse, List.map_map]
      rfl
theorem sc__law_hop : FnScope ["_law_stays_here", "_law_hour", "_law_later", "_law_many", "_law_wide", "_law_far"] ["_law_stays_here", "_law_hour", "_law_later"] (defScope s__law_hop) := ⟨rfl, rfl, rfl, by decide +kernel, rfl, by decide +kernel, by decide +kernel⟩
def sp__law_hop (K : PySem.W.Frag) (d : Ads) : Sp := fun vs H Q _ => ∃ (l : Addr) (s : List Int) (h k : Int), vs = [.ref l, .int h, .int k] ∧ SqL K H l (s.map V.int) ∧ Good s ∧ 0 ≤ h ∧ h < (s.length : Int) ∧ 0 ≤ k ∧ k < (s.length : Int) ∧ ∀ H', Ex H H' → Q (.int (stp s h k)) H'
set_option maxHeartbeats 4000000 in
theorem ok__law_hop (T : Tx P K mg d) : Okf P w K mg base 2 d.f__law_hop ["_law_stays_here", "_law_hour", "_law_later"] (sp__law_hop K d) := by
  refine okf_of T.d__law_hop sc__law_hop (fun vs H Q E h => ?_) (fun cdv A outer s H vs Q E hr h => ?_)
  · obtain ⟨l, s, h, k, rfl, hS, g, h0, h1, k0, k1, kk⟩ := h
    rfl
  · obtain ⟨l, s, h, k, rfl, hS, g, h0, h1, k0, k1, kk⟩ := h
    refine ⟨_, (pss_cons (ps_asg (pe_tup (pa_cons (pe_callB (k_len (K := K) rfl) (by rfl) T.z_len (by decide +kernel) (pa_cons (pv 0) pa_nil)) (pa_cons (pe_callB (k_len (K := K) rfl) (by rfl) T.z_len (by decide +kernel) (pa_cons (pf_call (ok__law_serving T) (hr.mono (by decide)) (by rfl) T.g__law_serving T.d__law_serving.kp (pa_cons (pv 0) (pa_cons (pv 2) pa_nil))) pa_nil)) pa_nil))) (k_gtup (K := K) (n := 2) rfl rfl (pgs_cons (pg_name (i := 3) sc__law_hop.nd rfl (by first | exact Or.inl rfl | exact Or.inr rfl)) (pgs_cons (pg_name (i := 4) sc__law_hop.nd rfl (by first | exact Or.inl rfl | exact Or.inr rfl)) pgs_nil))))
      (pss_one (ps_ret (pe_ix (k_ixL (K := K) rfl) (pe_lc (own := [("_law_far", 5)]) rfl sc__law_hop.nd (pi_range2 (by rfl) T.z_range (pa_cons (pv 4) (pa_cons (pe_op op_add (pv 4) (pv 3)) pa_nil))) (blkOk_by (by kernel_rfl)) (fun _ _ _ _ _ => (pg_name (i := 5) sc__law_hop.nd rfl (by first | exact Or.inl rfl | exact Or.inr rfl))) (fun _ _ _ _ _ => (pts_one (pt_cmpR op_eq (pe_op op_mod (pe_callTy k_int1 (by rfl) T.z_int (by decide +kernel) (pa_cons (pe_op op_sub (pe_op op_add (pv 1) (pv 5)) (pv 2)) pa_nil)) (pv 3)) pe_int (nomark _)))) (fun _ _ _ _ _ => (pv 5))) pe_int (fun _ _ => rfl))))), ?_⟩
    have hn := g.ne
    have hn8 := g.le
    walk_at "rd"
    refine r_len (by walk_at "kn") ?_
    rw [List.length_map]
    walk_at "rd"
    refine ⟨l, s, _, rfl, (by walk_at "kn"), g, fun p H1 np e1 hp => ?_⟩
    walk_at "rd"
    refine r_len (by walk_at "kn") ?_
    rw [List.length_map, serving_len]
    have w1 := wd_pos g k
    have w2 := wd_le (s := s) k
    walk_at "rd"
    refine ⟨szc rfl, fun q nq => r_pair ?_⟩
    walk_at "rd"
    refine ⟨wd s k, wd s k + (s.length : Int), rfl, by omega, ?_⟩
    rw [show (wd s k + (s.length : Int) - wd s k).toNat = s.length by omega]
    refine lc_filf (walk_range (lo := wd s k)) (fun i => decide ((h - k + (wd s k + (i : Int))) % (s.length : Int) = 0)) (fun i => .int (wd s k + (i : Int))) (fun _ _ => trivial) (by omega) ?_ ?_
    · rintro i x H2 H3 hi e ⟨rfl, rfl⟩ kb kq hk1 hk2
      walk_at "rd"
      rw [show h + (wd s k + (i : Int)) - k = h - k + (wd s k + (i : Int)) by omega]
      refine r_ite (fun hc => ?_) (fun hc => ?_)
      · walk_at "rd"
        exact hk1 _ (decide_eq_true hc) (Ex.refl _)
      · exact hk2 _ (decide_eq_false hc) (Ex.refl _)
    intro D2 H2 nD2 e2 hD2
    have hD' : H2 D2 = some (.lst ([stp s h k].map V.int)) := by
      have e := hop_fil (n := s.length) (w := wd s k) (x := h - k) hn
      rw [hD2]
      have e' : stp s h k = wd s k + (-(h - k) - wd s k) % (s.length : Int) := by
        unfold stp
        rw [show k - wd s k - h = -(h - k) - wd s k by omega]
      rw [e', ← e, List.map_map]
      rfl
    walk_at "rd"
    refine r_ixL (xs := [V.int (stp s h k)]) (at_sqL hD') (atI_nat (j := 0) rfl) ?_
    exact kk _ (by walk_at "ex")
theorem sc__law_wound : FnScope ["_law_stays_here", "_law_ring_here", "_law_k"] ["_law_stays_here", "_law_ring_here"] (defScope s__law_wound) := ⟨rfl, rfl, rfl, by decide +kernel, rfl, by decide +kernel, by decide +kernel⟩
def sp__law_wound (K : PySem.W.Frag) (d : Ads) : Sp := fun vs H Q _ => ∃ (l m : Addr) (s r : List Int), vs = [.ref l, .ref m] ∧ SqL K H l (s.map V.int) ∧ SqL K H m (r.map V.int) ∧ Good s ∧ r ≠ [] ∧ r.length ≤ 5000 ∧ (∀ k ∈ r, 0 ≤ k ∧ k < (s.length : Int)) ∧ ∀ H', Ex H H' → Q (.int (wnd s r)) H'
theorem at_prev {r : List Int} {i : Nat} (h : i < r.length) : atI (r.map V.int) ((i : Int) - 1) = some (.int (prevH r i)) := by
  unfold prevH
  by_cases q : i = 0
  · subst q
    rw [if_pos rfl]
    refine at_lastL (n := r.length - 1) ?_ (by rw [List.length_map]; omega)
    rw [List.getElem?_map, List.getElem?_eq_getElem (by omega), List.getD_eq_getElem?_getD, List.getElem?_eq_getElem (by omega)]
    rfl
  · rw [if_neg q, show (i : Int) - 1 = ((i - 1 : Nat) : Int) by omega, at_int (by omega) (by omega), Int.toNat_natCast]
set_option maxHeartbeats 4000000 in
theorem ok__law_wound (T : Tx P K mg d) : Okf P w K mg base 3 d.f__law_wound ["_law_stays_here", "_law_ring_here"] (sp__law_wound K d) := by
  refine okf_of T.d__law_wound sc__law_wound (fun vs H Q E h => ?_) (fun cdv A outer s H vs Q E hr h => ?_)
  · obtain ⟨l, m, s, r, rfl, hL, hM, g, hne, hle, hk, kk⟩ := h
    rfl
  · obtain ⟨l, m, s, r, rfl, hL, hM, g, hne, hle, hk, kk⟩ := h
    refine ⟨_, (pss_one (ps_ret (pe_op op_fdiv (pe_callB (k_sumS (K := K) rfl rfl) (by rfl) T.z_sum (by decide +kernel) (pa_cons (pe_lc (own := [("_law_k", 2)]) rfl sc__law_wound.nd (pi_range1 (by rfl) T.z_range (pa_cons (pe_callB (k_len (K := K) rfl) (by rfl) T.z_len (by decide +kernel) (pa_cons (pv 1) pa_nil)) pa_nil)) (blkOk_by (by kernel_rfl)) (fun _ _ _ _ _ => (pg_name (i := 2) sc__law_wound.nd rfl (by first | exact Or.inl rfl | exact Or.inr rfl))) (fun _ _ _ _ _ => pts_nil) (fun _ _ _ _ _ => (pf_call (ok__law_hop T) (hr.mono (by decide)) (by rfl) T.g__law_hop T.d__law_hop.kp (pa_cons (pv 0) (pa_cons (pe_ix (k_ixL (K := K) rfl) (pv 1) (pe_op op_sub (pv 2) pe_int) (fun _ _ => rfl)) (pa_cons (pe_ix (k_ixL (K := K) rfl) (pv 1) (pv 2) (fun _ _ => rfl)) pa_nil)))))) pa_nil)) (pe_callB (k_len (K := K) rfl) (by rfl) T.z_len (by decide +kernel) (pa_cons (pv 0) pa_nil))))), ?_⟩
    have hn := g.ne
    have hn8 := g.le
    walk_at "rd"
    refine r_len (by walk_at "kn") ?_
    rw [List.length_map]
    walk_at "rd"
    refine lc_fun walk_r0 (fun i => .int (stp s (prevH r i) (r.getD i 0))) (fun _ _ => trivial) (by omega) ?_ ?_
    · rintro i x H1 H2 hi e ⟨rfl, rfl⟩ kq hk2
      rw [Int.toNat_natCast] at hi
      obtain ⟨⟨a0, a1⟩, b0, b1⟩ := prevH_in (n := s.length) hk hi
      walk_at "rd"
      refine r_ixL (by walk_at "kn") (at_prev hi) ?_
      walk_at "rd"
      refine r_ixL (by walk_at "kn") (at_int (by omega) (by omega)) ?_
      rw [Int.toNat_natCast]
      walk_at "rd"
      refine ⟨l, s, _, _, rfl, (by walk_at "kn"), g, a0, a1, b0, b1, fun H3 e3 => ?_⟩
      exact hk2 _ (by walk_at "ex")
    intro p H1 np e1 hp
    have hp' : H1 p = some (.lst (((List.range r.length).map fun i => stp s (prevH r i) (r.getD i 0)).map V.int)) := by
      rw [hp, Int.toNat_natCast, List.map_map]
      rfl
    walk_at "rd"
    refine r_sumS (by walk_at "kn") ?_
    walk_at "rd"
    refine r_len (by walk_at "kn") ?_
    rw [List.length_map]
    walk_at "rd"
    rw [wnd_list hne]
    exact kk _ (by walk_at "ex")
def w__law_wound : WF := fun xs P => ∃ (s q : List Int), xs = [.lst (iL s), .lst (iL q)] ∧ Good s ∧ q ≠ [] ∧ q.length ≤ 5000 ∧ (∀ k ∈ q, 0 ≤ k ∧ k < (s.length : Int)) ∧ P (.int (wnd s q))
theorem ow__law_wound (T : Tx P K mg d) : Okf P w K mg base 3 d.f__law_wound ["_law_stays_here", "_law_ring_here"] (spW K (cnA d) (rN K (cnA d)) w__law_wound) := okw_imp (ok__law_wound T) (fun vs H Q E ⟨F, xs, P, dm, r, ⟨s, q, ex, c1, c2, c3, c4, p⟩, k⟩ => by
  subst ex
  obtain ⟨v1, v2, rfl, r1, r2⟩ := r.two
  obtain ⟨a1, rfl, h1⟩ := r1.intsL
  obtain ⟨a2, rfl, h2⟩ := r2.intsL
  exact ⟨a1, a2, s, q, rfl, .inl (.inl h1), .inl (.inl h2), c1, c2, c3, c4, fun H' e => ret_int dm k p e⟩)
theorem sc__law_bound_of : FnScope ["_law_stays_here", "_law_wants_here", "_law_ring_here", "_law_hour"] ["_law_stays_here", "_law_wants_here", "_law_ring_here"] (defScope s__law_bound_of) := ⟨rfl, rfl, rfl, by decide +kernel, rfl, by decide +kernel, by decide +kernel⟩
def sp__law_bound_of (K : PySem.W.Frag) (d : Ads) : Sp := fun vs H Q _ => ∃ (l q m : Addr) (s w r : List Int), vs = [.ref l, .ref q, .ref m] ∧ SqL K H l (s.map V.int) ∧ SqL K H q (w.map V.int) ∧ SqL K H m (r.map V.int) ∧ Good s ∧ w.length = s.length ∧ r ≠ [] ∧ r.length ≤ 5000 ∧ (∀ k ∈ r, 0 ≤ k ∧ k < (s.length : Int)) ∧ ∀ H', Ex H H' → Q (.int (ringB s w r)) H'
set_option maxHeartbeats 4000000 in
theorem ok__law_bound_of (T : Tx P K mg d) : Okf P w K mg base 4 d.f__law_bound_of ["_law_stays_here", "_law_wants_here", "_law_ring_here"] (sp__law_bound_of K d) := by
  refine okf_of T.d__law_bound_of sc__law_bound_of (fun vs H Q E h => ?_) (fun cdv A outer s H vs Q E hr h => ?_)
  · obtain ⟨l, q, m, s, w, r, rfl, hL, hW, hM, g, hlen, hne, hle, hk, kk⟩ := h
    rfl
  · obtain ⟨l, q, m, s, w, r, rfl, hL, hW, hM, g, hlen, hne, hle, hk, kk⟩ := h
    refine ⟨_, (pss_one (ps_ret (pe_op op_sub pe_int (pe_op op_fdiv (pe_op op_sub pe_int (pe_callB (k_sumS (K := K) rfl rfl) (by rfl) T.z_sum (by decide +kernel) (pa_cons (pe_lc (own := [("_law_hour", 3)]) rfl sc__law_bound_of.nd (k_piL (K := K) rfl (pv 2)) (blkOk_by (by kernel_rfl)) (fun _ _ _ _ _ => (pg_name (i := 3) sc__law_bound_of.nd rfl (by first | exact Or.inl rfl | exact Or.inr rfl))) (fun _ _ _ _ _ => pts_nil) (fun _ _ _ _ _ => (pe_ix (k_ixL (K := K) rfl) (pv 1) (pv 3) (fun _ _ => rfl)))) pa_nil))) (pf_call (ok__law_wound T) (hr.mono (by decide)) (by rfl) T.g__law_wound T.d__law_wound.kp (pa_cons (pv 0) (pa_cons (pv 2) pa_nil))))))), ?_⟩
    have hn := g.ne
    walk_at "rd"
    refine ⟨m, rfl, ⟨_, hM⟩, ?_⟩
    refine lc_fun (walk_list (xs := r.map V.int)) (fun i => .int (cyc w (r.getD i 0))) (fun _ e => ex_l e hM) (by rw [List.length_map]; omega) ?_ ?_
    · rintro i x H1 H2 hi e ⟨rfl, hx⟩ kq hk2
      obtain rfl := int_at hx
      rw [List.length_map] at hi
      obtain ⟨_, b0, b1⟩ := prevH_in (n := s.length) hk hi
      walk_at "rd"
      have ea := at_cyc (ns := w) (by omega) (r.getD i 0)
      rw [Int.emod_eq_of_lt b0 (by omega)] at ea
      refine r_ixL (by walk_at "kn") ea ?_
      exact hk2 _ (Ex.refl _)
    intro p H1 np e1 hp
    have hp' : H1 p = some (.lst ((r.map (cyc w)).map V.int)) := by
      rw [hp, List.length_map, List.map_map]
      exact congrArg (fun x => some (HO.lst x)) (map_range_int r fun z => V.int (cyc w z))
    walk_at "rd"
    refine r_sumS (by walk_at "kn") ?_
    walk_at "rd"
    refine ⟨l, m, s, r, rfl, (by walk_at "kn"), (by walk_at "kn"), g, hne, hle, hk, fun H2 e2 => ?_⟩
    obtain ⟨_, w1⟩ := wnd_eq g hne
    have w2 := wnd_small g hne (by omega)
    walk_at "rd"
    rw [show (0 : Int) - (0 - (r.map (cyc w)).sum) / wnd s r = ringB s w r by
      unfold ringB upI sumD
      rw [Int.zero_sub, Int.zero_sub]]
    exact kk _ (by walk_at "ex")
def w__law_bound_of : WF := fun xs P => ∃ (s t q : List Int), xs = [.lst (iL s), .lst (iL t), .lst (iL q)] ∧ Good s ∧ t.length = s.length ∧ q ≠ [] ∧ q.length ≤ 5000 ∧ (∀ k ∈ q, 0 ≤ k ∧ k < (s.length : Int)) ∧ P (.int (ringB s t q))
theorem ow__law_bound_of (T : Tx P K mg d) : Okf P w K mg base 4 d.f__law_bound_of ["_law_stays_here", "_law_wants_here", "_law_ring_here"] (spW K (cnA d) (rN K (cnA d)) w__law_bound_of) := okw_imp (ok__law_bound_of T) (fun vs H Q E ⟨F, xs, P, dm, r, ⟨s, t, q, ex, c1, c2, c3, c4, c5, p⟩, k⟩ => by
  subst ex
  obtain ⟨v1, v2, v3, rfl, r1, r2, r3⟩ := r.three
  obtain ⟨a1, rfl, h1⟩ := r1.intsL
  obtain ⟨a2, rfl, h2⟩ := r2.intsL
  obtain ⟨a3, rfl, h3⟩ := r3.intsL
  exact ⟨a1, a2, a3, s, t, q, rfl, .inl (.inl h1), .inl (.inl h2), .inl (.inl h3), c1, c2, c3, c4, c5, fun H' e => ret_int dm k p e⟩)
def t_is_integer : WS := (wRet (wAndV (wCB wIsi (wCons (wVar 0) (wCons (wC (.ty "int")) wNil))) (wNotV (wCB wIsi (wCons (wVar 0) (wCons (wC (.ty "bool")) wNil))))))
def w_is_integer : WF := wDef 1 0 t_is_integer
theorem scw_is_integer : FnScope ["thing"] ["thing"] (defScope s_is_integer) := ⟨rfl, rfl, rfl, by decide +kernel, rfl, by decide +kernel, by decide +kernel⟩
set_option maxHeartbeats 4000000 in
theorem ow_is_integer (T : Tx P K mg d) : Okf P w K mg base 1 d.f_is_integer ["thing"] (spW K (cnA d) (rN K (cnA d)) w_is_integer) :=
  okw_of (ts' := [.sh]) T.d_is_integer scw_is_integer rfl rfl rnonN fun cdv A outer s H E hr =>
    ⟨_, (pss_one (ps_ret (pe_and (pe_callB (k_isi (K := K) rfl) (by rfl) T.z_isinstance (by decide +kernel) (pa_cons (pv 0) (pa_cons (pe_bty (n := "int") (by rfl) T.z_int (by decide +kernel)) pa_nil))) (pe_one (pe_not (pe_callB (k_isi (K := K) rfl) (by rfl) T.z_isinstance (by decide +kernel) (pa_cons (pv 0) (pa_cons (pe_bty (n := "bool") (by rfl) T.z_bool (by decide +kernel)) pa_nil)))))))),
    (simS_ret okN (sim_andV (sim_NS (sim_cb okN cas_isi (simAW_cons (sim_SW (sim_var rfl)) (simAW_cons (sim_NW sim_ty) simAW_nil)))) (sim_notV (sim_NS (sim_cb okN cas_isi (simAW_cons (sim_SW (sim_var rfl)) (simAW_cons (sim_NW sim_ty) simAW_nil)))))))⟩
def t_is_hour : WS := (wRet (wAndV (wCall w_is_integer (wCons (wVar 1) wNil)) (wChain (wIB fun i j => decide (i ≤ j)) (wIB fun i j => decide (i < j)) (wC (.int 0)) (wVar 1) (wVar 0))))
def w_is_hour : WF := wDef 2 0 t_is_hour
theorem scw_is_hour : FnScope ["hours", "thing"] ["hours", "thing"] (defScope s_is_hour) := ⟨rfl, rfl, rfl, by decide +kernel, rfl, by decide +kernel, by decide +kernel⟩
set_option maxHeartbeats 4000000 in
theorem ow_is_hour (T : Tx P K mg d) : Okf P w K mg base 2 d.f_is_hour ["hours", "thing"] (spW K (cnA d) (rN K (cnA d)) w_is_hour) :=
  okw_of (ts' := [.sh, .sh]) T.d_is_hour scw_is_hour rfl rfl rnonN fun cdv A outer s H E hr =>
    ⟨_, (pss_one (ps_ret (pe_and (pf_call (ow_is_integer T) (hr.mono (by decide)) (by rfl) T.g_is_integer T.d_is_integer.kp (pa_cons (pv 1) pa_nil)) (pe_one (pe_chain op_le op_lt pe_int (pv 1) (pv 0)))))),
    (simS_ret okN (sim_andV (sim_NS (sim_call okN (simA_cons (sim_var rfl) simA_nil))) (sim_chain (ops_IB (g := fun i j => decide (i ≤ j))) (ops_IB (g := fun i j => decide (i < j))) (sim_NW sim_int) (sim_SW (sim_var rfl)) (sim_SW (sim_var rfl)))))⟩
theorem sc_Clock_hours : FnScope ["self"] ["self"] (defScope s_Clock_hours) := ⟨rfl, rfl, rfl, by decide +kernel, rfl, by decide +kernel, by decide +kernel⟩
def sp_Clock_hours (K : PySem.W.Frag) (d : Ads) : Sp := fun vs H Q _ => ∃ (v : V) (s : List Int), vs = [v] ∧ Clk K d.c_Clock H v s ∧ Q (.int (s.length : Int)) H
set_option maxHeartbeats 4000000 in
theorem ok_Clock_hours (T : Tx P K mg d) : Okf P w K mg base 1 d.f_Clock_hours ["self"] (sp_Clock_hours K d) := by
  refine okf_of T.d_Clock_hours sc_Clock_hours (fun vs H Q E h => ?_) (fun cdv A outer s H vs Q E hr h => ?_)
  · obtain ⟨v, s, rfl, ⟨p, dx, a, b, rfl, hp, ha, hb, g⟩, k⟩ := h
    rfl
  · obtain ⟨v, s, rfl, ⟨p, dx, a, b, rfl, hp, ha, hb, g⟩, k⟩ := h
    refine ⟨_, (pss_one (ps_ret (pe_callB (k_len (K := K) rfl) (by rfl) T.z_len (by decide +kernel) (pa_cons (k_fld (K := K) rfl (pv 0)) pa_nil)))), ?_⟩
    walk_at "rd"
    refine ⟨p, _, dx, _, _, rfl, hp, T.cl_Clock, T.n_Clock_kept_stays, clkF_stays _ _, ?_⟩
    walk_at "rd"
    refine r_len (.inr ha) ?_
    rw [List.length_map]
    exact k
def w_Clock_hours : WF := fun xs P => ∃ (s : List Int), xs = [clkP s] ∧ Good s ∧ P (.int (s.length : Int))
theorem ow_Clock_hours (T : Tx P K mg d) : Okf P w K mg base 1 d.f_Clock_hours ["self"] (spW K (cnA d) (rN K (cnA d)) w_Clock_hours) := okw_imp (ok_Clock_hours T) (fun vs H Q E ⟨F, xs, P, dm, r, ⟨s, ex, c1, p⟩, k⟩ => by
  subst ex
  obtain ⟨v1, rfl, r1⟩ := r.one
  exact ⟨v1, s, rfl, clk_of r1 c1, ret_int dm k p (Ex.refl _)⟩)
theorem sc_Clock_widths : FnScope ["self"] ["self"] (defScope s_Clock_widths) := ⟨rfl, rfl, rfl, by decide +kernel, rfl, by decide +kernel, by decide +kernel⟩
def sp_Clock_widths (K : PySem.W.Frag) (d : Ads) : Sp := fun vs H Q _ => ∃ (v : V) (s : List Int), vs = [v] ∧ Clk K d.c_Clock H v s ∧ RetN ((wds s).map V.int) H Q
set_option maxHeartbeats 4000000 in
theorem ok_Clock_widths (T : Tx P K mg d) : Okf P w K mg base 1 d.f_Clock_widths ["self"] (sp_Clock_widths K d) := by
  refine okf_of T.d_Clock_widths sc_Clock_widths (fun vs H Q E h => ?_) (fun cdv A outer s H vs Q E hr h => ?_)
  · obtain ⟨v, s, rfl, ⟨p, dx, a, b, rfl, hp, ha, hb, g⟩, k⟩ := h
    rfl
  · obtain ⟨v, s, rfl, ⟨p, dx, a, b, rfl, hp, ha, hb, g⟩, k⟩ := h
    refine ⟨_, (pss_one (ps_ret (pe_callTy (k_listOf (K := K) rfl) (by rfl) T.z_list (by decide +kernel) (pa_cons (k_fld (K := K) rfl (pv 0)) pa_nil)))), ?_⟩
    walk_at "rd"
    refine ⟨p, _, dx, _, _, rfl, hp, T.cl_Clock, T.n_Clock_kept_widths, clkF_widths _ _, ?_⟩
    walk_at "rd"
    refine r_listOf (.inr hb) fun l nl => ?_
    exact k l _ nl (Ex.new nl) upd_same
def w_Clock_widths : WF := fun xs P => ∃ (s : List Int), xs = [clkP s] ∧ Good s ∧ P (.lst (iL (wds s)))
theorem ow_Clock_widths (T : Tx P K mg d) : Okf P w K mg base 1 d.f_Clock_widths ["self"] (spW K (cnA d) (rN K (cnA d)) w_Clock_widths) := okw_imp (ok_Clock_widths T) (fun vs H Q E ⟨F, xs, P, dm, r, ⟨s, ex, c1, p⟩, k⟩ => by
  subst ex
  obtain ⟨v1, rfl, r1⟩ := r.one
  exact ⟨v1, s, rfl, clk_of r1 c1, ret_ints dm k p⟩)
def t_step_hours : WS := (wSeq (wFor (wSeqI (wTup (wCons (wVar 1) (wCons (wVar 2) wNil)))) (wgName 3) (wIfS (wTnot (wTest (wCall w_is_hour (wCons (wProp .Clock w_Clock_hours (wVar 0)) (wCons (wVar 3) wNil))))) (fun _ _ => False) (fun D ρ => D.nx ρ)))
      (wSeq (wSet 4 (wOp wIx (wMeth .Clock "widths" w_Clock_widths (wVar 0) wNil) (wVar 2)))
      (wRet (wOp wAdd (wVar 4) (wOp (wII (fun _ j => 0 < j) fun i j => i % j) (wOp (wI0 fun i j => i - j) (wOp (wI0 fun i j => i - j) (wVar 2) (wVar 4)) (wVar 1)) (wProp .Clock w_Clock_hours (wVar 0)))))))
def w_step_hours : WF := wDef 3 2 t_step_hours
theorem scw_step_hours : FnScope ["clock", "hour", "later", "one", "width"] ["clock", "hour", "later"] (defScope s_step_hours) := ⟨rfl, rfl, rfl, by decide +kernel, rfl, by decide +kernel, by decide +kernel⟩
set_option maxHeartbeats 4000000 in
theorem ow_step_hours (T : Tx P K mg d) : Okf P w K mg base 3 d.f_step_hours ["clock", "hour", "later"] (spW K (cnA d) (rN K (cnA d)) w_step_hours) :=
  okw_of (ts' := [.sh, .sh, .sh, .no, .sh]) T.d_step_hours scw_step_hours rfl rfl rnonN fun cdv A outer s H E hr =>
    ⟨_, (pss_cons (ps_for PassesOwn.never rfl (k_piS (K := K) rfl (pe_tup (pa_cons (pv 1) (pa_cons (pv 2) pa_nil)))) (pg_name (i := 3) scw_step_hours.nd rfl (by first | exact Or.inl rfl | exact Or.inr rfl)) (pss_one (ps_if (pt_not (pt_val (pf_call (ow_is_hour T) (hr.mono (by decide)) (by rfl) T.g_is_hour T.d_is_hour.kp (pa_cons (pf_prop (ow_Clock_hours T) (hr.mono (by decide)) T.cl_Clock T.p_Clock_hours (pv 0)) (pa_cons (pv 3) pa_nil))))) (pss_one ps_never) pss_nil)))
      (pss_cons (ps_set (i := 4) scw_step_hours.nd rfl (by first | exact Or.inl rfl | exact Or.inr rfl) (pe_ix (k_ixS (K := K) rfl) (pf_meth0 (ow_Clock_widths T) (hr.mono (by decide)) T.cl_Clock T.m_Clock_widths (pv 0)) (pv 2) (fun _ _ => rfl)))
      (pss_one (ps_ret (pe_op (u_add (K := K) rfl) (pv 4) (pe_op op_mod (pe_op op_sub (pe_op op_sub (pv 2) (pv 4)) (pv 1)) (pf_prop (ow_Clock_hours T) (hr.mono (by decide)) T.cl_Clock T.p_Clock_hours (pv 0)))))))),
    (simS_seq (simS_for (ts := [.sh, .sh, .sh, .no, .no]) (simI_seq (lp := true) (sim_NS (sim_tup (simA_cons (sim_var rfl) (simA_cons (sim_var rfl) simA_nil))))) (simG_name (i := 3)) (simS_if (simT_not (simT_B (sim_NS (sim_call okN (simA_cons (sim_NS (sim_prop .Clock okN (sim_var rfl))) (simA_cons (sim_var rfl) simA_nil)))))) simS_never simS_nil) rfl)
      (simS_seq (simS_set (i := 4) (sim_op okS ops_ix (sim_NW (sim_meth .Clock okN (sim_var rfl) simA_nil)) (sim_SW (sim_var rfl))))
      (simS_ret okN (sim_op okN ops_add (sim_SW (sim_var rfl)) (sim_NW (sim_op okN (ops_II (C := fun _ j => 0 < j) (g := fun i j => i % j)) (sim_NW (sim_op okN (ops_I0 (g := fun i j => i - j)) (sim_NW (sim_op okN (ops_I0 (g := fun i j => i - j)) (sim_SW (sim_var rfl)) (sim_SW (sim_var rfl)))) (sim_SW (sim_var rfl)))) (sim_NW (sim_prop .Clock okN (sim_var rfl)))))))))⟩
theorem sc__law_alike : FnScope ["_law_found", "_law_due"] ["_law_found", "_law_due"] (defScope s__law_alike) := ⟨rfl, rfl, rfl, by decide +kernel, rfl, by decide +kernel, by decide +kernel⟩
def sp__law_alike (K : PySem.W.Frag) (d : Ads) : Sp := fun vs H Q _ => ∃ (x y : V) (a : PyData) (n : Nat), vs = [x, y] ∧ Dp K H x a ∧ Dp K H y a ∧ SeqAt.shaped a = true ∧ Fine a n ∧ n ≤ 300000 ∧ Q (.bl true) H
set_option maxHeartbeats 4000000 in
theorem ok__law_alike (T : Tx P K mg d) : OkP NoG P w K mg base 1 d.f__law_alike ["_law_found", "_law_due"] (sp__law_alike K d) := by
  refine okP_of T.d__law_alike sc__law_alike (fun vs H Q E h => ?_) (fun cdv A outer s H vs Q E hg hr h => ?_)
  · obtain ⟨x, y, a, n, rfl, hx, hy, hs, hf, hn, k⟩ := h
    rfl
  · obtain ⟨x, y, a, n, rfl, hx, hy, hs, hf, hn, k⟩ := h
    refine ⟨_, (pss_one (ps_ret (pe_and (pe_cmpR (k_eqD (K := K) rfl hr.units) (pv 0) (pv 1) (nomark _)) (pe_one (pe_cmpR op_eq (pe_callB (k_repr (K := K) (k := 0) rfl hg (hr.mono (by decide))) (by rfl) T.z_repr (by decide +kernel) (pa_cons (pv 0) pa_nil)) (pe_callB (k_repr (K := K) (k := 0) rfl hg (hr.mono (by decide))) (by rfl) T.z_repr (by decide +kernel) (pa_cons (pv 1) pa_nil)) (nomark _)))))), ?_⟩
    have hd := SeqAt.depth_of_shaped hs
    walk_at "rd"
    refine ⟨a, a, hx, hy, hs, hs, ?_⟩
    rw [SeqAt.eqv_refl a (SeqAt.canLay_of_shaped hs)]
    walk_at "rd"
    refine iteT ?_
    walk_at "rd"
    refine r_repr hx hf hn hd ?_
    walk_at "rd"
    refine r_repr hy hf hn hd ?_
    walk_at "rd"
    rw [decide_eq_true rfl]
    exact k
def w__law_alike : WF := fun xs P => ∃ (x y : PV) (a : PyData) (n : Nat), xs = [x, y] ∧ toD x = some a ∧ toD y = some a ∧ SeqAt.shaped a = true ∧ Fine a n ∧ n ≤ 300000 ∧ P (.bl true)
theorem ow__law_alike (T : Tx P K mg d) : OkP NoG P w K mg base 1 d.f__law_alike ["_law_found", "_law_due"] (spW K (cnA d) (rN K (cnA d)) w__law_alike) := okP_imp (ok__law_alike T) (fun vs H Q E ⟨F, xs, P, dm, r, ⟨x, y, a, n, ex, c1, c2, c3, c4, c5, p⟩, k⟩ => by
  subst ex
  obtain ⟨v1, v2, rfl, r1, r2⟩ := r.two
  exact ⟨v1, v2, a, n, rfl, r1.dp c1, r2.dp c2, c3, c4, c5, ret_bl dm k p (Ex.refl _)⟩)
theorem sc_is_hour : FnScope ["hours", "thing"] ["hours", "thing"] (defScope s_is_hour) := ⟨rfl, rfl, rfl, by decide +kernel, rfl, by decide +kernel, by decide +kernel⟩
def sp_is_hour (K : PySem.W.Frag) (d : Ads) : Sp := fun vs H Q _ => ∃ n i : Int, vs = [.int n, .int i] ∧ Q (.bl (decide (0 ≤ i) && decide (i < n))) H
set_option maxHeartbeats 4000000 in
theorem ok_is_hour (T : Tx P K mg d) : Okf P w K mg base 2 d.f_is_hour ["hours", "thing"] (sp_is_hour K d) := by
  refine okf_of T.d_is_hour sc_is_hour (fun vs H Q E h => ?_) (fun cdv A outer s H vs Q E hr h => ?_)
  · obtain ⟨n, i, rfl, k⟩ := h
    rfl
  · obtain ⟨n, i, rfl, k⟩ := h
    refine ⟨_, (pss_one (ps_ret (pe_and (pf_call (ok_is_integer T) (hr.mono (by decide)) (by rfl) T.g_is_integer T.d_is_integer.kp (pa_cons (pv 1) pa_nil)) (pe_one (pe_chain op_le op_lt pe_int (pv 1) (pv 0)))))), ?_⟩
    walk_at "rd"
    refine ⟨i, rfl, ?_⟩
    walk_at "rd"
    refine iteT ?_
    walk_at "rd"
    cases h0 : decide (0 ≤ i) with
    | true =>
      refine iteT ?_
      walk_at "rd"
      rw [h0] at k
      exact k
    | false =>
      refine iteF ?_
      rw [h0] at k
      exact k
theorem sc_step_hours : FnScope ["clock", "hour", "later", "one", "width"] ["clock", "hour", "later"] (defScope s_step_hours) := ⟨rfl, rfl, rfl, by decide +kernel, rfl, by decide +kernel, by decide +kernel⟩
def sp_step_hours (K : PySem.W.Frag) (d : Ads) : Sp := fun vs H Q _ => ∃ (v : V) (s : List Int) (h k : Int), vs = [v, .int h, .int k] ∧ Clk K d.c_Clock H v s ∧ 0 ≤ h ∧ h < (s.length : Int) ∧ 0 ≤ k ∧ k < (s.length : Int) ∧ ∀ H', Ex H H' → Q (.int (stp s h k)) H'
set_option maxHeartbeats 4000000 in
theorem ok_step_hours (T : Tx P K mg d) : Okf P w K mg base 3 d.f_step_hours ["clock", "hour", "later"] (sp_step_hours K d) := by
  refine okf_of T.d_step_hours sc_step_hours (fun vs H Q E h => ?_) (fun cdv A outer s H vs Q E hr h => ?_)
  · obtain ⟨v, s, h, k, rfl, hC, h0, h1, k0, k1, kk⟩ := h
    rfl
  · obtain ⟨v, s, h, k, rfl, hC, h0, h1, k0, k1, kk⟩ := h
    refine ⟨_, (pss_cons (ps_for PassesOwn.never rfl (k_piT (K := K) rfl (pe_tup (pa_cons (pv 1) (pa_cons (pv 2) pa_nil)))) (pg_name (i := 3) sc_step_hours.nd rfl (by first | exact Or.inl rfl | exact Or.inr rfl)) (pss_one (ps_if (pt_not (pt_val (pf_call (ok_is_hour T) (hr.mono (by decide)) (by rfl) T.g_is_hour T.d_is_hour.kp (pa_cons (pf_prop (ok_Clock_hours T) (hr.mono (by decide)) T.cl_Clock T.p_Clock_hours (pv 0)) (pa_cons (pv 3) pa_nil))))) (pss_one ps_never) pss_nil)))
      (pss_cons (ps_set (i := 4) sc_step_hours.nd rfl (by first | exact Or.inl rfl | exact Or.inr rfl) (pe_ix (k_ixL (K := K) rfl) (pf_meth0 (ok_Clock_widths T) (hr.mono (by decide)) T.cl_Clock T.m_Clock_widths (pv 0)) (pv 2) (fun _ _ => rfl)))
      (pss_one (ps_ret (pe_op op_add (pv 4) (pe_op op_mod (pe_op op_sub (pe_op op_sub (pv 2) (pv 4)) (pv 1)) (pf_prop (ok_Clock_hours T) (hr.mono (by decide)) T.cl_Clock T.p_Clock_hours (pv 0)))))))), ?_⟩
    have g := hC.good
    have hn := g.ne
    obtain ⟨cq, dcq, acq, bcq, rfl, hcq, _⟩ := id hC
    walk_at "rd"
    refine ⟨szc rfl, fun tp np => ?_⟩
    walk_at "rd"
    refine ⟨tp, rfl, ⟨_, at_sqT upd_same⟩, ?_⟩
    refine for_w (walk_tup (xs := [V.int h, V.int k])) (fun i σ H' => (∃ z3 z4, σ = [some (.ref cq), some (.int h), some (.int k), z3, z4]) ∧ H' = upd H tp (.tup [.int h, .int k])) ⟨⟨_, _, rfl⟩, rfl⟩ (fun i σ H' _ q => by rw [q.2]; exact at_sqT upd_same) ?_ ?_
    · rintro i x σ H1 H2 hi ⟨⟨z3, z4, rfl⟩, rfl⟩ ⟨rfl, hx⟩
      obtain ⟨z, rfl, z0, z1⟩ : ∃ z, x = .int z ∧ 0 ≤ z ∧ z < (s.length : Int) := by
        have := List.mem_of_getElem? hx
        simp only [List.mem_cons, List.not_mem_nil, or_false] at this
        rcases this with rfl | rfl
        · exact ⟨h, rfl, h0, h1⟩
        · exact ⟨k, rfl, k0, k1⟩
      have hC1 : Clk K d.c_Clock (upd H tp (.tup [.int h, .int k])) (.ref cq) s := (by walk_at "kn")
      walk_at "rd"
      refine r_clkP hC1 fun _ eq => ?_
      cases eq
      refine ⟨_, _, rfl, hC1, ?_⟩
      walk_at "rd"
      refine ⟨_, _, rfl, ?_⟩
      rw [decide_eq_true z0, decide_eq_true z1]
      walk_at "rd"
      refine iteF ?_
      walk_at "rd"
      exact ⟨⟨_, _, rfl⟩, rfl⟩
    rintro σ H1 ⟨⟨z3, z4, rfl⟩, rfl⟩
    have hC1 : Clk K d.c_Clock (upd H tp (.tup [.int h, .int k])) (.ref cq) s := (by walk_at "kn")
    walk_at "rd"
    refine r_clkM hC1 ?_
    walk_at "rd"
    refine ⟨_, s, rfl, hC1, fun p H2 np e2 hp => ?_⟩
    walk_at "rd"
    have ha := at_cyc (ns := wds s) (by rw [wds_length]; exact hn) k
    rw [wds_length, Int.emod_eq_of_lt k0 k1, cyc_wds hn] at ha
    refine r_ixL (by walk_at "kn") ha ?_
    walk_at "rd"
    have hC2 : Clk K d.c_Clock H2 (.ref cq) s := (by walk_at "kn")
    refine r_clkP hC2 fun _ eq => ?_
    cases eq
    refine ⟨_, _, rfl, hC2, ?_⟩
    walk_at "rd"
    exact kk _ (by walk_at "ex")
theorem sc_winds : FnScope ["clock", "ring", "steps", "hour", "later"] ["clock", "ring"] (defScope s_winds) := ⟨rfl, rfl, rfl, by decide +kernel, rfl, by decide +kernel, by decide +kernel⟩
def sp_winds (K : PySem.W.Frag) (d : Ads) : Sp := fun vs H Q _ => ∃ (v : V) (l : Addr) (s r : List Int), vs = [v, .ref l] ∧ Clk K d.c_Clock H v s ∧ H l = some (.lst (r.map V.int)) ∧ r ≠ [] ∧ r.length ≤ 5000 ∧ (∀ k ∈ r, 0 ≤ k ∧ k < (s.length : Int)) ∧ ∀ H', Ex H H' → Q (.int (wnd s r)) H'
set_option maxHeartbeats 4000000 in
theorem ok_winds (T : Tx P K mg d) : Okf P w K mg base 4 d.f_winds ["clock", "ring"] (sp_winds K d) := by
  refine okf_of T.d_winds sc_winds (fun vs H Q E h => ?_) (fun cdv A outer s H vs Q E hr h => ?_)
  · obtain ⟨v, l, s, r, rfl, hC, hl, hne, hle, hk, kk⟩ := h
    rfl
  · obtain ⟨v, l, s, r, rfl, hC, hl, hne, hle, hk, kk⟩ := h
    refine ⟨_, (pss_cons (ps_setLc (i := 2) (own := [("hour", 3), ("later", 4)]) rfl sc_winds.nd rfl rfl (sw_true rfl rfl rfl (by decide +kernel)) (k_piZ (K := K) rfl (by rfl) T.z_zip (pa_cons (pe_op op_cat (pe_slice (k_slL (K := K) rfl) (pv 1) (po_some (pe_un un_neg pe_int)) po_none) (pe_slice (k_slL (K := K) rfl) (pv 1) po_none (po_some (pe_un un_neg pe_int)))) (pa_cons (pv 1) pa_nil))) (blkOk_by (by kernel_rfl)) (fun _ _ _ _ _ => (k_gtup (K := K) (n := 2) rfl rfl (pgs_cons (pg_name (i := 3) sc_winds.nd rfl (by first | exact Or.inl rfl | exact Or.inr rfl)) (pgs_cons (pg_name (i := 4) sc_winds.nd rfl (by first | exact Or.inl rfl | exact Or.inr rfl)) pgs_nil)))) (fun _ _ _ _ _ => pts_nil) (fun _ _ _ _ _ => (pf_call (ok_step_hours T) (hr.mono (by decide)) (by rfl) T.g_step_hours T.d_step_hours.kp (pa_cons (pv 0) (pa_cons (pv 3) (pa_cons (pv 4) pa_nil))))))
      (pss_one (ps_ret (pe_op op_fdiv (pe_callB (k_sumS (K := K) rfl rfl) (by rfl) T.z_sum (by decide +kernel) (pa_cons (pv 2) pa_nil)) (pf_prop (ok_Clock_hours T) (hr.mono (by decide)) T.cl_Clock T.p_Clock_hours (pv 0)))))), ?_⟩
    have g := hC.good
    have hn := g.ne
    have hn8 := g.le
    have hr1 := ne_len hne
    obtain ⟨cq, dcq, acq, bcq, rfl, hcq, _⟩ := id hC
    obtain ⟨sh1, sh2⟩ := ring_shift hr1
    walk_at "rd"
    refine ⟨l, _, rfl, at_sqL hl, fun p1 np1 => ?_⟩
    rw [cut_last1 (by rw [List.length_map]; omega)]
    walk_at "rd"
    refine ⟨l, _, rfl, (by walk_at "kn"), fun p2 np2 => ?_⟩
    rw [cut_init (by rw [List.length_map]; omega)]
    walk_at "rd"
    refine ⟨p1, p2, _, _, rfl, rfl, (by walk_at "kn"), (by walk_at "kn"), ?_, fun p3 np3 => ?_⟩
    · rw [List.length_append] at sh1
      rw [sh1]
      exact Nat.le_trans (by omega : r.length ≤ 5000) (by decide)
    walk_at "rd"
    refine ⟨p3, l, _, _, rfl, (by walk_at "kn"), (by walk_at "kn"), lc_fun (walk_zip (n := r.length) (xs := (r.map V.int).drop ((r.map V.int).length - 1) ++ (r.map V.int).take ((r.map V.int).length - 1)) (ys := r.map V.int) (by rw [sh1, List.length_map]; omega)) (fun i => .int (stp s (prevH r i) (r.getD i 0))) (fun H' e => ⟨(by walk_at "kn"), (by walk_at "kn")⟩) (by omega) ?_ ?_⟩
    · rintro i x H1 H2 hi e ⟨T', x1, x2, rfl, nT, rfl, hx1, hx2⟩ kq hk2
      replace hx1 : ((r.map V.int).drop ((r.map V.int).length - 1) ++ (r.map V.int).take ((r.map V.int).length - 1))[i]? = some x1 := hx1
      rw [sh2 i hi] at hx1
      cases hx1
      obtain rfl := int_at hx2
      obtain ⟨⟨a0, a1⟩, b0, b1⟩ := prevH_in (n := s.length) hk hi
      refine r_pair ?_
      walk_at "rd"
      refine ⟨_, s, _, _, rfl, (by walk_at "kn"), a0, a1, b0, b1, fun H3 e3 => ?_⟩
      exact hk2 _ (by walk_at "ex")
    intro p H1 np e1 hp
    walk_at "rd"
    have hp' : H1 p = some (.lst (((List.range r.length).map fun i => stp s (prevH r i) (r.getD i 0)).map V.int)) := by
      rw [hp, List.map_map]
      rfl
    refine r_sumS (by walk_at "kn") ?_
    walk_at "rd"
    have hC2 : Clk K d.c_Clock H1 (.ref cq) s := (by walk_at "kn")
    refine r_clkP hC2 fun _ eq => ?_
    cases eq
    refine ⟨_, _, rfl, hC2, ?_⟩
    walk_at "rd"
    rw [wnd_list hne]
    exact kk _ (by walk_at "ex")
def w_winds : WF := fun xs P => ∃ (s r0 : List Int), xs = [clkP s, .lst (iL r0)] ∧ Good s ∧ r0 ≠ [] ∧ r0.length ≤ 5000 ∧ (∀ k ∈ r0, 0 ≤ k ∧ k < (s.length : Int)) ∧ P (.int (wnd s r0))
theorem ow_winds (T : Tx P K mg d) : Okf P w K mg base 4 d.f_winds ["clock", "ring"] (spW K (cnA d) (rN K (cnA d)) w_winds) := okw_imp (ok_winds T) (fun vs H Q E ⟨F, xs, P, dm, r, ⟨s, r0, ex, c1, c2, c3, c4, p⟩, k⟩ => by
  subst ex
  obtain ⟨v1, v2, rfl, r1, r2⟩ := r.two
  obtain ⟨a2, rfl, h2⟩ := r2.intsL
  exact ⟨v1, a2, s, r0, rfl, clk_of r1 c1, h2, c2, c3, c4, fun H' e => ret_int dm k p e⟩)
theorem sc_up : FnScope ["above", "below"] ["above", "below"] (defScope s_up) := ⟨rfl, rfl, rfl, by decide +kernel, rfl, by decide +kernel, by decide +kernel⟩
def sp_up (K : PySem.W.Frag) (d : Ads) : Sp := fun vs H Q _ => ∃ (a b : Int), vs = [.int a, .int b] ∧ 1 ≤ b ∧ b < 2 ^ 30 ∧ Q (.int (upI a b)) H
set_option maxHeartbeats 4000000 in
theorem ok_up (T : Tx P K mg d) : Okf P w K mg base 1 d.f_up ["above", "below"] (sp_up K d) := by
  refine okf_of T.d_up sc_up (fun vs H Q E h => ?_) (fun cdv A outer s H vs Q E hr h => ?_)
  · obtain ⟨a, b, rfl, b1, b2, k⟩ := h
    rfl
  · obtain ⟨a, b, rfl, b1, b2, k⟩ := h
    refine ⟨_, (pss_one (ps_ret (pe_un un_neg (pe_op op_fdiv (pe_un un_neg (pv 0)) (pv 1))))), ?_⟩
    walk_at "rd"
    exact k
theorem sc_Needs___getitem__ : FnScope ["self", "hour"] ["self", "hour"] (defScope s_Needs___getitem__) := ⟨rfl, rfl, rfl, by decide +kernel, rfl, by decide +kernel, by decide +kernel⟩
def sp_Needs___getitem__ (K : PySem.W.Frag) (d : Ads) : Sp := fun vs H Q _ => ∃ (v : V) (s : List Int) (h : Int), vs = [v, .int h] ∧ Nd K d H v s ∧ 0 ≤ h ∧ h < (s.length : Int) ∧ Q (.int (cyc s h)) H
set_option maxHeartbeats 4000000 in
theorem ok_Needs___getitem__ (T : Tx P K mg d) : Okf P w K mg base 3 d.f_Needs___getitem__ ["self", "hour"] (sp_Needs___getitem__ K d) := by
  refine okf_of T.d_Needs___getitem__ sc_Needs___getitem__ (fun vs H Q E h => ?_) (fun cdv A outer s H vs Q E hr h => ?_)
  · obtain ⟨v, s, h, rfl, hN, h0, h1, k⟩ := h
    rfl
  · obtain ⟨v, s, h, rfl, hN, h0, h1, k⟩ := h
    refine ⟨_, (pss_cons (ps_if (pt_not (pt_val (pf_call (ok_is_hour T) (hr.mono (by decide)) (by rfl) T.g_is_hour T.d_is_hour.kp (pa_cons (pe_callB (k_len (K := K) rfl) (by rfl) T.z_len (by decide +kernel) (pa_cons (k_fld (K := K) rfl (pv 0)) pa_nil)) (pa_cons (pv 1) pa_nil))))) (pss_one ps_never) pss_nil)
      (pss_one (ps_ret (pe_ix (k_ixT (K := K) rfl) (k_fld (K := K) rfl (pv 0)) (pv 1) (fun _ _ => rfl))))), ?_⟩
    walk_at "rd"
    refine r_rwF hN T.cl_Needs T.n_Needs_kept_row fun a ha => ?_
    walk_at "rd"
    refine r_len (.inr ha) ?_
    rw [List.length_map]
    walk_at "rd"
    refine ⟨_, _, rfl, ?_⟩
    rw [decide_eq_true h0, decide_eq_true h1]
    walk_at "rd"
    refine iteF ?_
    walk_at "rd"
    refine r_rwF hN T.cl_Needs T.n_Needs_kept_row fun a ha => ?_
    walk_at "rd"
    refine r_ixT ha ?_ k
    have := at_cyc hN.good.ne h
    rw [Int.emod_eq_of_lt h0 h1] at this
    exact this
theorem sc_ring_bound : FnScope ["clock", "needs", "ring", "hour"] ["clock", "needs", "ring"] (defScope s_ring_bound) := ⟨rfl, rfl, rfl, by decide +kernel, rfl, by decide +kernel, by decide +kernel⟩
def sp_ring_bound (K : PySem.W.Frag) (d : Ads) : Sp := fun vs H Q _ => ∃ (v u : V) (l : Addr) (s ns r : List Int), vs = [v, u, .ref l] ∧ Clk K d.c_Clock H v s ∧ Nd K d H u ns ∧ ns.length = s.length ∧ H l = some (.lst (r.map V.int)) ∧ r ≠ [] ∧ r.length ≤ 5000 ∧ (∀ k ∈ r, 0 ≤ k ∧ k < (s.length : Int)) ∧ ∀ H', Ex H H' → Q (.int (ringB s ns r)) H'
set_option maxHeartbeats 4000000 in
theorem ok_ring_bound (T : Tx P K mg d) : Okf P w K mg base 5 d.f_ring_bound ["clock", "needs", "ring"] (sp_ring_bound K d) := by
  refine okf_of T.d_ring_bound sc_ring_bound (fun vs H Q E h => ?_) (fun cdv A outer s H vs Q E hr h => ?_)
  · obtain ⟨v, u, l, s, ns, r, rfl, hC, hN, hlen, hl, hne, hle, hk, kk⟩ := h
    rfl
  · obtain ⟨v, u, l, s, ns, r, rfl, hC, hN, hlen, hl, hne, hle, hk, kk⟩ := h
    refine ⟨_, (pss_one (ps_ret (pf_call (ok_up T) (hr.mono (by decide)) (by rfl) T.g_up T.d_up.kp (pa_cons (pe_callB (k_sumS (K := K) rfl rfl) (by rfl) T.z_sum (by decide +kernel) (pa_cons (pe_lc (own := [("hour", 3)]) rfl sc_ring_bound.nd (k_piL (K := K) rfl (pv 2)) (blkOk_by (by kernel_rfl)) (fun _ _ _ _ _ => (pg_name (i := 3) sc_ring_bound.nd rfl (by first | exact Or.inl rfl | exact Or.inr rfl))) (fun _ _ _ _ _ => pts_nil) (fun _ _ _ _ _ => (pe_ixB (ok_Needs___getitem__ T) (hr.mono (by decide)) T.m_Needs___getitem__.at_ T.fi_Needs___getitem__ T.m_Needs___getitem__.fn (pv 1) (pv 3)))) pa_nil)) (pa_cons (pf_call (ok_winds T) (hr.mono (by decide)) (by rfl) T.g_winds T.d_winds.kp (pa_cons (pv 0) (pa_cons (pv 2) pa_nil))) pa_nil))))), ?_⟩
    have g := hC.good
    obtain ⟨q, dq, aq, rfl, hq, _⟩ := id hN
    walk_at "rd"
    refine ⟨l, rfl, ⟨_, at_sqL hl⟩, ?_⟩
    refine lc_fun (walk_list (xs := r.map V.int)) (fun i => .int (cyc ns (r.getD i 0))) (fun _ e => at_sqL (e _ _ hl)) (by rw [List.length_map]; omega) ?_ ?_
    · rintro i x H1 H2 hi e ⟨rfl, hx⟩ kq hk2
      obtain rfl := int_at hx
      rw [List.length_map] at hi
      obtain ⟨_, b0, b1⟩ := prevH_in (n := s.length) hk hi
      walk_at "rd"
      refine r_rwG (C := d.c_Needs) (ns := ns) (by walk_at "kn") ?_
      refine ⟨_, ns, _, rfl, (by walk_at "kn"), b0, by omega, ?_⟩
      exact hk2 _ (Ex.refl _)
    intro p H1 np e1 hp
    have hp' : H1 p = some (.lst ((r.map (cyc ns)).map V.int)) := by
      rw [hp, List.length_map, List.map_map]
      exact congrArg (fun x => some (HO.lst x)) (map_range_int r fun z => V.int (cyc ns z))
    walk_at "rd"
    refine r_sumS (by walk_at "kn") ?_
    walk_at "rd"
    refine ⟨v, l, s, r, rfl, (by walk_at "kn"), (by walk_at "kn"), hne, hle, hk, fun H2 e2 => ?_⟩
    obtain ⟨_, w1⟩ := wnd_eq g hne
    refine ⟨_, _, rfl, w1, wnd_small g hne (by omega), ?_⟩
    exact kk _ (by walk_at "ex")
def w_ring_bound : WF := fun xs P => ∃ (s t q : List Int), xs = [clkP s, ndP t, .lst (iL q)] ∧ Good s ∧ GoodN t ∧ t.length = s.length ∧ q ≠ [] ∧ q.length ≤ 5000 ∧ (∀ k ∈ q, 0 ≤ k ∧ k < (s.length : Int)) ∧ P (.int (ringB s t q))
theorem ow_ring_bound (T : Tx P K mg d) : Okf P w K mg base 5 d.f_ring_bound ["clock", "needs", "ring"] (spW K (cnA d) (rN K (cnA d)) w_ring_bound) := okw_imp (ok_ring_bound T) (fun vs H Q E ⟨F, xs, P, dm, r, ⟨s, t, q, ex, c1, c2, c3, c4, c5, c6, p⟩, k⟩ => by
  subst ex
  obtain ⟨v1, v2, v3, rfl, r1, r2, r3⟩ := r.three
  obtain ⟨a3, rfl, h3⟩ := r3.intsL
  exact ⟨v1, v2, a3, s, t, q, rfl, clk_of r1 c1, nd_of r2 c2, c3, h3, c4, c5, c6, fun H' e => ret_int dm k p e⟩)
theorem sc_Needs_hours : FnScope ["self"] ["self"] (defScope s_Needs_hours) := ⟨rfl, rfl, rfl, by decide +kernel, rfl, by decide +kernel, by decide +kernel⟩
def sp_Needs_hours (K : PySem.W.Frag) (d : Ads) : Sp := fun vs H Q _ => ∃ (v : V) (s : List Int), vs = [v] ∧ Nd K d H v s ∧ Q (.int (s.length : Int)) H
set_option maxHeartbeats 4000000 in
theorem ok_Needs_hours (T : Tx P K mg d) : Okf P w K mg base 1 d.f_Needs_hours ["self"] (sp_Needs_hours K d) := by
  refine okf_of T.d_Needs_hours sc_Needs_hours (fun vs H Q E h => ?_) (fun cdv A outer s H vs Q E hr h => ?_)
  · obtain ⟨v, s, rfl, hN, k⟩ := h
    rfl
  · obtain ⟨v, s, rfl, hN, k⟩ := h
    refine ⟨_, (pss_one (ps_ret (pe_callB (k_len (K := K) rfl) (by rfl) T.z_len (by decide +kernel) (pa_cons (k_fld (K := K) rfl (pv 0)) pa_nil)))), ?_⟩
    walk_at "rd"
    refine r_rwF hN T.cl_Needs T.n_Needs_kept_row fun a ha => ?_
    walk_at "rd"
    refine r_len (.inr ha) ?_
    rw [List.length_map]
    exact k
def w_Needs_hours : WF := fun xs P => ∃ (s : List Int), xs = [ndP s] ∧ GoodN s ∧ P (.int (s.length : Int))
theorem ow_Needs_hours (T : Tx P K mg d) : Okf P w K mg base 1 d.f_Needs_hours ["self"] (spW K (cnA d) (rN K (cnA d)) w_Needs_hours) := okw_imp (ok_Needs_hours T) (fun vs H Q E ⟨F, xs, P, dm, r, ⟨s, ex, c1, p⟩, k⟩ => by
  subst ex
  obtain ⟨v1, rfl, r1⟩ := r.one
  exact ⟨v1, s, rfl, nd_of r1 c1, ret_int dm k p (Ex.refl _)⟩)
def t_need_alike (EX : List PV → En → Fs → Prop) : WS := (wIfS (wTest (wOp wNe (wProp .Clock w_Clock_hours (wVar 0)) (wProp .Needs w_Needs_hours (wVar 1)))) (wRaise0 EX .Unlike) (fun D ρ => D.nx ρ))
def w_need_alike : WFX := wDefX 2 0 t_need_alike
theorem scw_need_alike : FnScope ["clock", "needs"] ["clock", "needs"] (defScope s_need_alike) := ⟨rfl, rfl, rfl, by decide +kernel, rfl, by decide +kernel, by decide +kernel⟩
set_option maxHeartbeats 4000000 in
theorem ow_need_alike (T : Tx P K mg d) : Okf P w K mg base 3 d.f_need_alike ["clock", "needs"] (spWX K (cnA d) (eaA d) (rN K (cnA d)) w_need_alike) :=
  okwX_of (tx := [.no, .no]) (ts' := [.sh, .sh]) T.d_need_alike scw_need_alike rfl rfl rnonN fun cdv A outer s H E hr =>
    ⟨_, (pss_one (ps_if (pt_cmpR (u_ne (K := K) rfl hr.units) (pf_prop (ow_Clock_hours T) (hr.mono (by decide)) T.cl_Clock T.p_Clock_hours (pv 0)) (pf_prop (ow_Needs_hours T) (hr.mono (by decide)) T.cl_Needs T.p_Needs_hours (pv 1)) (nomark _)) (pss_one (ps_raiseE0 (W := (fun c o _ H' => E c o H')) (k := 1) rfl T.er_Unlike (hr.mono (by decide)) (takes_of rfl rfl rfl rfl) (by rfl))) pss_nil)),
    fun EX => (letI : XC := (xcOf K (cnA d) (eaA d) (fun c o _ H' => E c o H') EX [.no, .no]); (simS_if (simT_test (sim_NS (sim_op okN ops_ne (sim_NW (sim_prop .Clock okN (sim_var rfl))) (sim_NW (sim_prop .Needs okN (sim_var rfl)))))) (simS_raise0 (n := .Unlike) rfl rfl rfl) simS_nil))⟩
def t_bound (EX : List PV → En → Fs → Prop) : WS := (wSeq (wDrop (wCallX EX w_need_alike (wCons (wVar 0) (wCons (wVar 1) wNil))))
      (wRet (wCall w_ring_bound (wCons (wVar 0) (wCons (wVar 1) (wCons (wVar 2) wNil))))))
def w_bound : WFX := wDefX 3 0 t_bound
theorem scw_bound : FnScope ["clock", "needs", "ring"] ["clock", "needs", "ring"] (defScope s_bound) := ⟨rfl, rfl, rfl, by decide +kernel, rfl, by decide +kernel, by decide +kernel⟩
set_option maxHeartbeats 4000000 in
theorem ow_bound (T : Tx P K mg d) : Okf P w K mg base 6 d.f_bound ["clock", "needs", "ring"] (spWX K (cnA d) (eaA d) (rN K (cnA d)) w_bound) :=
  okwX_of (tx := [.no, .no, .no]) (ts' := [.sh, .sh, .sh]) T.d_bound scw_bound rfl rfl rnonN fun cdv A outer s H E hr =>
    ⟨_, (pss_cons (ps_expr (pf_callS (E := fun σ c o H => (fun c o _ H' => E c o H') c o σ H) (ow_need_alike T) (hr.mono (by decide)) (by rfl) T.g_need_alike T.d_need_alike.kp (fun σ pins H s e s' I h => passes_call (takes_of rfl rfl rfl rfl) (fun _ _ _ _ h => h) pins σ H s e s' I h) (pa_cons (pv 0) (pa_cons (pv 1) pa_nil))))
      (pss_one (ps_ret (pf_call (ow_ring_bound T) (hr.mono (by decide)) (by rfl) T.g_ring_bound T.d_ring_bound.kp (pa_cons (pv 0) (pa_cons (pv 1) (pa_cons (pv 2) pa_nil))))))),
    fun EX => (letI : XC := (xcOf K (cnA d) (eaA d) (fun c o _ H' => E c o H') EX [.no, .no, .no]); (simS_seq (simS_drop (sim_NS (sim_callX okN rfl rfl (simA_cons (sim_var rfl) (simA_cons (sim_var rfl) simA_nil)))))
      (simS_ret okN (sim_call okN (simA_cons (sim_var rfl) (simA_cons (sim_var rfl) (simA_cons (sim_var rfl) simA_nil)))))))⟩
theorem sc_is_count : FnScope ["thing"] ["thing"] (defScope s_is_count) := ⟨rfl, rfl, rfl, by decide +kernel, rfl, by decide +kernel, by decide +kernel⟩
def sp_is_count (K : PySem.W.Frag) (d : Ads) : Sp := fun vs H Q _ => ∃ i : Int, vs = [.int i] ∧ Q (.bl (decide (0 ≤ i))) H
set_option maxHeartbeats 4000000 in
theorem ok_is_count (T : Tx P K mg d) : Okf P w K mg base 2 d.f_is_count ["thing"] (sp_is_count K d) := by
  refine okf_of T.d_is_count sc_is_count (fun vs H Q E h => ?_) (fun cdv A outer s H vs Q E hr h => ?_)
  · obtain ⟨i, rfl, k⟩ := h
    rfl
  · obtain ⟨i, rfl, k⟩ := h
    refine ⟨_, (pss_one (ps_ret (pe_and (pf_call (ok_is_integer T) (hr.mono (by decide)) (by rfl) T.g_is_integer T.d_is_integer.kp (pa_cons (pv 0) pa_nil)) (pe_one (pe_cmpR op_ge (pv 0) pe_int (nomark _)))))), ?_⟩
    walk_at "rd"
    refine ⟨i, rfl, ?_⟩
    walk_at "rd"
    refine iteT ?_
    walk_at "rd"
    exact k
theorem sc_are_counts : FnScope ["hours", "thing", "one"] ["hours", "thing"] (defScope s_are_counts) := ⟨rfl, rfl, rfl, by decide +kernel, rfl, by decide +kernel, by decide +kernel⟩
def sp_are_counts (K : PySem.W.Frag) (d : Ads) : Sp := fun vs H Q _ => ∃ (a : Addr) (ns : List Int), vs = [.int (ns.length : Int), .ref a] ∧ Sq K H a (ns.map V.int) ∧ ns.length ≤ 1000 ∧ ∀ H', Ex H H' → Q (.bl (ns.all fun x => decide (0 ≤ x))) H'
set_option maxHeartbeats 4000000 in
theorem ok_are_counts (T : Tx P K mg d) : Okf P w K mg base 3 d.f_are_counts ["hours", "thing"] (sp_are_counts K d) := by
  refine okf_of T.d_are_counts sc_are_counts (fun vs H Q E h => ?_) (fun cdv A outer s H vs Q E hr h => ?_)
  · obtain ⟨a, ns, rfl, hS, hl, k⟩ := h
    rfl
  · obtain ⟨a, ns, rfl, hS, hl, k⟩ := h
    refine ⟨_, (pss_cons (ps_if (PW.pt (pw_or (pt_not (pt_val (pe_callB (k_isiT (K := K) rfl) (by rfl) T.z_isinstance (by decide +kernel) (pa_cons (pv 1) (pa_cons (pe_tup (pa_cons (pe_bty (n := "list") (by rfl) T.z_list (by decide +kernel)) (pa_cons (pe_bty (n := "tuple") (by rfl) T.z_tuple (by decide +kernel)) pa_nil))) pa_nil))))) (pw_or1 (pt_cmpR op_ne (pe_callB (k_len (K := K) rfl) (by rfl) T.z_len (by decide +kernel) (pa_cons (pv 1) pa_nil)) (pv 0) (nomark _))))) (pss_one (ps_ret pe_bl)) pss_nil)
      (pss_one (ps_ret (pe_callB (k_all (K := K) rfl rfl) (by rfl) T.z_all (by decide +kernel) (pa_cons (pe_lc (own := [("one", 2)]) rfl sc_are_counts.nd (k_piS (K := K) rfl (pv 1)) (blkOk_by (by kernel_rfl)) (fun _ _ _ _ _ => (pg_name (i := 2) sc_are_counts.nd rfl (by first | exact Or.inl rfl | exact Or.inr rfl))) (fun _ _ _ _ _ => pts_nil) (fun _ _ _ _ _ => (pf_call (ok_is_count T) (hr.mono (by decide)) (by rfl) T.g_is_count T.d_is_count.kp (pa_cons (pv 2) pa_nil)))) pa_nil))))), ?_⟩
    walk_at "rd"
    refine ⟨szc rfl, fun tp np => ?_⟩
    have e1 : Ex H (upd H tp (.tup [.ty "list", .ty "tuple"])) := Ex.new np
    walk_at "rd"
    refine r_isiSeq (hS.mono e1) upd_same ?_
    walk_at "rd"
    refine iteF ?_
    walk_at "rd"
    refine r_len (hS.mono e1) ?_
    rw [List.length_map]
    walk_at "rd"
    refine r_itn (fun h => absurd rfl h) (fun _ => ?_)
    walk_at "rd"
    refine ⟨a, _, _, rfl, hS.mono e1, Ex.refl _, fun J ⟨G, wk, hG⟩ => lc_fun wk (fun i => .bl (decide (0 ≤ ns.getD i 0))) hG (by rw [List.length_map]; omega) ?_ ?_⟩
    · rintro i x H1 H2 hi e ⟨rfl, hx⟩ kk hk
      obtain rfl := int_at hx
      walk_at "rd"
      exact ⟨_, rfl, hk _ (Ex.refl _)⟩
    · intro D H' nD e hD
      walk_at "rd"
      rw [List.length_map, map_range_int ns (fun x => V.bl (decide (0 ≤ x)))] at hD
      refine r_all (bs := ns.map fun x => decide (0 ≤ x)) (.inl (.inl (by rw [List.map_map]; exact hD))) ?_
      have := k _ (e1.trans e)
      rw [List.all_map]
      exact this
theorem sc_is_row : FnScope ["thing"] ["thing"] (defScope s_is_row) := ⟨rfl, rfl, rfl, by decide +kernel, rfl, by decide +kernel, by decide +kernel⟩
def sp_is_row (K : PySem.W.Frag) (d : Ads) : Sp := fun vs H Q _ => ∃ (a : Addr) (ns : List Int), vs = [.ref a] ∧ Sq K H a (ns.map V.int) ∧ ns.length ≤ 1000 ∧ ∀ H', Ex H H' → Q (.bl (okRow ns)) H'
set_option maxHeartbeats 4000000 in
theorem ok_is_row (T : Tx P K mg d) : Okf P w K mg base 4 d.f_is_row ["thing"] (sp_is_row K d) := by
  refine okf_of T.d_is_row sc_is_row (fun vs H Q E h => ?_) (fun cdv A outer s H vs Q E hr h => ?_)
  · obtain ⟨a, ns, rfl, hS, hl, k⟩ := h
    rfl
  · obtain ⟨a, ns, rfl, hS, hl, k⟩ := h
    refine ⟨_, (pss_cons (ps_if (PW.pt (pw_or (pt_not (pt_val (pe_callB (k_isiT (K := K) rfl) (by rfl) T.z_isinstance (by decide +kernel) (pa_cons (pv 0) (pa_cons (pe_tup (pa_cons (pe_bty (n := "list") (by rfl) T.z_list (by decide +kernel)) (pa_cons (pe_bty (n := "tuple") (by rfl) T.z_tuple (by decide +kernel)) pa_nil))) pa_nil))))) (pw_or1 (pt_not (pt_chain op_le op_le pe_int (pe_callB (k_len (K := K) rfl) (by rfl) T.z_len (by decide +kernel) (pa_cons (pv 0) pa_nil)) (pe_gint (by rfl) T.k_MOST_HOURS)))))) (pss_one (ps_ret pe_bl)) pss_nil)
      (pss_one (ps_ret (pf_call (ok_are_counts T) (hr.mono (by decide)) (by rfl) T.g_are_counts T.d_are_counts.kp (pa_cons (pe_callB (k_len (K := K) rfl) (by rfl) T.z_len (by decide +kernel) (pa_cons (pv 0) pa_nil)) (pa_cons (pv 0) pa_nil)))))), ?_⟩
    walk_at "rd"
    refine ⟨szc rfl, fun tp np => ?_⟩
    have e1 : Ex H (upd H tp (.tup [.ty "list", .ty "tuple"])) := Ex.new np
    walk_at "rd"
    refine r_isiSeq (hS.mono e1) upd_same ?_
    walk_at "rd"
    refine iteF ?_
    walk_at "rd"
    refine r_len (hS.mono e1) ?_
    walk_at "rd"
    rw [List.length_map]
    have fls : ¬ (1 ≤ ns.length ∧ ns.length ≤ 48) → Q (.bl false) (upd H tp (.tup [.ty "list", .ty "tuple"])) := fun h => by
      have z : okRow ns = false := by
        rw [Bool.eq_false_iff]
        intro z
        have := okRow_iff.mp z
        exact h ⟨this.ne, this.le⟩
      have := k _ e1
      rw [z] at this
      exact this
    refine r_ite (fun h1 => ?_) (fun h1 => ?_)
    · walk_at "rd"
      refine r_itn (fun h2 => ?_) (fun h2 => ?_)
      · walk_at "rd"
        exact fls (by omega)
      · walk_at "rd"
        refine r_len (hS.mono e1) ?_
        rw [List.length_map]
        walk_at "rd"
        refine ⟨a, ns, rfl, hS.mono e1, hl, fun H' e => ?_⟩
        have := k _ (e1.trans e)
        unfold okRow at this
        rw [decide_eq_true (by omega : 1 ≤ ns.length), decide_eq_true (by omega : ns.length ≤ 48)] at this
        exact this
    · walk_at "rd"
      refine iteT ?_
      walk_at "rd"
      exact fls (by omega)
theorem sc_Needs___init__ : FnScope ["self", "row"] ["self", "row"] (defScope s_Needs___init__) := ⟨rfl, rfl, rfl, by decide +kernel, rfl, by decide +kernel, by decide +kernel⟩
def sp_Needs___init__ (K : PySem.W.Frag) (d : Ads) : Sp := spRwInit K d.c_Needs "kept_row"
set_option maxHeartbeats 4000000 in
theorem ok_Needs___init__ (T : Tx P K mg d) : Okf P w K mg base 5 d.f_Needs___init__ ["self", "row"] (sp_Needs___init__ K d) := by
  refine okf_of T.d_Needs___init__ sc_Needs___init__ (fun vs H Q E h => ?_) (fun cdv A outer s H vs Q E hr h => ?_)
  · obtain ⟨H0, x, dx, a, s, rfl, rfl, nx, ndx, ne, hS, g, k⟩ := h
    rfl
  · obtain ⟨H0, x, dx, a, s, rfl, rfl, nx, ndx, ne, hS, g, k⟩ := h
    refine ⟨_, (pss_cons (ps_if (pt_not (pt_val (pf_call (ok_is_row T) (hr.mono (by decide)) (by rfl) T.g_is_row T.d_is_row.kp (pa_cons (pv 1) pa_nil)))) (pss_one ps_never) pss_nil)
      (pss_one (k_sfld (K := K) rfl (pv 0) (pe_callTy (k_tupOf (K := K) rfl) (by rfl) T.z_tuple (by decide +kernel) (pa_cons (pv 1) pa_nil))))), ?_⟩
    have e0 : Ex H0 (upd (upd H0 dx (.own x)) x (.ins d.c_Needs dx [])) := Ex.mut (Ex.new ndx) nx
    have hl := g.le
    walk_at "rd"
    refine ⟨a, s, rfl, hS.mono e0, by omega, fun H1 e1 => ?_⟩
    rw [okRow_iff.mpr g]
    walk_at "rd"
    refine iteF ?_
    have x1 : H1 x = some (.ins d.c_Needs dx []) := e1 _ _ upd_same
    have e01 : Ex H0 H1 := e0.trans e1
    walk_at "rd"
    refine r_tupOf (hS.mono e01) fun p H3 e3 hp => ?_
    walk_at "rd"
    refine ⟨x, _, dx, _, rfl, e3 _ _ x1, T.cl_Needs, T.n_Needs_kept_row, by show 0 < 1000; decide, ?_⟩
    exact k _ (Ex.mut (e01.trans e3) nx) ⟨x, dx, p, rfl, upd_same, tup_ins (e3 _ _ x1) hp, g⟩
def t__law_heard : WS := (wTry (fun EX => (wRet (wLst (wCons (wC (.str "told")) (wCons (wCallX EX w_bound (wCons (wVar 0) (wCons (wCall w_mkNeeds (wCons (wVar 1) wNil)) (wCons (wVar 2) wNil)))) wNil))))) (fun n fs => (wRet (wLst (wCons (wIf (wTest (wIsX n .Unlike)) (wC (.str "unlike")) (wC (.str "other"))) (wCons (wC .non) wNil))))))
def w__law_heard : WF := wDef 3 1 t__law_heard
theorem scw__law_heard : FnScope ["_law_clock_here", "_law_wants_here", "_law_ring_here", "e"] ["_law_clock_here", "_law_wants_here", "_law_ring_here"] (defScope s__law_heard) := ⟨rfl, rfl, rfl, by decide +kernel, rfl, by decide +kernel, by decide +kernel⟩
set_option maxHeartbeats 4000000 in
theorem ow__law_heard (T : Tx P K mg d) : Okf P w K mg base 7 d.f__law_heard ["_law_clock_here", "_law_wants_here", "_law_ring_here"] (spW K (cnA d) (rN K (cnA d)) w__law_heard) :=
  okw_of (ts' := [.sh, .sh, .sh, .no]) T.d__law_heard scw__law_heard rfl rfl rnonN fun cdv A outer s H E hr =>
    ⟨_, (pss_one (ps_try_as (i := 3) rfl rfl scw__law_heard.nd rfl rfl ⟨rfl, by decide, .inl T.g_NeedError⟩ takes0 (fun W pn xe tk _ => (pss_one (ps_ret (pe_lst (pa_cons pe_str (pa_cons (pf_callS (E := fun σ c o H => W c o σ H) (ow_bound T) (hr.mono (by decide) : Room 6 _) (by rfl) T.g_bound T.d_bound.kp (fun σ => passAt tk σ) (pa_cons (pv 0) (pa_cons (pf_make (ok_Needs___init__ T) (hr.mono (by decide) : Room 6 _) T.mk_Needs (by rfl) T.g_Needs (pa_cons (pv 1) pa_nil)) (pa_cons (pv 2) pa_nil)))) pa_nil)))))) (fun xa oe ecls ed pn hz hf => (pss_one (ps_ret (pe_lst (pa_cons (pe_ifExp (pt_val (pe_callB (call_isX hz hf) (by rfl) T.z_isinstance (by decide +kernel) (pa_cons (pv 3) (pa_cons (pe_glob (v := .ref d.c_Unlike) (by rfl) T.g_Unlike rfl) pa_nil)))) pe_str pe_str) (pa_cons pe_non pa_nil)))))))),
    (simS_try (i := 3) (tx := [.sh, .sh, .sh, .no]) (ts1 := [.sh, .sh, .sh, .no]) (ts2 := [.sh, .sh, .sh, .no]) (ts' := [.sh, .sh, .sh, .no]) okN (fun W EX => (letI : XC := (xcOf K (cnA d) (eaA d) W EX [.sh, .sh, .sh, .no]); (simS_ret okN (sim_lst (simA_cons (sim_NS sim_str) (simA_cons (sim_NS (sim_callX okN rfl rfl (simA_cons (sim_var rfl) (simA_cons (sim_NS (sim_make (c := .Needs) mk_Needs (simA_cons (sim_var rfl) simA_nil))) (simA_cons (sim_var rfl) simA_nil))))) simA_nil)))))) (fun xa n C o fs hn hz0 => (letI : XC := xcS xa o fs n; (simS_ret okN (sim_lst (simA_cons (sim_NS (sim_if okN (simT_B (sim_NS (sim_isX (i := 3) (n := n) (m := .Unlike) rfl hn rfl (ex_kit T) (ex_exc T) (opt_or o)))) sim_str sim_str)) (simA_cons (sim_NS sim_non) simA_nil)))))) (ex_all T) rfl rfl rfl rfl rfl rfl rfl)⟩
theorem sc_Clock_even : FnScope ["hours", "stay", "hour"] ["hours", "stay"] (defScope s_Clock_even) := ⟨rfl, rfl, rfl, by decide +kernel, rfl, by decide +kernel, by decide +kernel⟩
def sp_Clock_even (K : PySem.W.Frag) (d : Ads) : Sp := fun vs H Q _ => ∃ (n : Nat) (c : Int), vs = [.int (n : Int), .int c] ∧ 1 ≤ n ∧ n ≤ 48 ∧ 1 ≤ c ∧ c ≤ (n : Int) ∧ ∀ u H', Ex H H' → Clk K d.c_Clock H' u (List.replicate n c) → Q u H'
set_option maxHeartbeats 4000000 in
theorem ok_Clock_even (T : Tx P K mg d) : Okf P w K mg base 5 d.f_Clock_even ["hours", "stay"] (sp_Clock_even K d) := by
  refine okf_of T.d_Clock_even sc_Clock_even (fun vs H Q E h => ?_) (fun cdv A outer s H vs Q E hr h => ?_)
  · obtain ⟨n, c, rfl, h1, h2, c1, c2, k⟩ := h
    rfl
  · obtain ⟨n, c, rfl, h1, h2, c1, c2, k⟩ := h
    refine ⟨_, (pss_cons (ps_if (PW.pt (pw_or (pt_not (pt_val (pf_call (ok_is_integer T) (hr.mono (by decide)) (by rfl) T.g_is_integer T.d_is_integer.kp (pa_cons (pv 0) pa_nil)))) (pw_or1 (pt_not (pt_chain op_le op_le pe_int (pv 0) (pe_gint (by rfl) T.k_MOST_HOURS)))))) (pss_one ps_never) pss_nil)
      (pss_cons (ps_if (PW.pt (pw_or (pt_not (pt_val (pf_call (ok_is_integer T) (hr.mono (by decide)) (by rfl) T.g_is_integer T.d_is_integer.kp (pa_cons (pv 1) pa_nil)))) (pw_or1 (pt_not (pt_chain op_le op_le pe_int (pv 1) (pv 0)))))) (pss_one ps_never) pss_nil)
      (pss_one (ps_ret (pf_make (ok_Clock___init__ T) (hr.mono (by decide)) T.mk_Clock (by rfl) T.g_Clock (pa_cons (pe_lc (own := [("hour", 2)]) rfl sc_Clock_even.nd (pi_range1 (by rfl) T.z_range (pa_cons (pv 0) pa_nil)) (blkOk_by (by kernel_rfl)) (fun _ _ _ _ _ => (pg_name (i := 2) sc_Clock_even.nd rfl (by first | exact Or.inl rfl | exact Or.inr rfl))) (fun _ _ _ _ _ => pts_nil) (fun _ _ _ _ _ => (pv 1))) pa_nil)))))), ?_⟩
    walk_at "rd"
    refine ⟨_, rfl, ?_⟩
    walk_at "rd"
    refine iteF ?_
    walk_at "rd"
    refine r_ite (fun _ => ?_) (fun h => absurd (by omega) h)
    walk_at "rd"
    refine r_itn (fun h => absurd (by omega) h) (fun _ => ?_)
    walk_at "rd"
    refine ⟨_, rfl, ?_⟩
    walk_at "rd"
    refine iteF ?_
    walk_at "rd"
    refine r_ite (fun _ => ?_) (fun h => absurd (by omega) h)
    walk_at "rd"
    refine r_itn (fun h => absurd (by omega) h) (fun _ => ?_)
    walk_at "rd"
    refine lc_fun walk_r0 (fun _ => .int c) (fun _ _ => trivial) (by omega) ?_ ?_
    · rintro i x H1 H2 hi e ⟨rfl, rfl⟩ kk hk
      walk_at "rd"
      exact hk _ (Ex.refl _)
    · intro D H' nD e hD
      walk_at "rd"
      refine mkClk ⟨D, List.replicate n c, rfl, .inl (.inl (.inl ?_)), Good.const h1 h2 c1 c2, fun u H2 e2 cc => k _ H2 (e.trans e2) cc⟩
      rw [hD, Int.toNat_natCast, List.map_replicate, List.map_const', List.length_range]
def w_Clock_even : WF := fun xs P => ∃ (n : Nat) (c : Int), xs = [.int (n : Int), .int c] ∧ 1 ≤ n ∧ n ≤ 48 ∧ 1 ≤ c ∧ c ≤ (n : Int) ∧ P (clkP (List.replicate n c))
theorem ow_Clock_even (T : Tx P K mg d) : Okf P w K mg base 5 d.f_Clock_even ["hours", "stay"] (spW K (cnA d) (rN K (cnA d)) w_Clock_even) := okw_imp (ok_Clock_even T) (fun vs H Q E ⟨F, xs, P, dm, r, ⟨n, c, ex, c1, c2, c3, c4, p⟩, k⟩ => by
  subst ex
  obtain ⟨v1, v2, rfl, r1, r2⟩ := r.two
  cases r1.intE
  cases r2.intE
  exact ⟨n, c, rfl, c1, c2, c3, c4, fun u H' e cc => ret_clk dm k p e cc⟩)
def t__law_by_turns_b0 : WS := (wIfS (wTnot (wTest (wCall w__law_alike (wCons (wCall w__law_heard (wCons (wVar 1) (wCons (wVar 7) (wCons (wVar 4) wNil)))) (wCons (wLst (wCons (wC (.str "told")) (wCons (wCall w__law_bound_of (wCons (wVar 2) (wCons (wVar 7) (wCons (wVar 4) wNil)))) wNil))) wNil))))) (wRet (wC (.bl false))) (fun D ρ => D.nx ρ))
def t__law_by_turns_b1 : WS := (wIfS (wTest (wOp wNe (wCallX noEX w_bound (wCons (wVar 9) (wCons (wVar 6) (wCons (wVar 4) wNil)))) (wCall w__law_bound_of (wCons (wVar 10) (wCons (wOp wIx (wVar 3) (wC (.int 0))) (wCons (wVar 4) wNil)))))) (wRet (wC (.bl false))) (fun D ρ => D.nx ρ))
def t__law_by_turns : WS := (wSeq (wPar 5 6 false false (wCB wLen (wCons (wVar 2) wNil)) (wCall w_mkNeeds (wCons (wOp wIx (wVar 3) (wC (.int 0))) wNil)))
      (wSeq (wFor (wSeqI (wTup (wCons (wOp wIx (wVar 3) (wC (.int 0))) (wCons (wOp wIx (wVar 3) (wC (.int 1))) (wCons (wOp wIx (wVar 3) (wC (.int 0))) wNil))))) (wgName 7) t__law_by_turns_b0)
      (wSeq (wSet 8 (wOp wAdd (wC (.int 1)) (wCall w_take (wCons (wVar 0) (wCons (wVar 5) wNil)))))
      (wSeq (wFor (wSeqI (wTup (wCons (wTup (wCons (wVar 1) (wCons (wVar 2) wNil))) (wCons (wTup (wCons (wStat w_Clock_even (wC (.cls .Clock)) (wCons (wVar 5) (wCons (wVar 8) wNil)) .Clock) (wCons (wOp wMul (wLst (wCons (wVar 8) wNil)) (wVar 5)) wNil))) (wCons (wTup (wCons (wVar 1) (wCons (wVar 2) wNil))) wNil))))) (wgTup 2 (wgCons (wgName 9) (wgCons (wgName 10) wgNil))) t__law_by_turns_b1)
      (wSeq (wMutP 4 (wCall w_take (wCons (wVar 0) (wCons (wVar 5) wNil))))
      (wSeq (wSet 11 (wLst (wCons (wScal (wCall w_winds (wCons (wVar 1) (wCons (wVar 4) wNil)))) (wCons (wScal (wCallX noEX w_bound (wCons (wVar 1) (wCons (wVar 6) (wCons (wVar 4) wNil))))) wNil))))
      (wRet (wCall w__law_alike (wCons (wVar 11) (wCons (wLst (wCons (wScal (wCall w__law_wound (wCons (wVar 2) (wCons (wVar 4) wNil)))) (wCons (wScal (wCall w__law_bound_of (wCons (wVar 2) (wCons (wOp wIx (wVar 3) (wC (.int 0))) (wCons (wVar 4) wNil))))) wNil))) wNil))))))))))
def w__law_by_turns : WF := wDef 5 7 t__law_by_turns
theorem scw__law_by_turns : FnScope ["_law_bag_here", "_law_clock_here", "_law_stays_here", "_law_rows", "_law_ring_here", "_law_many", "_law_needs", "_law_some", "_law_stay", "_law_one", "_law_row", "_law_found"] ["_law_bag_here", "_law_clock_here", "_law_stays_here", "_law_rows", "_law_ring_here"] (defScope s__law_by_turns) := ⟨rfl, rfl, rfl, by decide +kernel, rfl, by decide +kernel, by decide +kernel⟩
set_option maxHeartbeats 4000000 in
theorem ow__law_by_turns (T : Tx P K mg d) : OkP NoG P w K mg base 8 d.f__law_by_turns ["_law_bag_here", "_law_clock_here", "_law_stays_here", "_law_rows", "_law_ring_here"] (spC K (cnA d) (rN K (cnA d)) w__law_by_turns) :=
  okwUCG_of (ts' := [.sh, .sh, .sh, .sh, .od, .sh, .sh, .no, .sh, .no, .no, .sh]) T.d__law_by_turns scw__law_by_turns rfl rfl rnonN fun cdv A outer s H E hg hr =>
    ⟨_, (pss_cons (ps_par (i := 5) (j := 6) (by rfl) scw__law_by_turns.nd rfl rfl (by decide) rfl rfl (pa_cons (pe_callB (u_len (K := K) rfl) (by rfl) T.z_len (by decide +kernel) (pa_cons (pv 2) pa_nil)) (pa_cons (pf_make (ok_Needs___init__ T) (hr.mono (by decide)) T.mk_Needs (by rfl) T.g_Needs (pa_cons (pe_ix (k_ixS (K := K) rfl) (pv 3) pe_int (fun _ _ => rfl)) pa_nil)) pa_nil)) (by rfl))
      (pss_cons (ps_for PassesOwn.never rfl (k_piS (K := K) rfl (pe_tup (pa_cons (pe_ix (k_ixS (K := K) rfl) (pv 3) pe_int (fun _ _ => rfl)) (pa_cons (pe_ix (k_ixS (K := K) rfl) (pv 3) pe_int (fun _ _ => rfl)) (pa_cons (pe_ix (k_ixS (K := K) rfl) (pv 3) pe_int (fun _ _ => rfl)) pa_nil))))) (pg_name (i := 7) scw__law_by_turns.nd rfl (by first | exact Or.inl rfl | exact Or.inr rfl)) (pss_one (ps_if (pt_not (pt_val (pg_call (ow__law_alike T) (fun _ => hg) (hr.mono (by decide)) (by rfl) T.g__law_alike T.d__law_alike.kp (pa_cons (pf_call (ow__law_heard T) (hr.mono (by decide)) (by rfl) T.g__law_heard T.d__law_heard.kp (pa_cons (pv 1) (pa_cons (pv 7) (pa_cons (pv 4) pa_nil)))) (pa_cons (pe_lst (pa_cons pe_str (pa_cons (pf_call (ow__law_bound_of T) (hr.mono (by decide)) (by rfl) T.g__law_bound_of T.d__law_bound_of.kp (pa_cons (pv 2) (pa_cons (pv 7) (pa_cons (pv 4) pa_nil)))) pa_nil))) pa_nil))))) (pss_one (ps_ret pe_bl)) pss_nil)))
      (pss_cons (ps_set (i := 8) scw__law_by_turns.nd rfl (by first | exact Or.inl rfl | exact Or.inr rfl) (pe_op (u_add (K := K) rfl) pe_int (pf_call (ow__law_take T) (hr.mono (by decide)) (by rfl) T.g__law_take T.d__law_take.kp (pa_cons (pv 0) (pa_cons (pv 5) pa_nil)))))
      (pss_cons (ps_for PassesOwn.never rfl (k_piS (K := K) rfl (pe_tup (pa_cons (pe_tup (pa_cons (pv 1) (pa_cons (pv 2) pa_nil))) (pa_cons (pe_tup (pa_cons (pe_static (pe_glob (v := .ref d.c_Clock) (by rfl) T.g_Clock rfl) T.st_Clock_even T.d_Clock_even.kp (ow_Clock_even T) (hr.mono (by decide)) (pa_cons (pv 5) (pa_cons (pv 8) pa_nil))) (pa_cons (pe_op u_mul (pe_lst (pa_cons (pv 8) pa_nil)) (pv 5)) pa_nil))) (pa_cons (pe_tup (pa_cons (pv 1) (pa_cons (pv 2) pa_nil))) pa_nil))))) (k_gtup (K := K) (n := 2) rfl rfl (pgs_cons (pg_name (i := 9) scw__law_by_turns.nd rfl (by first | exact Or.inl rfl | exact Or.inr rfl)) (pgs_cons (pg_name (i := 10) scw__law_by_turns.nd rfl (by first | exact Or.inl rfl | exact Or.inr rfl)) pgs_nil))) (pss_one (ps_if (pt_cmpR (u_ne (K := K) rfl hr.units) (pf_call (ow_bound T) (hr.mono (by decide)) (by rfl) T.g_bound T.d_bound.kp (pa_cons (pv 9) (pa_cons (pv 6) (pa_cons (pv 4) pa_nil)))) (pf_call (ow__law_bound_of T) (hr.mono (by decide)) (by rfl) T.g__law_bound_of T.d__law_bound_of.kp (pa_cons (pv 10) (pa_cons (pe_ix (k_ixS (K := K) rfl) (pv 3) pe_int (fun _ _ => rfl)) (pa_cons (pv 4) pa_nil)))) (nomark _)) (pss_one (ps_ret pe_bl)) pss_nil)))
      (pss_cons (ps_expr (pe_bm PySem.F.plainAttrs_list PySem.F.slot_list_append PySem.F.type_list_append mt_append (pv 4) (pa_cons (pf_call (ow__law_take T) (hr.mono (by decide)) (by rfl) T.g__law_take T.d__law_take.kp (pa_cons (pv 0) (pa_cons (pv 5) pa_nil))) pa_nil)))
      (pss_cons (ps_set (i := 11) scw__law_by_turns.nd rfl (by first | exact Or.inl rfl | exact Or.inr rfl) (pe_lst (pa_cons (pf_call (ow_winds T) (hr.mono (by decide)) (by rfl) T.g_winds T.d_winds.kp (pa_cons (pv 1) (pa_cons (pv 4) pa_nil))) (pa_cons (pf_call (ow_bound T) (hr.mono (by decide)) (by rfl) T.g_bound T.d_bound.kp (pa_cons (pv 1) (pa_cons (pv 6) (pa_cons (pv 4) pa_nil)))) pa_nil))))
      (pss_one (ps_ret (pg_call (ow__law_alike T) (fun _ => hg) (hr.mono (by decide)) (by rfl) T.g__law_alike T.d__law_alike.kp (pa_cons (pv 11) (pa_cons (pe_lst (pa_cons (pf_call (ow__law_wound T) (hr.mono (by decide)) (by rfl) T.g__law_wound T.d__law_wound.kp (pa_cons (pv 2) (pa_cons (pv 4) pa_nil))) (pa_cons (pf_call (ow__law_bound_of T) (hr.mono (by decide)) (by rfl) T.g__law_bound_of T.d__law_bound_of.kp (pa_cons (pv 2) (pa_cons (pe_ix (k_ixS (K := K) rfl) (pv 3) pe_int (fun _ _ => rfl)) (pa_cons (pv 4) pa_nil)))) pa_nil))) pa_nil))))))))))),
    (simS_seq (simS_par (i := 5) (j := 6) (k := false) (l := false) (sim_NS (sim_cb okN cas_len (simAW_cons (sim_SW (sim_var rfl)) simAW_nil))) (sim_NS (sim_make (c := .Needs) mk_Needs (simA_cons (sim_op okS ops_ix (sim_SW (sim_var rfl)) (sim_NW sim_int)) simA_nil))))
      (simS_seq (simS_for (ts := [.sh, .sh, .sh, .sh, .od, .sh, .sh, .no, .no, .no, .no, .no]) (simI_seq (lp := true) (sim_NS (sim_tup (simA_cons (sim_op okS ops_ix (sim_SW (sim_var rfl)) (sim_NW sim_int)) (simA_cons (sim_op okS ops_ix (sim_SW (sim_var rfl)) (sim_NW sim_int)) (simA_cons (sim_op okS ops_ix (sim_SW (sim_var rfl)) (sim_NW sim_int)) simA_nil)))))) (simG_name (i := 7)) (simS_if (simT_val (simT_not (simT_B (sim_NS (sim_call okN (simA_cons (sim_NS (sim_call okN (simA_cons (sim_var rfl) (simA_cons (sim_var rfl) (simA_cons (sim_var rfl) simA_nil))))) (simA_cons (sim_NS (sim_lst (simA_cons (sim_NS sim_str) (simA_cons (sim_NS (sim_call okN (simA_cons (sim_var rfl) (simA_cons (sim_var rfl) (simA_cons (sim_var rfl) simA_nil))))) simA_nil)))) simA_nil))))))) (simS_ret okN sim_bl) simS_nil) rfl)
      (simS_seq (simS_set (i := 8) (sim_NS (sim_op okN ops_add (sim_NW sim_int) (sim_NW (sim_call okN (simA_cons (sim_var rfl) (simA_cons (sim_var rfl) simA_nil)))))))
      (simS_seq (simS_for (ts := [.sh, .sh, .sh, .sh, .od, .sh, .sh, .no, .sh, .no, .no, .no]) (simI_seq (lp := true) (sim_NS (sim_tup (simA_cons (sim_NS (sim_tup (simA_cons (sim_var rfl) (simA_cons (sim_var rfl) simA_nil)))) (simA_cons (sim_NS (sim_tup (simA_cons (sim_NS (sim_stat .Clock okN (sim_NS (sim_cls .Clock)) (simA_cons (sim_var rfl) (simA_cons (sim_var rfl) simA_nil)))) (simA_cons (sim_NS (sim_op okN ops_mul (sim_NW (sim_lst (simA_cons (sim_var rfl) simA_nil))) (sim_SW (sim_var rfl)))) simA_nil)))) (simA_cons (sim_NS (sim_tup (simA_cons (sim_var rfl) (simA_cons (sim_var rfl) simA_nil)))) simA_nil)))))) (simG_tup (simGs_cons (simG_name (i := 9)) (simGs_cons (simG_name (i := 10)) simGs_nil))) (simS_if (simT_val (simT_test (sim_NS (sim_op okN ops_ne (sim_NW (sim_call0 okN (simA_cons (sim_var rfl) (simA_cons (sim_var rfl) (simA_cons (sim_var rfl) simA_nil))))) (sim_NW (sim_call okN (simA_cons (sim_var rfl) (simA_cons (sim_op okS ops_ix (sim_SW (sim_var rfl)) (sim_NW sim_int)) (simA_cons (sim_var rfl) simA_nil))))))))) (simS_ret okN sim_bl) simS_nil) rfl)
      (simS_seq (simS_mutP (i := 4) rfl (sim_NS (sim_call okN (simA_cons (sim_var rfl) (simA_cons (sim_var rfl) simA_nil)))))
      (simS_seq (simS_set (i := 11) (sim_NS (sim_lst (simA_cons (sim_NS (sim_scal (sim_NS (sim_call okN (simA_cons (sim_var rfl) (simA_cons (sim_var rfl) simA_nil)))))) (simA_cons (sim_NS (sim_scal (sim_NS (sim_call0 okN (simA_cons (sim_var rfl) (simA_cons (sim_var rfl) (simA_cons (sim_var rfl) simA_nil))))))) simA_nil)))))
      (simS_ret okN (sim_call okN (simA_cons (sim_var rfl) (simA_cons (sim_NS (sim_lst (simA_cons (sim_NS (sim_scal (sim_NS (sim_call okN (simA_cons (sim_var rfl) (simA_cons (sim_var rfl) simA_nil)))))) (simA_cons (sim_NS (sim_scal (sim_NS (sim_call okN (simA_cons (sim_var rfl) (simA_cons (sim_op okS ops_ix (sim_SW (sim_var rfl)) (sim_NW sim_int)) (simA_cons (sim_var rfl) simA_nil))))))) simA_nil)))) simA_nil))))))))))⟩
def t_law_b0 : WS := (wSeq (wSet 15 (wOp wAdd (wC (.int 1)) (wCB wInt1 (wCons (wOp (wIB fun i j => decide (j < i)) (wCB wLen (wCons (wVar 14) wNil)) (wCB wLen (wCons (wVar 9) wNil))) wNil))))
      (wIfS (wTnot (wTest (wCall w__law_alike (wCons (wLst (wCons (wCall w_winds (wCons (wVar 7) (wCons (wVar 14) wNil))) (wCons (wCall w__law_heard (wCons (wVar 7) (wCons (wVar 5) (wCons (wVar 14) wNil)))) wNil))) (wCons (wLst (wCons (wOp wMul (wVar 15) (wOp wIx (wVar 11) (wC (.int 0)))) (wCons (wOp wIx (wVar 11) (wC (.int 1))) wNil))) wNil))))) (wRet (wC (.bl false))) (fun D ρ => D.nx ρ)))
def t_law_b1 : WS := (wSeq (wSetND 9 (wCall w__law_ring (wCons (wVar 1) (wCons (wVar 3) wNil))))
      (wSeq (wPar 10 11 false false (wScal (wCB wRepr (wCons (wVar 9) wNil))) (wLst (wCons (wScal (wCall w__law_wound (wCons (wVar 4) (wCons (wVar 9) wNil)))) (wCons (wLst (wCons (wC (.str "told")) (wCons (wScal (wCall w__law_bound_of (wCons (wVar 4) (wCons (wVar 5) (wCons (wVar 9) wNil))))) wNil))) wNil))))
      (wSeq (wIfS (wTest (wOp wNe (wCB wSum (wCons (wLc (wRng1 (wCons (wCB wLen (wCons (wVar 9) wNil)) wNil)) (wgName 12) wTyes (wCall w_step_hours (wCons (wVar 7) (wCons (wOp wIx (wVar 9) (wOp (wI0 fun i j => i - j) (wVar 12) (wC (.int 1)))) (wCons (wOp wIx (wVar 9) (wVar 12)) wNil))))) wNil)) (wOp wMul (wOp wIx (wVar 11) (wC (.int 0))) (wVar 3)))) (wRet (wC (.bl false))) (fun D ρ => D.nx ρ))
      (wSeq (wSet 13 (wCall w_take (wCons (wVar 1) (wCons (wScal (wCB wLen (wCons (wVar 9) wNil))) wNil))))
      (wSeq (wBorrow [9] [14, 15] [] (wFor (wSeqI (wTup (wCons (wVar 9) (wCons (wOp wAdd (wSl (wVar 9) (wPart (wVar 13)) wNoPart) (wSl (wVar 9) wNoPart (wPart (wVar 13)))) (wCons (wVar 9) (wCons (wOp wAdd (wVar 9) (wVar 9)) wNil)))))) (wgName 14) t_law_b0))
      (wSeq (wIfS (wTor (wTest (wOp wNe (wCB wRepr (wCons (wVar 9) wNil)) (wVar 10))) (wTest (wOp (wIB fun i j => decide (i < j)) (wCall w_winds (wCons (wVar 7) (wCons (wVar 9) wNil))) (wC (.int 1))))) (wRet (wC (.bl false))) (fun D ρ => D.nx ρ))
      (wIfS (wTnot (wTest (wCall w__law_by_turns (wCons (wVar 1) (wCons (wVar 7) (wCons (wVar 4) (wCons (wTup (wCons (wVar 5) (wCons (wVar 6) wNil))) (wCons (wVarD 9) wNil)))))))) (wRet (wC (.bl false))) (fun D ρ => D.nx ρ))))))))
def t_law_b2 : WS := (wSeq (wSet 3 (wOp wAdd (wC (.int 1)) (wCall w_take (wCons (wVar 1) (wCons (wOp wIx (wLst (wCons (wC (.int 24)) (wCons (wC (.int 8)) (wCons (wC (.int 8)) (wCons (wC (.int 4)) (wCons (wC (.int 3)) (wCons (wC (.int 2)) wNil))))))) (wVar 2)) wNil)))))
      (wSeq (wPar3 4 5 6 false false false (wCall w__law_stays (wCons (wVar 1) (wCons (wVar 3) wNil))) (wCall w__law_wants (wCons (wVar 1) (wCons (wVar 3) wNil))) (wCall w__law_wants (wCons (wVar 1) (wCons (wVar 3) wNil))))
      (wSeq (wSet 7 (wCall w__law_clock (wCons (wVar 1) (wCons (wVar 4) wNil))))
      (wSeq (wFor (wRng1 (wCons (wC (.int 5)) wNil)) (wgName 8) t_law_b1)
      (wSeq (wIfS (wTest (wOp wNe (wCall w__law_heard (wCons (wVar 7) (wCons (wOp wAdd (wVar 5) (wLst (wCons (wC (.int 0)) wNil))) (wCons (wLst (wCons (wC (.int 0)) wNil)) wNil)))) (wLst (wCons (wC (.str "unlike")) (wCons (wC .non) wNil))))) (wRet (wC (.bl false))) (fun D ρ => D.nx ρ))
      (wSeq (wIfS (wTand (wTest (wOp (wIB fun i j => decide (j < i)) (wVar 3) (wC (.int 1)))) (wTest (wOp wNe (wCall w__law_heard (wCons (wVar 7) (wCons (wSl (wVar 5) (wPart (wC (.int 1))) wNoPart) (wCons (wLst (wCons (wC (.int 0)) wNil)) wNil)))) (wLst (wCons (wC (.str "unlike")) (wCons (wC .non) wNil)))))) (wRet (wC (.bl false))) (fun D ρ => D.nx ρ))
      (wSeq (wSetND 9 (wCall w__law_ring (wCons (wVar 1) (wCons (wVar 3) wNil))))
      (wSeq (wPar 15 11 false false (wOp (wII CDivW fun i j => i / j) (wC (.int 2000)) (wScal (wCB wLen (wCons (wVar 9) wNil)))) (wScal (wCall w__law_bound_of (wCons (wVar 4) (wCons (wVar 5) (wCons (wVar 9) wNil))))))
      (wSeq (wSet 16 (wLst (wCons (wScal (wCall w_winds (wCons (wVar 7) (wCons (wOp wMul (wVar 9) (wVar 15)) wNil)))) (wCons (wScal (wCallX noEX w_bound (wCons (wVar 7) (wCons (wCall w_mkNeeds (wCons (wVar 5) wNil)) (wCons (wOp wMul (wVar 9) (wVar 15)) wNil))))) wNil))))
      (wIfS (wTest (wOp wNe (wVar 16) (wLst (wCons (wOp wMul (wVar 15) (wCall w__law_wound (wCons (wVar 4) (wCons (wVar 9) wNil)))) (wCons (wVar 11) wNil))))) (wRet (wC (.bl false))) (fun D ρ => D.nx ρ)))))))))))
def t_law : WS := (wSeq (wSet 1 (wCall w_bag (wCons (wVar 0) wNil)))
      (wSeq (wFor (wRng1 (wCons (wC (.int 6)) wNil)) (wgName 2) t_law_b2)
      (wRet (wOp wEq (wLst (wCons (wCall w_winds (wCons (wCall w_mkClock (wCons (wLst (wCons (wC (.int 1)) wNil)) wNil)) (wCons (wLst (wCons (wC (.int 0)) (wCons (wC (.int 0)) wNil))) wNil))) (wCons (wCallX noEX w_bound (wCons (wCall w_mkClock (wCons (wLst (wCons (wC (.int 1)) wNil)) wNil)) (wCons (wCall w_mkNeeds (wCons (wLst (wCons (wC (.int 3)) wNil)) wNil)) (wCons (wLst (wCons (wC (.int 0)) (wCons (wC (.int 0)) wNil))) wNil)))) wNil))) (wLst (wCons (wC (.int 2)) (wCons (wC (.int 3)) wNil)))))))
def w_law : WF := wDef 1 16 t_law
theorem scw_law : FnScope ["_law_script", "_law_bag_here", "_law_turn", "_law_many", "_law_stays_here", "_law_wants_here", "_law_others", "_law_clock_here", "_law_again", "_law_ring_here", "_law_text", "_law_due", "_law_k", "_law_at", "_law_some", "_law_times", "_law_found"] ["_law_script"] (defScope s_law) := ⟨rfl, rfl, rfl, by decide +kernel, rfl, by decide +kernel, by decide +kernel⟩
set_option maxHeartbeats 4000000 in
theorem ow_law (T : Tx P K mg d) : OkP NoG P w K mg base 9 d.f_law ["_law_script"] (spW K (cnA d) (rN K (cnA d)) w_law) :=
  okwG_of (ts' := [.sh, .sh, .no, .no, .no, .no, .no, .no, .no, .no, .no, .no, .no, .no, .no, .no, .no]) T.d_law scw_law rfl rfl rnonN fun cdv A outer s H E hg hr =>
    ⟨_, (pss_cons (ps_set (i := 1) scw_law.nd rfl (by first | exact Or.inl rfl | exact Or.inr rfl) (pf_call (ow__law_bag T) (hr.mono (by decide)) (by rfl) T.g__law_bag T.d__law_bag.kp (pa_cons (pv 0) pa_nil)))
      (pss_cons (ps_for PassesOwn.never rfl (pi_range1 (by rfl) T.z_range (pa_cons pe_int pa_nil)) (pg_name (i := 2) scw_law.nd rfl (by first | exact Or.inl rfl | exact Or.inr rfl)) (pss_cons (ps_set (i := 3) scw_law.nd rfl (by first | exact Or.inl rfl | exact Or.inr rfl) (pe_op (u_add (K := K) rfl) pe_int (pf_call (ow__law_take T) (hr.mono (by decide)) (by rfl) T.g__law_take T.d__law_take.kp (pa_cons (pv 1) (pa_cons (pe_ix (k_ixS (K := K) rfl) (pe_lst (pa_cons pe_int (pa_cons pe_int (pa_cons pe_int (pa_cons pe_int (pa_cons pe_int (pa_cons pe_int pa_nil))))))) (pv 2) (fun _ _ => rfl)) pa_nil)))))
      (pss_cons (ps_par3 (i := 4) (j := 5) (l := 6) (by rfl) scw_law.nd rfl rfl rfl (by decide) (by decide) (by decide) rfl rfl rfl (pa_cons (pf_call (ow__law_stays T) (hr.mono (by decide)) (by rfl) T.g__law_stays T.d__law_stays.kp (pa_cons (pv 1) (pa_cons (pv 3) pa_nil))) (pa_cons (pf_call (ow__law_wants T) (hr.mono (by decide)) (by rfl) T.g__law_wants T.d__law_wants.kp (pa_cons (pv 1) (pa_cons (pv 3) pa_nil))) (pa_cons (pf_call (ow__law_wants T) (hr.mono (by decide)) (by rfl) T.g__law_wants T.d__law_wants.kp (pa_cons (pv 1) (pa_cons (pv 3) pa_nil))) pa_nil))) (by rfl))
      (pss_cons (ps_set (i := 7) scw_law.nd rfl (by first | exact Or.inl rfl | exact Or.inr rfl) (pf_call (ow__law_clock T) (hr.mono (by decide)) (by rfl) T.g__law_clock T.d__law_clock.kp (pa_cons (pv 1) (pa_cons (pv 4) pa_nil))))
      (pss_cons (ps_for PassesOwn.never rfl (pi_range1 (by rfl) T.z_range (pa_cons pe_int pa_nil)) (pg_name (i := 8) scw_law.nd rfl (by first | exact Or.inl rfl | exact Or.inr rfl)) (pss_cons (ps_set (i := 9) scw_law.nd rfl (by first | exact Or.inl rfl | exact Or.inr rfl) (pf_call (ow__law_ring T) (hr.mono (by decide)) (by rfl) T.g__law_ring T.d__law_ring.kp (pa_cons (pv 1) (pa_cons (pv 3) pa_nil))))
      (pss_cons (ps_par (i := 10) (j := 11) (by rfl) scw_law.nd rfl rfl (by decide) rfl rfl (pa_cons (pe_callB (k_repr (K := K) (k := 0) rfl hg (hr.mono (by decide))) (by rfl) T.z_repr (by decide +kernel) (pa_cons (pv 9) pa_nil)) (pa_cons (pe_lst (pa_cons (pf_call (ow__law_wound T) (hr.mono (by decide)) (by rfl) T.g__law_wound T.d__law_wound.kp (pa_cons (pv 4) (pa_cons (pv 9) pa_nil))) (pa_cons (pe_lst (pa_cons pe_str (pa_cons (pf_call (ow__law_bound_of T) (hr.mono (by decide)) (by rfl) T.g__law_bound_of T.d__law_bound_of.kp (pa_cons (pv 4) (pa_cons (pv 5) (pa_cons (pv 9) pa_nil)))) pa_nil))) pa_nil))) pa_nil)) (by rfl))
      (pss_cons (ps_if (pt_cmpR (u_ne (K := K) rfl hr.units) (pe_callB (k_sumS (K := K) rfl rfl) (by rfl) T.z_sum (by decide +kernel) (pa_cons (pe_lc (own := [("_law_k", 12)]) rfl scw_law.nd (pi_range1 (by rfl) T.z_range (pa_cons (pe_callB (u_len (K := K) rfl) (by rfl) T.z_len (by decide +kernel) (pa_cons (pv 9) pa_nil)) pa_nil)) (blkOk_by (by kernel_rfl)) (fun _ _ _ _ _ => (pg_name (i := 12) scw_law.nd rfl (by first | exact Or.inl rfl | exact Or.inr rfl))) (fun _ _ _ _ _ => pts_nil) (fun _ _ _ _ _ => (pf_call (ow_step_hours T) (hr.mono (by decide)) (by rfl) T.g_step_hours T.d_step_hours.kp (pa_cons (pv 7) (pa_cons (pe_ix (k_ixS (K := K) rfl) (pv 9) (pe_op op_sub (pv 12) pe_int) (fun _ _ => rfl)) (pa_cons (pe_ix (k_ixS (K := K) rfl) (pv 9) (pv 12) (fun _ _ => rfl)) pa_nil)))))) pa_nil)) (pe_op u_mul (pe_ix (k_ixS (K := K) rfl) (pv 11) pe_int (fun _ _ => rfl)) (pv 3)) (nomark _)) (pss_one (ps_ret pe_bl)) pss_nil)
      (pss_cons (ps_set (i := 13) scw_law.nd rfl (by first | exact Or.inl rfl | exact Or.inr rfl) (pf_call (ow__law_take T) (hr.mono (by decide)) (by rfl) T.g__law_take T.d__law_take.kp (pa_cons (pv 1) (pa_cons (pe_callB (u_len (K := K) rfl) (by rfl) T.z_len (by decide +kernel) (pa_cons (pv 9) pa_nil)) pa_nil))))
      (pss_cons (ps_for PassesOwn.never rfl (k_piS (K := K) rfl (pe_tup (pa_cons (pv 9) (pa_cons (pe_op (u_add (K := K) rfl) (pe_slice (u_sl (K := K) rfl) (pv 9) (po_some (pv 13)) po_none) (pe_slice (u_sl (K := K) rfl) (pv 9) po_none (po_some (pv 13)))) (pa_cons (pv 9) (pa_cons (pe_op (u_add (K := K) rfl) (pv 9) (pv 9)) pa_nil)))))) (pg_name (i := 14) scw_law.nd rfl (by first | exact Or.inl rfl | exact Or.inr rfl)) (pss_cons (ps_set (i := 15) scw_law.nd rfl (by first | exact Or.inl rfl | exact Or.inr rfl) (pe_op (u_add (K := K) rfl) pe_int (pe_callTy u_int (by rfl) T.z_int (by decide +kernel) (pa_cons (pe_cmpR op_gt (pe_callB (u_len (K := K) rfl) (by rfl) T.z_len (by decide +kernel) (pa_cons (pv 14) pa_nil)) (pe_callB (u_len (K := K) rfl) (by rfl) T.z_len (by decide +kernel) (pa_cons (pv 9) pa_nil)) (nomark _)) pa_nil))))
      (pss_one (ps_if (pt_not (pt_val (pg_call (ow__law_alike T) (fun _ => hg) (hr.mono (by decide)) (by rfl) T.g__law_alike T.d__law_alike.kp (pa_cons (pe_lst (pa_cons (pf_call (ow_winds T) (hr.mono (by decide)) (by rfl) T.g_winds T.d_winds.kp (pa_cons (pv 7) (pa_cons (pv 14) pa_nil))) (pa_cons (pf_call (ow__law_heard T) (hr.mono (by decide)) (by rfl) T.g__law_heard T.d__law_heard.kp (pa_cons (pv 7) (pa_cons (pv 5) (pa_cons (pv 14) pa_nil)))) pa_nil))) (pa_cons (pe_lst (pa_cons (pe_op u_mul (pv 15) (pe_ix (k_ixS (K := K) rfl) (pv 11) pe_int (fun _ _ => rfl))) (pa_cons (pe_ix (k_ixS (K := K) rfl) (pv 11) pe_int (fun _ _ => rfl)) pa_nil))) pa_nil))))) (pss_one (ps_ret pe_bl)) pss_nil))))
      (pss_cons (ps_if (PW.pt (pw_or (pt_cmpR (u_ne (K := K) rfl hr.units) (pe_callB (k_repr (K := K) (k := 0) rfl hg (hr.mono (by decide))) (by rfl) T.z_repr (by decide +kernel) (pa_cons (pv 9) pa_nil)) (pv 10) (nomark _)) (pw_or1 (pt_cmpR op_lt (pf_call (ow_winds T) (hr.mono (by decide)) (by rfl) T.g_winds T.d_winds.kp (pa_cons (pv 7) (pa_cons (pv 9) pa_nil))) pe_int (nomark _))))) (pss_one (ps_ret pe_bl)) pss_nil)
      (pss_one (ps_if (pt_not (pt_val (pg_call (ow__law_by_turns T) (fun _ => hg) (hr.mono (by decide)) (by rfl) T.g__law_by_turns T.d__law_by_turns.kp (pa_cons (pv 1) (pa_cons (pv 7) (pa_cons (pv 4) (pa_cons (pe_tup (pa_cons (pv 5) (pa_cons (pv 6) pa_nil))) (pa_cons (pv 9) pa_nil)))))))) (pss_one (ps_ret pe_bl)) pss_nil)))))))))
      (pss_cons (ps_if (pt_cmpR (u_ne (K := K) rfl hr.units) (pf_call (ow__law_heard T) (hr.mono (by decide)) (by rfl) T.g__law_heard T.d__law_heard.kp (pa_cons (pv 7) (pa_cons (pe_op (u_add (K := K) rfl) (pv 5) (pe_lst (pa_cons pe_int pa_nil))) (pa_cons (pe_lst (pa_cons pe_int pa_nil)) pa_nil)))) (pe_lst (pa_cons pe_str (pa_cons pe_non pa_nil))) (nomark _)) (pss_one (ps_ret pe_bl)) pss_nil)
      (pss_cons (ps_if (PW.pt (pw_and (pt_cmpR op_gt (pv 3) pe_int (nomark _)) (pw_and1 (pt_cmpR (u_ne (K := K) rfl hr.units) (pf_call (ow__law_heard T) (hr.mono (by decide)) (by rfl) T.g__law_heard T.d__law_heard.kp (pa_cons (pv 7) (pa_cons (pe_slice (u_sl (K := K) rfl) (pv 5) (po_some pe_int) po_none) (pa_cons (pe_lst (pa_cons pe_int pa_nil)) pa_nil)))) (pe_lst (pa_cons pe_str (pa_cons pe_non pa_nil))) (nomark _))))) (pss_one (ps_ret pe_bl)) pss_nil)
      (pss_cons (ps_set (i := 9) scw_law.nd rfl (by first | exact Or.inl rfl | exact Or.inr rfl) (pf_call (ow__law_ring T) (hr.mono (by decide)) (by rfl) T.g__law_ring T.d__law_ring.kp (pa_cons (pv 1) (pa_cons (pv 3) pa_nil))))
      (pss_cons (ps_par (i := 15) (j := 11) (by rfl) scw_law.nd rfl rfl (by decide) rfl rfl (pa_cons (pe_op op_fdivW pe_int (pe_callB (u_len (K := K) rfl) (by rfl) T.z_len (by decide +kernel) (pa_cons (pv 9) pa_nil))) (pa_cons (pf_call (ow__law_bound_of T) (hr.mono (by decide)) (by rfl) T.g__law_bound_of T.d__law_bound_of.kp (pa_cons (pv 4) (pa_cons (pv 5) (pa_cons (pv 9) pa_nil)))) pa_nil)) (by rfl))
      (pss_cons (ps_set (i := 16) scw_law.nd rfl (by first | exact Or.inl rfl | exact Or.inr rfl) (pe_lst (pa_cons (pf_call (ow_winds T) (hr.mono (by decide)) (by rfl) T.g_winds T.d_winds.kp (pa_cons (pv 7) (pa_cons (pe_op u_mul (pv 9) (pv 15)) pa_nil))) (pa_cons (pf_call (ow_bound T) (hr.mono (by decide)) (by rfl) T.g_bound T.d_bound.kp (pa_cons (pv 7) (pa_cons (pf_make (ok_Needs___init__ T) (hr.mono (by decide)) T.mk_Needs (by rfl) T.g_Needs (pa_cons (pv 5) pa_nil)) (pa_cons (pe_op u_mul (pv 9) (pv 15)) pa_nil)))) pa_nil))))
      (pss_one (ps_if (pt_cmpR (u_ne (K := K) rfl hr.units) (pv 16) (pe_lst (pa_cons (pe_op u_mul (pv 15) (pf_call (ow__law_wound T) (hr.mono (by decide)) (by rfl) T.g__law_wound T.d__law_wound.kp (pa_cons (pv 4) (pa_cons (pv 9) pa_nil)))) (pa_cons (pv 11) pa_nil))) (nomark _)) (pss_one (ps_ret pe_bl)) pss_nil))))))))))))
      (pss_one (ps_ret (pe_cmpR (u_eq (K := K) rfl hr.units) (pe_lst (pa_cons (pf_call (ow_winds T) (hr.mono (by decide)) (by rfl) T.g_winds T.d_winds.kp (pa_cons (pf_make (ok_Clock___init__ T) (hr.mono (by decide)) T.mk_Clock (by rfl) T.g_Clock (pa_cons (pe_lst (pa_cons pe_int pa_nil)) pa_nil)) (pa_cons (pe_lst (pa_cons pe_int (pa_cons pe_int pa_nil))) pa_nil))) (pa_cons (pf_call (ow_bound T) (hr.mono (by decide)) (by rfl) T.g_bound T.d_bound.kp (pa_cons (pf_make (ok_Clock___init__ T) (hr.mono (by decide)) T.mk_Clock (by rfl) T.g_Clock (pa_cons (pe_lst (pa_cons pe_int pa_nil)) pa_nil)) (pa_cons (pf_make (ok_Needs___init__ T) (hr.mono (by decide)) T.mk_Needs (by rfl) T.g_Needs (pa_cons (pe_lst (pa_cons pe_int pa_nil)) pa_nil)) (pa_cons (pe_lst (pa_cons pe_int (pa_cons pe_int pa_nil))) pa_nil)))) pa_nil))) (pe_lst (pa_cons pe_int (pa_cons pe_int pa_nil))) (nomark _)))))),
    (simS_seq (simS_set (i := 1) (sim_NS (sim_call okN (simA_cons (sim_var rfl) simA_nil))))
      (simS_seq (simS_for (ts := [.sh, .sh, .no, .no, .no, .no, .no, .no, .no, .no, .no, .no, .no, .no, .no, .no, .no]) (simI_rng1 (simAW_cons (sim_NW sim_int) simAW_nil)) (simG_name (i := 2)) (simS_seq (simS_set (i := 3) (sim_NS (sim_op okN ops_add (sim_NW sim_int) (sim_NW (sim_call okN (simA_cons (sim_var rfl) (simA_cons (sim_op okS ops_ix (sim_NW (sim_lst (simA_cons (sim_NS sim_int) (simA_cons (sim_NS sim_int) (simA_cons (sim_NS sim_int) (simA_cons (sim_NS sim_int) (simA_cons (sim_NS sim_int) (simA_cons (sim_NS sim_int) simA_nil)))))))) (sim_SW (sim_var rfl))) simA_nil)))))))
      (simS_seq (simS_par3 (i := 4) (j := 5) (m := 6) (k := false) (l := false) (o := false) (sim_NS (sim_call okN (simA_cons (sim_var rfl) (simA_cons (sim_var rfl) simA_nil)))) (sim_NS (sim_call okN (simA_cons (sim_var rfl) (simA_cons (sim_var rfl) simA_nil)))) (sim_NS (sim_call okN (simA_cons (sim_var rfl) (simA_cons (sim_var rfl) simA_nil)))))
      (simS_seq (simS_set (i := 7) (sim_NS (sim_call okN (simA_cons (sim_var rfl) (simA_cons (sim_var rfl) simA_nil)))))
      (simS_seq (simS_for (ts := [.sh, .sh, .sh, .sh, .sh, .sh, .sh, .sh, .no, .no, .no, .no, .no, .no, .no, .no, .no]) (simI_rng1 (simAW_cons (sim_NW sim_int) simAW_nil)) (simG_name (i := 8)) (simS_seq (simS_setND (i := 9) (sim_call okN (simA_cons (sim_var rfl) (simA_cons (sim_var rfl) simA_nil))))
      (simS_seq (simS_par (i := 10) (j := 11) (k := false) (l := false) (sim_NS (sim_scal (sim_NS (sim_cb okN cas_repr (simAW_cons (sim_SW (sim_var rfl)) simAW_nil))))) (sim_NS (sim_lst (simA_cons (sim_NS (sim_scal (sim_NS (sim_call okN (simA_cons (sim_var rfl) (simA_cons (sim_var rfl) simA_nil)))))) (simA_cons (sim_NS (sim_lst (simA_cons (sim_NS sim_str) (simA_cons (sim_NS (sim_scal (sim_NS (sim_call okN (simA_cons (sim_var rfl) (simA_cons (sim_var rfl) (simA_cons (sim_var rfl) simA_nil))))))) simA_nil)))) simA_nil)))))
      (simS_seq (simS_if (simT_val (simT_test (sim_NS (sim_op okN ops_ne (sim_NW (sim_cb okN cas_sum (simAW_cons (sim_NW (sim_lc (vs := [12]) (simI_rng1 (simAW_cons (sim_NW (sim_cb okN cas_len (simAW_cons (sim_SW (sim_var rfl)) simAW_nil))) simAW_nil)) (simG_name (i := 12)) simT_yes (sim_NS (sim_call okN (simA_cons (sim_var rfl) (simA_cons (sim_op okS ops_ix (sim_SW (sim_var rfl)) (sim_NW (sim_op okN (ops_I0 (g := fun i j => i - j)) (sim_SW (sim_var rfl)) (sim_NW sim_int)))) (simA_cons (sim_op okS ops_ix (sim_SW (sim_var rfl)) (sim_SW (sim_var rfl))) simA_nil))))))) simAW_nil))) (sim_NW (sim_op okN ops_mul (sim_SW (sim_op okS ops_ix (sim_SW (sim_var rfl)) (sim_NW sim_int))) (sim_SW (sim_var rfl)))))))) (simS_ret okN sim_bl) simS_nil)
      (simS_seq (simS_set (i := 13) (sim_NS (sim_call okN (simA_cons (sim_var rfl) (simA_cons (sim_NS (sim_scal (sim_NS (sim_cb okN cas_len (simAW_cons (sim_SW (sim_var rfl)) simAW_nil))))) simA_nil)))))
      (simS_seq (ts1 := [.sh, .sh, .sh, .sh, .sh, .sh, .sh, .sh, .sh, .od, .sh, .sh, .no, .sh, .no, .no, .no]) (simS_borrow (ls := [9]) (is := [14, 15]) (ks := []) (ts2 := [.sh, .sh, .sh, .sh, .sh, .sh, .sh, .sh, .sh, .sh, .sh, .sh, .no, .sh, .no, .no, .no]) (simS_for (ts := [.sh, .sh, .sh, .sh, .sh, .sh, .sh, .sh, .sh, .sh, .sh, .sh, .no, .sh, .no, .no, .no]) (simI_seq (lp := true) (sim_NS (sim_tup (simA_cons (sim_var rfl) (simA_cons (sim_NS (sim_op okN ops_add (sim_NW (sim_sl (sim_SW (sim_var rfl)) (simO_some (sim_SW (sim_var rfl))) simO_none)) (sim_NW (sim_sl (sim_SW (sim_var rfl)) simO_none (simO_some (sim_SW (sim_var rfl))))))) (simA_cons (sim_var rfl) (simA_cons (sim_NS (sim_op okN ops_add (sim_SW (sim_var rfl)) (sim_SW (sim_var rfl)))) simA_nil))))))) (simG_name (i := 14)) (simS_seq (simS_set (i := 15) (sim_NS (sim_op okN ops_add (sim_NW sim_int) (sim_NW (sim_cb okN cas_int (simAW_cons (sim_NW (sim_op okN (ops_IB (g := fun i j => decide (j < i))) (sim_NW (sim_cb okN cas_len (simAW_cons (sim_SW (sim_var rfl)) simAW_nil))) (sim_NW (sim_cb okN cas_len (simAW_cons (sim_SW (sim_var rfl)) simAW_nil))))) simAW_nil))))))
      (simS_if (simT_not (simT_B (sim_NS (sim_call okN (simA_cons (sim_NS (sim_lst (simA_cons (sim_NS (sim_call okN (simA_cons (sim_var rfl) (simA_cons (sim_var rfl) simA_nil)))) (simA_cons (sim_NS (sim_call okN (simA_cons (sim_var rfl) (simA_cons (sim_var rfl) (simA_cons (sim_var rfl) simA_nil))))) simA_nil)))) (simA_cons (sim_NS (sim_lst (simA_cons (sim_NS (sim_op okN ops_mul (sim_SW (sim_var rfl)) (sim_SW (sim_op okS ops_ix (sim_SW (sim_var rfl)) (sim_NW sim_int))))) (simA_cons (sim_op okS ops_ix (sim_SW (sim_var rfl)) (sim_NW sim_int)) simA_nil)))) simA_nil)))))) (simS_ret okN sim_bl) simS_nil)) rfl) (by repeat first | exact kp_next | exact kp_ret | exact kp_retN | exact kp_drop | exact kp_break | exact kp_cont | exact kp_never | exact kg_nil | exact kg_name (by decide) | exact kp_par (by decide) (by decide) | exact kp_aug (by decide) | refine kp_seq ?_ ?_ | refine kp_if ?_ ?_ | refine kp_asg ?_ | refine kp_asgx ?_ | refine kg_tup ?_ | refine kg_cons ?_ ?_ | refine kp_for ?_ ?_ | refine kp_cut ?_ ?_) rfl rfl)
      (simS_seq (simS_if (simT_val (simT_or (simT_test (sim_NS (sim_op okN ops_ne (sim_NW (sim_cb okN cas_repr (simAW_cons (sim_SW (sim_var rfl)) simAW_nil))) (sim_SW (sim_var rfl))))) (simT_test (sim_NS (sim_op okN (ops_IB (g := fun i j => decide (i < j))) (sim_NW (sim_call okN (simA_cons (sim_var rfl) (simA_cons (sim_var rfl) simA_nil)))) (sim_NW sim_int)))))) (simS_ret okN sim_bl) simS_nil)
      (simS_ifC (ts0 := [.sh, .sh, .sh, .sh, .sh, .sh, .sh, .sh, .sh, .no, .sh, .sh, .no, .sh, .no, .no, .no]) (simTC_not (simTC_call (i := 9) rfl (simAC_cons (sim_var rfl) (simAC_cons (sim_var rfl) (simAC_cons (sim_var rfl) (simAC_cons (sim_NS (sim_tup (simA_cons (sim_var rfl) (simA_cons (sim_var rfl) simA_nil)))) (simAC_last (i := 9) rfl))))))) (simS_ret okN sim_bl) simS_nil))))))) rfl)
      (simS_seq (simS_if (simT_test (sim_NS (sim_op okN ops_ne (sim_NW (sim_call okN (simA_cons (sim_var rfl) (simA_cons (sim_NS (sim_op okN ops_add (sim_SW (sim_var rfl)) (sim_NW (sim_lst (simA_cons (sim_NS sim_int) simA_nil))))) (simA_cons (sim_NS (sim_lst (simA_cons (sim_NS sim_int) simA_nil))) simA_nil))))) (sim_NW (sim_lst (simA_cons (sim_NS sim_str) (simA_cons (sim_NS sim_non) simA_nil))))))) (simS_ret okN sim_bl) simS_nil)
      (simS_seq (simS_if (simT_and (simT_test (sim_NS (sim_op okN (ops_IB (g := fun i j => decide (j < i))) (sim_SW (sim_var rfl)) (sim_NW sim_int)))) (simT_test (sim_NS (sim_op okN ops_ne (sim_NW (sim_call okN (simA_cons (sim_var rfl) (simA_cons (sim_NS (sim_sl (sim_SW (sim_var rfl)) (simO_some (sim_NW sim_int)) simO_none)) (simA_cons (sim_NS (sim_lst (simA_cons (sim_NS sim_int) simA_nil))) simA_nil))))) (sim_NW (sim_lst (simA_cons (sim_NS sim_str) (simA_cons (sim_NS sim_non) simA_nil)))))))) (simS_ret okN sim_bl) simS_nil)
      (simS_seq (simS_setND (i := 9) (sim_call okN (simA_cons (sim_var rfl) (simA_cons (sim_var rfl) simA_nil))))
      (simS_seq (simS_par (i := 15) (j := 11) (k := false) (l := false) (sim_NS (sim_op okN (ops_II (C := CDivW) (g := fun i j => i / j)) (sim_NW sim_int) (sim_NW (sim_scal (sim_NS (sim_cb okN cas_len (simAW_cons (sim_SW (sim_var rfl)) simAW_nil))))))) (sim_NS (sim_scal (sim_NS (sim_call okN (simA_cons (sim_var rfl) (simA_cons (sim_var rfl) (simA_cons (sim_var rfl) simA_nil))))))))
      (simS_seq (simS_set (i := 16) (sim_NS (sim_lst (simA_cons (sim_NS (sim_scal (sim_NS (sim_call okN (simA_cons (sim_var rfl) (simA_cons (sim_NS (sim_op okN ops_mul (sim_SW (sim_var rfl)) (sim_SW (sim_var rfl)))) simA_nil)))))) (simA_cons (sim_NS (sim_scal (sim_NS (sim_call0 okN (simA_cons (sim_var rfl) (simA_cons (sim_NS (sim_make (c := .Needs) mk_Needs (simA_cons (sim_var rfl) simA_nil))) (simA_cons (sim_NS (sim_op okN ops_mul (sim_SW (sim_var rfl)) (sim_SW (sim_var rfl)))) simA_nil))))))) simA_nil)))))
      (simS_if (simT_val (simT_test (sim_NS (sim_op okN ops_ne (sim_SW (sim_var rfl)) (sim_NW (sim_lst (simA_cons (sim_NS (sim_op okN ops_mul (sim_SW (sim_var rfl)) (sim_NW (sim_call okN (simA_cons (sim_var rfl) (simA_cons (sim_var rfl) simA_nil)))))) (simA_cons (sim_var rfl) simA_nil)))))))) (simS_ret okN sim_bl) simS_nil)))))))))) rfl)
      (simS_ret okN (sim_op okN ops_eq (sim_NW (sim_lst (simA_cons (sim_NS (sim_call okN (simA_cons (sim_NS (sim_make (c := .Clock) mk_Clock (simA_cons (sim_NS (sim_lst (simA_cons (sim_NS sim_int) simA_nil))) simA_nil))) (simA_cons (sim_NS (sim_lst (simA_cons (sim_NS sim_int) (simA_cons (sim_NS sim_int) simA_nil)))) simA_nil)))) (simA_cons (sim_NS (sim_call0 okN (simA_cons (sim_NS (sim_make (c := .Clock) mk_Clock (simA_cons (sim_NS (sim_lst (simA_cons (sim_NS sim_int) simA_nil))) simA_nil))) (simA_cons (sim_NS (sim_make (c := .Needs) mk_Needs (simA_cons (sim_NS (sim_lst (simA_cons (sim_NS sim_int) simA_nil))) simA_nil))) (simA_cons (sim_NS (sim_lst (simA_cons (sim_NS sim_int) (simA_cons (sim_NS sim_int) simA_nil)))) simA_nil))))) simA_nil)))) (sim_NW (sim_lst (simA_cons (sim_NS sim_int) (simA_cons (sim_NS sim_int) simA_nil))))))))⟩
end
section
variable [TabC]
local macro_rules | `(tactic| walk_at "wz") => `(tactic| ((try dsimp only); try simp only [wTry, wRaise0, wLstD, wRetEx, wSetE, wMutD, wPE, wVarD, wMutP, wSetND, plainP, wTryC, noEX, wCallX, wMethX, wRaise, wIsX, wExF, wDefX, wDef, wSeq, wCut, wSet, wSetO, wPar, wPar3, wTupO, wAsg, wAug, wAugS, wSub, wSubN, wMut, wDrop, wRet, wIfS, wFor, wVar, wC, wOp, wUn, wNeg, wII, wI0, wIB, wAdd, wMul, wIsN, wIx, wTest, wTand, wTor, wTnot, wTyes, wAndV, wOrV, wNotV, wIf, wChain, wChain3, wNil, wCons, wLst, wTup, wNL, wScal, wSl, wNoPart, wPart, wSl1, wRev, wRevT, wFld, wFldC, wCB, wLen, wListOf, wTupOf, wAbs, wInt1, wMin2, wMax2, wStrI, wCall, wCallL, wMeth, wProp, wStat, wOwn, wOwnNe, wOwnI, wOwnR, wIxO, wLenO, wEq, wNe, wInT, wIsB, wIsnB, wLstRg, wMakeK, wMakeKg, wDict3, wSeqI, wEnum, wZip, wRng1, wRng2, wgName, wgSub, wgNil, wgCons, wgTup, wgLst, wListZip, wAppend, wExtend, wInsert, wClear, wLc, wLc2, wIsi, wIsiT, isL, tyP, notL, scalP, and_true, true_and, if_true, Bool.true_eq_false, Bool.false_eq_true, if_false, reduceIte, reduceCtorEq, false_implies, implies_true, List.set, List.replicate, List.cons_append, List.nil_append, List.append_nil, List.getD_cons_zero, List.getD_cons_succ, List.length_cons, List.length_nil, List.length_map, Nat.reduceAdd, Nat.reduceLeDiff, Bool.and_self, Bool.not_true, Bool.not_false, Bool.not_not, decide_true, decide_false, SimP.isLs, putR, rep1, List.set_cons_zero, List.set_cons_succ, at0, at1, at2, at3, at4, Option.some.injEq, exists_eq_left', stP]))
local macro_rules | `(tactic| walk_at "s1") => `(tactic| first | omega | exact fun _ => ⟨_, rfl⟩ | exact ⟨_, rfl⟩ | exact trivial | (intro q; exact nomatch q) | decide | (refine ⟨?_, ?_⟩ <;> first | omega | exact fun _ => ⟨_, rfl⟩ | exact ⟨_, rfl⟩ | (intro q; exact nomatch q)) | (refine ⟨?_, ?_, ?_⟩ <;> first | omega | exact fun _ => ⟨_, rfl⟩ | exact ⟨_, rfl⟩ | (intro q; exact nomatch q)) | (simp only [List.length_map, List.length_range, List.length_append, List.length_singleton, List.length_take, List.length_drop, List.nil_append]; omega))
local macro_rules | `(tactic| walk_at "sd") => `(tactic| repeat ((with_reducible refine And.intro ?_ ?_); · walk_at "s1"))
theorem p_is_integer {P : PV → Prop} {i : Int} (p : P (.bl true)) : w_is_integer [.int i] P := by
  unfold w_is_integer t_is_integer
  walk_at "wz"
  refine ⟨"int", true, rfl, by decide +kernel, ?_⟩
  walk_at "wz"
  exact ⟨"int", false, rfl, by decide +kernel, p⟩
theorem p_is_hour {P : PV → Prop} {n i : Int} (p : P (.bl (decide (0 ≤ i) && decide (i < n)))) : w_is_hour [.int n, .int i] P := by
  unfold w_is_hour t_is_hour
  walk_at "wz"
  refine p_is_integer ?_
  walk_at "wz"
  refine r_ite (fun h => ?_) (fun h => ?_)
  · rw [decide_eq_true h] at p
    exact p
  · rw [decide_eq_false h] at p
    exact p
theorem p__law_alike {P : PV → Prop} {x : PV} {w k : Nat} (h : PvD x w k) (hw : w ≤ 300000) (hk : k ≤ 64) (p : P (.bl true)) : w__law_alike [x, x] P := by
  obtain ⟨e, h1, h2, h3⟩ := h.shaped hk
  exact ⟨x, x, e, w, rfl, h1, h1, h2, h3, hw, p⟩
theorem p__law_ring {P : PV → Prop} {n : Nat} (h1 : 1 ≤ n) (h2 : n ≤ 48) (p : ∀ r : List Int, r ≠ [] → r.length ≤ 96 → (∀ k ∈ r, 0 ≤ k ∧ k < (n : Int)) → P (.lst (iL r))) : w__law_ring [.bag, .int (n : Int)] P := by
  have hn : (0 : Int) < n := by omega
  have done : ∀ z : Int, 0 ≤ z → z < 2 * (n : Int) → ∀ ns : List Int, ns.length = (List.range (1 + z).toNat).length → (∀ k ∈ ns, 0 ≤ k ∧ k < (n : Int)) → P (.lst (iL ns)) := fun z z0 z1 ns hl hk => by
    rw [List.length_range] at hl
    exact p ns (fun e => by rw [e, List.length_nil] at hl; omega) (by omega) hk
  unfold w__law_ring t__law_ring
  walk_at "wz"
  refine tk (by decide) (by decide) fun w _ _ => ⟨.inr (.inl (by decide)), tk (by omega) (by omega) fun z z0 z1 => tk (by omega) (by omega) fun h h0 h1' => ?_⟩
  walk_at "wz"
  have hlen : (rangeP 0 (1 + z).toNat).length ≤ 100000 := by rw [rangeP0, List.length_map, List.length_range]; omega
  refine r_ite (fun _ => p [h] (by simp) (by simp) (fun k hk => by rw [List.mem_singleton.mp hk]; exact ⟨h0, h1'⟩)) (fun _ => ?_)
  refine r_ite (fun _ => ?_) (fun _ => r_ite (fun _ => ?_) (fun _ => ?_))
  · refine ⟨by omega, by omega, hlen, ?_⟩
    rw [rangeP0]
    refine lcm (fun (i : Nat) => .int ((h + (i : Int)) % (n : Int))) (fun i _ Kt hk => ?_) ?_
    · walk_at "wz"
      exact ⟨hn, hk⟩
    · have := done z z0 z1 ((List.range (1 + z).toNat).map fun (i : Nat) => (h + (i : Int)) % (n : Int)) (by rw [List.length_map]) (fun k hk => by
        obtain ⟨i, _, rfl⟩ := List.mem_map.mp hk
        exact ⟨Int.emod_nonneg _ (by omega), Int.emod_lt_of_pos _ hn⟩)
      simp only [iL, List.map_map] at this
      exact this
  · refine ⟨by omega, by omega, hlen, ?_⟩
    rw [rangeP0]
    refine lcm (fun (i : Nat) => .int ((h - (i : Int)) % (n : Int))) (fun i _ Kt hk => ?_) ?_
    · walk_at "wz"
      exact ⟨hn, hk⟩
    · have := done z z0 z1 ((List.range (1 + z).toNat).map fun (i : Nat) => (h - (i : Int)) % (n : Int)) (by rw [List.length_map]) (fun k hk => by
        obtain ⟨i, _, rfl⟩ := List.mem_map.mp hk
        exact ⟨Int.emod_nonneg _ (by omega), Int.emod_lt_of_pos _ hn⟩)
      simp only [iL, List.map_map] at this
      exact this
  · refine ⟨by omega, by omega, hlen, lci (fun k => 0 ≤ k ∧ k < (n : Int)) (fun x _ Kt hk => ?_) fun ns hl hr => ?_⟩
    · walk_at "wz"
      exact tk (by omega) (by omega) fun k k0 k1 => hk k ⟨k0, k1⟩
    · rw [rangeP0, List.length_map] at hl
      exact done z z0 z1 ns hl hr
theorem bor {ls is ks : List Nat} {w : WS} {D : WEnds} {ρ : List PV} (hl : ∀ i ∈ ls, isLst (ρ.getD i .non) = true) (J : List PV → Prop) (h : ∀ N : List PV → Prop, (∀ ρ', J ρ' → N ρ') → w { nx := N, rt := D.rt } ρ) (q : ∀ ρ2, J ρ2 → flks ks ρ2 = true ∧ D.nx (mixV (is ++ ks) 0 ρ ρ2)) : wBorrow ls is ks w D ρ :=
  ⟨hl, h _ q⟩
theorem p_need_alikeX {P : PV → Prop} {EX : En → Fs → Prop} {s d : List Int} (g : Good s) (gd : GoodN d) (p : d.length = s.length → P .non) (e : d.length ≠ s.length → EX .Unlike []) : w_need_alike [clkP s, ndP d] P EX := by
  unfold w_need_alike t_need_alike
  refine ⟨rfl, ?_⟩
  walk_at "wz"
  refine ⟨⟨_, rfl⟩, s, rfl, g, ⟨_, rfl⟩, d, rfl, gd, ?_⟩
  walk_at "wz"
  exact r_itn (fun z => e (by omega)) fun z => p (by omega)
theorem p_boundX {P : PV → Prop} {EX : En → Fs → Prop} {s d q : List Int} (g : Good s) (gd : GoodN d) (q0 : q ≠ []) (ql : q.length ≤ 5000) (qh : ∀ k ∈ q, 0 ≤ k ∧ k < (s.length : Int)) (p : d.length = s.length → P (.int (ringB s d q))) (e : d.length ≠ s.length → EX .Unlike []) : w_bound [clkP s, ndP d, .lst (iL q)] P EX := by
  unfold w_bound t_bound
  refine ⟨rfl, ?_⟩
  refine seq_two (fun ρ => d.length = s.length ∧ ρ = [clkP s, ndP d, .lst (iL q)]) (fun N hN => ?_) (fun ρ hρ => ?_)
  · walk_at "wz"
    exact p_need_alikeX g gd (fun h => hN _ ⟨h, rfl⟩) e
  obtain ⟨h, rfl⟩ := hρ
  walk_at "wz"
  exact ⟨s, d, q, rfl, g, gd, h, q0, ql, qh, p h⟩
theorem p__law_heard31 {P : PV → Prop} {s t q : List Int} (g : Good s) (gt : GoodN t) (q0 : q ≠ []) (ql : q.length ≤ 5000) (qh : ∀ k ∈ q, 0 ≤ k ∧ k < (s.length : Int)) (p : t.length = s.length → P (.lst [.str "told", .int (ringB s t q)])) (e : t.length ≠ s.length → P (.lst [.str "unlike", .non])) : w__law_heard [clkP s, .lst (iL t), .lst (iL q)] P := by
  unfold w__law_heard t__law_heard
  walk_at "wz"
  refine ⟨_, t, rfl, .inl rfl, gt, ?_⟩
  refine p_boundX g gt q0 ql qh (fun h => ?_) (fun h => ?_)
  · walk_at "wz"
    exact p h
  · walk_at "wz"
    exact e h
theorem p_step_hours31 {P : PV → Prop} {s : List Int} {h k : Int} (g : Good s) (h0 : 0 ≤ h) (h1 : h < (s.length : Int)) (k0 : 0 ≤ k) (k1 : k < (s.length : Int)) (p : P (.int (stp s h k))) : w_step_hours [clkP s, .int h, .int k] P := by
  unfold w_step_hours t_step_hours
  refine ⟨rfl, ?_⟩
  refine seq_two (fun ρ => ∃ u, ρ = [clkP s, .int h, .int k, u, .non]) (fun N hN => ?_) (fun ρ hρ => ?_)
  · walk_at "wz"
    have hm : ∀ y ∈ [PV.int h, .int k], ∃ m, y = .int m ∧ 0 ≤ m ∧ m < (s.length : Int) := by
      intro y hy
      simp only [List.mem_cons, List.not_mem_nil, or_false] at hy
      rcases hy with rfl | rfl
      · exact ⟨_, rfl, h0, h1⟩
      · exact ⟨_, rfl, k0, k1⟩
    refine forv (fun i ρ => ∃ u, ρ = [clkP s, .int h, .int k, u, .non]) ⟨_, rfl⟩ (fun i z ρ N' hz hI hN' => ?_) (fun ρ hI => hN _ hI)
    obtain ⟨u, rfl⟩ := hI
    obtain ⟨m, rfl, m0, m1⟩ := hm z (List.mem_of_getElem? hz)
    walk_at "wz"
    refine ⟨⟨_, rfl⟩, s, rfl, g, p_is_hour ?_⟩
    rw [decide_eq_true m0, decide_eq_true m1]
    walk_at "wz"
    exact hN' _ ⟨_, rfl⟩
  obtain ⟨u, rfl⟩ := hρ
  walk_at "wz"
  refine ⟨⟨_, rfl, rfl⟩, s, rfl, g, ?_⟩
  have hk : k.toNat < s.length := by omega
  have ek : ((k.toNat : Nat) : Int) = k := by omega
  have ei : L2.atI (iL (wds s)) k = some (.int (wd s k)) := by
    rw [← ek]
    refine atI_nat ?_
    unfold iL wds
    rw [List.map_map, List.getElem?_map, List.getElem?_range hk]
    rfl
  refine ⟨_, ei, ?_⟩
  walk_at "wz"
  refine ⟨⟨_, rfl⟩, s, rfl, g, ?_⟩
  walk_at "wz"
  have gn := g.ne
  exact ⟨by omega, p⟩
theorem p__law_wants {P : PV → Prop} {n : Nat} (h1 : 1 ≤ n) (h2 : n ≤ 48) (p : ∀ t : List Int, t.length = n → GoodN t → (∀ z ∈ t, 0 ≤ z ∧ z < 10 ^ 30) → P (.lst (iL t))) : w__law_wants [.bag, .int (n : Int)] P :=
  ⟨n, rfl, h1, h2, fun s hl hs => p s hl (good_of_mem hl h1 h2 hs) hs⟩
theorem hops_app {s : List Int} : ∀ (q r : List Int) (h : Int), hops s h (q ++ r) = hops s h q + hops s (lastH h q) r
  | [], r, h => by show _ = 0 + _; rw [Int.zero_add]; rfl
  | k :: q, r, h => by
    show stp s h k + hops s k (q ++ r) = stp s h k + hops s k q + hops s (lastH k q) r
    rw [hops_app q r k, Int.add_assoc]
theorem lastH_app {q r : List Int} {h : Int} : lastH h (q ++ r) = lastH (lastH h q) r := by
  induction q generalizing h with
  | nil => rfl
  | cons a q ih => exact ih
def rep {α : Type} (n : Nat) (q : List α) : List α := (List.replicate n q).flatten
theorem rep_succ {α : Type} {n : Nat} {q : List α} : rep (n + 1) q = q ++ rep n q := by unfold rep; rw [List.replicate_succ, List.flatten_cons]
theorem last_rep {q : List Int} (hq : q ≠ []) {h : Int} : ∀ n : Nat, lastH h (rep (n + 1) q) = lastH 0 q
  | 0 => by rw [rep_succ]; show lastH h (q ++ []) = _; rw [List.append_nil]; exact lastH_ne hq
  | n + 1 => by rw [rep_succ, lastH_app]; exact last_rep hq n
theorem hops_rep {s q : List Int} (hq : q ≠ []) : ∀ n : Nat, hops s (lastH 0 q) (rep n q) = n * hops s (lastH 0 q) q
  | 0 => by show (0 : Int) = _; rw [show ((0 : Nat) : Int) = 0 from rfl, Int.zero_mul]
  | n + 1 => by
    rw [rep_succ, hops_app, lastH_ne (h := lastH 0 q) (h' := 0) hq, hops_rep hq n, Int.natCast_succ, Int.add_mul, Int.one_mul, Int.add_comm]
theorem wnd_rep {s q : List Int} (g : Good s) (hq : q ≠ []) {n : Nat} (hn : 1 ≤ n) : wnd s (rep n q) = n * wnd s q := by
  obtain ⟨m, rfl⟩ : ∃ m, n = m + 1 := ⟨n - 1, by omega⟩
  obtain ⟨e, _⟩ := wnd_eq g hq
  have gn := g.ne
  show hops s (lastH 0 (rep (m + 1) q)) (rep (m + 1) q) / (s.length : Int) = _
  rw [last_rep hq m, hops_rep hq, e, ← Int.mul_assoc, Int.mul_comm _ (s.length : Int), Int.mul_assoc, Int.mul_ediv_cancel_left _ (by omega)]
theorem sumD_app {t q r : List Int} : sumD t (q ++ r) = sumD t q + sumD t r := by
  unfold sumD
  rw [List.map_append, List.sum_append_int]
theorem sumD_rep {t q : List Int} : ∀ n : Nat, sumD t (rep n q) = n * sumD t q
  | 0 => by show (0 : Int) = _; rw [show ((0 : Nat) : Int) = 0 from rfl, Int.zero_mul]
  | n + 1 => by rw [rep_succ, sumD_app, sumD_rep n, Int.natCast_succ, Int.add_mul, Int.one_mul, Int.add_comm]
theorem ringB_rep {s t q : List Int} (g : Good s) (hq : q ≠ []) {n : Nat} (hn : 1 ≤ n) : ringB s t (rep n q) = ringB s t q := by
  unfold ringB
  rw [wnd_rep g hq hn, sumD_rep]
  unfold upI
  rw [show -((n : Int) * sumD t q) = n * -sumD t q by rw [Int.mul_neg], Int.mul_ediv_mul_of_pos _ _ (by omega)]
theorem iL_rep {q : List Int} : ∀ n : Nat, rep n (iL q) = iL (rep n q)
  | 0 => rfl
  | n + 1 => by
    rw [rep_succ, rep_succ, iL_rep n]
    unfold iL
    rw [List.map_append]
theorem rep_mem {q : List Int} {n : Nat} {k : Int} (h : k ∈ rep n q) : k ∈ q := by
  unfold rep at h
  simp only [List.mem_flatten, List.mem_replicate] at h
  obtain ⟨l, ⟨_, rfl⟩, h⟩ := h
  exact h
theorem rep_len {α : Type} {n : Nat} {q : List α} : (rep n q).length = n * q.length := by
  unfold rep
  rw [List.length_flatten, List.map_replicate, List.sum_replicate_nat]
theorem wnd_two {s q : List Int} (g : Good s) (hq : q ≠ []) : wnd s (q ++ q) = 2 * wnd s q := by
  have := wnd_rep g hq (n := 2) (by decide)
  rwa [show rep 2 q = q ++ q by rw [rep_succ, rep_succ]; show q ++ (q ++ []) = _; rw [List.append_nil]] at this
theorem ringB_two {s t q : List Int} (g : Good s) (hq : q ≠ []) : ringB s t (q ++ q) = ringB s t q := by
  have := ringB_rep (t := t) g hq (n := 2) (by decide)
  rwa [show rep 2 q = q ++ q by rw [rep_succ, rep_succ]; show q ++ (q ++ []) = _; rw [List.append_nil]] at this
theorem hops_rot {s q r : List Int} (h : q ++ r ≠ []) : hops s (lastH 0 (r ++ q)) (r ++ q) = hops s (lastH 0 (q ++ r)) (q ++ r) := by
  cases q with
  | nil => rw [List.append_nil, List.nil_append]
  | cons a q =>
    cases r with
    | nil => rw [List.append_nil, List.nil_append]
    | cons b r =>
      rw [hops_app, hops_app, lastH_app, lastH_app, Int.add_comm]
      rw [lastH_ne (r := a :: q) (h := lastH 0 (b :: r)) (h' := 0) (by simp), lastH_ne (r := b :: r) (h := lastH 0 (a :: q)) (h' := 0) (by simp)]
      have e1 : ∀ z : Int, lastH z (b :: r) = lastH 0 (b :: r) := fun z => lastH_ne (by simp)
      have e2 : ∀ z : Int, lastH z (a :: q) = lastH 0 (a :: q) := fun z => lastH_ne (by simp)
      simp only [e1, e2]
theorem wnd_rot {s q r : List Int} (h : q ++ r ≠ []) : wnd s (r ++ q) = wnd s (q ++ r) := by
  unfold wnd
  rw [hops_rot h]
theorem ringB_rot {s t q r : List Int} (h : q ++ r ≠ []) : ringB s t (r ++ q) = ringB s t (q ++ r) := by
  unfold ringB
  rw [wnd_rot h, sumD_app, sumD_app, Int.add_comm]
theorem sum_steps {s : List Int} : ∀ (r : List Int) (h : Int), ((List.range r.length).map fun k => stp s (if k = 0 then h else r.getD (k - 1) 0) (r.getD k 0)).sum = hops s h r
  | [], h => rfl
  | k :: r, h => by
    have ih := sum_steps (s := s) r k
    rw [List.length_cons, List.range_succ_eq_map, List.map_cons, List.sum_cons, List.map_map]
    show stp s h k + _ = stp s h k + hops s k r
    rw [← ih]
    congr 2
    refine List.map_congr_left fun j hj => ?_
    show stp s (if j + 1 = 0 then h else (k :: r).getD (j + 1 - 1) 0) ((k :: r).getD (j + 1) 0) = stp s (if j = 0 then k else r.getD (j - 1) 0) (r.getD j 0)
    rw [if_neg (by omega), Nat.add_sub_cancel]
    cases j with
    | zero => rfl
    | succ j => rw [if_neg (by omega), Nat.add_sub_cancel]; rfl
theorem lastH_getD : ∀ {r : List Int} {h : Int}, r ≠ [] → lastH h r = r.getD (r.length - 1) 0
  | [k], h, _ => rfl
  | k :: a :: r, h, _ => by
    show lastH k (a :: r) = _
    rw [lastH_getD (r := a :: r) (h := k) (by simp)]
    rfl
  | [], _, h => absurd rfl h
theorem ringB_bd {s t r : List Int} (g : Good s) (t1 : 1 ≤ t.length) (ht : ∀ z ∈ t, 0 ≤ z ∧ z < 10 ^ 30) (r0 : r ≠ []) (rl : r.length ≤ 5000) : (ringB s t r).natAbs < 10 ^ 40 := by
  have w1 := (wnd_eq g r0).2
  have sb : ∀ q : List Int, 0 ≤ sumD t q ∧ sumD t q ≤ 10 ^ 30 * q.length := fun q => by
    induction q with
    | nil => exact ⟨Int.le_refl _, Int.le_refl _⟩
    | cons k q ih =>
      have c := ht _ (cyc_mem t1 k)
      have e : sumD t (k :: q) = cyc t k + sumD t q := by unfold sumD; rw [List.map_cons, List.sum_cons]
      rw [e, List.length_cons, Int.natCast_succ, Int.mul_add]
      omega
  have b := sb r
  have n0 : 0 ≤ ringB s t r := upI_nn (by omega) b.1
  have n1 : ringB s t r ≤ sumD t r := (upI_le (by omega)).mpr (by have := Int.mul_le_mul_of_nonneg_left w1 b.1; omega)
  have : (10 : Int) ^ 30 * r.length ≤ 10 ^ 30 * 5000 := Int.mul_le_mul_of_nonneg_left (by omega) (by decide)
  omega
def told31 (b : Int) : PV := .lst [.str "told", .int b]
theorem told31_pd {b : Int} (h : b.natAbs < 10 ^ 40) : PvD (told31 b) 402 1 := (pd_lst (n := 2) (w := 200) (k := 0) (fun x hx => by
  simp only [List.mem_cons, List.not_mem_nil, or_false] at hx
  rcases hx with rfl | rfl
  · exact (pd_str (sml_str "told" (n := 4) (by decide))).mono (by decide) (Nat.le_refl _)
  · exact pd_int h) (by simp)).mono (by decide) (by decide)
theorem wnd_bd {s r : List Int} (g : Good s) (r0 : r ≠ []) (rl : r.length ≤ 5000) : (wnd s r).natAbs < 10 ^ 40 := by
  have a := wnd_small g r0 (by omega)
  have b := (wnd_eq g r0).2
  omega
theorem two31_pd {a b : Int} (h : a.natAbs < 10 ^ 40) (h' : b.natAbs < 10 ^ 40) : PvD (.lst [.int a, .int b]) 402 1 := (pd_lst (n := 2) (w := 200) (k := 0) (fun x hx => by
  simp only [List.mem_cons, List.not_mem_nil, or_false] at hx
  rcases hx with rfl | rfl
  · exact pd_int h
  · exact pd_int h') (by simp)).mono (by decide) (by decide)
theorem law31_c0 {s t r : List Int} (g : Good s) (gt : GoodN t) (ht : t.length = s.length) (t30 : ∀ z ∈ t, 0 ≤ z ∧ z < 10 ^ 30) (r0 : r ≠ []) (rl : r.length ≤ 96) (rh : ∀ k ∈ r, 0 ≤ k ∧ k < (s.length : Int)) {D : WEnds} {x0 x3 x5 x6 x8 x9 x10 x11 : PV} (q : D.nx [x0, clkP s, .lst (iL s), x3, .lst (iL r), x5, x6, .lst (iL t), x8, x9, x10, x11]) :
    t__law_by_turns_b0 D [x0, clkP s, .lst (iL s), x3, .lst (iL r), x5, x6, .lst (iL t), x8, x9, x10, x11] := by
  unfold t__law_by_turns_b0
  walk_at "wz"
  refine p__law_heard31 g gt r0 (by omega) rh (fun _ => ?_) (fun e => absurd ht e)
  refine ⟨s, t, r, rfl, g, ht, r0, by omega, rh, ?_⟩
  have n1 := g.ne
  refine p__law_alike (told31_pd (ringB_bd g (by omega) t30 r0 (by omega))) (by decide) (by decide) ?_
  walk_at "wz"
  exact q
theorem p__law_by_turns {P : PV → Prop} {s t u r : List Int} (g : Good s) (gt : GoodN t) (gu : GoodN u) (ht : t.length = s.length) (hu : u.length = s.length) (t30 : ∀ z ∈ t, 0 ≤ z ∧ z < 10 ^ 30) (u30 : ∀ z ∈ u, 0 ≤ z ∧ z < 10 ^ 30) (r0 : r ≠ []) (rl : r.length ≤ 96) (rh : ∀ k ∈ r, 0 ≤ k ∧ k < (s.length : Int)) (p : P (.bl true)) : w__law_by_turns [.bag, clkP s, .lst (iL s), .tup [.lst (iL t), .lst (iL u)], .lst (iL r)] P := by
  have n1 := g.ne
  have n2 := g.le
  unfold w__law_by_turns t__law_by_turns
  refine ⟨rfl, ?_⟩
  refine seq_two (fun ρ => ρ = [.bag, clkP s, .lst (iL s), .tup [.lst (iL t), .lst (iL u)], .lst (iL r), .int (s.length : Int), ndP t, .non, .non, .non, .non, .non]) (fun N hN => ?_) (fun ρ hρ => ?_)
  · walk_at "wz"
    refine ⟨_, t, rfl, .inl rfl, gt, ?_⟩
    walk_at "wz"
    have e : (iL s).length = s.length := by unfold iL; rw [List.length_map]
    first | exact hN _ rfl | (rw [e]; exact hN _ rfl)
  subst hρ
  refine seq_two (fun ρ => ∃ x7, ρ = [.bag, clkP s, .lst (iL s), .tup [.lst (iL t), .lst (iL u)], .lst (iL r), .int (s.length : Int), ndP t, x7, .non, .non, .non, .non]) (fun N hN => ?_) (fun ρ hρ => ?_)
  · walk_at "wz"
    have hm : ∀ y ∈ [PV.lst (iL t), .lst (iL u), .lst (iL t)], ∃ v, y = .lst (iL v) ∧ GoodN v ∧ v.length = s.length ∧ ∀ z ∈ v, 0 ≤ z ∧ z < 10 ^ 30 := by
      intro y hy
      simp only [List.mem_cons, List.not_mem_nil, or_false] at hy
      rcases hy with rfl | rfl | rfl
      · exact ⟨_, rfl, gt, ht, t30⟩
      · exact ⟨_, rfl, gu, hu, u30⟩
      · exact ⟨_, rfl, gt, ht, t30⟩
    refine forv (fun i ρ => ∃ x7, ρ = [.bag, clkP s, .lst (iL s), .tup [.lst (iL t), .lst (iL u)], .lst (iL r), .int (s.length : Int), ndP t, x7, .non, .non, .non, .non]) ⟨_, rfl⟩ (fun i y ρ N' hy hI hN' => ?_) (fun ρ hI => hN _ hI)
    obtain ⟨x7, rfl⟩ := hI
    obtain ⟨v, rfl, gv, hv, v30⟩ := hm y (List.mem_of_getElem? hy)
    walk_at "wz"
    exact law31_c0 g gv hv v30 r0 rl rh (hN' _ ⟨_, rfl⟩)
  obtain ⟨x7, rfl⟩ := hρ
  refine seq_two (fun ρ => ∃ c : Int, 1 ≤ c ∧ c ≤ (s.length : Int) ∧ ρ = [.bag, clkP s, .lst (iL s), .tup [.lst (iL t), .lst (iL u)], .lst (iL r), .int (s.length : Int), ndP t, x7, .int c, .non, .non, .non]) (fun N hN => ?_) (fun ρ hρ => ?_)
  · walk_at "wz"
    refine tk (by omega) (by omega) fun w w0 w1 => ?_
    walk_at "wz"
    exact hN _ ⟨1 + w, by omega, by omega, rfl⟩
  obtain ⟨c, c1, c2, rfl⟩ := hρ
  refine seq_two (fun ρ => ∃ x9 x10, ρ = [.bag, clkP s, .lst (iL s), .tup [.lst (iL t), .lst (iL u)], .lst (iL r), .int (s.length : Int), ndP t, x7, .int c, x9, x10, .non]) (fun N hN => ?_) (fun ρ hρ => ?_)
  · walk_at "wz"
    refine ⟨s.length, c, rfl, n1, n2, c1, c2, ?_⟩
    walk_at "wz"
    refine ⟨by omega, by omega, by omega, ?_⟩
    have gr : Good (List.replicate s.length c) := Good.const n1 n2 c1 c2
    have hm : ∀ y ∈ [PV.tup [clkP s, .lst (iL s)], .tup [clkP (List.replicate s.length c), .lst (iL (List.replicate s.length c))], .tup [clkP s, .lst (iL s)]], ∃ v, y = .tup [clkP v, .lst (iL v)] ∧ Good v ∧ v.length = s.length := by
      intro y hy
      simp only [List.mem_cons, List.not_mem_nil, or_false] at hy
      rcases hy with rfl | rfl | rfl
      · exact ⟨_, rfl, g, rfl⟩
      · exact ⟨_, rfl, gr, by rw [List.length_replicate]⟩
      · exact ⟨_, rfl, g, rfl⟩
    have er : iL (List.replicate s.length c) = List.replicate s.length (.int c) := by unfold iL; rw [List.map_replicate]
    rw [er] at hm
    refine forv (fun i ρ => ∃ x9 x10, ρ = [.bag, clkP s, .lst (iL s), .tup [.lst (iL t), .lst (iL u)], .lst (iL r), .int (s.length : Int), ndP t, x7, .int c, x9, x10, .non]) ⟨_, _, rfl⟩ (fun i y ρ N' hy hI hN' => ?_) (fun ρ hI => hN _ hI)
    obtain ⟨x9, x10, rfl⟩ := hI
    obtain ⟨v, rfl, gv, hv⟩ := hm y (List.mem_of_getElem? hy)
    unfold t__law_by_turns_b1
    walk_at "wz"
    refine p_boundX gv gt r0 (by omega) (by rw [hv]; exact rh) (fun _ => ?_) (fun e => absurd (ht.trans hv.symm) e)
    refine ⟨v, t, r, rfl, gv, ht.trans hv.symm, r0, by omega, by rw [hv]; exact rh, ?_⟩
    walk_at "wz"
    exact hN' _ ⟨_, _, rfl⟩
  obtain ⟨x9, x10, rfl⟩ := hρ
  refine seq_two (fun ρ => ∃ z : Int, 0 ≤ z ∧ z < (s.length : Int) ∧ ρ = [.bag, clkP s, .lst (iL s), .tup [.lst (iL t), .lst (iL u)], .lst (iL (r ++ [z])), .int (s.length : Int), ndP t, x7, .int c, x9, x10, .non]) (fun N hN => ?_) (fun ρ hρ => ?_)
  · walk_at "wz"
    refine ⟨_, rfl, by unfold iL; rw [List.length_map]; omega, ?_⟩
    refine tk (by omega) (by omega) fun w w0 w1 => ?_
    walk_at "wz"
    refine hN _ ⟨w, w0, w1, ?_⟩
    rw [show iL r ++ [PV.int w] = iL (r ++ [w]) by unfold iL; rw [List.map_append]; rfl]
  obtain ⟨z, z0, z1, rfl⟩ := hρ
  have q0 : r ++ [z] ≠ [] := by simp
  have ql : (r ++ [z]).length ≤ 5000 := by rw [List.length_append, List.length_singleton]; omega
  have qh : ∀ k ∈ r ++ [z], 0 ≤ k ∧ k < (s.length : Int) := fun k hk => by
    rcases List.mem_append.mp hk with hk | hk
    · exact rh k hk
    · rw [List.mem_singleton.mp hk]; exact ⟨z0, z1⟩
  refine seq_two (fun ρ => ρ = [.bag, clkP s, .lst (iL s), .tup [.lst (iL t), .lst (iL u)], .lst (iL (r ++ [z])), .int (s.length : Int), ndP t, x7, .int c, x9, x10, .lst [.int (wnd s (r ++ [z])), .int (ringB s t (r ++ [z]))]]) (fun N hN => ?_) (fun ρ hρ => ?_)
  · walk_at "wz"
    refine ⟨s, r ++ [z], rfl, g, q0, ql, qh, ?_⟩
    walk_at "wz"
    refine p_boundX g gt q0 ql qh (fun _ => ?_) (fun e => absurd ht e)
    walk_at "wz"
    exact hN _ rfl
  subst hρ
  walk_at "wz"
  refine ⟨s, r ++ [z], rfl, g, q0, ql, qh, ?_⟩
  walk_at "wz"
  refine ⟨s, t, r ++ [z], rfl, g, ht, q0, ql, qh, ?_⟩
  walk_at "wz"
  exact p__law_alike (two31_pd (wnd_bd g q0 ql) (ringB_bd g (by omega) t30 q0 ql)) (by decide) (by decide) p
theorem law_b0 {s t r v : List Int} {c : Int} (g : Good s) (gt : GoodN t) (ht : t.length = s.length) (t30 : ∀ z ∈ t, 0 ≤ z ∧ z < 10 ^ 30) (v0 : v ≠ []) (vl : v.length ≤ 5000) (vh : ∀ k ∈ v, 0 ≤ k ∧ k < (s.length : Int)) (hc : c = if r.length < v.length then 2 else 1) (hw : wnd s v = c * wnd s r) (hb : ringB s t v = ringB s t r) {D : WEnds} {x0 x1 x2 x3 x4 x6 x8 x10 x12 x13 x15 x16 : PV}
    (q : ∀ x15, D.nx [x0, x1, x2, x3, x4, .lst (iL t), x6, clkP s, x8, .lst (iL r), x10, .lst [.int (wnd s r), told31 (ringB s t r)], x12, x13, .lst (iL v), x15, x16]) :
    t_law_b0 D [x0, x1, x2, x3, x4, .lst (iL t), x6, clkP s, x8, .lst (iL r), x10, .lst [.int (wnd s r), told31 (ringB s t r)], x12, x13, .lst (iL v), x15, x16] := by
  have n1 := g.ne
  unfold t_law_b0
  refine seq_two (fun ρ => ρ = [x0, x1, x2, x3, x4, .lst (iL t), x6, clkP s, x8, .lst (iL r), x10, .lst [.int (wnd s r), told31 (ringB s t r)], x12, x13, .lst (iL v), .int c, x16]) (fun N hN => ?_) (fun ρ hρ => ?_)
  · walk_at "wz"
    refine hN _ ?_
    rw [hc]
    have e1 : (iL r).length = r.length := by unfold iL; rw [List.length_map]
    have e2 : (iL v).length = v.length := by unfold iL; rw [List.length_map]
    by_cases z : r.length < v.length
    · rw [if_pos z]
      first | rw [e1, e2] | skip
      rw [decide_eq_true (show ((r.length : Nat) : Int) < (v.length : Int) by omega)]
      rfl
    · rw [if_neg z]
      first | rw [e1, e2] | skip
      rw [decide_eq_false (show ¬ ((r.length : Nat) : Int) < (v.length : Int) by omega)]
      rfl
  subst hρ
  walk_at "wz"
  refine ⟨s, v, rfl, g, v0, vl, vh, ?_⟩
  refine p__law_heard31 g gt v0 vl vh (fun _ => ?_) (fun e => absurd ht e)
  walk_at "wz"
  have hc2 : c = 1 ∨ c = 2 := by
    rw [hc]
    by_cases z : r.length < v.length
    · rw [if_pos z]; exact .inr rfl
    · rw [if_neg z]; exact .inl rfl
  refine ⟨.inr (.inl ⟨by omega, by omega⟩), ?_⟩
  rw [hw, hb]
  refine p__law_alike (w := 1200) (k := 2) ((pd_lst (n := 2) (w := 402) (k := 1) (fun x hx => by
    simp only [List.mem_cons, List.not_mem_nil, or_false] at hx
    rcases hx with rfl | rfl
    · exact (pd_int (by rw [← hw]; exact wnd_bd g v0 vl)).mono (by decide) (by decide)
    · exact told31_pd (by rw [← hb]; exact ringB_bd g (by omega) t30 v0 vl)) (by simp)).mono (by decide) (by decide)) (by decide) (by decide) ?_
  walk_at "wz"
  exact q _
theorem law_b1 {s t u : List Int} (g : Good s) (gt : GoodN t) (gu : GoodN u) (ht : t.length = s.length) (hu : u.length = s.length) (t30 : ∀ z ∈ t, 0 ≤ z ∧ z < 10 ^ 30) (u30 : ∀ z ∈ u, 0 ≤ z ∧ z < 10 ^ 30) {D : WEnds} {x0 x2 x8 x9 x10 x11 x12 x13 x14 x15 x16 : PV}
    (q : ∀ x9 x10 x11 x12 x13 x14 x15 x16, D.nx [x0, .bag, x2, .int (s.length : Int), .lst (iL s), .lst (iL t), .lst (iL u), clkP s, x8, x9, x10, x11, x12, x13, x14, x15, x16]) :
    t_law_b1 D [x0, .bag, x2, .int (s.length : Int), .lst (iL s), .lst (iL t), .lst (iL u), clkP s, x8, x9, x10, x11, x12, x13, x14, x15, x16] := by
  have n1 := g.ne
  have n2 := g.le
  unfold t_law_b1
  refine seq_two (fun ρ => ∃ r : List Int, r ≠ [] ∧ r.length ≤ 96 ∧ (∀ k ∈ r, 0 ≤ k ∧ k < (s.length : Int)) ∧ ρ = [x0, .bag, x2, .int (s.length : Int), .lst (iL s), .lst (iL t), .lst (iL u), clkP s, x8, .lst (iL r), x10, x11, x12, x13, x14, x15, x16]) (fun N hN => ?_) (fun ρ hρ => ?_)
  · walk_at "wz"
    refine p__law_ring (by omega) n2 fun r r0 rl rh => ⟨⟨_, rfl, fun z hz => ?_⟩, hN _ ⟨r, r0, rl, rh, rfl⟩⟩
    unfold iL at hz
    obtain ⟨k, _, rfl⟩ := List.mem_map.mp hz
    trivial
  obtain ⟨r, r0, rl, rh, rfl⟩ := hρ
  have il : (iL r).length = r.length := by unfold iL; rw [List.length_map]
  have r1 : 1 ≤ r.length := by
    cases r with
    | nil => exact absurd rfl r0
    | cons a b => rw [List.length_cons]; omega
  have rpd : PvD (.lst (iL r)) (96 * 201) 1 := pd_iL (fun z hz => by have := rh z hz; omega) rl
  refine seq_two (fun ρ => ρ = [x0, .bag, x2, .int (s.length : Int), .lst (iL s), .lst (iL t), .lst (iL u), clkP s, x8, .lst (iL r), .str (shP (.lst (iL r))), .lst [.int (wnd s r), told31 (ringB s t r)], x12, x13, x14, x15, x16]) (fun N hN => ?_) (fun ρ hρ => ?_)
  · walk_at "wz"
    refine repr_of rpd (by decide) (by decide) ?_
    walk_at "wz"
    refine ⟨s, r, rfl, g, r0, by omega, rh, ?_⟩
    walk_at "wz"
    refine ⟨s, t, r, rfl, g, ht, r0, by omega, rh, ?_⟩
    walk_at "wz"
    exact hN _ rfl
  subst hρ
  refine seq_id (fun N hN => ?_) ?_
  · walk_at "wz"
    refine ⟨by omega, by omega, by rw [Int.toNat_natCast, rangeP0, List.length_map, List.length_range]; omega, ?_⟩
    rw [Int.toNat_natCast, rangeP0]
    have at_ : ∀ k : Nat, k < r.length → L2.atI (iL r) (k : Int) = some (.int (r.getD k 0)) := fun k hk => by
      refine atI_nat ?_
      unfold iL
      rw [List.getElem?_map, List.getElem?_eq_getElem hk, List.getD_eq_getElem?_getD, List.getElem?_eq_getElem hk]
      rfl
    have hin : ∀ k : Nat, k < r.length → 0 ≤ r.getD k 0 ∧ r.getD k 0 < (s.length : Int) := fun k hk => by
      rw [List.getD_eq_getElem?_getD, List.getElem?_eq_getElem hk]
      exact rh _ (List.getElem_mem hk)
    have last : L2.atI (iL r) (-1) = some (.int (r.getD (r.length - 1) 0)) := by
      have e : L2.ixN (iL r).length (-1) = some (r.length - 1) := by
        rw [il]
        unfold L2.ixN
        rw [if_neg (by decide), if_pos (by omega)]
        congr 1
        omega
      unfold L2.atI
      rw [e]
      show (iL r)[r.length - 1]? = _
      unfold iL
      rw [List.getElem?_map, List.getElem?_eq_getElem (by omega), List.getD_eq_getElem?_getD, List.getElem?_eq_getElem (by omega)]
      rfl
    refine lcm (fun (k : Nat) => .int (stp s (if k = 0 then lastH 0 r else r.getD (k - 1) 0) (r.getD k 0))) (fun k hk Kt hK => ?_) ?_
    · have hk := List.mem_range.mp hk
      walk_at "wz"
      refine ⟨.int (if k = 0 then lastH 0 r else r.getD (k - 1) 0), ?_, ?_⟩
      · by_cases z : k = 0
        · subst z
          rw [if_pos rfl, lastH_getD r0]
          exact last
        · rw [if_neg z, show ((k : Int) - 1) = ((k - 1 : Nat) : Int) by omega]
          exact at_ _ (by omega)
      · refine ⟨_, at_ k hk, ?_⟩
        have hb := hin k hk
        have ha : 0 ≤ (if k = 0 then lastH 0 r else r.getD (k - 1) 0) ∧ (if k = 0 then lastH 0 r else r.getD (k - 1) 0) < (s.length : Int) := by
          by_cases z : k = 0
          · rw [if_pos z, lastH_getD r0]
            exact hin _ (by omega)
          · rw [if_neg z]
            exact hin _ (by omega)
        exact p_step_hours31 g ha.1 ha.2 hb.1 hb.2 hK
    · rw [List.nil_append]
      refine sum_of ?_
      rw [sum_steps, (wnd_eq g r0).1]
      have ws := wnd_small g r0 (by omega)
      have w1 := (wnd_eq g r0).2
      refine ⟨.inr (.inl ⟨by omega, by omega⟩), ?_⟩
      walk_at "wz"
      exact r_itn (fun z => absurd (Int.mul_comm _ _) z) fun _ => hN
  refine seq_two (fun ρ => ∃ a : Nat, a < r.length ∧ ρ = [x0, .bag, x2, .int (s.length : Int), .lst (iL s), .lst (iL t), .lst (iL u), clkP s, x8, .lst (iL r), .str (shP (.lst (iL r))), .lst [.int (wnd s r), told31 (ringB s t r)], x12, .int (a : Int), x14, x15, x16]) (fun N hN => ?_) (fun ρ hρ => ?_)
  · walk_at "wz"
    refine tk (by omega) (by omega) fun w w0 w1 => hN _ ⟨w.toNat, by omega, ?_⟩
    rw [show ((w.toNat : Nat) : Int) = w by omega]
  obtain ⟨a, ha, rfl⟩ := hρ
  refine seq_two (fun ρ => ∃ x14 x15, ρ = [x0, .bag, x2, .int (s.length : Int), .lst (iL s), .lst (iL t), .lst (iL u), clkP s, x8, .lst (iL r), .str (shP (.lst (iL r))), .lst [.int (wnd s r), told31 (ringB s t r)], x12, .int (a : Int), x14, x15, x16]) (fun N hN => ?_) (fun ρ hρ => ?_)
  · refine bor (by intro i hi; rw [List.mem_singleton.mp hi]; rfl) (fun ρ => ∃ x14 x15, ρ = [x0, .bag, x2, .int (s.length : Int), .lst (iL s), .lst (iL t), .lst (iL u), clkP s, x8, .lst (iL r), .str (shP (.lst (iL r))), .lst [.int (wnd s r), told31 (ringB s t r)], x12, .int (a : Int), x14, x15, x16]) (fun N' hN' => ?_) (fun ρ2 hJ => ?_)
    · walk_at "wz"
      have c1 : cutP (iL r) (some (a : Int)) none = iL (r.drop a) := by rw [cutP_drop]; unfold iL; rw [List.map_drop]
      have c2 : cutP (iL r) none (some (a : Int)) = iL (r.take a) := by rw [cutP_take]; unfold iL; rw [List.map_take]
      have ap : ∀ p q : List Int, iL p ++ iL q = iL (p ++ q) := fun p q => by unfold iL; rw [List.map_append]
      have ln : (iL (r.drop a)).length + (iL (r.take a)).length ≤ 100000 := by unfold iL; rw [List.length_map, List.length_map, List.length_drop, List.length_take]; omega
      rw [c1, c2, ap, ap]
      refine ⟨ln, by omega, ?_⟩
      have rr : r.drop a ++ r.take a ≠ [] := fun e => by
        have := congrArg List.length e
        rw [List.length_append, List.length_drop, List.length_take, List.length_nil] at this
        omega
      have tk_dr : r.take a ++ r.drop a = r := List.take_append_drop a r
      have hm : ∀ y ∈ [PV.lst (iL r), .lst (iL (r.drop a ++ r.take a)), .lst (iL r), .lst (iL (r ++ r))], ∃ (v : List Int) (c : Int), y = .lst (iL v) ∧ v ≠ [] ∧ v.length ≤ 5000 ∧ (∀ k ∈ v, 0 ≤ k ∧ k < (s.length : Int)) ∧ (c = if r.length < v.length then 2 else 1) ∧ wnd s v = c * wnd s r ∧ ringB s t v = ringB s t r := by
        intro y hy
        have h1 : (1 : Int) = if r.length < r.length then 2 else 1 := by rw [if_neg (by omega)]
        have hr1 : wnd s r = 1 * wnd s r := by rw [Int.one_mul]
        simp only [List.mem_cons, List.not_mem_nil, or_false] at hy
        rcases hy with rfl | rfl | rfl | rfl
        · exact ⟨r, 1, rfl, r0, by omega, rh, h1, hr1, rfl⟩
        · refine ⟨_, 1, rfl, rr, by rw [List.length_append, List.length_drop, List.length_take]; omega, fun k hk => ?_, ?_, ?_, ?_⟩
          · rcases List.mem_append.mp hk with hk | hk
            · exact rh k (List.mem_of_mem_drop hk)
            · exact rh k (List.mem_of_mem_take hk)
          · rw [if_neg (by rw [List.length_append, List.length_drop, List.length_take]; omega)]
          · rw [wnd_rot (by rw [tk_dr]; exact r0), tk_dr, Int.one_mul]
          · rw [ringB_rot (by rw [tk_dr]; exact r0), tk_dr]
        · exact ⟨r, 1, rfl, r0, by omega, rh, h1, hr1, rfl⟩
        · refine ⟨_, 2, rfl, by simp [r0], by rw [List.length_append]; omega, fun k hk => ?_, ?_, wnd_two g r0, ringB_two g r0⟩
          · rcases List.mem_append.mp hk with hk | hk <;> exact rh k hk
          · rw [if_pos (by rw [List.length_append]; omega)]
      refine forv (fun i ρ => ∃ x14 x15, ρ = [x0, .bag, x2, .int (s.length : Int), .lst (iL s), .lst (iL t), .lst (iL u), clkP s, x8, .lst (iL r), .str (shP (.lst (iL r))), .lst [.int (wnd s r), told31 (ringB s t r)], x12, .int (a : Int), x14, x15, x16]) ⟨_, _, rfl⟩ (fun i y ρ N2 hy hI hN2 => ?_) (fun ρ hI => hN' _ hI)
      obtain ⟨y14, y15, rfl⟩ := hI
      obtain ⟨v, c, rfl, v0, vl, vh, hc, hw, hb⟩ := hm y (List.mem_of_getElem? hy)
      exact law_b0 g gt ht t30 v0 vl vh hc hw hb fun x15 => hN2 _ ⟨_, _, rfl⟩
    · obtain ⟨y14, y15, rfl⟩ := hJ
      exact ⟨rfl, hN _ ⟨_, _, rfl⟩⟩
  obtain ⟨y14, y15, rfl⟩ := hρ
  refine seq_id (fun N hN => ?_) ?_
  · walk_at "wz"
    refine repr_of rpd (by decide) (by decide) ?_
    walk_at "wz"
    refine ⟨s, r, rfl, g, r0, by omega, rh, ?_⟩
    walk_at "wz"
    have w1 := (wnd_eq g r0).2
    exact r_ite (fun z => absurd z (by omega)) fun _ => hN
  walk_at "wz"
  refine ⟨⟨_, rfl⟩, p__law_by_turns g gt gu ht hu t30 u30 r0 rl rh ?_⟩
  walk_at "wz"
  exact q _ _ _ _ _ _ _ _
theorem dv2000 {l : Nat} (h1 : 1 ≤ l) (h2 : l ≤ 96) : ∃ n : Nat, (2000 : Int) / (l : Int) = (n : Int) ∧ 1 ≤ n ∧ n * l ≤ 2000 ∧ n ≤ 2000 :=
  ⟨2000 / l, (congrArg (fun z : Int => z / (l : Int)) (show (2000 : Int) = ((2000 : Nat) : Int) from rfl)).trans (Int.natCast_ediv 2000 l).symm, Nat.div_pos (by omega) h1, Nat.div_mul_le_self _ _, Nat.div_le_self _ _⟩
theorem law_b2 {D : WEnds} {x0 x3 x4 x5 x6 x7 x8 x9 x10 x11 x12 x13 x14 x15 x16 : PV} {k : Nat} (hk : k < 6)
    (q : ∀ x3 x4 x5 x6 x7 x8 x9 x10 x11 x12 x13 x14 x15 x16, D.nx [x0, .bag, .int (k : Int), x3, x4, x5, x6, x7, x8, x9, x10, x11, x12, x13, x14, x15, x16]) :
    t_law_b2 D [x0, .bag, .int (k : Int), x3, x4, x5, x6, x7, x8, x9, x10, x11, x12, x13, x14, x15, x16] := by
  unfold t_law_b2
  refine seq_two (fun ρ => ∃ n : Nat, 1 ≤ n ∧ n ≤ 24 ∧ ρ = [x0, .bag, .int (k : Int), .int (n : Int), x4, x5, x6, x7, x8, x9, x10, x11, x12, x13, x14, x15, x16]) (fun N hN => ?_) (fun ρ hρ => ?_)
  · have ei : ∃ m : Int, 1 ≤ m ∧ m ≤ 24 ∧ L2.atI [PV.int 24, .int 8, .int 8, .int 4, .int 3, .int 2] (k : Int) = some (.int m) := by
      match k, hk with
      | 0, _ => exact ⟨24, by decide, by decide, rfl⟩
      | 1, _ => exact ⟨8, by decide, by decide, rfl⟩
      | 2, _ => exact ⟨8, by decide, by decide, rfl⟩
      | 3, _ => exact ⟨4, by decide, by decide, rfl⟩
      | 4, _ => exact ⟨3, by decide, by decide, rfl⟩
      | 5, _ => exact ⟨2, by decide, by decide, rfl⟩
    obtain ⟨m, m1, m2, e⟩ := ei
    walk_at "wz"
    refine ⟨_, e, ?_⟩
    refine tk (by omega) (by omega) fun u u0 u1 => ?_
    walk_at "wz"
    refine hN _ ⟨(1 + u).toNat, by omega, by omega, ?_⟩
    rw [show (((1 + u).toNat : Nat) : Int) = 1 + u by omega]
  obtain ⟨n, n1, n2, rfl⟩ := hρ
  refine seq_two (fun ρ => ∃ s t u : List Int, s.length = n ∧ t.length = n ∧ u.length = n ∧ Good s ∧ GoodN t ∧ GoodN u ∧ (∀ z ∈ t, 0 ≤ z ∧ z < 10 ^ 30) ∧ (∀ z ∈ u, 0 ≤ z ∧ z < 10 ^ 30) ∧ ρ = [x0, .bag, .int (k : Int), .int (n : Int), .lst (iL s), .lst (iL t), .lst (iL u), x7, x8, x9, x10, x11, x12, x13, x14, x15, x16]) (fun N hN => ?_) (fun ρ hρ => ?_)
  · walk_at "wz"
    refine ⟨n, rfl, n1, by omega, fun s hs g => ?_⟩
    refine p__law_wants n1 (by omega) fun t ht gt t30 => ?_
    refine p__law_wants n1 (by omega) fun u hu gu u30 => ?_
    walk_at "wz"
    exact hN _ ⟨s, t, u, hs, ht, hu, g, gt, gu, t30, u30, rfl⟩
  obtain ⟨s, t, u, rfl, ht, hu, g, gt, gu, t30, u30, rfl⟩ := hρ
  refine seq_two (fun ρ => ρ = [x0, .bag, .int (k : Int), .int (s.length : Int), .lst (iL s), .lst (iL t), .lst (iL u), clkP s, x8, x9, x10, x11, x12, x13, x14, x15, x16]) (fun N hN => ?_) (fun ρ hρ => ?_)
  · walk_at "wz"
    exact ⟨_, s, rfl, .inl rfl, g, hN _ rfl⟩
  subst hρ
  refine seq_two (fun ρ => ∃ x8 x9 x10 x11 x12 x13 x14 x15 x16, ρ = [x0, .bag, .int (k : Int), .int (s.length : Int), .lst (iL s), .lst (iL t), .lst (iL u), clkP s, x8, x9, x10, x11, x12, x13, x14, x15, x16]) (fun N hN => ?_) (fun ρ hρ => ?_)
  · walk_at "wz"
    refine ⟨by decide, by decide, ?_⟩
    refine forr (n := 5) (fun i ρ => ∃ x8 x9 x10 x11 x12 x13 x14 x15 x16, ρ = [x0, .bag, .int (k : Int), .int (s.length : Int), .lst (iL s), .lst (iL t), .lst (iL u), clkP s, x8, x9, x10, x11, x12, x13, x14, x15, x16]) ⟨_, _, _, _, _, _, _, _, _, rfl⟩ (fun i ρ N' hi hI hN' => ?_) (fun ρ hI => ?_)
    · obtain ⟨y8, y9, y10, y11, y12, y13, y14, y15, y16, rfl⟩ := hI
      exact law_b1 g gt gu ht hu t30 u30 fun x9 x10 x11 x12 x13 x14 x15 x16 => hN' _ ⟨_, _, _, _, _, _, _, _, _, rfl⟩
    · obtain ⟨y8, y9, y10, y11, y12, y13, y14, y15, y16, rfl⟩ := hI
      exact hN _ ⟨_, _, _, _, _, _, _, _, _, rfl⟩
  obtain ⟨y8, y9, y10, y11, y12, y13, y14, y15, y16, rfl⟩ := hρ
  have h0 : ([0] : List Int) ≠ [] := by simp
  have hh : ∀ k ∈ ([0] : List Int), 0 ≤ k ∧ k < (s.length : Int) := fun k hk => by rw [List.mem_singleton.mp hk]; exact ⟨by decide, by omega⟩
  have un : PvD (.lst [.str "unlike", .non]) 14 1 := (pd_lst (n := 2) (w := 6) (k := 0) (fun x hx => by
    simp only [List.mem_cons, List.not_mem_nil, or_false] at hx
    rcases hx with rfl | rfl
    · exact pd_str (sml_str "unlike" (n := 6) (by decide))
    · exact pd_non.mono (by decide) (by decide)) (by simp)).mono (by decide) (by decide)
  have ne : ∀ P : PV → Prop, P (.bl false) → wEqD true (.lst [.str "unlike", .non]) (.lst [.str "unlike", .non]) P := fun P p => ne_self un.dt p
  refine seq_id (fun N hN => ?_) ?_
  · walk_at "wz"
    have gz : GoodN (t ++ [0]) := good_of_mem (n := t.length + 1) (by rw [List.length_append, List.length_singleton]) (by omega) (by omega) (fun z hz => by
      rcases List.mem_append.mp hz with hz | hz
      · exact t30 z hz
      · rw [List.mem_singleton.mp hz]; decide)
    refine ⟨by omega, ?_⟩
    rw [show iL t ++ [PV.int 0] = iL (t ++ [0]) by unfold iL; rw [List.map_append]; rfl]
    refine p__law_heard31 (q := [0]) g gz h0 (by decide) hh (fun e => ?_) (fun _ => ?_)
    · rw [List.length_append, List.length_singleton] at e
      omega
    · exact ne _ hN
  refine seq_id (fun N hN => ?_) ?_
  · walk_at "wz"
    refine r_ite (fun h => ?_) (fun _ => hN)
    have c1 : cutP (iL t) (some 1) none = iL (t.drop 1) := by
      refine (cutP_drop (k := 1)).trans ?_
      unfold iL
      rw [List.map_drop]
    rw [c1]
    have gz : GoodN (t.drop 1) := good_of_mem (n := t.length - 1) (by rw [List.length_drop]) (by omega) (by omega) (fun z hz => t30 z (List.mem_of_mem_drop hz))
    refine p__law_heard31 (q := [0]) g gz h0 (by decide) hh (fun e => ?_) (fun _ => ?_)
    · rw [List.length_drop] at e
      omega
    · exact ne _ hN
  refine seq_two (fun ρ => ∃ r : List Int, r ≠ [] ∧ r.length ≤ 96 ∧ (∀ z ∈ r, 0 ≤ z ∧ z < (s.length : Int)) ∧ ρ = [x0, .bag, .int (k : Int), .int (s.length : Int), .lst (iL s), .lst (iL t), .lst (iL u), clkP s, y8, .lst (iL r), y10, y11, y12, y13, y14, y15, y16]) (fun N hN => ?_) (fun ρ hρ => ?_)
  · walk_at "wz"
    refine p__law_ring (by omega) (by omega) fun r r0 rl rh => ⟨⟨_, rfl, fun z hz => ?_⟩, hN _ ⟨r, r0, rl, rh, rfl⟩⟩
    unfold iL at hz
    obtain ⟨k, _, rfl⟩ := List.mem_map.mp hz
    trivial
  obtain ⟨r, r0, rl, rh, rfl⟩ := hρ
  have il : (iL r).length = r.length := by unfold iL; rw [List.length_map]
  have r1 : 1 ≤ r.length := by
    cases r with
    | nil => exact absurd rfl r0
    | cons a b => rw [List.length_cons]; omega
  obtain ⟨m, dn, dv, dl, d2⟩ := dv2000 r1 rl
  refine seq_two (fun ρ => ρ = [x0, .bag, .int (k : Int), .int (s.length : Int), .lst (iL s), .lst (iL t), .lst (iL u), clkP s, y8, .lst (iL r), y10, .int (ringB s t r), y12, y13, y14, .int (m : Int), y16]) (fun N hN => ?_) (fun ρ hρ => ?_)
  · walk_at "wz"
    refine ⟨⟨by omega, Nat.lt_of_le_of_lt (Nat.log2_le_self _) (by omega)⟩, ?_⟩
    rw [dn]
    refine ⟨s, t, r, rfl, g, ht, r0, by omega, rh, ?_⟩
    walk_at "wz"
    exact hN _ rfl
  subst hρ
  clear dn
  have rn : rep m r ≠ [] := fun e => by
    have := rep_len (n := m) (q := r)
    rw [e, List.length_nil] at this
    have := Nat.mul_pos dv r1
    omega
  have rh2 : ∀ z ∈ rep m r, 0 ≤ z ∧ z < (s.length : Int) := fun z hz => rh z (rep_mem hz)
  have rl2 : (rep m r).length ≤ 5000 := by rw [rep_len]; omega
  refine seq_two (fun ρ => ρ = [x0, .bag, .int (k : Int), .int (s.length : Int), .lst (iL s), .lst (iL t), .lst (iL u), clkP s, y8, .lst (iL r), y10, .int (ringB s t r), y12, y13, y14, .int (m : Int), .lst [.int (wnd s (rep m r)), .int (ringB s t (rep m r))]]) (fun N hN => ?_) (fun ρ hρ => ?_)
  · walk_at "wz"
    have er : (List.replicate ((m : Int)).toNat (iL r)).flatten = iL (rep m r) := by rw [Int.toNat_natCast]; exact iL_rep m
    refine ⟨by omega, by omega, by rw [Int.toNat_natCast, Nat.mul_comm]; omega, ?_⟩
    rw [er]
    refine ⟨s, rep m r, rfl, g, rn, rl2, rh2, ?_⟩
    walk_at "wz"
    refine ⟨_, t, rfl, .inl rfl, gt, ?_⟩
    refine ⟨by omega, by omega, by rw [Int.toNat_natCast, Nat.mul_comm]; omega, ?_⟩
    refine p_boundX (q := rep m r) g gt rn rl2 rh2 (fun _ => ?_) (fun e => absurd ht e)
    walk_at "wz"
    exact hN _ rfl
  subst hρ
  have b1 := wnd_bd g rn rl2
  have b2 := ringB_bd g (by omega) t30 r0 (show r.length ≤ 5000 by omega)
  rw [ringB_rep g r0 dv]
  walk_at "wz"
  refine ⟨s, r, rfl, g, r0, by omega, rh, ?_⟩
  walk_at "wz"
  refine ⟨.inr (.inl ⟨by omega, by omega⟩), ?_⟩
  rw [wnd_rep g r0 dv] at b1 ⊢
  have ne2 : ∀ P : PV → Prop, P (.bl false) → wEqD true (.lst [.int ((m : Int) * wnd s r), .int (ringB s t r)]) (.lst [.int ((m : Int) * wnd s r), .int (ringB s t r)]) P := fun P p => ne_self (two31_pd b1 b2).dt p
  exact ne2 _ (q _ _ _ _ _ _ _ _ _ _ _ _ _ _)
theorem law_true (ns : List Int) (hn : ns.length ≤ 63) : w_law [.scr ns] fun x => x = .bl true := by
  unfold w_law t_law wDef
  refine ⟨rfl, ?_⟩
  refine seq_two (fun ρ => ρ = [.scr ns, .bag, .non, .non, .non, .non, .non, .non, .non, .non, .non, .non, .non, .non, .non, .non, .non]) (fun N hN => ?_) (fun ρ hρ => ?_)
  · walk_at "wz"
    exact ⟨ns, rfl, hN _ rfl⟩
  subst hρ
  refine seq_two (fun ρ => ∃ x2 x3 x4 x5 x6 x7 x8 x9 x10 x11 x12 x13 x14 x15 x16, ρ = [.scr ns, .bag, x2, x3, x4, x5, x6, x7, x8, x9, x10, x11, x12, x13, x14, x15, x16]) (fun N hN => ?_) (fun ρ hρ => ?_)
  · walk_at "wz"
    refine ⟨by decide, by decide, ?_⟩
    refine forr (n := 6) (fun i ρ => ∃ x2 x3 x4 x5 x6 x7 x8 x9 x10 x11 x12 x13 x14 x15 x16, ρ = [.scr ns, .bag, x2, x3, x4, x5, x6, x7, x8, x9, x10, x11, x12, x13, x14, x15, x16]) ⟨_, _, _, _, _, _, _, _, _, _, _, _, _, _, _, rfl⟩ (fun i ρ N' hi hI hN' => ?_) (fun ρ hI => ?_)
    · obtain ⟨x2, x3, x4, x5, x6, x7, x8, x9, x10, x11, x12, x13, x14, x15, x16, rfl⟩ := hI
      exact law_b2 hi fun x3 x4 x5 x6 x7 x8 x9 x10 x11 x12 x13 x14 x15 x16 => hN' _ ⟨_, _, _, _, _, _, _, _, _, _, _, _, _, _, _, rfl⟩
    · obtain ⟨x2, x3, x4, x5, x6, x7, x8, x9, x10, x11, x12, x13, x14, x15, x16, rfl⟩ := hI
      exact hN _ ⟨_, _, _, _, _, _, _, _, _, _, _, _, _, _, _, rfl⟩
  obtain ⟨x2, x3, x4, x5, x6, x7, x8, x9, x10, x11, x12, x13, x14, x15, x16, rfl⟩ := hρ
  have g1 : Good [1] := Good.of (by decide) fun j hj => by
    obtain rfl : j = 0 := by simpa using hj
    decide
  have gn3 : GoodN [3] := good_of_mem (n := 1) rfl (by decide) (by decide) (by decide)
  have h00 : ∀ k ∈ ([0, 0] : List Int), 0 ≤ k ∧ k < ((([1] : List Int).length : Nat) : Int) := by decide
  walk_at "wz"
  refine ⟨_, [1], rfl, .inl rfl, g1, ⟨[1], [0, 0], rfl, g1, by decide, by decide, h00, ?_⟩⟩
  walk_at "wz"
  refine ⟨_, [1], rfl, .inl rfl, g1, ⟨_, [3], rfl, .inl rfl, gn3, ?_⟩⟩
  refine p_boundX (q := [0, 0]) g1 gn3 (by decide) (by decide) h00 (fun _ => ?_) (fun e => absurd rfl e)
  walk_at "wz"
  rw [show wnd [1] [0, 0] = 2 by decide, show ringB [1] [3] [0, 0] = 3 by decide]
  exact eq_self (two31_pd (by decide) (by decide)).dt rfl
end
def adsK (K : PySem.W.Frag) : Ads := ⟨(He.ga K "Clock"), (He.ga K "Needs"), (He.ga K "_law_bag"), (He.ga K "_law_take"), (He.ga K "_law_stays"), (He.ga K "_law_number"), (He.ga K "_law_numbers"), (He.ga K "_law_wants"), (He.ga K "is_integer"), (He.ga K "are_stays"), (He.ga K "need_order"), (He.ga K "width_of"), (He.ma K (He.ga K "Clock") "__init__"), (He.ga K "_law_clock"), (He.ga K "_law_ring"), (He.ga K "_law_serving"), (He.ga K "_law_hop"), (He.ga K "_law_wound"), (He.ga K "_law_bound_of"), (He.ga K "is_hour"), (rcA K (He.ma K (He.ga K "Clock") "hours") "property"), (He.ma K (He.ga K "Clock") "hours"), (He.ma K (He.ga K "Clock") "widths"), (He.ga K "step_hours"), (He.ga K "_law_alike"), (He.ga K "winds"), (He.ga K "up"), (He.ma K (He.ga K "Needs") "__getitem__"), (He.ga K "ring_bound"), (rcA K (He.ma K (He.ga K "Needs") "hours") "property"), (He.ma K (He.ga K "Needs") "hours"), (He.ga K "need_alike"), (He.ga K "bound"), (He.ga K "is_count"), (He.ga K "are_counts"), (He.ga K "is_row"), (He.ma K (He.ga K "Needs") "__init__"), (He.ga K "_law_heard"), (rcA K (stA K (He.ga K "Clock") "even") "staticmethod"), (stA K (He.ga K "Clock") "even"), (He.ga K "_law_by_turns"), (He.ga K "law"), (He.ga K "NeedError"), (He.ga K "Unlike"), (He.ma K (He.ga K "Unlike") "__init__")⟩
theorem mkf_g_Clock  {P : Program} {K : PySem.W.Frag} {h : Heap} {mg : Str → Option Value} (X : K.In h) (G : h.Ns mainGlobals mg) (c : SaysH fas fns K) (tp_s : (P.main.scope.names.lookup ("super" : Str)).isSome = false) (pF : P.main.file = flX) : mg "Clock" = some (.ref (adsK K).c_Clock) := by
  letI : TabC := ⟨[]⟩
  have a_Clock : PySem.W.nsIn K mainGlobals "Clock" = some (some (.ref (He.ga K "Clock"))) := dok (c.fact 0 rfl)
  exact PySem.W.mg_of X G a_Clock
theorem mkf_cl_Clock  {P : Program} {K : PySem.W.Frag} {h : Heap} {mg : Str → Option Value} (X : K.In h) (G : h.Ns mainGlobals mg) (c : SaysH fas fns K) (tp_s : (P.main.scope.names.lookup ("super" : Str)).isSome = false) (pF : P.main.file = flX) : Cls K (adsK K).c_Clock := by
  letI : TabC := ⟨[]⟩
  have pg_Clock : PySem.W.plainGet K (He.ga K "Clock") Str.empty = true := (c.fact 1 rfl)
  have hd_Clock : PySem.W.hasDictIn K (He.ga K "Clock") = true := (c.fact 2 rfl)
  have po_Clock : PySem.W.plainOver K (He.ga K "Clock") = true := (c.fact 3 rfl)
  have sa_Clock : PySem.W.findIn K (.ref (He.ga K "Clock")) "__setattr__" = some (some (.builtin "object.__setattr__")) := dok (c.fact 4 rfl)
  exact ⟨pg_Clock, hd_Clock, po_Clock, sa_Clock⟩
theorem mkf_sf_Clock  {P : Program} {K : PySem.W.Frag} {h : Heap} {mg : Str → Option Value} (X : K.In h) (G : h.Ns mainGlobals mg) (c : SaysH fas fns K) (tp_s : (P.main.scope.names.lookup ("super" : Str)).isSome = false) (pF : P.main.file = flX) : PySem.W.selfFirst K (adsK K).c_Clock = true := by
  letI : TabC := ⟨[]⟩
  have sf_Clock : PySem.W.selfFirst K (He.ga K "Clock") = true := (c.fact 5 rfl)
  exact sf_Clock
theorem mkf_g_Needs  {P : Program} {K : PySem.W.Frag} {h : Heap} {mg : Str → Option Value} (X : K.In h) (G : h.Ns mainGlobals mg) (c : SaysH fas fns K) (tp_s : (P.main.scope.names.lookup ("super" : Str)).isSome = false) (pF : P.main.file = flX) : mg "Needs" = some (.ref (adsK K).c_Needs) := by
  letI : TabC := ⟨[]⟩
  have a_Needs : PySem.W.nsIn K mainGlobals "Needs" = some (some (.ref (He.ga K "Needs"))) := dok (c.fact 6 rfl)
  exact PySem.W.mg_of X G a_Needs
theorem mkf_cl_Needs  {P : Program} {K : PySem.W.Frag} {h : Heap} {mg : Str → Option Value} (X : K.In h) (G : h.Ns mainGlobals mg) (c : SaysH fas fns K) (tp_s : (P.main.scope.names.lookup ("super" : Str)).isSome = false) (pF : P.main.file = flX) : Cls K (adsK K).c_Needs := by
  letI : TabC := ⟨[]⟩
  have pg_Needs : PySem.W.plainGet K (He.ga K "Needs") Str.empty = true := (c.fact 7 rfl)
  have hd_Needs : PySem.W.hasDictIn K (He.ga K "Needs") = true := (c.fact 8 rfl)
  have po_Needs : PySem.W.plainOver K (He.ga K "Needs") = true := (c.fact 9 rfl)
  have sa_Needs : PySem.W.findIn K (.ref (He.ga K "Needs")) "__setattr__" = some (some (.builtin "object.__setattr__")) := dok (c.fact 10 rfl)
  exact ⟨pg_Needs, hd_Needs, po_Needs, sa_Needs⟩
theorem mkf_sf_Needs  {P : Program} {K : PySem.W.Frag} {h : Heap} {mg : Str → Option Value} (X : K.In h) (G : h.Ns mainGlobals mg) (c : SaysH fas fns K) (tp_s : (P.main.scope.names.lookup ("super" : Str)).isSome = false) (pF : P.main.file = flX) : PySem.W.selfFirst K (adsK K).c_Needs = true := by
  letI : TabC := ⟨[]⟩
  have sf_Needs : PySem.W.selfFirst K (He.ga K "Needs") = true := (c.fact 11 rfl)
  exact sf_Needs
theorem mkf_n_Clock_kept_stays  {P : Program} {K : PySem.W.Frag} {h : Heap} {mg : Str → Option Value} (X : K.In h) (G : h.Ns mainGlobals mg) (c : SaysH fas fns K) (tp_s : (P.main.scope.names.lookup ("super" : Str)).isSome = false) (pF : P.main.file = flX) : NoAttr K (adsK K).c_Clock "kept_stays" := by
  letI : TabC := ⟨[]⟩
  have n_Clock_kept_stays : PySem.W.findIn K (.ref (He.ga K "Clock")) "kept_stays" = some none := dok (c.fact 12 rfl)
  exact n_Clock_kept_stays
theorem mkf_n_Clock_kept_widths  {P : Program} {K : PySem.W.Frag} {h : Heap} {mg : Str → Option Value} (X : K.In h) (G : h.Ns mainGlobals mg) (c : SaysH fas fns K) (tp_s : (P.main.scope.names.lookup ("super" : Str)).isSome = false) (pF : P.main.file = flX) : NoAttr K (adsK K).c_Clock "kept_widths" := by
  letI : TabC := ⟨[]⟩
  have n_Clock_kept_widths : PySem.W.findIn K (.ref (He.ga K "Clock")) "kept_widths" = some none := dok (c.fact 13 rfl)
  exact n_Clock_kept_widths
theorem mkf_n_Needs_kept_row  {P : Program} {K : PySem.W.Frag} {h : Heap} {mg : Str → Option Value} (X : K.In h) (G : h.Ns mainGlobals mg) (c : SaysH fas fns K) (tp_s : (P.main.scope.names.lookup ("super" : Str)).isSome = false) (pF : P.main.file = flX) : NoAttr K (adsK K).c_Needs "kept_row" := by
  letI : TabC := ⟨[]⟩
  have n_Needs_kept_row : PySem.W.findIn K (.ref (He.ga K "Needs")) "kept_row" = some none := dok (c.fact 14 rfl)
  exact n_Needs_kept_row
theorem mkf_g__law_bag  {P : Program} {K : PySem.W.Frag} {h : Heap} {mg : Str → Option Value} (X : K.In h) (G : h.Ns mainGlobals mg) (c : SaysH fas fns K) (tp_s : (P.main.scope.names.lookup ("super" : Str)).isSome = false) (pF : P.main.file = flX) : mg "_law_bag" = some (.ref (adsK K).f__law_bag) := by
  letI : TabC := ⟨[]⟩
  have a__law_bag : PySem.W.nsIn K mainGlobals "_law_bag" = some (some (.ref (He.ga K "_law_bag"))) := dok (c.fact 15 rfl)
  exact PySem.W.mg_of X G a__law_bag
theorem mkf_d__law_bag  {P : Program} {K : PySem.W.Frag} {h : Heap} {mg : Str → Option Value} (X : K.In h) (G : h.Ns mainGlobals mg) (c : SaysH fas fns K) (tp_s : (P.main.scope.names.lookup ("super" : Str)).isSome = false) (pF : P.main.file = flX) : Df K "_law_bag" "_law_bag" s__law_bag (adsK K).f__law_bag ["_law_script"] := by
  letI : TabC := ⟨[]⟩
  obtain ⟨_, _, _, _, _, _, _, _, _, l__law_bag, c__law_bag, k__law_bag⟩ := c.def_ 0 (d := ⟨fun K => (He.ga K "_law_bag"), "_law_bag", "_law_bag", s__law_bag, false⟩) rfl
  exact ⟨_, fun_mk l__law_bag c__law_bag k__law_bag, (fun_mk (st := s__law_bag) l__law_bag c__law_bag k__law_bag).binds (ps := ["_law_script"]) fun _ _ _ _ _ _ us hl => match us, hl with | [_], _ => rfl⟩
theorem mkf_g__law_take  {P : Program} {K : PySem.W.Frag} {h : Heap} {mg : Str → Option Value} (X : K.In h) (G : h.Ns mainGlobals mg) (c : SaysH fas fns K) (tp_s : (P.main.scope.names.lookup ("super" : Str)).isSome = false) (pF : P.main.file = flX) : mg "_law_take" = some (.ref (adsK K).f__law_take) := by
  letI : TabC := ⟨[]⟩
  have a__law_take : PySem.W.nsIn K mainGlobals "_law_take" = some (some (.ref (He.ga K "_law_take"))) := dok (c.fact 16 rfl)
  exact PySem.W.mg_of X G a__law_take
theorem mkf_d__law_take  {P : Program} {K : PySem.W.Frag} {h : Heap} {mg : Str → Option Value} (X : K.In h) (G : h.Ns mainGlobals mg) (c : SaysH fas fns K) (tp_s : (P.main.scope.names.lookup ("super" : Str)).isSome = false) (pF : P.main.file = flX) : Df K "_law_take" "_law_take" s__law_take (adsK K).f__law_take ["_law_bag_here", "_law_upto"] := by
  letI : TabC := ⟨[]⟩
  obtain ⟨_, _, _, _, _, _, _, _, _, l__law_take, c__law_take, k__law_take⟩ := c.def_ 1 (d := ⟨fun K => (He.ga K "_law_take"), "_law_take", "_law_take", s__law_take, false⟩) rfl
  exact ⟨_, fun_mk l__law_take c__law_take k__law_take, (fun_mk (st := s__law_take) l__law_take c__law_take k__law_take).binds (ps := ["_law_bag_here", "_law_upto"]) fun _ _ _ _ _ _ us hl => match us, hl with | [_, _], _ => rfl⟩
theorem mkf_g__law_stays  {P : Program} {K : PySem.W.Frag} {h : Heap} {mg : Str → Option Value} (X : K.In h) (G : h.Ns mainGlobals mg) (c : SaysH fas fns K) (tp_s : (P.main.scope.names.lookup ("super" : Str)).isSome = false) (pF : P.main.file = flX) : mg "_law_stays" = some (.ref (adsK K).f__law_stays) := by
  letI : TabC := ⟨[]⟩
  have a__law_stays : PySem.W.nsIn K mainGlobals "_law_stays" = some (some (.ref (He.ga K "_law_stays"))) := dok (c.fact 17 rfl)
  exact PySem.W.mg_of X G a__law_stays
theorem mkf_d__law_stays  {P : Program} {K : PySem.W.Frag} {h : Heap} {mg : Str → Option Value} (X : K.In h) (G : h.Ns mainGlobals mg) (c : SaysH fas fns K) (tp_s : (P.main.scope.names.lookup ("super" : Str)).isSome = false) (pF : P.main.file = flX) : Df K "_law_stays" "_law_stays" s__law_stays (adsK K).f__law_stays ["_law_bag_here", "_law_many"] := by
  letI : TabC := ⟨[]⟩
  obtain ⟨_, _, _, _, _, _, _, _, _, l__law_stays, c__law_stays, k__law_stays⟩ := c.def_ 2 (d := ⟨fun K => (He.ga K "_law_stays"), "_law_stays", "_law_stays", s__law_stays, false⟩) rfl
  exact ⟨_, fun_mk l__law_stays c__law_stays k__law_stays, (fun_mk (st := s__law_stays) l__law_stays c__law_stays k__law_stays).binds (ps := ["_law_bag_here", "_law_many"]) fun _ _ _ _ _ _ us hl => match us, hl with | [_, _], _ => rfl⟩
theorem mkf_g__law_number  {P : Program} {K : PySem.W.Frag} {h : Heap} {mg : Str → Option Value} (X : K.In h) (G : h.Ns mainGlobals mg) (c : SaysH fas fns K) (tp_s : (P.main.scope.names.lookup ("super" : Str)).isSome = false) (pF : P.main.file = flX) : mg "_law_number" = some (.ref (adsK K).f__law_number) := by
  letI : TabC := ⟨[]⟩
  have a__law_number : PySem.W.nsIn K mainGlobals "_law_number" = some (some (.ref (He.ga K "_law_number"))) := dok (c.fact 18 rfl)
  exact PySem.W.mg_of X G a__law_number
theorem mkf_d__law_number  {P : Program} {K : PySem.W.Frag} {h : Heap} {mg : Str → Option Value} (X : K.In h) (G : h.Ns mainGlobals mg) (c : SaysH fas fns K) (tp_s : (P.main.scope.names.lookup ("super" : Str)).isSome = false) (pF : P.main.file = flX) : Df K "_law_number" "_law_number" s__law_number (adsK K).f__law_number ["_law_bag_here"] := by
  letI : TabC := ⟨[]⟩
  obtain ⟨_, _, _, _, _, _, _, _, _, l__law_number, c__law_number, k__law_number⟩ := c.def_ 3 (d := ⟨fun K => (He.ga K "_law_number"), "_law_number", "_law_number", s__law_number, false⟩) rfl
  exact ⟨_, fun_mk l__law_number c__law_number k__law_number, (fun_mk (st := s__law_number) l__law_number c__law_number k__law_number).binds (ps := ["_law_bag_here"]) fun _ _ _ _ _ _ us hl => match us, hl with | [_], _ => rfl⟩
theorem mkf_g__law_numbers  {P : Program} {K : PySem.W.Frag} {h : Heap} {mg : Str → Option Value} (X : K.In h) (G : h.Ns mainGlobals mg) (c : SaysH fas fns K) (tp_s : (P.main.scope.names.lookup ("super" : Str)).isSome = false) (pF : P.main.file = flX) : mg "_law_numbers" = some (.ref (adsK K).f__law_numbers) := by
  letI : TabC := ⟨[]⟩
  have a__law_numbers : PySem.W.nsIn K mainGlobals "_law_numbers" = some (some (.ref (He.ga K "_law_numbers"))) := dok (c.fact 19 rfl)
  exact PySem.W.mg_of X G a__law_numbers
theorem mkf_d__law_numbers  {P : Program} {K : PySem.W.Frag} {h : Heap} {mg : Str → Option Value} (X : K.In h) (G : h.Ns mainGlobals mg) (c : SaysH fas fns K) (tp_s : (P.main.scope.names.lookup ("super" : Str)).isSome = false) (pF : P.main.file = flX) : Df K "_law_numbers" "_law_numbers" s__law_numbers (adsK K).f__law_numbers ["_law_bag_here", "_law_many"] := by
  letI : TabC := ⟨[]⟩
  obtain ⟨_, _, _, _, _, _, _, _, _, l__law_numbers, c__law_numbers, k__law_numbers⟩ := c.def_ 4 (d := ⟨fun K => (He.ga K "_law_numbers"), "_law_numbers", "_law_numbers", s__law_numbers, false⟩) rfl
  exact ⟨_, fun_mk l__law_numbers c__law_numbers k__law_numbers, (fun_mk (st := s__law_numbers) l__law_numbers c__law_numbers k__law_numbers).binds (ps := ["_law_bag_here", "_law_many"]) fun _ _ _ _ _ _ us hl => match us, hl with | [_, _], _ => rfl⟩
theorem mkf_g__law_wants  {P : Program} {K : PySem.W.Frag} {h : Heap} {mg : Str → Option Value} (X : K.In h) (G : h.Ns mainGlobals mg) (c : SaysH fas fns K) (tp_s : (P.main.scope.names.lookup ("super" : Str)).isSome = false) (pF : P.main.file = flX) : mg "_law_wants" = some (.ref (adsK K).f__law_wants) := by
  letI : TabC := ⟨[]⟩
  have a__law_wants : PySem.W.nsIn K mainGlobals "_law_wants" = some (some (.ref (He.ga K "_law_wants"))) := dok (c.fact 20 rfl)
  exact PySem.W.mg_of X G a__law_wants
theorem mkf_d__law_wants  {P : Program} {K : PySem.W.Frag} {h : Heap} {mg : Str → Option Value} (X : K.In h) (G : h.Ns mainGlobals mg) (c : SaysH fas fns K) (tp_s : (P.main.scope.names.lookup ("super" : Str)).isSome = false) (pF : P.main.file = flX) : Df K "_law_wants" "_law_wants" s__law_wants (adsK K).f__law_wants ["_law_bag_here", "_law_many"] := by
  letI : TabC := ⟨[]⟩
  obtain ⟨_, _, _, _, _, _, _, _, _, l__law_wants, c__law_wants, k__law_wants⟩ := c.def_ 5 (d := ⟨fun K => (He.ga K "_law_wants"), "_law_wants", "_law_wants", s__law_wants, false⟩) rfl
  exact ⟨_, fun_mk l__law_wants c__law_wants k__law_wants, (fun_mk (st := s__law_wants) l__law_wants c__law_wants k__law_wants).binds (ps := ["_law_bag_here", "_law_many"]) fun _ _ _ _ _ _ us hl => match us, hl with | [_, _], _ => rfl⟩
theorem mkf_g_is_integer  {P : Program} {K : PySem.W.Frag} {h : Heap} {mg : Str → Option Value} (X : K.In h) (G : h.Ns mainGlobals mg) (c : SaysH fas fns K) (tp_s : (P.main.scope.names.lookup ("super" : Str)).isSome = false) (pF : P.main.file = flX) : mg "is_integer" = some (.ref (adsK K).f_is_integer) := by
  letI : TabC := ⟨[]⟩
  have a_is_integer : PySem.W.nsIn K mainGlobals "is_integer" = some (some (.ref (He.ga K "is_integer"))) := dok (c.fact 21 rfl)
  exact PySem.W.mg_of X G a_is_integer
theorem mkf_d_is_integer  {P : Program} {K : PySem.W.Frag} {h : Heap} {mg : Str → Option Value} (X : K.In h) (G : h.Ns mainGlobals mg) (c : SaysH fas fns K) (tp_s : (P.main.scope.names.lookup ("super" : Str)).isSome = false) (pF : P.main.file = flX) : Df K "is_integer" "is_integer" s_is_integer (adsK K).f_is_integer ["thing"] := by
  letI : TabC := ⟨[]⟩
  obtain ⟨_, _, _, _, _, _, _, _, _, l_is_integer, c_is_integer, k_is_integer⟩ := c.def_ 6 (d := ⟨fun K => (He.ga K "is_integer"), "is_integer", "is_integer", s_is_integer, false⟩) rfl
  exact ⟨_, fun_mk l_is_integer c_is_integer k_is_integer, (fun_mk (st := s_is_integer) l_is_integer c_is_integer k_is_integer).binds (ps := ["thing"]) fun _ _ _ _ _ _ us hl => match us, hl with | [_], _ => rfl⟩
theorem mkf_g_are_stays  {P : Program} {K : PySem.W.Frag} {h : Heap} {mg : Str → Option Value} (X : K.In h) (G : h.Ns mainGlobals mg) (c : SaysH fas fns K) (tp_s : (P.main.scope.names.lookup ("super" : Str)).isSome = false) (pF : P.main.file = flX) : mg "are_stays" = some (.ref (adsK K).f_are_stays) := by
  letI : TabC := ⟨[]⟩
  have a_are_stays : PySem.W.nsIn K mainGlobals "are_stays" = some (some (.ref (He.ga K "are_stays"))) := dok (c.fact 22 rfl)
  exact PySem.W.mg_of X G a_are_stays
theorem mkf_d_are_stays  {P : Program} {K : PySem.W.Frag} {h : Heap} {mg : Str → Option Value} (X : K.In h) (G : h.Ns mainGlobals mg) (c : SaysH fas fns K) (tp_s : (P.main.scope.names.lookup ("super" : Str)).isSome = false) (pF : P.main.file = flX) : Df K "are_stays" "are_stays" s_are_stays (adsK K).f_are_stays ["thing"] := by
  letI : TabC := ⟨[]⟩
  obtain ⟨_, _, _, _, _, _, _, _, _, l_are_stays, c_are_stays, k_are_stays⟩ := c.def_ 7 (d := ⟨fun K => (He.ga K "are_stays"), "are_stays", "are_stays", s_are_stays, false⟩) rfl
  exact ⟨_, fun_mk l_are_stays c_are_stays k_are_stays, (fun_mk (st := s_are_stays) l_are_stays c_are_stays k_are_stays).binds (ps := ["thing"]) fun _ _ _ _ _ _ us hl => match us, hl with | [_], _ => rfl⟩
theorem mkf_g_need_order  {P : Program} {K : PySem.W.Frag} {h : Heap} {mg : Str → Option Value} (X : K.In h) (G : h.Ns mainGlobals mg) (c : SaysH fas fns K) (tp_s : (P.main.scope.names.lookup ("super" : Str)).isSome = false) (pF : P.main.file = flX) : mg "need_order" = some (.ref (adsK K).f_need_order) := by
  letI : TabC := ⟨[]⟩
  have a_need_order : PySem.W.nsIn K mainGlobals "need_order" = some (some (.ref (He.ga K "need_order"))) := dok (c.fact 23 rfl)
  exact PySem.W.mg_of X G a_need_order
theorem mkf_d_need_order  {P : Program} {K : PySem.W.Frag} {h : Heap} {mg : Str → Option Value} (X : K.In h) (G : h.Ns mainGlobals mg) (c : SaysH fas fns K) (tp_s : (P.main.scope.names.lookup ("super" : Str)).isSome = false) (pF : P.main.file = flX) : Df K "need_order" "need_order" s_need_order (adsK K).f_need_order ["stays"] := by
  letI : TabC := ⟨[]⟩
  obtain ⟨_, _, _, _, _, _, _, _, _, l_need_order, c_need_order, k_need_order⟩ := c.def_ 8 (d := ⟨fun K => (He.ga K "need_order"), "need_order", "need_order", s_need_order, false⟩) rfl
  exact ⟨_, fun_mk l_need_order c_need_order k_need_order, (fun_mk (st := s_need_order) l_need_order c_need_order k_need_order).binds (ps := ["stays"]) fun _ _ _ _ _ _ us hl => match us, hl with | [_], _ => rfl⟩
theorem mkf_g_width_of  {P : Program} {K : PySem.W.Frag} {h : Heap} {mg : Str → Option Value} (X : K.In h) (G : h.Ns mainGlobals mg) (c : SaysH fas fns K) (tp_s : (P.main.scope.names.lookup ("super" : Str)).isSome = false) (pF : P.main.file = flX) : mg "width_of" = some (.ref (adsK K).f_width_of) := by
  letI : TabC := ⟨[]⟩
  have a_width_of : PySem.W.nsIn K mainGlobals "width_of" = some (some (.ref (He.ga K "width_of"))) := dok (c.fact 24 rfl)
  exact PySem.W.mg_of X G a_width_of
theorem mkf_d_width_of  {P : Program} {K : PySem.W.Frag} {h : Heap} {mg : Str → Option Value} (X : K.In h) (G : h.Ns mainGlobals mg) (c : SaysH fas fns K) (tp_s : (P.main.scope.names.lookup ("super" : Str)).isSome = false) (pF : P.main.file = flX) : Df K "width_of" "width_of" s_width_of (adsK K).f_width_of ["stays", "hour"] := by
  letI : TabC := ⟨[]⟩
  obtain ⟨_, _, _, _, _, _, _, _, _, l_width_of, c_width_of, k_width_of⟩ := c.def_ 9 (d := ⟨fun K => (He.ga K "width_of"), "width_of", "width_of", s_width_of, false⟩) rfl
  exact ⟨_, fun_mk l_width_of c_width_of k_width_of, (fun_mk (st := s_width_of) l_width_of c_width_of k_width_of).binds (ps := ["stays", "hour"]) fun _ _ _ _ _ _ us hl => match us, hl with | [_, _], _ => rfl⟩
theorem mkf_mk_Clock  {P : Program} {K : PySem.W.Frag} {h : Heap} {mg : Str → Option Value} (X : K.In h) (G : h.Ns mainGlobals mg) (c : SaysH fas fns K) (tp_s : (P.main.scope.names.lookup ("super" : Str)).isSome = false) (pF : P.main.file = flX) : Mk K (adsK K).c_Clock (adsK K).f_Clock___init__ := by
  letI : TabC := ⟨[]⟩
  have a_Clock___init__ : PySem.W.findIn K (.ref (He.ga K "Clock")) "__init__" = some (some (.ref (He.ma K (He.ga K "Clock") "__init__"))) := dok (c.fact 25 rfl)
  have i_Clock___init__ : PySem.W.isFn K (.ref (He.ma K (He.ga K "Clock") "__init__")) = true := (c.fact 26 rfl)
  have mm_Clock : PySem.W.makesIn K (He.ga K "Clock") = true := (c.fact 27 rfl)
  have mc_Clock : PySem.W.keepIn K (.ref (He.ga K "Clock")) = true := (c.fact 28 rfl)
  exact ⟨mm_Clock, a_Clock___init__, i_Clock___init__, mc_Clock⟩
theorem mkf_d_Clock___init__  {P : Program} {K : PySem.W.Frag} {h : Heap} {mg : Str → Option Value} (X : K.In h) (G : h.Ns mainGlobals mg) (c : SaysH fas fns K) (tp_s : (P.main.scope.names.lookup ("super" : Str)).isSome = false) (pF : P.main.file = flX) : Df K "__init__" "Clock.__init__" s_Clock___init__ (adsK K).f_Clock___init__ ["self", "stays"] := by
  letI : TabC := ⟨[]⟩
  obtain ⟨_, _, _, _, _, _, _, _, _, l_Clock___init__, c_Clock___init__, k_Clock___init__⟩ := c.def_ 10 (d := ⟨fun K => (He.ma K (He.ga K "Clock") "__init__"), "__init__", "Clock.__init__", s_Clock___init__, false⟩) rfl
  exact ⟨_, fun_mk l_Clock___init__ c_Clock___init__ k_Clock___init__, (fun_mk (st := s_Clock___init__) l_Clock___init__ c_Clock___init__ k_Clock___init__).binds (ps := ["self", "stays"]) fun _ _ _ _ _ _ us hl => match us, hl with | [_, _], _ => rfl⟩
theorem mkf_g__law_clock  {P : Program} {K : PySem.W.Frag} {h : Heap} {mg : Str → Option Value} (X : K.In h) (G : h.Ns mainGlobals mg) (c : SaysH fas fns K) (tp_s : (P.main.scope.names.lookup ("super" : Str)).isSome = false) (pF : P.main.file = flX) : mg "_law_clock" = some (.ref (adsK K).f__law_clock) := by
  letI : TabC := ⟨[]⟩
  have a__law_clock : PySem.W.nsIn K mainGlobals "_law_clock" = some (some (.ref (He.ga K "_law_clock"))) := dok (c.fact 29 rfl)
  exact PySem.W.mg_of X G a__law_clock
theorem mkf_d__law_clock  {P : Program} {K : PySem.W.Frag} {h : Heap} {mg : Str → Option Value} (X : K.In h) (G : h.Ns mainGlobals mg) (c : SaysH fas fns K) (tp_s : (P.main.scope.names.lookup ("super" : Str)).isSome = false) (pF : P.main.file = flX) : Df K "_law_clock" "_law_clock" s__law_clock (adsK K).f__law_clock ["_law_bag_here", "_law_stays_here"] := by
  letI : TabC := ⟨[]⟩
  obtain ⟨_, _, _, _, _, _, _, _, _, l__law_clock, c__law_clock, k__law_clock⟩ := c.def_ 11 (d := ⟨fun K => (He.ga K "_law_clock"), "_law_clock", "_law_clock", s__law_clock, false⟩) rfl
  exact ⟨_, fun_mk l__law_clock c__law_clock k__law_clock, (fun_mk (st := s__law_clock) l__law_clock c__law_clock k__law_clock).binds (ps := ["_law_bag_here", "_law_stays_here"]) fun _ _ _ _ _ _ us hl => match us, hl with | [_, _], _ => rfl⟩
theorem mkf_g__law_ring  {P : Program} {K : PySem.W.Frag} {h : Heap} {mg : Str → Option Value} (X : K.In h) (G : h.Ns mainGlobals mg) (c : SaysH fas fns K) (tp_s : (P.main.scope.names.lookup ("super" : Str)).isSome = false) (pF : P.main.file = flX) : mg "_law_ring" = some (.ref (adsK K).f__law_ring) := by
  letI : TabC := ⟨[]⟩
  have a__law_ring : PySem.W.nsIn K mainGlobals "_law_ring" = some (some (.ref (He.ga K "_law_ring"))) := dok (c.fact 30 rfl)
  exact PySem.W.mg_of X G a__law_ring
theorem mkf_d__law_ring  {P : Program} {K : PySem.W.Frag} {h : Heap} {mg : Str → Option Value} (X : K.In h) (G : h.Ns mainGlobals mg) (c : SaysH fas fns K) (tp_s : (P.main.scope.names.lookup ("super" : Str)).isSome = false) (pF : P.main.file = flX) : Df K "_law_ring" "_law_ring" s__law_ring (adsK K).f__law_ring ["_law_bag_here", "_law_many"] := by
  letI : TabC := ⟨[]⟩
  obtain ⟨_, _, _, _, _, _, _, _, _, l__law_ring, c__law_ring, k__law_ring⟩ := c.def_ 12 (d := ⟨fun K => (He.ga K "_law_ring"), "_law_ring", "_law_ring", s__law_ring, false⟩) rfl
  exact ⟨_, fun_mk l__law_ring c__law_ring k__law_ring, (fun_mk (st := s__law_ring) l__law_ring c__law_ring k__law_ring).binds (ps := ["_law_bag_here", "_law_many"]) fun _ _ _ _ _ _ us hl => match us, hl with | [_, _], _ => rfl⟩
theorem mkf_g__law_serving  {P : Program} {K : PySem.W.Frag} {h : Heap} {mg : Str → Option Value} (X : K.In h) (G : h.Ns mainGlobals mg) (c : SaysH fas fns K) (tp_s : (P.main.scope.names.lookup ("super" : Str)).isSome = false) (pF : P.main.file = flX) : mg "_law_serving" = some (.ref (adsK K).f__law_serving) := by
  letI : TabC := ⟨[]⟩
  have a__law_serving : PySem.W.nsIn K mainGlobals "_law_serving" = some (some (.ref (He.ga K "_law_serving"))) := dok (c.fact 31 rfl)
  exact PySem.W.mg_of X G a__law_serving
theorem mkf_d__law_serving  {P : Program} {K : PySem.W.Frag} {h : Heap} {mg : Str → Option Value} (X : K.In h) (G : h.Ns mainGlobals mg) (c : SaysH fas fns K) (tp_s : (P.main.scope.names.lookup ("super" : Str)).isSome = false) (pF : P.main.file = flX) : Df K "_law_serving" "_law_serving" s__law_serving (adsK K).f__law_serving ["_law_stays_here", "_law_hour"] := by
  letI : TabC := ⟨[]⟩
  obtain ⟨_, _, _, _, _, _, _, _, _, l__law_serving, c__law_serving, k__law_serving⟩ := c.def_ 13 (d := ⟨fun K => (He.ga K "_law_serving"), "_law_serving", "_law_serving", s__law_serving, false⟩) rfl
  exact ⟨_, fun_mk l__law_serving c__law_serving k__law_serving, (fun_mk (st := s__law_serving) l__law_serving c__law_serving k__law_serving).binds (ps := ["_law_stays_here", "_law_hour"]) fun _ _ _ _ _ _ us hl => match us, hl with | [_, _], _ => rfl⟩
theorem mkf_g__law_hop  {P : Program} {K : PySem.W.Frag} {h : Heap} {mg : Str → Option Value} (X : K.In h) (G : h.Ns mainGlobals mg) (c : SaysH fas fns K) (tp_s : (P.main.scope.names.lookup ("super" : Str)).isSome = false) (pF : P.main.file = flX) : mg "_law_hop" = some (.ref (adsK K).f__law_hop) := by
  letI : TabC := ⟨[]⟩
  have a__law_hop : PySem.W.nsIn K mainGlobals "_law_hop" = some (some (.ref (He.ga K "_law_hop"))) := dok (c.fact 32 rfl)
  exact PySem.W.mg_of X G a__law_hop
theorem mkf_d__law_hop  {P : Program} {K : PySem.W.Frag} {h : Heap} {mg : Str → Option Value} (X : K.In h) (G : h.Ns mainGlobals mg) (c : SaysH fas fns K) (tp_s : (P.main.scope.names.lookup ("super" : Str)).isSome = false) (pF : P.main.file = flX) : Df K "_law_hop" "_law_hop" s__law_hop (adsK K).f__law_hop ["_law_stays_here", "_law_hour", "_law_later"] := by
  letI : TabC := ⟨[]⟩
  obtain ⟨_, _, _, _, _, _, _, _, _, l__law_hop, c__law_hop, k__law_hop⟩ := c.def_ 14 (d := ⟨fun K => (He.ga K "_law_hop"), "_law_hop", "_law_hop", s__law_hop, false⟩) rfl
  exact ⟨_, fun_mk l__law_hop c__law_hop k__law_hop, (fun_mk (st := s__law_hop) l__law_hop c__law_hop k__law_hop).binds (ps := ["_law_stays_here", "_law_hour", "_law_later"]) fun _ _ _ _ _ _ us hl => match us, hl with | [_, _, _], _ => rfl⟩
theorem mkf_g__law_wound  {P : Program} {K : PySem.W.Frag} {h : Heap} {mg : Str → Option Value} (X : K.In h) (G : h.Ns mainGlobals mg) (c : SaysH fas fns K) (tp_s : (P.main.scope.names.lookup ("super" : Str)).isSome = false) (pF : P.main.file = flX) : mg "_law_wound" = some (.ref (adsK K).f__law_wound) := by
  letI : TabC := ⟨[]⟩
  have a__law_wound : PySem.W.nsIn K mainGlobals "_law_wound" = some (some (.ref (He.ga K "_law_wound"))) := dok (c.fact 33 rfl)
  exact PySem.W.mg_of X G a__law_wound
theorem mkf_d__law_wound  {P : Program} {K : PySem.W.Frag} {h : Heap} {mg : Str → Option Value} (X : K.In h) (G : h.Ns mainGlobals mg) (c : SaysH fas fns K) (tp_s : (P.main.scope.names.lookup ("super" : Str)).isSome = false) (pF : P.main.file = flX) : Df K "_law_wound" "_law_wound" s__law_wound (adsK K).f__law_wound ["_law_stays_here", "_law_ring_here"] := by
  letI : TabC := ⟨[]⟩
  obtain ⟨_, _, _, _, _, _, _, _, _, l__law_wound, c__law_wound, k__law_wound⟩ := c.def_ 15 (d := ⟨fun K => (He.ga K "_law_wound"), "_law_wound", "_law_wound", s__law_wound, false⟩) rfl
  exact ⟨_, fun_mk l__law_wound c__law_wound k__law_wound, (fun_mk (st := s__law_wound) l__law_wound c__law_wound k__law_wound).binds (ps := ["_law_stays_here", "_law_ring_here"]) fun _ _ _ _ _ _ us hl => match us, hl with | [_, _], _ => rfl⟩
theorem mkf_g__law_bound_of  {P : Program} {K : PySem.W.Frag} {h : Heap} {mg : Str → Option Value} (X : K.In h) (G : h.Ns mainGlobals mg) (c : SaysH fas fns K) (tp_s : (P.main.scope.names.lookup ("super" : Str)).isSome = false) (pF : P.main.file = flX) : mg "_law_bound_of" = some (.ref (adsK K).f__law_bound_of) := by
  letI : TabC := ⟨[]⟩
  have a__law_bound_of : PySem.W.nsIn K mainGlobals "_law_bound_of" = some (some (.ref (He.ga K "_law_bound_of"))) := dok (c.fact 34 rfl)
  exact PySem.W.mg_of X G a__law_bound_of
theorem mkf_d__law_bound_of  {P : Program} {K : PySem.W.Frag} {h : Heap} {mg : Str → Option Value} (X : K.In h) (G : h.Ns mainGlobals mg) (c : SaysH fas fns K) (tp_s : (P.main.scope.names.lookup ("super" : Str)).isSome = false) (pF : P.main.file = flX) : Df K "_law_bound_of" "_law_bound_of" s__law_bound_of (adsK K).f__law_bound_of ["_law_stays_here", "_law_wants_here", "_law_ring_here"] := by
  letI : TabC := ⟨[]⟩
  obtain ⟨_, _, _, _, _, _, _, _, _, l__law_bound_of, c__law_bound_of, k__law_bound_of⟩ := c.def_ 16 (d := ⟨fun K => (He.ga K "_law_bound_of"), "_law_bound_of", "_law_bound_of", s__law_bound_of, false⟩) rfl
  exact ⟨_, fun_mk l__law_bound_of c__law_bound_of k__law_bound_of, (fun_mk (st := s__law_bound_of) l__law_bound_of c__law_bound_of k__law_bound_of).binds (ps := ["_law_stays_here", "_law_wants_here", "_law_ring_here"]) fun _ _ _ _ _ _ us hl => match us, hl with | [_, _, _], _ => rfl⟩
theorem mkf_g_is_hour  {P : Program} {K : PySem.W.Frag} {h : Heap} {mg : Str → Option Value} (X : K.In h) (G : h.Ns mainGlobals mg) (c : SaysH fas fns K) (tp_s : (P.main.scope.names.lookup ("super" : Str)).isSome = false) (pF : P.main.file = flX) : mg "is_hour" = some (.ref (adsK K).f_is_hour) := by
  letI : TabC := ⟨[]⟩
  have a_is_hour : PySem.W.nsIn K mainGlobals "is_hour" = some (some (.ref (He.ga K "is_hour"))) := dok (c.fact 35 rfl)
  exact PySem.W.mg_of X G a_is_hour
theorem mkf_d_is_hour  {P : Program} {K : PySem.W.Frag} {h : Heap} {mg : Str → Option Value} (X : K.In h) (G : h.Ns mainGlobals mg) (c : SaysH fas fns K) (tp_s : (P.main.scope.names.lookup ("super" : Str)).isSome = false) (pF : P.main.file = flX) : Df K "is_hour" "is_hour" s_is_hour (adsK K).f_is_hour ["hours", "thing"] := by
  letI : TabC := ⟨[]⟩
  obtain ⟨_, _, _, _, _, _, _, _, _, l_is_hour, c_is_hour, k_is_hour⟩ := c.def_ 17 (d := ⟨fun K => (He.ga K "is_hour"), "is_hour", "is_hour", s_is_hour, false⟩) rfl
  exact ⟨_, fun_mk l_is_hour c_is_hour k_is_hour, (fun_mk (st := s_is_hour) l_is_hour c_is_hour k_is_hour).binds (ps := ["hours", "thing"]) fun _ _ _ _ _ _ us hl => match us, hl with | [_, _], _ => rfl⟩
theorem mkf_p_Clock_hours  {P : Program} {K : PySem.W.Frag} {h : Heap} {mg : Str → Option Value} (X : K.In h) (G : h.Ns mainGlobals mg) (c : SaysH fas fns K) (tp_s : (P.main.scope.names.lookup ("super" : Str)).isSome = false) (pF : P.main.file = flX) : PropOf K (adsK K).c_Clock "hours" (adsK K).q_Clock_hours (adsK K).f_Clock_hours := by
  letI : TabC := ⟨[]⟩
  have pa_Clock_hours : PySem.W.findIn K (.ref (He.ga K "Clock")) "hours" = some (some (.ref (He.ma K (He.ga K "Clock") "hours"))) := dok (c.fact 36 rfl)
  have pb_Clock_hours : PySem.W.specialIn K (.ref (He.ma K (He.ga K "Clock") "hours")) "__get__" = some (some (.builtin "property.__get__")) := dok (c.fact 37 rfl)
  have pc_Clock_hours : PySem.W.takesIn K (.ref (He.ma K (He.ga K "Clock") "hours")) = some true := dok (c.fact 38 rfl)
  obtain ⟨_, pd_Clock_hours⟩ := rcB_ok (c.fact 39 rfl)
  exact ⟨pa_Clock_hours, pb_Clock_hours, pc_Clock_hours, ⟨_, pd_Clock_hours⟩⟩
theorem mkf_d_Clock_hours  {P : Program} {K : PySem.W.Frag} {h : Heap} {mg : Str → Option Value} (X : K.In h) (G : h.Ns mainGlobals mg) (c : SaysH fas fns K) (tp_s : (P.main.scope.names.lookup ("super" : Str)).isSome = false) (pF : P.main.file = flX) : Df K "hours" "Clock.hours" s_Clock_hours (adsK K).f_Clock_hours ["self"] := by
  letI : TabC := ⟨[]⟩
  obtain ⟨_, _, _, _, _, _, _, _, _, l_Clock_hours, c_Clock_hours, k_Clock_hours⟩ := c.def_ 18 (d := ⟨fun K => (rcA K (He.ma K (He.ga K "Clock") "hours") "property"), "hours", "Clock.hours", s_Clock_hours, false⟩) rfl
  exact ⟨_, fun_mk l_Clock_hours c_Clock_hours k_Clock_hours, (fun_mk (st := s_Clock_hours) l_Clock_hours c_Clock_hours k_Clock_hours).binds (ps := ["self"]) fun _ _ _ _ _ _ us hl => match us, hl with | [_], _ => rfl⟩
theorem mkf_m_Clock_widths  {P : Program} {K : PySem.W.Frag} {h : Heap} {mg : Str → Option Value} (X : K.In h) (G : h.Ns mainGlobals mg) (c : SaysH fas fns K) (tp_s : (P.main.scope.names.lookup ("super" : Str)).isSome = false) (pF : P.main.file = flX) : Meth K (adsK K).c_Clock "widths" (adsK K).f_Clock_widths := by
  letI : TabC := ⟨[]⟩
  have a_Clock_widths : PySem.W.findIn K (.ref (He.ga K "Clock")) "widths" = some (some (.ref (He.ma K (He.ga K "Clock") "widths"))) := dok (c.fact 40 rfl)
  have i_Clock_widths : PySem.W.isFn K (.ref (He.ma K (He.ga K "Clock") "widths")) = true := (c.fact 41 rfl)
  obtain ⟨_, _, _, _, _, _, _, _, _, l_Clock_widths, c_Clock_widths, k_Clock_widths⟩ := c.def_ 19 (d := ⟨fun K => (He.ma K (He.ga K "Clock") "widths"), "widths", "Clock.widths", s_Clock_widths, false⟩) rfl
  exact ⟨a_Clock_widths, i_Clock_widths, k_Clock_widths⟩
theorem mkf_d_Clock_widths  {P : Program} {K : PySem.W.Frag} {h : Heap} {mg : Str → Option Value} (X : K.In h) (G : h.Ns mainGlobals mg) (c : SaysH fas fns K) (tp_s : (P.main.scope.names.lookup ("super" : Str)).isSome = false) (pF : P.main.file = flX) : Df K "widths" "Clock.widths" s_Clock_widths (adsK K).f_Clock_widths ["self"] := by
  letI : TabC := ⟨[]⟩
  obtain ⟨_, _, _, _, _, _, _, _, _, l_Clock_widths, c_Clock_widths, k_Clock_widths⟩ := c.def_ 19 (d := ⟨fun K => (He.ma K (He.ga K "Clock") "widths"), "widths", "Clock.widths", s_Clock_widths, false⟩) rfl
  exact ⟨_, fun_mk l_Clock_widths c_Clock_widths k_Clock_widths, (fun_mk (st := s_Clock_widths) l_Clock_widths c_Clock_widths k_Clock_widths).binds (ps := ["self"]) fun _ _ _ _ _ _ us hl => match us, hl with | [_], _ => rfl⟩
theorem mkf_g_step_hours  {P : Program} {K : PySem.W.Frag} {h : Heap} {mg : Str → Option Value} (X : K.In h) (G : h.Ns mainGlobals mg) (c : SaysH fas fns K) (tp_s : (P.main.scope.names.lookup ("super" : Str)).isSome = false) (pF : P.main.file = flX) : mg "step_hours" = some (.ref (adsK K).f_step_hours) := by
  letI : TabC := ⟨[]⟩
  have a_step_hours : PySem.W.nsIn K mainGlobals "step_hours" = some (some (.ref (He.ga K "step_hours"))) := dok (c.fact 42 rfl)
  exact PySem.W.mg_of X G a_step_hours
theorem mkf_d_step_hours  {P : Program} {K : PySem.W.Frag} {h : Heap} {mg : Str → Option Value} (X : K.In h) (G : h.Ns mainGlobals mg) (c : SaysH fas fns K) (tp_s : (P.main.scope.names.lookup ("super" : Str)).isSome = false) (pF : P.main.file = flX) : Df K "step_hours" "step_hours" s_step_hours (adsK K).f_step_hours ["clock", "hour", "later"] := by
  letI : TabC := ⟨[]⟩
  obtain ⟨_, _, _, _, _, _, _, _, _, l_step_hours, c_step_hours, k_step_hours⟩ := c.def_ 20 (d := ⟨fun K => (He.ga K "step_hours"), "step_hours", "step_hours", s_step_hours, false⟩) rfl
  exact ⟨_, fun_mk l_step_hours c_step_hours k_step_hours, (fun_mk (st := s_step_hours) l_step_hours c_step_hours k_step_hours).binds (ps := ["clock", "hour", "later"]) fun _ _ _ _ _ _ us hl => match us, hl with | [_, _, _], _ => rfl⟩
theorem mkf_g__law_alike  {P : Program} {K : PySem.W.Frag} {h : Heap} {mg : Str → Option Value} (X : K.In h) (G : h.Ns mainGlobals mg) (c : SaysH fas fns K) (tp_s : (P.main.scope.names.lookup ("super" : Str)).isSome = false) (pF : P.main.file = flX) : mg "_law_alike" = some (.ref (adsK K).f__law_alike) := by
  letI : TabC := ⟨[]⟩
  have a__law_alike : PySem.W.nsIn K mainGlobals "_law_alike" = some (some (.ref (He.ga K "_law_alike"))) := dok (c.fact 43 rfl)
  exact PySem.W.mg_of X G a__law_alike
theorem mkf_d__law_alike  {P : Program} {K : PySem.W.Frag} {h : Heap} {mg : Str → Option Value} (X : K.In h) (G : h.Ns mainGlobals mg) (c : SaysH fas fns K) (tp_s : (P.main.scope.names.lookup ("super" : Str)).isSome = false) (pF : P.main.file = flX) : Df K "_law_alike" "_law_alike" s__law_alike (adsK K).f__law_alike ["_law_found", "_law_due"] := by
  letI : TabC := ⟨[]⟩
  obtain ⟨_, _, _, _, _, _, _, _, _, l__law_alike, c__law_alike, k__law_alike⟩ := c.def_ 21 (d := ⟨fun K => (He.ga K "_law_alike"), "_law_alike", "_law_alike", s__law_alike, false⟩) rfl
  exact ⟨_, fun_mk l__law_alike c__law_alike k__law_alike, (fun_mk (st := s__law_alike) l__law_alike c__law_alike k__law_alike).binds (ps := ["_law_found", "_law_due"]) fun _ _ _ _ _ _ us hl => match us, hl with | [_, _], _ => rfl⟩
theorem mkf_g_winds  {P : Program} {K : PySem.W.Frag} {h : Heap} {mg : Str → Option Value} (X : K.In h) (G : h.Ns mainGlobals mg) (c : SaysH fas fns K) (tp_s : (P.main.scope.names.lookup ("super" : Str)).isSome = false) (pF : P.main.file = flX) : mg "winds" = some (.ref (adsK K).f_winds) := by
  letI : TabC := ⟨[]⟩
  have a_winds : PySem.W.nsIn K mainGlobals "winds" = some (some (.ref (He.ga K "winds"))) := dok (c.fact 44 rfl)
  exact PySem.W.mg_of X G a_winds
theorem mkf_d_winds  {P : Program} {K : PySem.W.Frag} {h : Heap} {mg : Str → Option Value} (X : K.In h) (G : h.Ns mainGlobals mg) (c : SaysH fas fns K) (tp_s : (P.main.scope.names.lookup ("super" : Str)).isSome = false) (pF : P.main.file = flX) : Df K "winds" "winds" s_winds (adsK K).f_winds ["clock", "ring"] := by
  letI : TabC := ⟨[]⟩
  obtain ⟨_, _, _, _, _, _, _, _, _, l_winds, c_winds, k_winds⟩ := c.def_ 22 (d := ⟨fun K => (He.ga K "winds"), "winds", "winds", s_winds, false⟩) rfl
  exact ⟨_, fun_mk l_winds c_winds k_winds, (fun_mk (st := s_winds) l_winds c_winds k_winds).binds (ps := ["clock", "ring"]) fun _ _ _ _ _ _ us hl => match us, hl with | [_, _], _ => rfl⟩
theorem mkf_g_up  {P : Program} {K : PySem.W.Frag} {h : Heap} {mg : Str → Option Value} (X : K.In h) (G : h.Ns mainGlobals mg) (c : SaysH fas fns K) (tp_s : (P.main.scope.names.lookup ("super" : Str)).isSome = false) (pF : P.main.file = flX) : mg "up" = some (.ref (adsK K).f_up) := by
  letI : TabC := ⟨[]⟩
  have a_up : PySem.W.nsIn K mainGlobals "up" = some (some (.ref (He.ga K "up"))) := dok (c.fact 45 rfl)
  exact PySem.W.mg_of X G a_up
theorem mkf_d_up  {P : Program} {K : PySem.W.Frag} {h : Heap} {mg : Str → Option Value} (X : K.In h) (G : h.Ns mainGlobals mg) (c : SaysH fas fns K) (tp_s : (P.main.scope.names.lookup ("super" : Str)).isSome = false) (pF : P.main.file = flX) : Df K "up" "up" s_up (adsK K).f_up ["above", "below"] := by
  letI : TabC := ⟨[]⟩
  obtain ⟨_, _, _, _, _, _, _, _, _, l_up, c_up, k_up⟩ := c.def_ 23 (d := ⟨fun K => (He.ga K "up"), "up", "up", s_up, false⟩) rfl
  exact ⟨_, fun_mk l_up c_up k_up, (fun_mk (st := s_up) l_up c_up k_up).binds (ps := ["above", "below"]) fun _ _ _ _ _ _ us hl => match us, hl with | [_, _], _ => rfl⟩
theorem mkf_m_Needs___getitem__  {P : Program} {K : PySem.W.Frag} {h : Heap} {mg : Str → Option Value} (X : K.In h) (G : h.Ns mainGlobals mg) (c : SaysH fas fns K) (tp_s : (P.main.scope.names.lookup ("super" : Str)).isSome = false) (pF : P.main.file = flX) : Meth K (adsK K).c_Needs "__getitem__" (adsK K).f_Needs___getitem__ := by
  letI : TabC := ⟨[]⟩
  have a_Needs___getitem__ : PySem.W.findIn K (.ref (He.ga K "Needs")) "__getitem__" = some (some (.ref (He.ma K (He.ga K "Needs") "__getitem__"))) := dok (c.fact 46 rfl)
  have i_Needs___getitem__ : PySem.W.isFn K (.ref (He.ma K (He.ga K "Needs") "__getitem__")) = true := (c.fact 47 rfl)
  obtain ⟨_, _, _, _, _, _, _, _, _, l_Needs___getitem__, c_Needs___getitem__, k_Needs___getitem__⟩ := c.def_ 24 (d := ⟨fun K => (He.ma K (He.ga K "Needs") "__getitem__"), "__getitem__", "Needs.__getitem__", s_Needs___getitem__, false⟩) rfl
  exact ⟨a_Needs___getitem__, i_Needs___getitem__, k_Needs___getitem__⟩
theorem mkf_fi_Needs___getitem__  {P : Program} {K : PySem.W.Frag} {h : Heap} {mg : Str → Option Value} (X : K.In h) (G : h.Ns mainGlobals mg) (c : SaysH fas fns K) (tp_s : (P.main.scope.names.lookup ("super" : Str)).isSome = false) (pF : P.main.file = flX) : PySem.W.fnIn K (adsK K).f_Needs___getitem__ = true := by
  letI : TabC := ⟨[]⟩
  have fi_Needs___getitem__ : PySem.W.fnIn K (He.ma K (He.ga K "Needs") "__getitem__") = true := (c.fact 48 rfl)
  exact fi_Needs___getitem__
theorem mkf_d_Needs___getitem__  {P : Program} {K : PySem.W.Frag} {h : Heap} {mg : Str → Option Value} (X : K.In h) (G : h.Ns mainGlobals mg) (c : SaysH fas fns K) (tp_s : (P.main.scope.names.lookup ("super" : Str)).isSome = false) (pF : P.main.file = flX) : Df K "__getitem__" "Needs.__getitem__" s_Needs___getitem__ (adsK K).f_Needs___getitem__ ["self", "hour"] := by
  letI : TabC := ⟨[]⟩
  obtain ⟨_, _, _, _, _, _, _, _, _, l_Needs___getitem__, c_Needs___getitem__, k_Needs___getitem__⟩ := c.def_ 24 (d := ⟨fun K => (He.ma K (He.ga K "Needs") "__getitem__"), "__getitem__", "Needs.__getitem__", s_Needs___getitem__, false⟩) rfl
  exact ⟨_, fun_mk l_Needs___getitem__ c_Needs___getitem__ k_Needs___getitem__, (fun_mk (st := s_Needs___getitem__) l_Needs___getitem__ c_Needs___getitem__ k_Needs___getitem__).binds (ps := ["self", "hour"]) fun _ _ _ _ _ _ us hl => match us, hl with | [_, _], _ => rfl⟩
theorem mkf_g_ring_bound  {P : Program} {K : PySem.W.Frag} {h : Heap} {mg : Str → Option Value} (X : K.In h) (G : h.Ns mainGlobals mg) (c : SaysH fas fns K) (tp_s : (P.main.scope.names.lookup ("super" : Str)).isSome = false) (pF : P.main.file = flX) : mg "ring_bound" = some (.ref (adsK K).f_ring_bound) := by
  letI : TabC := ⟨[]⟩
  have a_ring_bound : PySem.W.nsIn K mainGlobals "ring_bound" = some (some (.ref (He.ga K "ring_bound"))) := dok (c.fact 49 rfl)
  exact PySem.W.mg_of X G a_ring_bound
theorem mkf_d_ring_bound  {P : Program} {K : PySem.W.Frag} {h : Heap} {mg : Str → Option Value} (X : K.In h) (G : h.Ns mainGlobals mg) (c : SaysH fas fns K) (tp_s : (P.main.scope.names.lookup ("super" : Str)).isSome = false) (pF : P.main.file = flX) : Df K "ring_bound" "ring_bound" s_ring_bound (adsK K).f_ring_bound ["clock", "needs", "ring"] := by
  letI : TabC := ⟨[]⟩
  obtain ⟨_, _, _, _, _, _, _, _, _, l_ring_bound, c_ring_bound, k_ring_bound⟩ := c.def_ 25 (d := ⟨fun K => (He.ga K "ring_bound"), "ring_bound", "ring_bound", s_ring_bound, false⟩) rfl
  exact ⟨_, fun_mk l_ring_bound c_ring_bound k_ring_bound, (fun_mk (st := s_ring_bound) l_ring_bound c_ring_bound k_ring_bound).binds (ps := ["clock", "needs", "ring"]) fun _ _ _ _ _ _ us hl => match us, hl with | [_, _, _], _ => rfl⟩
theorem mkf_p_Needs_hours  {P : Program} {K : PySem.W.Frag} {h : Heap} {mg : Str → Option Value} (X : K.In h) (G : h.Ns mainGlobals mg) (c : SaysH fas fns K) (tp_s : (P.main.scope.names.lookup ("super" : Str)).isSome = false) (pF : P.main.file = flX) : PropOf K (adsK K).c_Needs "hours" (adsK K).q_Needs_hours (adsK K).f_Needs_hours := by
  letI : TabC := ⟨[]⟩
  have pa_Needs_hours : PySem.W.findIn K (.ref (He.ga K "Needs")) "hours" = some (some (.ref (He.ma K (He.ga K "Needs") "hours"))) := dok (c.fact 50 rfl)
  have pb_Needs_hours : PySem.W.specialIn K (.ref (He.ma K (He.ga K "Needs") "hours")) "__get__" = some (some (.builtin "property.__get__")) := dok (c.fact 51 rfl)
  have pc_Needs_hours : PySem.W.takesIn K (.ref (He.ma K (He.ga K "Needs") "hours")) = some true := dok (c.fact 52 rfl)
  obtain ⟨_, pd_Needs_hours⟩ := rcB_ok (c.fact 53 rfl)
  exact ⟨pa_Needs_hours, pb_Needs_hours, pc_Needs_hours, ⟨_, pd_Needs_hours⟩⟩
theorem mkf_d_Needs_hours  {P : Program} {K : PySem.W.Frag} {h : Heap} {mg : Str → Option Value} (X : K.In h) (G : h.Ns mainGlobals mg) (c : SaysH fas fns K) (tp_s : (P.main.scope.names.lookup ("super" : Str)).isSome = false) (pF : P.main.file = flX) : Df K "hours" "Needs.hours" s_Needs_hours (adsK K).f_Needs_hours ["self"] := by
  letI : TabC := ⟨[]⟩
  obtain ⟨_, _, _, _, _, _, _, _, _, l_Needs_hours, c_Needs_hours, k_Needs_hours⟩ := c.def_ 26 (d := ⟨fun K => (rcA K (He.ma K (He.ga K "Needs") "hours") "property"), "hours", "Needs.hours", s_Needs_hours, false⟩) rfl
  exact ⟨_, fun_mk l_Needs_hours c_Needs_hours k_Needs_hours, (fun_mk (st := s_Needs_hours) l_Needs_hours c_Needs_hours k_Needs_hours).binds (ps := ["self"]) fun _ _ _ _ _ _ us hl => match us, hl with | [_], _ => rfl⟩
theorem mkf_g_need_alike  {P : Program} {K : PySem.W.Frag} {h : Heap} {mg : Str → Option Value} (X : K.In h) (G : h.Ns mainGlobals mg) (c : SaysH fas fns K) (tp_s : (P.main.scope.names.lookup ("super" : Str)).isSome = false) (pF : P.main.file = flX) : mg "need_alike" = some (.ref (adsK K).f_need_alike) := by
  letI : TabC := ⟨[]⟩
  have a_need_alike : PySem.W.nsIn K mainGlobals "need_alike" = some (some (.ref (He.ga K "need_alike"))) := dok (c.fact 54 rfl)
  exact PySem.W.mg_of X G a_need_alike
theorem mkf_d_need_alike  {P : Program} {K : PySem.W.Frag} {h : Heap} {mg : Str → Option Value} (X : K.In h) (G : h.Ns mainGlobals mg) (c : SaysH fas fns K) (tp_s : (P.main.scope.names.lookup ("super" : Str)).isSome = false) (pF : P.main.file = flX) : Df K "need_alike" "need_alike" s_need_alike (adsK K).f_need_alike ["clock", "needs"] := by
  letI : TabC := ⟨[]⟩
  obtain ⟨_, _, _, _, _, _, _, _, _, l_need_alike, c_need_alike, k_need_alike⟩ := c.def_ 27 (d := ⟨fun K => (He.ga K "need_alike"), "need_alike", "need_alike", s_need_alike, false⟩) rfl
  exact ⟨_, fun_mk l_need_alike c_need_alike k_need_alike, (fun_mk (st := s_need_alike) l_need_alike c_need_alike k_need_alike).binds (ps := ["clock", "needs"]) fun _ _ _ _ _ _ us hl => match us, hl with | [_, _], _ => rfl⟩
theorem mkf_g_bound  {P : Program} {K : PySem.W.Frag} {h : Heap} {mg : Str → Option Value} (X : K.In h) (G : h.Ns mainGlobals mg) (c : SaysH fas fns K) (tp_s : (P.main.scope.names.lookup ("super" : Str)).isSome = false) (pF : P.main.file = flX) : mg "bound" = some (.ref (adsK K).f_bound) := by
  letI : TabC := ⟨[]⟩
  have a_bound : PySem.W.nsIn K mainGlobals "bound" = some (some (.ref (He.ga K "bound"))) := dok (c.fact 55 rfl)
  exact PySem.W.mg_of X G a_bound
theorem mkf_d_bound  {P : Program} {K : PySem.W.Frag} {h : Heap} {mg : Str → Option Value} (X : K.In h) (G : h.Ns mainGlobals mg) (c : SaysH fas fns K) (tp_s : (P.main.scope.names.lookup ("super" : Str)).isSome = false) (pF : P.main.file = flX) : Df K "bound" "bound" s_bound (adsK K).f_bound ["clock", "needs", "ring"] := by
  letI : TabC := ⟨[]⟩
  obtain ⟨_, _, _, _, _, _, _, _, _, l_bound, c_bound, k_bound⟩ := c.def_ 28 (d := ⟨fun K => (He.ga K "bound"), "bound", "bound", s_bound, false⟩) rfl
  exact ⟨_, fun_mk l_bound c_bound k_bound, (fun_mk (st := s_bound) l_bound c_bound k_bound).binds (ps := ["clock", "needs", "ring"]) fun _ _ _ _ _ _ us hl => match us, hl with | [_, _, _], _ => rfl⟩
theorem mkf_g_is_count  {P : Program} {K : PySem.W.Frag} {h : Heap} {mg : Str → Option Value} (X : K.In h) (G : h.Ns mainGlobals mg) (c : SaysH fas fns K) (tp_s : (P.main.scope.names.lookup ("super" : Str)).isSome = false) (pF : P.main.file = flX) : mg "is_count" = some (.ref (adsK K).f_is_count) := by
  letI : TabC := ⟨[]⟩
  have a_is_count : PySem.W.nsIn K mainGlobals "is_count" = some (some (.ref (He.ga K "is_count"))) := dok (c.fact 56 rfl)
  exact PySem.W.mg_of X G a_is_count
theorem mkf_d_is_count  {P : Program} {K : PySem.W.Frag} {h : Heap} {mg : Str → Option Value} (X : K.In h) (G : h.Ns mainGlobals mg) (c : SaysH fas fns K) (tp_s : (P.main.scope.names.lookup ("super" : Str)).isSome = false) (pF : P.main.file = flX) : Df K "is_count" "is_count" s_is_count (adsK K).f_is_count ["thing"] := by
  letI : TabC := ⟨[]⟩
  obtain ⟨_, _, _, _, _, _, _, _, _, l_is_count, c_is_count, k_is_count⟩ := c.def_ 29 (d := ⟨fun K => (He.ga K "is_count"), "is_count", "is_count", s_is_count, false⟩) rfl
  exact ⟨_, fun_mk l_is_count c_is_count k_is_count, (fun_mk (st := s_is_count) l_is_count c_is_count k_is_count).binds (ps := ["thing"]) fun _ _ _ _ _ _ us hl => match us, hl with | [_], _ => rfl⟩
theorem mkf_g_are_counts  {P : Program} {K : PySem.W.Frag} {h : Heap} {mg : Str → Option Value} (X : K.In h) (G : h.Ns mainGlobals mg) (c : SaysH fas fns K) (tp_s : (P.main.scope.names.lookup ("super" : Str)).isSome = false) (pF : P.main.file = flX) : mg "are_counts" = some (.ref (adsK K).f_are_counts) := by
  letI : TabC := ⟨[]⟩
  have a_are_counts : PySem.W.nsIn K mainGlobals "are_counts" = some (some (.ref (He.ga K "are_counts"))) := dok (c.fact 57 rfl)
  exact PySem.W.mg_of X G a_are_counts
theorem mkf_d_are_counts  {P : Program} {K : PySem.W.Frag} {h : Heap} {mg : Str → Option Value} (X : K.In h) (G : h.Ns mainGlobals mg) (c : SaysH fas fns K) (tp_s : (P.main.scope.names.lookup ("super" : Str)).isSome = false) (pF : P.main.file = flX) : Df K "are_counts" "are_counts" s_are_counts (adsK K).f_are_counts ["hours", "thing"] := by
  letI : TabC := ⟨[]⟩
  obtain ⟨_, _, _, _, _, _, _, _, _, l_are_counts, c_are_counts, k_are_counts⟩ := c.def_ 30 (d := ⟨fun K => (He.ga K "are_counts"), "are_counts", "are_counts", s_are_counts, false⟩) rfl
  exact ⟨_, fun_mk l_are_counts c_are_counts k_are_counts, (fun_mk (st := s_are_counts) l_are_counts c_are_counts k_are_counts).binds (ps := ["hours", "thing"]) fun _ _ _ _ _ _ us hl => match us, hl with | [_, _], _ => rfl⟩
theorem mkf_g_is_row  {P : Program} {K : PySem.W.Frag} {h : Heap} {mg : Str → Option Value} (X : K.In h) (G : h.Ns mainGlobals mg) (c : SaysH fas fns K) (tp_s : (P.main.scope.names.lookup ("super" : Str)).isSome = false) (pF : P.main.file = flX) : mg "is_row" = some (.ref (adsK K).f_is_row) := by
  letI : TabC := ⟨[]⟩
  have a_is_row : PySem.W.nsIn K mainGlobals "is_row" = some (some (.ref (He.ga K "is_row"))) := dok (c.fact 58 rfl)
  exact PySem.W.mg_of X G a_is_row
theorem mkf_d_is_row  {P : Program} {K : PySem.W.Frag} {h : Heap} {mg : Str → Option Value} (X : K.In h) (G : h.Ns mainGlobals mg) (c : SaysH fas fns K) (tp_s : (P.main.scope.names.lookup ("super" : Str)).isSome = false) (pF : P.main.file = flX) : Df K "is_row" "is_row" s_is_row (adsK K).f_is_row ["thing"] := by
  letI : TabC := ⟨[]⟩
  obtain ⟨_, _, _, _, _, _, _, _, _, l_is_row, c_is_row, k_is_row⟩ := c.def_ 31 (d := ⟨fun K => (He.ga K "is_row"), "is_row", "is_row", s_is_row, false⟩) rfl
  exact ⟨_, fun_mk l_is_row c_is_row k_is_row, (fun_mk (st := s_is_row) l_is_row c_is_row k_is_row).binds (ps := ["thing"]) fun _ _ _ _ _ _ us hl => match us, hl with | [_], _ => rfl⟩
theorem mkf_mk_Needs  {P : Program} {K : PySem.W.Frag} {h : Heap} {mg : Str → Option Value} (X : K.In h) (G : h.Ns mainGlobals mg) (c : SaysH fas fns K) (tp_s : (P.main.scope.names.lookup ("super" : Str)).isSome = false) (pF : P.main.file = flX) : Mk K (adsK K).c_Needs (adsK K).f_Needs___init__ := by
  letI : TabC := ⟨[]⟩
  have a_Needs___init__ : PySem.W.findIn K (.ref (He.ga K "Needs")) "__init__" = some (some (.ref (He.ma K (He.ga K "Needs") "__init__"))) := dok (c.fact 59 rfl)
  have i_Needs___init__ : PySem.W.isFn K (.ref (He.ma K (He.ga K "Needs") "__init__")) = true := (c.fact 60 rfl)
  have mm_Needs : PySem.W.makesIn K (He.ga K "Needs") = true := (c.fact 61 rfl)
  have mc_Needs : PySem.W.keepIn K (.ref (He.ga K "Needs")) = true := (c.fact 62 rfl)
  exact ⟨mm_Needs, a_Needs___init__, i_Needs___init__, mc_Needs⟩
theorem mkf_d_Needs___init__  {P : Program} {K : PySem.W.Frag} {h : Heap} {mg : Str → Option Value} (X : K.In h) (G : h.Ns mainGlobals mg) (c : SaysH fas fns K) (tp_s : (P.main.scope.names.lookup ("super" : Str)).isSome = false) (pF : P.main.file = flX) : Df K "__init__" "Needs.__init__" s_Needs___init__ (adsK K).f_Needs___init__ ["self", "row"] := by
  letI : TabC := ⟨[]⟩
  obtain ⟨_, _, _, _, _, _, _, _, _, l_Needs___init__, c_Needs___init__, k_Needs___init__⟩ := c.def_ 32 (d := ⟨fun K => (He.ma K (He.ga K "Needs") "__init__"), "__init__", "Needs.__init__", s_Needs___init__, false⟩) rfl
  exact ⟨_, fun_mk l_Needs___init__ c_Needs___init__ k_Needs___init__, (fun_mk (st := s_Needs___init__) l_Needs___init__ c_Needs___init__ k_Needs___init__).binds (ps := ["self", "row"]) fun _ _ _ _ _ _ us hl => match us, hl with | [_, _], _ => rfl⟩
theorem mkf_g__law_heard  {P : Program} {K : PySem.W.Frag} {h : Heap} {mg : Str → Option Value} (X : K.In h) (G : h.Ns mainGlobals mg) (c : SaysH fas fns K) (tp_s : (P.main.scope.names.lookup ("super" : Str)).isSome = false) (pF : P.main.file = flX) : mg "_law_heard" = some (.ref (adsK K).f__law_heard) := by
  letI : TabC := ⟨[]⟩
  have a__law_heard : PySem.W.nsIn K mainGlobals "_law_heard" = some (some (.ref (He.ga K "_law_heard"))) := dok (c.fact 63 rfl)
  exact PySem.W.mg_of X G a__law_heard
theorem mkf_d__law_heard  {P : Program} {K : PySem.W.Frag} {h : Heap} {mg : Str → Option Value} (X : K.In h) (G : h.Ns mainGlobals mg) (c : SaysH fas fns K) (tp_s : (P.main.scope.names.lookup ("super" : Str)).isSome = false) (pF : P.main.file = flX) : Df K "_law_heard" "_law_heard" s__law_heard (adsK K).f__law_heard ["_law_clock_here", "_law_wants_here", "_law_ring_here"] := by
  letI : TabC := ⟨[]⟩
  obtain ⟨_, _, _, _, _, _, _, _, _, l__law_heard, c__law_heard, k__law_heard⟩ := c.def_ 33 (d := ⟨fun K => (He.ga K "_law_heard"), "_law_heard", "_law_heard", s__law_heard, false⟩) rfl
  exact ⟨_, fun_mk l__law_heard c__law_heard k__law_heard, (fun_mk (st := s__law_heard) l__law_heard c__law_heard k__law_heard).binds (ps := ["_law_clock_here", "_law_wants_here", "_law_ring_here"]) fun _ _ _ _ _ _ us hl => match us, hl with | [_, _, _], _ => rfl⟩
theorem mkf_st_Clock_even  {P : Program} {K : PySem.W.Frag} {h : Heap} {mg : Str → Option Value} (X : K.In h) (G : h.Ns mainGlobals mg) (c : SaysH fas fns K) (tp_s : (P.main.scope.names.lookup ("super" : Str)).isSome = false) (pF : P.main.file = flX) : SMet K (adsK K).c_Clock (.type "type") "even" (adsK K).p_Clock_even (adsK K).f_Clock_even := by
  letI : TabC := ⟨[]⟩
  have sr_Clock_even : PySem.W.readsIn K (He.ga K "Clock") (.type "type") = true := (c.fact 64 rfl)
  have sg_Clock_even : PySem.W.specialIn K (.ref (He.ga K "Clock")) "__getattribute__" = some (some (.builtin "type.__getattribute__")) := dok (c.fact 65 rfl)
  have sa_Clock_even := stB_ok (c.fact 66 rfl)
  obtain ⟨_, sc_Clock_even⟩ := rcB_ok (c.fact 67 rfl)
  exact ⟨sr_Clock_even, sg_Clock_even, sa_Clock_even, ⟨_, sc_Clock_even⟩⟩
theorem mkf_d_Clock_even  {P : Program} {K : PySem.W.Frag} {h : Heap} {mg : Str → Option Value} (X : K.In h) (G : h.Ns mainGlobals mg) (c : SaysH fas fns K) (tp_s : (P.main.scope.names.lookup ("super" : Str)).isSome = false) (pF : P.main.file = flX) : Df K "even" "Clock.even" s_Clock_even (adsK K).f_Clock_even ["hours", "stay"] := by
  letI : TabC := ⟨[]⟩
  obtain ⟨_, _, _, _, _, _, _, _, _, l_Clock_even, c_Clock_even, k_Clock_even⟩ := c.def_ 34 (d := ⟨fun K => (rcA K (stA K (He.ga K "Clock") "even") "staticmethod"), "even", "Clock.even", s_Clock_even, false⟩) rfl
  exact ⟨_, fun_mk l_Clock_even c_Clock_even k_Clock_even, (fun_mk (st := s_Clock_even) l_Clock_even c_Clock_even k_Clock_even).binds (ps := ["hours", "stay"]) fun _ _ _ _ _ _ us hl => match us, hl with | [_, _], _ => rfl⟩
theorem mkf_g__law_by_turns  {P : Program} {K : PySem.W.Frag} {h : Heap} {mg : Str → Option Value} (X : K.In h) (G : h.Ns mainGlobals mg) (c : SaysH fas fns K) (tp_s : (P.main.scope.names.lookup ("super" : Str)).isSome = false) (pF : P.main.file = flX) : mg "_law_by_turns" = some (.ref (adsK K).f__law_by_turns) := by
  letI : TabC := ⟨[]⟩
  have a__law_by_turns : PySem.W.nsIn K mainGlobals "_law_by_turns" = some (some (.ref (He.ga K "_law_by_turns"))) := dok (c.fact 68 rfl)
  exact PySem.W.mg_of X G a__law_by_turns
theorem mkf_d__law_by_turns  {P : Program} {K : PySem.W.Frag} {h : Heap} {mg : Str → Option Value} (X : K.In h) (G : h.Ns mainGlobals mg) (c : SaysH fas fns K) (tp_s : (P.main.scope.names.lookup ("super" : Str)).isSome = false) (pF : P.main.file = flX) : Df K "_law_by_turns" "_law_by_turns" s__law_by_turns (adsK K).f__law_by_turns ["_law_bag_here", "_law_clock_here", "_law_stays_here", "_law_rows", "_law_ring_here"] := by
  letI : TabC := ⟨[]⟩
  obtain ⟨_, _, _, _, _, _, _, _, _, l__law_by_turns, c__law_by_turns, k__law_by_turns⟩ := c.def_ 35 (d := ⟨fun K => (He.ga K "_law_by_turns"), "_law_by_turns", "_law_by_turns", s__law_by_turns, false⟩) rfl
  exact ⟨_, fun_mk l__law_by_turns c__law_by_turns k__law_by_turns, (fun_mk (st := s__law_by_turns) l__law_by_turns c__law_by_turns k__law_by_turns).binds (ps := ["_law_bag_here", "_law_clock_here", "_law_stays_here", "_law_rows", "_law_ring_here"]) fun _ _ _ _ _ _ us hl => match us, hl with | [_, _, _, _, _], _ => rfl⟩
theorem mkf_d_law  {P : Program} {K : PySem.W.Frag} {h : Heap} {mg : Str → Option Value} (X : K.In h) (G : h.Ns mainGlobals mg) (c : SaysH fas fns K) (tp_s : (P.main.scope.names.lookup ("super" : Str)).isSome = false) (pF : P.main.file = flX) : Df K "law" "law" s_law (adsK K).f_law ["_law_script"] := by
  letI : TabC := ⟨[]⟩
  obtain ⟨_, _, _, _, _, _, _, _, _, l_law, c_law, k_law⟩ := c.def_ 36 (d := ⟨fun K => (He.ga K "law"), "law", "law", s_law, false⟩) rfl
  exact ⟨_, fun_mk l_law c_law k_law, (fun_mk (st := s_law) l_law c_law k_law).binds (ps := ["_law_script"]) fun _ _ _ _ _ _ us hl => match us, hl with | [_], _ => rfl⟩
theorem mkf_z_abs  {P : Program} {K : PySem.W.Frag} {h : Heap} {mg : Str → Option Value} (X : K.In h) (G : h.Ns mainGlobals mg) (c : SaysH fas fns K) (tp_s : (P.main.scope.names.lookup ("super" : Str)).isSome = false) (pF : P.main.file = flX) : mg "abs" = none := by
  letI : TabC := ⟨[]⟩
  have z_abs : PySem.W.nsIn K mainGlobals "abs" = some none := dok (c.fact 70 rfl)
  exact PySem.W.mg_none_of X G z_abs
theorem mkf_z_all  {P : Program} {K : PySem.W.Frag} {h : Heap} {mg : Str → Option Value} (X : K.In h) (G : h.Ns mainGlobals mg) (c : SaysH fas fns K) (tp_s : (P.main.scope.names.lookup ("super" : Str)).isSome = false) (pF : P.main.file = flX) : mg "all" = none := by
  letI : TabC := ⟨[]⟩
  have z_all : PySem.W.nsIn K mainGlobals "all" = some none := dok (c.fact 71 rfl)
  exact PySem.W.mg_none_of X G z_all
theorem mkf_z_bool  {P : Program} {K : PySem.W.Frag} {h : Heap} {mg : Str → Option Value} (X : K.In h) (G : h.Ns mainGlobals mg) (c : SaysH fas fns K) (tp_s : (P.main.scope.names.lookup ("super" : Str)).isSome = false) (pF : P.main.file = flX) : mg "bool" = none := by
  letI : TabC := ⟨[]⟩
  have z_bool : PySem.W.nsIn K mainGlobals "bool" = some none := dok (c.fact 72 rfl)
  exact PySem.W.mg_none_of X G z_bool
theorem mkf_z_enumerate  {P : Program} {K : PySem.W.Frag} {h : Heap} {mg : Str → Option Value} (X : K.In h) (G : h.Ns mainGlobals mg) (c : SaysH fas fns K) (tp_s : (P.main.scope.names.lookup ("super" : Str)).isSome = false) (pF : P.main.file = flX) : mg "enumerate" = none := by
  letI : TabC := ⟨[]⟩
  have z_enumerate : PySem.W.nsIn K mainGlobals "enumerate" = some none := dok (c.fact 73 rfl)
  exact PySem.W.mg_none_of X G z_enumerate
theorem mkf_z_int  {P : Program} {K : PySem.W.Frag} {h : Heap} {mg : Str → Option Value} (X : K.In h) (G : h.Ns mainGlobals mg) (c : SaysH fas fns K) (tp_s : (P.main.scope.names.lookup ("super" : Str)).isSome = false) (pF : P.main.file = flX) : mg "int" = none := by
  letI : TabC := ⟨[]⟩
  have z_int : PySem.W.nsIn K mainGlobals "int" = some none := dok (c.fact 74 rfl)
  exact PySem.W.mg_none_of X G z_int
theorem mkf_z_isinstance  {P : Program} {K : PySem.W.Frag} {h : Heap} {mg : Str → Option Value} (X : K.In h) (G : h.Ns mainGlobals mg) (c : SaysH fas fns K) (tp_s : (P.main.scope.names.lookup ("super" : Str)).isSome = false) (pF : P.main.file = flX) : mg "isinstance" = none := by
  letI : TabC := ⟨[]⟩
  have z_isinstance : PySem.W.nsIn K mainGlobals "isinstance" = some none := dok (c.fact 75 rfl)
  exact PySem.W.mg_none_of X G z_isinstance
theorem mkf_z_len  {P : Program} {K : PySem.W.Frag} {h : Heap} {mg : Str → Option Value} (X : K.In h) (G : h.Ns mainGlobals mg) (c : SaysH fas fns K) (tp_s : (P.main.scope.names.lookup ("super" : Str)).isSome = false) (pF : P.main.file = flX) : mg "len" = none := by
  letI : TabC := ⟨[]⟩
  have z_len : PySem.W.nsIn K mainGlobals "len" = some none := dok (c.fact 76 rfl)
  exact PySem.W.mg_none_of X G z_len
theorem mkf_z_list  {P : Program} {K : PySem.W.Frag} {h : Heap} {mg : Str → Option Value} (X : K.In h) (G : h.Ns mainGlobals mg) (c : SaysH fas fns K) (tp_s : (P.main.scope.names.lookup ("super" : Str)).isSome = false) (pF : P.main.file = flX) : mg "list" = none := by
  letI : TabC := ⟨[]⟩
  have z_list : PySem.W.nsIn K mainGlobals "list" = some none := dok (c.fact 77 rfl)
  exact PySem.W.mg_none_of X G z_list
theorem mkf_z_min  {P : Program} {K : PySem.W.Frag} {h : Heap} {mg : Str → Option Value} (X : K.In h) (G : h.Ns mainGlobals mg) (c : SaysH fas fns K) (tp_s : (P.main.scope.names.lookup ("super" : Str)).isSome = false) (pF : P.main.file = flX) : mg "min" = none := by
  letI : TabC := ⟨[]⟩
  have z_min : PySem.W.nsIn K mainGlobals "min" = some none := dok (c.fact 78 rfl)
  exact PySem.W.mg_none_of X G z_min
theorem mkf_z_range  {P : Program} {K : PySem.W.Frag} {h : Heap} {mg : Str → Option Value} (X : K.In h) (G : h.Ns mainGlobals mg) (c : SaysH fas fns K) (tp_s : (P.main.scope.names.lookup ("super" : Str)).isSome = false) (pF : P.main.file = flX) : mg "range" = none := by
  letI : TabC := ⟨[]⟩
  have z_range : PySem.W.nsIn K mainGlobals "range" = some none := dok (c.fact 79 rfl)
  exact PySem.W.mg_none_of X G z_range
theorem mkf_z_repr  {P : Program} {K : PySem.W.Frag} {h : Heap} {mg : Str → Option Value} (X : K.In h) (G : h.Ns mainGlobals mg) (c : SaysH fas fns K) (tp_s : (P.main.scope.names.lookup ("super" : Str)).isSome = false) (pF : P.main.file = flX) : mg "repr" = none := by
  letI : TabC := ⟨[]⟩
  have z_repr : PySem.W.nsIn K mainGlobals "repr" = some none := dok (c.fact 80 rfl)
  exact PySem.W.mg_none_of X G z_repr
theorem mkf_z_sum  {P : Program} {K : PySem.W.Frag} {h : Heap} {mg : Str → Option Value} (X : K.In h) (G : h.Ns mainGlobals mg) (c : SaysH fas fns K) (tp_s : (P.main.scope.names.lookup ("super" : Str)).isSome = false) (pF : P.main.file = flX) : mg "sum" = none := by
  letI : TabC := ⟨[]⟩
  have z_sum : PySem.W.nsIn K mainGlobals "sum" = some none := dok (c.fact 81 rfl)
  exact PySem.W.mg_none_of X G z_sum
theorem mkf_z_tuple  {P : Program} {K : PySem.W.Frag} {h : Heap} {mg : Str → Option Value} (X : K.In h) (G : h.Ns mainGlobals mg) (c : SaysH fas fns K) (tp_s : (P.main.scope.names.lookup ("super" : Str)).isSome = false) (pF : P.main.file = flX) : mg "tuple" = none := by
  letI : TabC := ⟨[]⟩
  have z_tuple : PySem.W.nsIn K mainGlobals "tuple" = some none := dok (c.fact 82 rfl)
  exact PySem.W.mg_none_of X G z_tuple
theorem mkf_z_zip  {P : Program} {K : PySem.W.Frag} {h : Heap} {mg : Str → Option Value} (X : K.In h) (G : h.Ns mainGlobals mg) (c : SaysH fas fns K) (tp_s : (P.main.scope.names.lookup ("super" : Str)).isSome = false) (pF : P.main.file = flX) : mg "zip" = none := by
  letI : TabC := ⟨[]⟩
  have z_zip : PySem.W.nsIn K mainGlobals "zip" = some none := dok (c.fact 83 rfl)
  exact PySem.W.mg_none_of X G z_zip
theorem mkf_k_MOST_HOURS  {P : Program} {K : PySem.W.Frag} {h : Heap} {mg : Str → Option Value} (X : K.In h) (G : h.Ns mainGlobals mg) (c : SaysH fas fns K) (tp_s : (P.main.scope.names.lookup ("super" : Str)).isSome = false) (pF : P.main.file = flX) : ∃ t : Tok, mg "MOST_HOURS" = some (.int 48 t) := by
  letI : TabC := ⟨[]⟩
  obtain ⟨_, k_MOST_HOURS⟩ := itB_ok (c.fact 84 rfl)
  exact ⟨_, PySem.W.mg_of X G k_MOST_HOURS⟩
theorem mkf_g_NeedError  {P : Program} {K : PySem.W.Frag} {h : Heap} {mg : Str → Option Value} (X : K.In h) (G : h.Ns mainGlobals mg) (c : SaysH fas fns K) (tp_s : (P.main.scope.names.lookup ("super" : Str)).isSome = false) (pF : P.main.file = flX) : mg "NeedError" = some (.ref (adsK K).c_NeedError) := by
  letI : TabC := ⟨[]⟩
  have ba_n : PySem.W.nsIn K mainGlobals "NeedError" = some (some (.ref (He.ga K "NeedError"))) := dok (c.fact 85 rfl)
  exact PySem.W.mg_of X G ba_n
theorem mkf_g_Unlike  {P : Program} {K : PySem.W.Frag} {h : Heap} {mg : Str → Option Value} (X : K.In h) (G : h.Ns mainGlobals mg) (c : SaysH fas fns K) (tp_s : (P.main.scope.names.lookup ("super" : Str)).isSome = false) (pF : P.main.file = flX) : mg "Unlike" = some (.ref (adsK K).c_Unlike) := by
  letI : TabC := ⟨[]⟩
  have ea_Unlike : PySem.W.nsIn K mainGlobals "Unlike" = some (some (.ref (He.ga K "Unlike"))) := dok (c.fact 93 rfl)
  exact PySem.W.mg_of X G ea_Unlike
theorem mkf_er_Unlike  {P : Program} {K : PySem.W.Frag} {h : Heap} {mg : Str → Option Value} (X : K.In h) (G : h.Ns mainGlobals mg) (c : SaysH fas fns K) (tp_s : (P.main.scope.names.lookup ("super" : Str)).isSome = false) (pF : P.main.file = flX) : ErrC0 P K mg "Unlike" (adsK K).c_Unlike (adsK K).fi_Unlike := by
  letI : TabC := ⟨[]⟩
  have noT : PySem.W.nsIn K cStatics "thirdparty.any" = some none := dok (c.fact 89 rfl)
  have z_super : PySem.W.nsIn K mainGlobals "super" = some none := dok (c.fact 90 rfl)
  have ea_Unlike : PySem.W.nsIn K mainGlobals "Unlike" = some (some (.ref (He.ga K "Unlike"))) := dok (c.fact 93 rfl)
  obtain ⟨_, _, _, _, _, _, _, _, _, _, _, _, _, _, el_Unlike⟩ := exB_ok (c.fact 94 rfl)
  have eg_Unlike : PySem.W.findIn K (.ref (He.ga K "Unlike")) "__getattribute__" = some (some (.builtin "BaseException.__getattribute__")) := dok (c.fact 96 rfl)
  have eh_Unlike : PySem.W.findIn K (.ref (He.ga K "Unlike")) "__getattr__" = some none := dok (c.fact 97 rfl)
  have ei_Unlike : PySem.W.findIn K (.ref (He.ga K "Unlike")) "__init__" = some (some (.ref (He.ma K (He.ga K "Unlike") "__init__"))) := dok (c.fact 98 rfl)
  have et_Unlike : PySem.W.typeIn K (.ref (He.ma K (He.ga K "Unlike") "__init__")) = some (.type "function") := dok (c.fact 100 rfl)
  have ek_Unlike : PySem.W.keepIn K (.ref (He.ga K "Unlike")) = true := (c.fact 101 rfl)
  have ee_Unlike : PySem.W.subIn K (.ref (He.ga K "Unlike")) (.type "BaseException") = some true := dok (c.fact 102 rfl)
  have ev_Unlike : PySem.W.subIn K (.ref (He.ga K "Unlike")) (.type "ValueError") = some true := dok (c.fact 103 rfl)
  have ey_Unlike : PySem.W.typeIn K (.ref (He.ga K "Unlike")) = some (.type "type") := dok (c.fact 105 rfl)
  have ed_Unlike : PySem.W.hasDictIn K (He.ga K "Unlike") = true := (c.fact 106 rfl)
  have em_Unlike : PySem.W.mroIn K (He.ga K "Unlike") (.ref (He.ga K "Unlike")) = some true := dok (c.fact 107 rfl)
  have eu_Unlike : PySem.W.ks_superIn K (He.ga K "Unlike") (He.ga K "Unlike") "__init__" = some (some (.builtin "ValueError.__init__")) := dok (c.fact 109 rfl)
  obtain ⟨_, _, _, _, _, _, _, _, _, _, _, _, _, _, _, _, _, ef_Unlike, ec_Unlike, eo_Unlike, ew_Unlike, eq_Unlike⟩ := c.sup_ 37 (d := ⟨fun K => (He.ma K (He.ga K "Unlike") "__init__"), "__init__", "Unlike.__init__", (inClass (top 6) 0), true⟩) (C := (He.ga K "Unlike")) (file := flX) (c.fact 110 rfl) rfl
  have eF_Unlike : ((P.main.file : Str) == flX) = true := by rw [pF]; decide +kernel
  exact { gC := PySem.W.mg_of X G ea_Unlike, cls := ⟨_, _, _, _, _, _, _, _, _, _, _, _, _, _, _, el_Unlike, rfl⟩, ga := eg_Unlike, gg := eh_Unlike, iC := ei_Unlike, tC := et_Unlike, kC := ek_Unlike, exC := ee_Unlike, vB := ev_Unlike, tyC := ey_Unlike, hdC := ed_Unlike, mr := em_Unlike, sup := eu_Unlike, noT := noT, noS := PySem.W.mg_none_of X G z_super, fn := ⟨_, _, _, _, _, _, _, _, _, _, _, _, _, _, _, _, _, _, _, _, _, _, _, _, _, _, ef_Unlike, ec_Unlike, eo_Unlike, ew_Unlike, eF_Unlike, eq_Unlike, by decide +kernel, by decide +kernel, by decide +kernel, by decide +kernel, tp_s, fun _ => ⟨_, rfl⟩, fun _ _ => .of_eq rfl⟩ }
theorem mkf_xc_Unlike  {P : Program} {K : PySem.W.Frag} {h : Heap} {mg : Str → Option Value} (X : K.In h) (G : h.Ns mainGlobals mg) (c : SaysH fas fns K) (tp_s : (P.main.scope.names.lookup ("super" : Str)).isSome = false) (pF : P.main.file = flX) : ExcC K (adsK K).c_Unlike := by
  letI : TabC := ⟨[]⟩
  have gn_obj : PySem.W.specialIn K (.builtin "object.__class__") "__get__" = some (some (.builtin "getset_descriptor.__get__")) := dok (c.fact 91 rfl)
  have tk_obj : PySem.W.takesIn K (.builtin "object.__class__") = some true := dok (c.fact 92 rfl)
  have eg_Unlike : PySem.W.findIn K (.ref (He.ga K "Unlike")) "__getattribute__" = some (some (.builtin "BaseException.__getattribute__")) := dok (c.fact 96 rfl)
  have eh_Unlike : PySem.W.findIn K (.ref (He.ga K "Unlike")) "__getattr__" = some none := dok (c.fact 97 rfl)
  have eC_Unlike : PySem.W.findIn K (.ref (He.ga K "Unlike")) "__class__" = some (some (.builtin "object.__class__")) := dok (c.fact 99 rfl)
  have ee_Unlike : PySem.W.subIn K (.ref (He.ga K "Unlike")) (.type "BaseException") = some true := dok (c.fact 102 rfl)
  have ed_Unlike : PySem.W.hasDictIn K (He.ga K "Unlike") = true := (c.fact 106 rfl)
  have eO_Unlike : PySem.W.mroIn K (He.ga K "Unlike") (.type "object") = some true := dok (c.fact 108 rfl)
  exact ⟨eg_Unlike, eh_Unlike, ee_Unlike, ed_Unlike, eC_Unlike, gn_obj, tk_obj, eO_Unlike⟩
theorem mkf_xm_Unlike  {P : Program} {K : PySem.W.Frag} {h : Heap} {mg : Str → Option Value} (X : K.In h) (G : h.Ns mainGlobals mg) (c : SaysH fas fns K) (tp_s : (P.main.scope.names.lookup ("super" : Str)).isSome = false) (pF : P.main.file = flX) : PySem.W.exmOne K (.ref (adsK K).c_Unlike) (.ref (adsK K).c_NeedError) = some true := by
  letI : TabC := ⟨[]⟩
  have bs_n : PySem.W.subIn K (.ref (He.ga K "NeedError")) (.type "BaseException") = some true := dok (c.fact 86 rfl)
  have bd_n : PySem.W.hasDictIn K (He.ga K "NeedError") = true := (c.fact 87 rfl)
  have bt_n : PySem.W.typeIn K (.ref (He.ga K "NeedError")) = some (.type "type") := dok (c.fact 88 rfl)
  have eN_Unlike : PySem.W.subIn K (.ref (He.ga K "Unlike")) (.ref (He.ga K "NeedError")) = some true := dok (c.fact 104 rfl)
  exact PySem.W.exm_ref bs_n bd_n bt_n eN_Unlike
theorem mkf_ix_Unlike_Unlike  {P : Program} {K : PySem.W.Frag} {h : Heap} {mg : Str → Option Value} (X : K.In h) (G : h.Ns mainGlobals mg) (c : SaysH fas fns K) (tp_s : (P.main.scope.names.lookup ("super" : Str)).isSome = false) (pF : P.main.file = flX) : PySem.W.kitOne K (.ref (adsK K).c_Unlike) (.ref (adsK K).c_Unlike) = some true := by
  letI : TabC := ⟨[]⟩
  have kt_ix_Unlike_Unlike : PySem.W.kitOne K (.ref (He.ga K "Unlike")) (.ref (He.ga K "Unlike")) = some true := dok (c.fact 111 rfl)
  exact kt_ix_Unlike_Unlike
theorem facts {P : Program} {w : World} {K : PySem.W.Frag} {h : Heap} {mg : Str → Option Value} {fa : Addr} (X : K.In h) (G : h.Ns mainGlobals mg) (hfa : mg "law" = some (.ref fa)) (c : SaysH fas fns K) (tp_s : (P.main.scope.names.lookup ("super" : Str)).isSome = false) (pF : P.main.file = flX) :
    ∀ base : Heap, K.In base → base.Ns mainGlobals mg → OkP NoG P w K mg base 9 fa ["_law_script"] (fun vs H Q E => spLaw K vs H Q E) := by
  letI : TabC := ⟨[]⟩
  have a_law : PySem.W.nsIn K mainGlobals "law" = some (some (.ref (He.ga K "law"))) := dok (c.fact 69 rfl)
  have e := hfa.symm.trans (PySem.W.mg_of X G a_law)
  cases e
  have T : Tx P K mg (adsK K) := {
    g_Clock := mkf_g_Clock X G c tp_s pF,
    cl_Clock := mkf_cl_Clock X G c tp_s pF,
    sf_Clock := mkf_sf_Clock X G c tp_s pF,
    g_Needs := mkf_g_Needs X G c tp_s pF,
    cl_Needs := mkf_cl_Needs X G c tp_s pF,
    sf_Needs := mkf_sf_Needs X G c tp_s pF,
    n_Clock_kept_stays := mkf_n_Clock_kept_stays X G c tp_s pF,
    n_Clock_kept_widths := mkf_n_Clock_kept_widths X G c tp_s pF,
    n_Needs_kept_row := mkf_n_Needs_kept_row X G c tp_s pF,
    g__law_bag := mkf_g__law_bag X G c tp_s pF,
    d__law_bag := mkf_d__law_bag X G c tp_s pF,
    g__law_take := mkf_g__law_take X G c tp_s pF,
    d__law_take := mkf_d__law_take X G c tp_s pF,
    g__law_stays := mkf_g__law_stays X G c tp_s pF,
    d__law_stays := mkf_d__law_stays X G c tp_s pF,
    g__law_number := mkf_g__law_number X G c tp_s pF,
    d__law_number := mkf_d__law_number X G c tp_s pF,
    g__law_numbers := mkf_g__law_numbers X G c tp_s pF,
    d__law_numbers := mkf_d__law_numbers X G c tp_s pF,
    g__law_wants := mkf_g__law_wants X G c tp_s pF,
    d__law_wants := mkf_d__law_wants X G c tp_s pF,
    g_is_integer := mkf_g_is_integer X G c tp_s pF,
    d_is_integer := mkf_d_is_integer X G c tp_s pF,
    g_are_stays := mkf_g_are_stays X G c tp_s pF,
    d_are_stays := mkf_d_are_stays X G c tp_s pF,
    g_need_order := mkf_g_need_order X G c tp_s pF,
    d_need_order := mkf_d_need_order X G c tp_s pF,
    g_width_of := mkf_g_width_of X G c tp_s pF,
    d_width_of := mkf_d_width_of X G c tp_s pF,
    mk_Clock := mkf_mk_Clock X G c tp_s pF,
    d_Clock___init__ := mkf_d_Clock___init__ X G c tp_s pF,
    g__law_clock := mkf_g__law_clock X G c tp_s pF,
    d__law_clock := mkf_d__law_clock X G c tp_s pF,
    g__law_ring := mkf_g__law_ring X G c tp_s pF,
    d__law_ring := mkf_d__law_ring X G c tp_s pF,
    g__law_serving := mkf_g__law_serving X G c tp_s pF,
    d__law_serving := mkf_d__law_serving X G c tp_s pF,
    g__law_hop := mkf_g__law_hop X G c tp_s pF,
    d__law_hop := mkf_d__law_hop X G c tp_s pF,
    g__law_wound := mkf_g__law_wound X G c tp_s pF,
    d__law_wound := mkf_d__law_wound X G c tp_s pF,
    g__law_bound_of := mkf_g__law_bound_of X G c tp_s pF,
    d__law_bound_of := mkf_d__law_bound_of X G c tp_s pF,
    g_is_hour := mkf_g_is_hour X G c tp_s pF,
    d_is_hour := mkf_d_is_hour X G c tp_s pF,
    p_Clock_hours := mkf_p_Clock_hours X G c tp_s pF,
    d_Clock_hours := mkf_d_Clock_hours X G c tp_s pF,
    m_Clock_widths := mkf_m_Clock_widths X G c tp_s pF,
    d_Clock_widths := mkf_d_Clock_widths X G c tp_s pF,
    g_step_hours := mkf_g_step_hours X G c tp_s pF,
    d_step_hours := mkf_d_step_hours X G c tp_s pF,
    g__law_alike := mkf_g__law_alike X G c tp_s pF,
    d__law_alike := mkf_d__law_alike X G c tp_s pF,
    g_winds := mkf_g_winds X G c tp_s pF,
    d_winds := mkf_d_winds X G c tp_s pF,
    g_up := mkf_g_up X G c tp_s pF,
    d_up := mkf_d_up X G c tp_s pF,
    m_Needs___getitem__ := mkf_m_Needs___getitem__ X G c tp_s pF,
    fi_Needs___getitem__ := mkf_fi_Needs___getitem__ X G c tp_s pF,
    d_Needs___getitem__ := mkf_d_Needs___getitem__ X G c tp_s pF,
    g_ring_bound := mkf_g_ring_bound X G c tp_s pF,
    d_ring_bound := mkf_d_ring_bound X G c tp_s pF,
    p_Needs_hours := mkf_p_Needs_hours X G c tp_s pF,
    d_Needs_hours := mkf_d_Needs_hours X G c tp_s pF,
    g_need_alike := mkf_g_need_alike X G c tp_s pF,
    d_need_alike := mkf_d_need_alike X G c tp_s pF,
    g_bound := mkf_g_bound X G c tp_s pF,
    d_bound := mkf_d_bound X G c tp_s pF,
    g_is_count := mkf_g_is_count X G c tp_s pF,
    d_is_count := mkf_d_is_count X G c tp_s pF,
    g_are_counts := mkf_g_are_counts X G c tp_s pF,
    d_are_counts := mkf_d_are_counts X G c tp_s pF,
    g_is_row := mkf_g_is_row X G c tp_s pF,
    d_is_row := mkf_d_is_row X G c tp_s pF,
    mk_Needs := mkf_mk_Needs X G c tp_s pF,
    d_Needs___init__ := mkf_d_Needs___init__ X G c tp_s pF,
    g__law_heard := mkf_g__law_heard X G c tp_s pF,
    d__law_heard := mkf_d__law_heard X G c tp_s pF,
    st_Clock_even := mkf_st_Clock_even X G c tp_s pF,
    d_Clock_even := mkf_d_Clock_even X G c tp_s pF,
    g__law_by_turns := mkf_g__law_by_turns X G c tp_s pF,
    d__law_by_turns := mkf_d__law_by_turns X G c tp_s pF,
    d_law := mkf_d_law X G c tp_s pF,
    z_abs := mkf_z_abs X G c tp_s pF,
    z_all := mkf_z_all X G c tp_s pF,
    z_bool := mkf_z_bool X G c tp_s pF,
    z_enumerate := mkf_z_enumerate X G c tp_s pF,
    z_int := mkf_z_int X G c tp_s pF,
    z_isinstance := mkf_z_isinstance X G c tp_s pF,
    z_len := mkf_z_len X G c tp_s pF,
    z_list := mkf_z_list X G c tp_s pF,
    z_min := mkf_z_min X G c tp_s pF,
    z_range := mkf_z_range X G c tp_s pF,
    z_repr := mkf_z_repr X G c tp_s pF,
    z_sum := mkf_z_sum X G c tp_s pF,
    z_tuple := mkf_z_tuple X G c tp_s pF,
    z_zip := mkf_z_zip X G c tp_s pF,
    k_MOST_HOURS := mkf_k_MOST_HOURS X G c tp_s pF,
    g_NeedError := mkf_g_NeedError X G c tp_s pF,
    g_Unlike := mkf_g_Unlike X G c tp_s pF,
    er_Unlike := mkf_er_Unlike X G c tp_s pF,
    xc_Unlike := mkf_xc_Unlike X G c tp_s pF,
    xm_Unlike := mkf_xm_Unlike X G c tp_s pF,
    ix_Unlike_Unlike := mkf_ix_Unlike_Unlike X G c tp_s pF }
  intro base _ _
  exact okP_imp (ow_law (d := adsK K) T) (law_tells0 rfl law_true bl_N)
end Pf
open PySem PySem.W PySem.Calls PyProof.Rows in
set_option maxRecDepth 100000 in
set_option maxHeartbeats 0 in
theorem PySem.Challenge.cw_hourneeds_k31_rings_measured_holds : PySem.Challenge.rw_hourneeds_k31_rings_measured.Holds := by
  w_on; o_law
  refine HandSHeadRun.head_any (r := (PySem.W.OpenLaw.row PySem.Challenge.rw_hourneeds_k31_rings_measured)) (q := view (PySem.W.OpenLaw.row PySem.Challenge.rw_hourneeds_k31_rings_measured).prog [45]) (H := Pf.hk) (ob := Pf.ob) (M := 20000) (loose := Pf.loose) (d := HandSHeadRun.topDef (PySem.W.OpenLaw.row PySem.Challenge.rw_hourneeds_k31_rings_measured).prog 45) (kwd := []) Pf.ob_eq
    (by kernel_rfl) (fun s => by kernel_rfl) Pf.run (by kernel_rfl) (by kernel_rfl) (by kernel_rfl) (by rfl) (by first | assumption | decide +kernel) (by decide +kernel) ⟨rfl, rfl, rfl, rfl, rfl, by decide +kernel⟩ ?hw ?hc
  case hw => w_witness2
  case hc =>
    refine Hn.walkGE (l := PySem.Challenge.rw_hourneeds_k31_rings_measured) (n := 63) (k := 9) (x := "_law_script") rfl (by decide) (by kernel_rfl) ⟨rfl, by decide, by decide⟩ ?F
    intro w mg fa h Y G hmg0
    obtain ⟨K, KX, c⟩ := Y
    have hmg : mg ("law" : PySem.Str) = some (.ref fa) := by
      have e : (HandSHeadRun.topDef (PySem.W.OpenLaw.row PySem.Challenge.rw_hourneeds_k31_rings_measured).prog 45).name = ("law" : PySem.Str) := by kernel_rfl
      rw [← e]
      exact hmg0
    exact ⟨K, _, KX, fun H a ns hl hS => ⟨a, ns, rfl, hS, hl, fun _ => rfl⟩, Pf.facts (P := (PySem.Challenge.rw_hourneeds_k31_rings_measured).prog) (w := w) KX G hmg c (by decide +kernel) rfl⟩
#print axioms PySem.Challenge.cw_hourneeds_k31_rings_measured_holds
