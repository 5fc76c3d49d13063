import PyProof.Rows.All
import Wide.All
import OpenK.AllK
import Wide.FinOn
import KE.KStateDown
import KE.KExcSuper
import HandS.ForMost
import HandS.Exc
import HandS.Defaults
import HandS.Property
import HandS.ClsMeth
import HandS.Star
import HandS.ExcInit
import HandS.ExcField
import HandS.ExcIs
import HandS.Head0
import HandS.Head1
import HandS.Head2
import HandS.HeadEnd
import HandS.HeadHook1
import HandS.HeadHook2
import HandS.SuiteRaise
import HandS.RaiseFrom
import HandS.ExcInitHot
import HandS.Nested
import HandS.WordsExc
import HandS.MakeKwOnly
import HandS.Evl
import HandS.Zip
import HandS.TupSets
import HandS.FStr
import HandS.NoneIn
import HandS.SortInts
import HandS.Conv
import HandS.Flow
import HandS.Steps
import HandS.StrMore
import HandS.Deep
import HandS.IsInst
import HandS.SetFor
import HandS.Text
import HandS.Walk
import HandS.Replace
import HandS.TryOnly
import HandS.TryMany
import PyProof.NeKinds
import KE.KExcIs
import PySem.Challenge.RW_beadmoot_k47_whole_journal
set_option Elab.async false
set_option linter.all false
set_option maxRecDepth 100000
set_option maxHeartbeats 4000000
/-! What is read of the heap behind the top: a small part of it, facts by names. -/
namespace Bm
open PySem PySem.Spec PyProof.Rows L2
/-! ### the part of the heap -/
def grow1 (g : Addr → Option Obj) (a : Addr) : List Addr := match g a with
  | some o => (match o.data with
    | .dict es _ => es.toList.flatMap fun e => He.refV e.val
    | .cls cd => [cd.ns]
    | .func fd => He.refV fd.code ++ (He.refV fd.defaults ++ (He.refV fd.kwdefaults ++ fd.closure.map (·.2)))
    | .fields vs => (match o.cls with
      | .type c => (match decide (c = "property") || decide (c = "staticmethod") with
        | true => vs.toList.flatMap He.refV
        | false => [])
      | _ => [])
    | _ => [])
  | none => []
def colX (g : Addr → Option Obj) : List Addr :=
  let l1 := grow1 g mainGlobals
  let l2 := l1.flatMap (grow1 g)
  let l3 := l2.flatMap (grow1 g)
  let l4 := l3.flatMap (grow1 g)
  let l5 := l4.flatMap (grow1 g)
  cStatics :: mainGlobals :: (l1 ++ (l2 ++ (l3 ++ (l4 ++ l5))))
/-! ### where a def stands -/
inductive At where
  | glo (x : Str)
  | mth (C m : Str)
  | wrap (C m : Str) (T : String)
def wfn (K : PySem.W.Frag) (C m : Str) (T : String) : Addr := match PySem.W.recIn K (He.ma K (He.ga K C) m) T with
  | some (.ref f :: _) => f
  | _ => 0
def At.ad (K : PySem.W.Frag) : At → Addr
  | .glo x => He.ga K x
  | .mth C m => He.ma K (He.ga K C) m
  | .wrap C m T => wfn K C m T
def fdOf (K : PySem.W.Frag) (a : Addr) : FuncData := match K.lookup a with
  | some ⟨_, _, .func fd, _⟩ => fd
  | _ => PySem.W.fnOf "" "" ⟨[], [], none, [], [], none, []⟩ [] ⟨.function, [], false, false, []⟩ .none .none .none .none none .none .none
abbrev FnX : Type := Option (Str × Str × Arguments × FuncBody × Scope × Addr × List Str × Addr)
def fnX (K : PySem.W.Frag) (a : At) : FnX := match K.lookup (a.ad K) with
  | some ⟨_, _, .func fd, _⟩ => some (fd.name, fd.qualname, fd.params, fd.body, fd.scope, fd.globals, fd.closure.map (·.1), fd.builtins)
  | _ => none
structure DX where
  at_ : At
  name : Str
  qual : Str
  params : Arguments
  body : List Stmt
  scope : Scope
  dfl : List He.Dv := []
  kwd : List (Str × He.Dv) := []
  clo : List Str := []
def DX.val (d : DX) : FnX := some (d.name, d.qual, d.params, .stmts d.body, d.scope, mainGlobals, d.clo, builtinsNs)
def DX.dvs (K : PySem.W.Frag) (d : DX) : List V := d.dfl.map (He.Dv.v K)
def DX.kws (K : PySem.W.Frag) (d : DX) : List (Str × V) := d.kwd.map fun q => (q.1, q.2.v K)
def DX.ok (K : PySem.W.Frag) (d : DX) : Bool := PySem.W.keepIn K (.ref (d.at_.ad K)) && (match K.lookup (d.at_.ad K) with
  | some ⟨_, _, .func fd, _⟩ => PySem.W.codeIn K fd.code d.qual && (He.dflB K fd.defaults (d.dvs K) && He.kwdB K fd.kwdefaults (d.kws K))
  | _ => false)
theorem DX.funD {K : PySem.W.Frag} {d : DX} (e : fnX K d.at_ = d.val) (c : d.ok K = true) (hc : d.clo = []) : FunD K d.name d.qual d.params d.body d.scope (d.dvs K) (d.kws K) (d.at_.ad K) (fdOf K (d.at_.ad K)) := by
  obtain ⟨kp, c2⟩ := He.ba c
  unfold fnX at e
  unfold fdOf
  cases q : K.lookup (d.at_.ad K) with
  | none =>
    rw [q] at c2
    cases c2
  | some o =>
    obtain ⟨oc, od, dt, osl⟩ := o
    rw [q] at c2 e
    cases dt with
    | func fd =>
      obtain ⟨n1, n2, n3, n4, n5, n6, n7, n8, n9, n10, n11, n12, n13, n14, n15⟩ := fd
      have e2 : (some (n1, n2, n3, n4, n5, n6, n7.map (·.1), n15) : FnX) = some (d.name, d.qual, d.params, .stmts d.body, d.scope, mainGlobals, d.clo, builtinsNs) := e
      simp only [Option.some.injEq, Prod.mk.injEq] at e2
      obtain ⟨h1, h2, h3, h4, h5, h6, h7, h8⟩ := e2
      rw [hc] at h7
      have h9 : n7 = [] := List.map_eq_nil_iff.mp h7
      subst h1 h2 h3 h4 h5 h6 h8 h9
      obtain ⟨k1, k2⟩ := He.ba (show (PySem.W.codeIn K n13 d.qual && (He.dflB K n8 (d.dvs K) && He.kwdB K n9 (d.kws K))) = true from c2)
      obtain ⟨k3, k4⟩ := He.ba k2
      exact ⟨⟨oc, od, n8, n9, n10, n11, n12, n13, n14, osl, rfl, q, k1, He.dflB_ok k3, He.kwdB_ok k4⟩, kp⟩
    | _ => cases c2
/-! ### the Hook -/
abbrev AlX : Type := Bool × List FnX
def obsX (fb : List (PySem.W.Frag → Bool)) (fn : List DX) (K : PySem.W.Frag) : AlX := ((fb.all fun f => f K) && fn.all fun d => d.ok K, fn.map fun d => fnX K d.at_)
def valX (fn : List DX) : AlX := (true, fn.map DX.val)
def SaysX (fb : List (PySem.W.Frag → Bool)) (fn : List DX) (K : PySem.W.Frag) : Prop := obsX fb fn K = valX fn
def obsXG (fb : List (PySem.W.Frag → Bool)) (fn : List DX) (g : Addr → Option Obj) : AlX := obsX fb fn (He.frG g (colX g))
def hookX (fb : List (PySem.W.Frag → Bool)) (fn : List DX) : PySem.W.Hook where
  α := AlX
  obs := fun s => obsXG fb fn s.heap.get?
  val := fun _ => valX fn
  says := fun _ h => ∃ K : PySem.W.Frag, K.In h ∧ SaysX fb fn K
  of := fun _ _ e => ⟨_, He.frG_in, e⟩
  keeps := fun _ _ _ ⟨K, hK, c⟩ k => ⟨K, PySem.W.Frag.In.keeps hK k, c⟩
theorem obsXG_eq {fb : List (PySem.W.Frag → Bool)} {fn : List DX} {g : Addr → Option Obj} {s : Shared} (h : ∀ a, g a = s.heap.get? a) : obsXG fb fn g = (hookX fb fn).obs s := by
  have e : g = s.heap.get? := funext h
  rw [e]
  rfl
section
variable {fb : List (PySem.W.Frag → Bool)} {fn : List DX} {K : PySem.W.Frag}
theorem SaysX.fact (c : SaysX fb fn K) (i : Nat) {f : PySem.W.Frag → Bool} (h : fb[i]? = some f := by rfl) : f K = true := by
  have c1 := (He.ba (show ((fb.all fun f => f K) && fn.all fun d => d.ok K) = true from congrArg (fun z : AlX => z.1) c)).1
  exact List.all_eq_true.mp c1 f (List.mem_of_getElem? h)
theorem SaysX.dok (c : SaysX fb fn K) (i : Nat) {d : DX} (h : fn[i]? = some d := by rfl) : d.ok K = true ∧ fnX K d.at_ = d.val := by
  have c2 := (He.ba (show ((fb.all fun f => f K) && fn.all fun d => d.ok K) = true from congrArg (fun z : AlX => z.1) c)).2
  have e : fn.map (fun d => fnX K d.at_) = fn.map DX.val := congrArg (fun z : AlX => z.2) c
  have e2 : (fn.map fun d => fnX K d.at_)[i]? = (fn.map DX.val)[i]? := by rw [e]
  rw [List.getElem?_map, List.getElem?_map, h] at e2
  exact ⟨List.all_eq_true.mp c2 d (List.mem_of_getElem? h), Option.some.inj e2⟩
theorem SaysX.def_ (c : SaysX fb fn K) (i : Nat) {d : DX} (h : fn[i]? = some d := by rfl) (hc : d.clo = [] := by rfl) : FunD K d.name d.qual d.params d.body d.scope (d.dvs K) (d.kws K) (d.at_.ad K) (fdOf K (d.at_.ad K)) :=
  DX.funD (c.dok i h).2 (c.dok i h).1 hc
end
/-! ### facts of one's own -/
open PySem.W in
/-- a property: its record, its getter -/
def propB (C m : Str) (K : Frag) : Bool := He.eqO (findIn K (.ref (He.ga K C)) m) (some (some (.ref (He.ma K (He.ga K C) m)))) && (He.eqO (specialIn K (.ref (He.ma K (He.ga K C) m)) "__get__") (some (some (.builtin "property.__get__"))) &&
  (decide (takesIn K (.ref (He.ma K (He.ga K C) m)) = some true) && (match recIn K (He.ma K (He.ga K C) m) "property" with
    | some (.ref _ :: _) => true
    | _ => false)))
theorem propB_ok {K : PySem.W.Frag} {C m : Str} (h : propB C m K = true) : PropOf K (He.ga K C) m (He.ma K (He.ga K C) m) (wfn K C m "property") := by
  obtain ⟨h1, h⟩ := He.ba h
  obtain ⟨h2, h⟩ := He.ba h
  obtain ⟨h3, h4⟩ := He.ba h
  refine ⟨He.eqO_ok h1, He.eqO_ok h2, of_decide_eq_true h3, ?_⟩
  unfold wfn
  split at h4
  · rename_i f r e
    exact ⟨r, by rw [e]⟩
  · cases h4
/-- a staticmethod reached through an instance -/
structure StatM (K : PySem.W.Frag) (C : Addr) (m : Str) (p g : Addr) : Prop where
  ic : PySem.W.isClsIn K C = true
  at_ : PySem.W.findIn K (.ref C) m = some (some (.ref p))
  ty : PySem.W.typeIn K (.ref p) = some (.type "staticmethod")
  get : PySem.W.specialIn K (.ref p) "__get__" = some (some (.builtin "staticmethod.__get__"))
  tk : PySem.W.takesIn K (.ref p) = some false
  rc : ∃ rest, PySem.W.recIn K p "staticmethod" = some (.ref g :: rest)
open PySem.W in
def statB (C m : Str) (K : Frag) : Bool := isClsIn K (He.ga K C) && (He.eqO (findIn K (.ref (He.ga K C)) m) (some (some (.ref (He.ma K (He.ga K C) m)))) && (decide (typeIn K (.ref (He.ma K (He.ga K C) m)) = some (.type "staticmethod")) &&
  (He.eqO (specialIn K (.ref (He.ma K (He.ga K C) m)) "__get__") (some (some (.builtin "staticmethod.__get__"))) && (decide (takesIn K (.ref (He.ma K (He.ga K C) m)) = some false) && (match recIn K (He.ma K (He.ga K C) m) "staticmethod" with
    | some (.ref _ :: _) => true
    | _ => false)))))
theorem statB_ok {K : PySem.W.Frag} {C m : Str} (h : statB C m K = true) : StatM K (He.ga K C) m (He.ma K (He.ga K C) m) (wfn K C m "staticmethod") := by
  obtain ⟨h0, h⟩ := He.ba h
  obtain ⟨h1, h⟩ := He.ba h
  obtain ⟨h2, h⟩ := He.ba h
  obtain ⟨h3, h⟩ := He.ba h
  obtain ⟨h4, h5⟩ := He.ba h
  refine ⟨h0, He.eqO_ok h1, of_decide_eq_true h2, He.eqO_ok h3, of_decide_eq_true h4, ?_⟩
  unfold wfn
  split at h5
  · rename_i f r e
    exact ⟨r, by rw [e]⟩
  · cases h5
open PySem.W in
/-- a constant read off a class -/
def cvalB (C f : Str) (i : Int) (K : Frag) : Bool := readsIn K (He.ga K C) (.type "type") && (He.eqO (specialIn K (.ref (He.ga K C)) "__getattribute__") (some (some (.builtin "type.__getattribute__"))) && (match findCls K (.ref (He.ga K C)) (.type "type") f with
  | some (.val (.int j _)) => decide (j = i)
  | _ => false))
theorem cvalB_ok {K : PySem.W.Frag} {C f : Str} {i : Int} (h : cvalB C f i K = true) : ClX.CRead K (He.ga K C) (.type "type") ∧ ∃ u, ClX.CVal K (He.ga K C) (.type "type") f (.int i) u := by
  obtain ⟨h1, h⟩ := He.ba h
  obtain ⟨h2, h3⟩ := He.ba h
  refine ⟨⟨h1, He.eqO_ok h2⟩, ?_⟩
  split at h3
  · rename_i j t e
    exact ⟨.int j t, ⟨e, ⟨t, by rw [of_decide_eq_true h3]⟩⟩⟩
  · cases h3
open PySem.W in
/-- instances that are called -/
def callB (C : Str) (K : Frag) : Bool := He.eqO (findIn K (.ref (He.ga K C)) "__call__") (some (some (.ref (He.ma K (He.ga K C) "__call__")))) && (isFn K (.ref (He.ma K (He.ga K C) "__call__")) && fnIn K (He.ma K (He.ga K C) "__call__"))
theorem callB_ok {K : PySem.W.Frag} {C : Str} (h : callB C K = true) : StX.CallO K (He.ga K C) (He.ma K (He.ga K C) "__call__") := by
  obtain ⟨h1, h⟩ := He.ba h
  obtain ⟨h2, h3⟩ := He.ba h
  exact ⟨He.eqO_ok h1, h2, h3⟩
open PySem.W in
/-- a class for super() -/
def oexB (C : Str) (K : Frag) : Bool := match K.lookup (He.ga K C) with
  | some ⟨.type t, _, .cls cd, sl⟩ => (match cd.mro, sl.toList with
    | .ref C' :: bm, [_, _, _, _, some (.builtin n), _] => decide (t = "type") && (decide (C' = He.ga K C) && (decide (n = "ValueError.__new__") && (!cd.hasDel && (cd.hasDict && PySem.HandSPX.refsVE bm))))
    | _, _ => false)
  | _ => false
open PySem.W in
def oexS (C : Str) (K : Frag) : Bool := He.eqO (findIn K (.ref (He.ga K C)) "__setattr__") (some (some (.builtin "object.__setattr__"))) && (decide (subIn K (.ref (He.ga K C)) (.type "BaseException") = some true) &&
  (decide (typeIn K (.ref (He.ga K C)) = some (.type "type")) && keepIn K (.ref (He.ga K C))))
theorem oexB_ok {K : PySem.W.Frag} {C : Str} (h : oexB C K = true) (h' : oexS C K = true) : OexC K (He.ga K C) := by
  obtain ⟨h1, h2⟩ := He.ba h'
  obtain ⟨h2, h3⟩ := He.ba h2
  obtain ⟨h3, h4⟩ := He.ba h3
  refine ⟨?_, He.eqO_ok h1, of_decide_eq_true h2, of_decide_eq_true h3, h4⟩
  unfold oexB at h
  split at h
  · rename_i t dd cd sl ho
    split at h
    · rename_i C' bm k0 k1 k2 k3 n k5 hm hs
      obtain ⟨g1, h⟩ := He.ba h
      obtain ⟨g2, h⟩ := He.ba h
      obtain ⟨g3, h⟩ := He.ba h
      obtain ⟨g4, h⟩ := He.ba h
      obtain ⟨g5, g6⟩ := He.ba h
      have e1 := of_decide_eq_true g1
      have e2 := of_decide_eq_true g2
      have e3 := of_decide_eq_true g3
      have e4 : cd.hasDel = false := by simpa using g4
      obtain ⟨nm, bs, mro, ns, qn, hd, sn, sub, ab, col, del⟩ := cd
      dsimp only at hm e4 g5
      subst e1 e2 e3 e4 g5 hm
      have hsl : sl = #[k0, k1, k2, k3, some (.builtin "ValueError.__new__"), k5] := by
        obtain ⟨l⟩ := sl
        simp only at hs
        rw [hs]
      subst hsl
      exact ⟨nm, qn, ns, bs, bm, sn, sub, ab, col, dd, k0, k1, k2, k3, k5, ho, g6⟩
    · cases h
  · cases h
/-- a cell that holds the class at C; a code object of the main file; the closure and code of a def that says super() -/
def cellB (K : PySem.W.Frag) (C cc : Addr) : Bool := match K.lookup cc with
  | some ⟨_, _, .cell (some (.ref D)), _⟩ => decide (D = C)
  | _ => false
def fileB (K : PySem.W.Frag) (cda : Addr) : Bool := match K.lookup cda with
  | some ⟨_, _, .fields vs, _⟩ => (match vs.toList with
    | _ :: _ :: .str file _ :: _ => decide (file = ("/claim/cut.py" : Str))
    | _ => false)
  | _ => false
def closB (K : PySem.W.Frag) (C : Addr) : List (Str × Addr) → Value → Bool
  | [(x, cc)], .ref cda => decide (x = ("__class__" : Str)) && (cellB K C cc && fileB K cda)
  | _, _ => false
theorem cellB_ok {K : PySem.W.Frag} {C cc : Addr} (h : cellB K C cc = true) : ∃ cl cd sl, K.lookup cc = some ⟨cl, cd, .cell (some (.ref C)), sl⟩ := by
  unfold cellB at h
  split at h
  · rename_i a1 a2 D sl e
    exact ⟨a1, a2, sl, by rw [e, of_decide_eq_true h]⟩
  · cases h
theorem fileB_ok {K : PySem.W.Frag} {cda : Addr} (h : fileB K cda = true) : ∃ cl cd vs sl t, K.lookup cda = some ⟨cl, cd, .fields vs, sl⟩ ∧ vs[2]? = some (.str "/claim/cut.py" t) := by
  unfold fileB at h
  split at h
  · rename_i a1 a2 vs sl e
    split at h
    · rename_i u1 u2 file t u3 hv
      refine ⟨a1, a2, vs, sl, t, e, ?_⟩
      rw [← Array.getElem?_toList, hv, of_decide_eq_true h]
      rfl
    · cases h
  · cases h
theorem closB_ok {K : PySem.W.Frag} {C : Addr} {cl : List (Str × Addr)} {cd : Value} (h : closB K C cl cd = true) : ∃ cc cda, cl = [(("__class__" : Str), cc)] ∧ cd = .ref cda ∧ cellB K C cc = true ∧ fileB K cda = true := by
  unfold closB at h
  split at h
  · rename_i x cc cda
    obtain ⟨t1, t2⟩ := He.ba h
    obtain ⟨t2, t3⟩ := He.ba t2
    exact ⟨cc, cda, by rw [of_decide_eq_true t1], rfl, t2, t3⟩
  · cases h
open PySem.W in
/-- what super().__init__ asks of such a class: its def's closure cell, its code's record, where the search along the classes above it ends -/
def supB (C : Str) (q : Str) (K : Frag) : Bool := (match K.lookup (He.ma K (He.ga K C) "__init__") with
  | some ⟨_, _, .func fd, _⟩ => closB K (He.ga K C) fd.closure fd.code
  | _ => false) && (He.eqO (ks_superIn K (He.ga K C) (He.ga K C) "__init__") (some (some (.builtin "ValueError.__init__"))) && (decide (subIn K (.ref (He.ga K C)) (.type "ValueError") = some true) && (decide (mroIn K (He.ga K C) (.ref (He.ga K C)) = some true) &&
  (He.eqO (findIn K (.ref (He.ga K C)) "__init__") (some (some (.ref (He.ma K (He.ga K C) "__init__")))) && decide (typeIn K (.ref (He.ma K (He.ga K C) "__init__")) = some (.type "function"))))))
open PySem.W in
def thirdB (K : Frag) : Bool := He.eqO (nsIn K cStatics "thirdparty.any") (some none)
open PySem.W in
/-- one class's place under another; what isinstance says of it -/
def subB (C D : Str) (b : Bool) (K : Frag) : Bool := decide (kitOne K (.ref (He.ga K C)) (.ref (He.ga K D)) = some b)
open PySem.W in
def subT (C : Str) (T : String) (b : Bool) (K : Frag) : Bool := decide (kitOne K (.ref (He.ga K C)) (.type T) = some b)
open PySem.W in
/-- a caught error's class, for isinstance -/
def excCB (C : Str) (K : Frag) : Bool := He.eqO (findIn K (.ref (He.ga K C)) "__getattribute__") (some (some (.builtin "BaseException.__getattribute__"))) && (He.eqO (findIn K (.ref (He.ga K C)) "__getattr__") (some none) &&
  (decide (subIn K (.ref (He.ga K C)) (.type "BaseException") = some true) && (hasDictIn K (He.ga K C) && (He.eqO (findIn K (.ref (He.ga K C)) "__class__") (some (some (.builtin "object.__class__"))) &&
  (He.eqO (specialIn K (.builtin "object.__class__") "__get__") (some (some (.builtin "getset_descriptor.__get__"))) && (decide (takesIn K (.builtin "object.__class__") = some true) && decide (mroIn K (He.ga K C) (.type "object") = some true)))))))
theorem excCB_ok {K : PySem.W.Frag} {C : Str} (h : excCB C K = true) : ExcC K (He.ga K C) := by
  obtain ⟨h1, h⟩ := He.ba h
  obtain ⟨h2, h⟩ := He.ba h
  obtain ⟨h3, h⟩ := He.ba h
  obtain ⟨h4, h⟩ := He.ba h
  obtain ⟨h5, h⟩ := He.ba h
  obtain ⟨h6, h⟩ := He.ba h
  obtain ⟨h7, h8⟩ := He.ba h
  exact ⟨He.eqO_ok h1, He.eqO_ok h2, of_decide_eq_true h3, h4, He.eqO_ok h5, He.eqO_ok h6, of_decide_eq_true h7, of_decide_eq_true h8⟩
theorem ExcC.xf {K : PySem.W.Frag} {C : Addr} (h : ExcC K C) : XfC K C := ⟨h.hg, h.hk, h.hs, h.hd⟩
end Bm
set_option Elab.async false
set_option linter.all false
set_option maxRecDepth 100000
set_option maxHeartbeats 4000000
/-! The text by places; the defs and the facts that are read off the heap behind the top (printed by gen_top.py). -/
namespace Bm
open PySem PySem.Spec PyProof.Rows L2
def top (i : Nat) : Stmt := PySem.Challenge.pw_beadmoot_k47_whole_journal.main.body.getD i (.Pass ⟨0, 0, 0, 0⟩)
abbrev sBadStrand_init : Stmt := inClass (top 3) 0
abbrev sBadKind_init : Stmt := inClass (top 4) 0
abbrev sBadPrice_init : Stmt := inClass (top 6) 0
abbrev sNoSuchBead_init : Stmt := inClass (top 7) 0
abbrev sGoneBead_init : Stmt := inClass (top 8) 0
abbrev sEndBead_init : Stmt := inClass (top 9) 0
abbrev sBadCoins_init : Stmt := inClass (top 13) 0
abbrev sNoCoins_init : Stmt := inClass (top 14) 0
abbrev sBadName_init : Stmt := inClass (top 15) 0
abbrev sNameTaken_init : Stmt := inClass (top 16) 0
abbrev sNoSuchRow_init : Stmt := inClass (top 18) 0
abbrev sBadJournal_init : Stmt := inClass (top 20) 0
abbrev sLedger_init : Stmt := inClass (top 24) 0
abbrev sLedger_balance : Stmt := inClass (top 24) 1
abbrev sLedger_pay : Stmt := inClass (top 24) 2
abbrev sLedger_pay_in : Stmt := inClass (top 24) 3
abbrev sLedger_take_back : Stmt := inClass (top 24) 4
abbrev sLedger_payments : Stmt := inClass (top 24) 5
abbrev sLedger_spent : Stmt := inClass (top 24) 6
abbrev sStrand_init : Stmt := inClass (top 26) 2
abbrev smark_of : Stmt := top 30
abbrev sTally_init : Stmt := inClass (top 31) 0
abbrev scount_marks : Stmt := top 32
abbrev sPrices_init : Stmt := inClass (top 33) 0
abbrev sPrices_call : Stmt := inClass (top 33) 1
abbrev sRow_init : Stmt := inClass (top 35) 0
abbrev sRow_standing : Stmt := inClass (top 35) 1
abbrev sRow_taken : Stmt := inClass (top 35) 2
abbrev sRow_check_standing : Stmt := inClass (top 35) 5
abbrev sRow_check_inner : Stmt := inClass (top 35) 6
abbrev sRow_neighbours : Stmt := inClass (top 35) 7
abbrev sRow_mark : Stmt := inClass (top 35) 8
abbrev sRow_take_out : Stmt := inClass (top 35) 9
abbrev sRow_take : Stmt := inClass (top 35) 10
abbrev sRow_grow : Stmt := inClass (top 35) 13
abbrev sRow_grown : Stmt := inClass (top 35) 14
abbrev sRow_put_back : Stmt := inClass (top 35) 16
abbrev sRow_undo : Stmt := inClass (top 35) 17
abbrev sRow_twin : Stmt := inClass (top 35) 18
abbrev sRow_meetings : Stmt := inClass (top 35) 19
abbrev sRow_tally : Stmt := inClass (top 35) 20
abbrev sread_number : Stmt := top 38
abbrev ssplit_words : Stmt := top 39
abbrev sline_numbers : Stmt := top 46
abbrev sDesk_init : Stmt := inClass (top 47) 0
abbrev sDesk_is_name : Stmt := inClass (top 47) 1
abbrev sDesk_opening : Stmt := inClass (top 47) 2
abbrev sDesk_balance : Stmt := inClass (top 47) 3
abbrev sDesk_names : Stmt := inClass (top 47) 5
abbrev sDesk_laid : Stmt := inClass (top 47) 6
abbrev sDesk_stand : Stmt := inClass (top 47) 7
abbrev sDesk_lay : Stmt := inClass (top 47) 8
abbrev sDesk_take : Stmt := inClass (top 47) 9
abbrev sDesk_grow : Stmt := inClass (top 47) 10
abbrev sDesk_pay_in : Stmt := inClass (top 47) 11
abbrev sDesk_do : Stmt := inClass (top 47) 12
abbrev sDesk_undo : Stmt := inClass (top 47) 13
abbrev sDesk_redo : Stmt := inClass (top 47) 14
abbrev sDesk_deeds : Stmt := inClass (top 47) 15
abbrev sDesk_row : Stmt := inClass (top 47) 17
abbrev sDesk_ledger : Stmt := inClass (top 47) 18
abbrev sDesk_spent : Stmt := inClass (top 47) 19
abbrev swrite_journal : Stmt := top 49
abbrev sread_first : Stmt := top 50
abbrev sread_journal : Stmt := top 51
abbrev slaw_cell : Stmt := top 53
abbrev slaw_mixed : Stmt := top 54
abbrev slaw_draws : Stmt := top 55
abbrev slaw_is_integer : Stmt := top 56
abbrev slaw_same : Stmt := top 57
abbrev slaw_words : Stmt := top 58
abbrev slaw_replaced : Stmt := top 59
abbrev slaw_line : Stmt := top 60
abbrev slaw_bad_line : Stmt := top 61
abbrev slaw_done : Stmt := top 62
abbrev slaw_moved : Stmt := top 63
abbrev slaw_told : Stmt := top 64
abbrev slaw_alike : Stmt := top 65
abbrev slaw_brief : Stmt := top 66
abbrev slaw_lines : Stmt := top 67
abbrev slaw_setting : Stmt := top 68
abbrev slaw_moves_alike : Stmt := top 69
abbrev slaw_number : Stmt := top 70
abbrev slaw_opened : Stmt := top 71
abbrev slaw_led : Stmt := top 72
abbrev slaw_read : Stmt := top 73
abbrev slaw_first_line : Stmt := top 74
abbrev slaw_spoilt : Stmt := top 75
abbrev slaw_reads : Stmt := top 76
abbrev slaw : Stmt := top 77
def xBadStrand_init : DX := ⟨.mth "BadStrand" "__init__", "__init__", "BadStrand.__init__", defArgs sBadStrand_init, defBody sBadStrand_init, defScope sBadStrand_init, [], [], ["__class__"]⟩
def xBadKind_init : DX := ⟨.mth "BadKind" "__init__", "__init__", "BadKind.__init__", defArgs sBadKind_init, defBody sBadKind_init, defScope sBadKind_init, [], [], ["__class__"]⟩
def xBadPrice_init : DX := ⟨.mth "BadPrice" "__init__", "__init__", "BadPrice.__init__", defArgs sBadPrice_init, defBody sBadPrice_init, defScope sBadPrice_init, [], [], ["__class__"]⟩
def xNoSuchBead_init : DX := ⟨.mth "NoSuchBead" "__init__", "__init__", "NoSuchBead.__init__", defArgs sNoSuchBead_init, defBody sNoSuchBead_init, defScope sNoSuchBead_init, [], [], ["__class__"]⟩
def xGoneBead_init : DX := ⟨.mth "GoneBead" "__init__", "__init__", "GoneBead.__init__", defArgs sGoneBead_init, defBody sGoneBead_init, defScope sGoneBead_init, [], [], ["__class__"]⟩
def xEndBead_init : DX := ⟨.mth "EndBead" "__init__", "__init__", "EndBead.__init__", defArgs sEndBead_init, defBody sEndBead_init, defScope sEndBead_init, [], [], ["__class__"]⟩
def xBadCoins_init : DX := ⟨.mth "BadCoins" "__init__", "__init__", "BadCoins.__init__", defArgs sBadCoins_init, defBody sBadCoins_init, defScope sBadCoins_init, [], [], ["__class__"]⟩
def xNoCoins_init : DX := ⟨.mth "NoCoins" "__init__", "__init__", "NoCoins.__init__", defArgs sNoCoins_init, defBody sNoCoins_init, defScope sNoCoins_init, [], [], ["__class__"]⟩
def xBadName_init : DX := ⟨.mth "BadName" "__init__", "__init__", "BadName.__init__", defArgs sBadName_init, defBody sBadName_init, defScope sBadName_init, [], [], ["__class__"]⟩
def xNameTaken_init : DX := ⟨.mth "NameTaken" "__init__", "__init__", "NameTaken.__init__", defArgs sNameTaken_init, defBody sNameTaken_init, defScope sNameTaken_init, [], [], ["__class__"]⟩
def xNoSuchRow_init : DX := ⟨.mth "NoSuchRow" "__init__", "__init__", "NoSuchRow.__init__", defArgs sNoSuchRow_init, defBody sNoSuchRow_init, defScope sNoSuchRow_init, [], [], ["__class__"]⟩
def xBadJournal_init : DX := ⟨.mth "BadJournal" "__init__", "__init__", "BadJournal.__init__", defArgs sBadJournal_init, defBody sBadJournal_init, defScope sBadJournal_init, [], [], ["__class__"]⟩
def xLedger_init : DX := ⟨.mth "Ledger" "__init__", "__init__", "Ledger.__init__", defArgs sLedger_init, defBody sLedger_init, defScope sLedger_init, [], [], []⟩
def xLedger_balance : DX := ⟨.mth "Ledger" "balance", "balance", "Ledger.balance", defArgs sLedger_balance, defBody sLedger_balance, defScope sLedger_balance, [], [], []⟩
def xLedger_pay : DX := ⟨.mth "Ledger" "pay", "pay", "Ledger.pay", defArgs sLedger_pay, defBody sLedger_pay, defScope sLedger_pay, [], [], []⟩
def xLedger_pay_in : DX := ⟨.mth "Ledger" "pay_in", "pay_in", "Ledger.pay_in", defArgs sLedger_pay_in, defBody sLedger_pay_in, defScope sLedger_pay_in, [], [], []⟩
def xLedger_take_back : DX := ⟨.mth "Ledger" "take_back", "take_back", "Ledger.take_back", defArgs sLedger_take_back, defBody sLedger_take_back, defScope sLedger_take_back, [], [], []⟩
def xLedger_payments : DX := ⟨.mth "Ledger" "payments", "payments", "Ledger.payments", defArgs sLedger_payments, defBody sLedger_payments, defScope sLedger_payments, [], [], []⟩
def xLedger_spent : DX := ⟨.mth "Ledger" "spent", "spent", "Ledger.spent", defArgs sLedger_spent, defBody sLedger_spent, defScope sLedger_spent, [], [], []⟩
def xStrand_init : DX := ⟨.mth "Strand" "__init__", "__init__", "Strand.__init__", defArgs sStrand_init, defBody sStrand_init, defScope sStrand_init, [], [], []⟩
def xmark_of : DX := ⟨.glo "mark_of", "mark_of", "mark_of", defArgs smark_of, defBody smark_of, defScope smark_of, [], [], []⟩
def xTally_init : DX := ⟨.mth "Tally" "__init__", "__init__", "Tally.__init__", defArgs sTally_init, defBody sTally_init, defScope sTally_init, [.int (0), .int (0), .int (0), .int (0)], [], []⟩
def xcount_marks : DX := ⟨.glo "count_marks", "count_marks", "count_marks", defArgs scount_marks, defBody scount_marks, defScope scount_marks, [], [], []⟩
def xPrices_init : DX := ⟨.mth "Prices" "__init__", "__init__", "Prices.__init__", defArgs sPrices_init, defBody sPrices_init, defScope sPrices_init, [], [("quiet", .int (0)), ("odd", .int (0)), ("edge", .int (1)), ("strife", .int (1))], []⟩
def xPrices_call : DX := ⟨.mth "Prices" "__call__", "__call__", "Prices.__call__", defArgs sPrices_call, defBody sPrices_call, defScope sPrices_call, [], [], []⟩
def xRow_init : DX := ⟨.mth "Row" "__init__", "__init__", "Row.__init__", defArgs sRow_init, defBody sRow_init, defScope sRow_init, [], [], []⟩
def xRow_standing : DX := ⟨.wrap "Row" "standing" "property", "standing", "Row.standing", defArgs sRow_standing, defBody sRow_standing, defScope sRow_standing, [], [], []⟩
def xRow_taken : DX := ⟨.wrap "Row" "taken" "property", "taken", "Row.taken", defArgs sRow_taken, defBody sRow_taken, defScope sRow_taken, [], [], []⟩
def xRow_check_standing : DX := ⟨.mth "Row" "_check_standing", "_check_standing", "Row._check_standing", defArgs sRow_check_standing, defBody sRow_check_standing, defScope sRow_check_standing, [], [], []⟩
def xRow_check_inner : DX := ⟨.mth "Row" "_check_inner", "_check_inner", "Row._check_inner", defArgs sRow_check_inner, defBody sRow_check_inner, defScope sRow_check_inner, [], [], []⟩
def xRow_neighbours : DX := ⟨.mth "Row" "neighbours", "neighbours", "Row.neighbours", defArgs sRow_neighbours, defBody sRow_neighbours, defScope sRow_neighbours, [], [], []⟩
def xRow_mark : DX := ⟨.mth "Row" "mark", "mark", "Row.mark", defArgs sRow_mark, defBody sRow_mark, defScope sRow_mark, [], [], []⟩
def xRow_take_out : DX := ⟨.mth "Row" "_take_out", "_take_out", "Row._take_out", defArgs sRow_take_out, defBody sRow_take_out, defScope sRow_take_out, [], [], []⟩
def xRow_take : DX := ⟨.mth "Row" "take", "take", "Row.take", defArgs sRow_take, defBody sRow_take, defScope sRow_take, [], [], []⟩
def xRow_grow : DX := ⟨.mth "Row" "grow", "grow", "Row.grow", defArgs sRow_grow, defBody sRow_grow, defScope sRow_grow, [], [], []⟩
def xRow_grown : DX := ⟨.mth "Row" "grown", "grown", "Row.grown", defArgs sRow_grown, defBody sRow_grown, defScope sRow_grown, [], [], []⟩
def xRow_put_back : DX := ⟨.mth "Row" "_put_back", "_put_back", "Row._put_back", defArgs sRow_put_back, defBody sRow_put_back, defScope sRow_put_back, [], [], []⟩
def xRow_undo : DX := ⟨.mth "Row" "undo", "undo", "Row.undo", defArgs sRow_undo, defBody sRow_undo, defScope sRow_undo, [], [], []⟩
def xRow_twin : DX := ⟨.mth "Row" "twin", "twin", "Row.twin", defArgs sRow_twin, defBody sRow_twin, defScope sRow_twin, [], [], []⟩
def xRow_meetings : DX := ⟨.mth "Row" "meetings", "meetings", "Row.meetings", defArgs sRow_meetings, defBody sRow_meetings, defScope sRow_meetings, [], [], []⟩
def xRow_tally : DX := ⟨.mth "Row" "tally", "tally", "Row.tally", defArgs sRow_tally, defBody sRow_tally, defScope sRow_tally, [], [], []⟩
def xread_number : DX := ⟨.glo "read_number", "read_number", "read_number", defArgs sread_number, defBody sread_number, defScope sread_number, [], [], []⟩
def xsplit_words : DX := ⟨.glo "split_words", "split_words", "split_words", defArgs ssplit_words, defBody ssplit_words, defScope ssplit_words, [], [], []⟩
def xline_numbers : DX := ⟨.glo "line_numbers", "line_numbers", "line_numbers", defArgs sline_numbers, defBody sline_numbers, defScope sline_numbers, [], [], []⟩
def xDesk_init : DX := ⟨.mth "Desk" "__init__", "__init__", "Desk.__init__", defArgs sDesk_init, defBody sDesk_init, defScope sDesk_init, [], [("coins", .int (0)), ("quiet", .int (0)), ("odd", .int (0)), ("edge", .int (1)), ("strife", .int (1))], []⟩
def xDesk_is_name : DX := ⟨.wrap "Desk" "is_name" "staticmethod", "is_name", "Desk.is_name", defArgs sDesk_is_name, defBody sDesk_is_name, defScope sDesk_is_name, [], [], []⟩
def xDesk_opening : DX := ⟨.mth "Desk" "opening", "opening", "Desk.opening", defArgs sDesk_opening, defBody sDesk_opening, defScope sDesk_opening, [], [], []⟩
def xDesk_balance : DX := ⟨.mth "Desk" "balance", "balance", "Desk.balance", defArgs sDesk_balance, defBody sDesk_balance, defScope sDesk_balance, [], [], []⟩
def xDesk_names : DX := ⟨.mth "Desk" "names", "names", "Desk.names", defArgs sDesk_names, defBody sDesk_names, defScope sDesk_names, [], [], []⟩
def xDesk_laid : DX := ⟨.mth "Desk" "_laid", "_laid", "Desk._laid", defArgs sDesk_laid, defBody sDesk_laid, defScope sDesk_laid, [], [], []⟩
def xDesk_stand : DX := ⟨.mth "Desk" "_stand", "_stand", "Desk._stand", defArgs sDesk_stand, defBody sDesk_stand, defScope sDesk_stand, [], [], []⟩
def xDesk_lay : DX := ⟨.mth "Desk" "lay", "lay", "Desk.lay", defArgs sDesk_lay, defBody sDesk_lay, defScope sDesk_lay, [], [], []⟩
def xDesk_take : DX := ⟨.mth "Desk" "take", "take", "Desk.take", defArgs sDesk_take, defBody sDesk_take, defScope sDesk_take, [], [], []⟩
def xDesk_grow : DX := ⟨.mth "Desk" "grow", "grow", "Desk.grow", defArgs sDesk_grow, defBody sDesk_grow, defScope sDesk_grow, [], [], []⟩
def xDesk_pay_in : DX := ⟨.mth "Desk" "pay_in", "pay_in", "Desk.pay_in", defArgs sDesk_pay_in, defBody sDesk_pay_in, defScope sDesk_pay_in, [], [], []⟩
def xDesk_do : DX := ⟨.mth "Desk" "do", "do", "Desk.do", defArgs sDesk_do, defBody sDesk_do, defScope sDesk_do, [], [], []⟩
def xDesk_undo : DX := ⟨.mth "Desk" "undo", "undo", "Desk.undo", defArgs sDesk_undo, defBody sDesk_undo, defScope sDesk_undo, [], [], []⟩
def xDesk_redo : DX := ⟨.mth "Desk" "redo", "redo", "Desk.redo", defArgs sDesk_redo, defBody sDesk_redo, defScope sDesk_redo, [], [], []⟩
def xDesk_deeds : DX := ⟨.mth "Desk" "deeds", "deeds", "Desk.deeds", defArgs sDesk_deeds, defBody sDesk_deeds, defScope sDesk_deeds, [], [], []⟩
def xDesk_row : DX := ⟨.mth "Desk" "row", "row", "Desk.row", defArgs sDesk_row, defBody sDesk_row, defScope sDesk_row, [], [], []⟩
def xDesk_ledger : DX := ⟨.mth "Desk" "ledger", "ledger", "Desk.ledger", defArgs sDesk_ledger, defBody sDesk_ledger, defScope sDesk_ledger, [], [], []⟩
def xDesk_spent : DX := ⟨.mth "Desk" "spent", "spent", "Desk.spent", defArgs sDesk_spent, defBody sDesk_spent, defScope sDesk_spent, [], [], []⟩
def xwrite_journal : DX := ⟨.glo "write_journal", "write_journal", "write_journal", defArgs swrite_journal, defBody swrite_journal, defScope swrite_journal, [], [], []⟩
def xread_first : DX := ⟨.glo "read_first", "read_first", "read_first", defArgs sread_first, defBody sread_first, defScope sread_first, [], [], []⟩
def xread_journal : DX := ⟨.glo "read_journal", "read_journal", "read_journal", defArgs sread_journal, defBody sread_journal, defScope sread_journal, [], [], []⟩
def xlaw_cell : DX := ⟨.glo "_law_cell", "_law_cell", "_law_cell", defArgs slaw_cell, defBody slaw_cell, defScope slaw_cell, [], [], []⟩
def xlaw_mixed : DX := ⟨.glo "_law_mixed", "_law_mixed", "_law_mixed", defArgs slaw_mixed, defBody slaw_mixed, defScope slaw_mixed, [], [], []⟩
def xlaw_draws : DX := ⟨.glo "_law_draws", "_law_draws", "_law_draws", defArgs slaw_draws, defBody slaw_draws, defScope slaw_draws, [], [], []⟩
def xlaw_is_integer : DX := ⟨.glo "_law_is_integer", "_law_is_integer", "_law_is_integer", defArgs slaw_is_integer, defBody slaw_is_integer, defScope slaw_is_integer, [], [], []⟩
def xlaw_same : DX := ⟨.glo "_law_same", "_law_same", "_law_same", defArgs slaw_same, defBody slaw_same, defScope slaw_same, [], [], []⟩
def xlaw_words : DX := ⟨.glo "_law_words", "_law_words", "_law_words", defArgs slaw_words, defBody slaw_words, defScope slaw_words, [], [], []⟩
def xlaw_replaced : DX := ⟨.glo "_law_replaced", "_law_replaced", "_law_replaced", defArgs slaw_replaced, defBody slaw_replaced, defScope slaw_replaced, [], [], []⟩
def xlaw_line : DX := ⟨.glo "_law_line", "_law_line", "_law_line", defArgs slaw_line, defBody slaw_line, defScope slaw_line, [], [], []⟩
def xlaw_bad_line : DX := ⟨.glo "_law_bad_line", "_law_bad_line", "_law_bad_line", defArgs slaw_bad_line, defBody slaw_bad_line, defScope slaw_bad_line, [], [], []⟩
def xlaw_done : DX := ⟨.glo "_law_done", "_law_done", "_law_done", defArgs slaw_done, defBody slaw_done, defScope slaw_done, [], [], []⟩
def xlaw_moved : DX := ⟨.glo "_law_moved", "_law_moved", "_law_moved", defArgs slaw_moved, defBody slaw_moved, defScope slaw_moved, [], [], []⟩
def xlaw_told : DX := ⟨.glo "_law_told", "_law_told", "_law_told", defArgs slaw_told, defBody slaw_told, defScope slaw_told, [], [], []⟩
def xlaw_alike : DX := ⟨.glo "_law_alike", "_law_alike", "_law_alike", defArgs slaw_alike, defBody slaw_alike, defScope slaw_alike, [], [], []⟩
def xlaw_brief : DX := ⟨.glo "_law_brief", "_law_brief", "_law_brief", defArgs slaw_brief, defBody slaw_brief, defScope slaw_brief, [], [], []⟩
def xlaw_lines : DX := ⟨.glo "_law_lines", "_law_lines", "_law_lines", defArgs slaw_lines, defBody slaw_lines, defScope slaw_lines, [], [], []⟩
def xlaw_setting : DX := ⟨.glo "_law_setting", "_law_setting", "_law_setting", defArgs slaw_setting, defBody slaw_setting, defScope slaw_setting, [], [], []⟩
def xlaw_moves_alike : DX := ⟨.glo "_law_moves_alike", "_law_moves_alike", "_law_moves_alike", defArgs slaw_moves_alike, defBody slaw_moves_alike, defScope slaw_moves_alike, [], [], []⟩
def xlaw_number : DX := ⟨.glo "_law_number", "_law_number", "_law_number", defArgs slaw_number, defBody slaw_number, defScope slaw_number, [], [], []⟩
def xlaw_opened : DX := ⟨.glo "_law_opened", "_law_opened", "_law_opened", defArgs slaw_opened, defBody slaw_opened, defScope slaw_opened, [], [], []⟩
def xlaw_led : DX := ⟨.glo "_law_led", "_law_led", "_law_led", defArgs slaw_led, defBody slaw_led, defScope slaw_led, [], [], []⟩
def xlaw_read : DX := ⟨.glo "_law_read", "_law_read", "_law_read", defArgs slaw_read, defBody slaw_read, defScope slaw_read, [], [], []⟩
def xlaw_first_line : DX := ⟨.glo "_law_first_line", "_law_first_line", "_law_first_line", defArgs slaw_first_line, defBody slaw_first_line, defScope slaw_first_line, [], [], []⟩
def xlaw_spoilt : DX := ⟨.glo "_law_spoilt", "_law_spoilt", "_law_spoilt", defArgs slaw_spoilt, defBody slaw_spoilt, defScope slaw_spoilt, [], [], []⟩
def xlaw_reads : DX := ⟨.glo "_law_reads", "_law_reads", "_law_reads", defArgs slaw_reads, defBody slaw_reads, defScope slaw_reads, [], [], []⟩
def xlaw : DX := ⟨.glo "law", "law", "law", defArgs slaw, defBody slaw, defScope slaw, [], [], []⟩
def fn : List DX := [xBadStrand_init, xBadKind_init, xBadPrice_init, xNoSuchBead_init, xGoneBead_init, xEndBead_init, xBadCoins_init, xNoCoins_init, xBadName_init, xNameTaken_init, xNoSuchRow_init, xBadJournal_init, xLedger_init, xLedger_balance, xLedger_pay, xLedger_pay_in, xLedger_take_back, xLedger_payments, xLedger_spent, xStrand_init, xmark_of, xTally_init, xcount_marks, xPrices_init, xPrices_call, xRow_init, xRow_standing, xRow_taken, xRow_check_standing, xRow_check_inner, xRow_neighbours, xRow_mark, xRow_take_out, xRow_take, xRow_grow, xRow_grown, xRow_put_back, xRow_undo, xRow_twin, xRow_meetings, xRow_tally, xread_number, xsplit_words, xline_numbers, xDesk_init, xDesk_is_name, xDesk_opening, xDesk_balance, xDesk_names, xDesk_laid, xDesk_stand, xDesk_lay, xDesk_take, xDesk_grow, xDesk_pay_in, xDesk_do, xDesk_undo, xDesk_redo, xDesk_deeds, xDesk_row, xDesk_ledger, xDesk_spent, xwrite_journal, xread_first, xread_journal, xlaw_cell, xlaw_mixed, xlaw_draws, xlaw_is_integer, xlaw_same, xlaw_words, xlaw_replaced, xlaw_line, xlaw_bad_line, xlaw_done, xlaw_moved, xlaw_told, xlaw_alike, xlaw_brief, xlaw_lines, xlaw_setting, xlaw_moves_alike, xlaw_number, xlaw_opened, xlaw_led, xlaw_read, xlaw_first_line, xlaw_spoilt, xlaw_reads, xlaw]
def fb0 : List (PySem.W.Frag → Bool) := [fun K => (.glo "mark_of" : He.Fa).ok K,
  fun K => (.glo "count_marks" : He.Fa).ok K,
  fun K => (.glo "read_number" : He.Fa).ok K,
  fun K => (.glo "split_words" : He.Fa).ok K,
  fun K => (.glo "line_numbers" : He.Fa).ok K,
  fun K => (.glo "write_journal" : He.Fa).ok K,
  fun K => (.glo "read_first" : He.Fa).ok K,
  fun K => (.glo "read_journal" : He.Fa).ok K,
  fun K => (.glo "_law_cell" : He.Fa).ok K,
  fun K => (.glo "_law_mixed" : He.Fa).ok K,
  fun K => (.glo "_law_draws" : He.Fa).ok K,
  fun K => (.glo "_law_is_integer" : He.Fa).ok K,
  fun K => (.glo "_law_same" : He.Fa).ok K,
  fun K => (.glo "_law_words" : He.Fa).ok K,
  fun K => (.glo "_law_replaced" : He.Fa).ok K,
  fun K => (.glo "_law_line" : He.Fa).ok K,
  fun K => (.glo "_law_bad_line" : He.Fa).ok K,
  fun K => (.glo "_law_done" : He.Fa).ok K,
  fun K => (.glo "_law_moved" : He.Fa).ok K,
  fun K => (.glo "_law_told" : He.Fa).ok K,
  fun K => (.glo "_law_alike" : He.Fa).ok K,
  fun K => (.glo "_law_brief" : He.Fa).ok K,
  fun K => (.glo "_law_lines" : He.Fa).ok K,
  fun K => (.glo "_law_setting" : He.Fa).ok K,
  fun K => (.glo "_law_moves_alike" : He.Fa).ok K,
  fun K => (.glo "_law_number" : He.Fa).ok K,
  fun K => (.glo "_law_opened" : He.Fa).ok K,
  fun K => (.glo "_law_led" : He.Fa).ok K,
  fun K => (.glo "_law_read" : He.Fa).ok K,
  fun K => (.glo "_law_first_line" : He.Fa).ok K]
def fb1 : List (PySem.W.Frag → Bool) := [fun K => (.glo "_law_spoilt" : He.Fa).ok K,
  fun K => (.glo "_law_reads" : He.Fa).ok K,
  fun K => (.glo "law" : He.Fa).ok K,
  fun K => (.glo "Ledger" : He.Fa).ok K,
  fun K => (.glo "Strand" : He.Fa).ok K,
  fun K => (.glo "Tally" : He.Fa).ok K,
  fun K => (.glo "Prices" : He.Fa).ok K,
  fun K => (.glo "Row" : He.Fa).ok K,
  fun K => (.glo "Desk" : He.Fa).ok K,
  fun K => (.glo "MootError" : He.Fa).ok K,
  fun K => (.glo "BadStrand" : He.Fa).ok K,
  fun K => (.glo "BadKind" : He.Fa).ok K,
  fun K => (.glo "BadPrice" : He.Fa).ok K,
  fun K => (.glo "NoSuchBead" : He.Fa).ok K,
  fun K => (.glo "GoneBead" : He.Fa).ok K,
  fun K => (.glo "EndBead" : He.Fa).ok K,
  fun K => (.glo "BadCoins" : He.Fa).ok K,
  fun K => (.glo "NoCoins" : He.Fa).ok K,
  fun K => (.glo "BadName" : He.Fa).ok K,
  fun K => (.glo "NameTaken" : He.Fa).ok K,
  fun K => (.glo "NoSuchRow" : He.Fa).ok K,
  fun K => (.glo "BadJournal" : He.Fa).ok K,
  fun K => (.glo "RowFull" : He.Fa).ok K,
  fun K => (.glo "NothingToUndo" : He.Fa).ok K,
  fun K => (.glo "NothingToRedo" : He.Fa).ok K,
  fun K => (.glo "DeskFull" : He.Fa).ok K,
  fun K => (.glo "BadLine" : He.Fa).ok K,
  fun K => (.glo "MARKS" : He.Fa).ok K,
  fun K => (.free "len" : He.Fa).ok K,
  fun K => (.free "range" : He.Fa).ok K]
def fb2 : List (PySem.W.Frag → Bool) := [fun K => (.free "tuple" : He.Fa).ok K,
  fun K => (.free "list" : He.Fa).ok K,
  fun K => (.free "int" : He.Fa).ok K,
  fun K => (.free "set" : He.Fa).ok K,
  fun K => (.free "sum" : He.Fa).ok K,
  fun K => (.free "sorted" : He.Fa).ok K,
  fun K => (.free "str" : He.Fa).ok K,
  fun K => (.free "zip" : He.Fa).ok K,
  fun K => (.free "all" : He.Fa).ok K,
  fun K => (.free "isinstance" : He.Fa).ok K,
  fun K => (.free "super" : He.Fa).ok K,
  fun K => (.free "ValueError" : He.Fa).ok K,
  fun K => (.free "bool" : He.Fa).ok K,
  fun K => (.int "MOST_COINS" 1000000000000 : He.Fa).ok K,
  fun K => (.int "MOST_PAID_IN" 1000000000 : He.Fa).ok K,
  fun K => (.int "TOP_PRICE" 1000000000 : He.Fa).ok K,
  fun K => (.int "MOST_ROWS" 12 : He.Fa).ok K,
  fun K => (.int "MOST_PRICE" 1000000000 : He.Fa).ok K,
  fun K => (.int "MOST_LETTERS" 12 : He.Fa).ok K,
  fun K => (.int "MOST_DIGITS" 13 : He.Fa).ok K,
  fun K => (.str "DIGITS" "0123456789" : He.Fa).ok K,
  fun K => (.str "LETTERS" "abcdefghijklmnopqrstuvwxyz" : He.Fa).ok K,
  fun K => He.tupB K "MARKS" [.str "quiet", .str "odd", .str "edge", .str "strife"],
  fun K => (.cls "Ledger" : He.Fa).ok K,
  fun K => (.mkr "Ledger" : He.Fa).ok K,
  fun K => (.cls "Strand" : He.Fa).ok K,
  fun K => (.mkr "Strand" : He.Fa).ok K,
  fun K => (.cls "Tally" : He.Fa).ok K,
  fun K => (.mkr "Tally" : He.Fa).ok K,
  fun K => (.cls "Prices" : He.Fa).ok K]
def fb3 : List (PySem.W.Frag → Bool) := [fun K => (.mkr "Prices" : He.Fa).ok K,
  fun K => (.cls "Row" : He.Fa).ok K,
  fun K => (.mkr "Row" : He.Fa).ok K,
  fun K => (.cls "Desk" : He.Fa).ok K,
  fun K => (.mkr "Desk" : He.Fa).ok K,
  fun K => (.noat "Ledger" "_coins" : He.Fa).ok K,
  fun K => (.noat "Ledger" "_written" : He.Fa).ok K,
  fun K => (.noat "Strand" "kinds" : He.Fa).ok K,
  fun K => (.noat "Strand" "size" : He.Fa).ok K,
  fun K => (.noat "Strand" "unlike_pairs" : He.Fa).ok K,
  fun K => (.noat "Strand" "ends_unlike" : He.Fa).ok K,
  fun K => (.noat "Strand" "variety" : He.Fa).ok K,
  fun K => (.noat "Tally" "quiet" : He.Fa).ok K,
  fun K => (.noat "Tally" "odd" : He.Fa).ok K,
  fun K => (.noat "Tally" "edge" : He.Fa).ok K,
  fun K => (.noat "Tally" "strife" : He.Fa).ok K,
  fun K => (.noat "Tally" "counts" : He.Fa).ok K,
  fun K => (.noat "Prices" "quiet" : He.Fa).ok K,
  fun K => (.noat "Prices" "odd" : He.Fa).ok K,
  fun K => (.noat "Prices" "edge" : He.Fa).ok K,
  fun K => (.noat "Prices" "strife" : He.Fa).ok K,
  fun K => (.noat "Row" "_kinds" : He.Fa).ok K,
  fun K => (.noat "Row" "_standing" : He.Fa).ok K,
  fun K => (.noat "Row" "_taken" : He.Fa).ok K,
  fun K => (.noat "Row" "_marks" : He.Fa).ok K,
  fun K => (.noat "Row" "_meetings" : He.Fa).ok K,
  fun K => (.noat "Row" "_deeds" : He.Fa).ok K,
  fun K => (.noat "Desk" "_purse" : He.Fa).ok K,
  fun K => (.noat "Desk" "_prices" : He.Fa).ok K,
  fun K => (.noat "Desk" "_opening" : He.Fa).ok K]
def fb4 : List (PySem.W.Frag → Bool) := [fun K => (.noat "Desk" "_rows" : He.Fa).ok K,
  fun K => (.noat "Desk" "_done" : He.Fa).ok K,
  fun K => (.noat "Desk" "_undone" : He.Fa).ok K,
  fun K => (.meth "Ledger" "balance" : He.Fa).ok K,
  fun K => (.meth "Ledger" "pay" : He.Fa).ok K,
  fun K => (.meth "Ledger" "pay_in" : He.Fa).ok K,
  fun K => (.meth "Ledger" "take_back" : He.Fa).ok K,
  fun K => (.meth "Ledger" "payments" : He.Fa).ok K,
  fun K => (.meth "Ledger" "spent" : He.Fa).ok K,
  fun K => (.meth "Prices" "__call__" : He.Fa).ok K,
  fun K => (.meth "Row" "_check_standing" : He.Fa).ok K,
  fun K => (.meth "Row" "_check_inner" : He.Fa).ok K,
  fun K => (.meth "Row" "neighbours" : He.Fa).ok K,
  fun K => (.meth "Row" "mark" : He.Fa).ok K,
  fun K => (.meth "Row" "_take_out" : He.Fa).ok K,
  fun K => (.meth "Row" "take" : He.Fa).ok K,
  fun K => (.meth "Row" "grow" : He.Fa).ok K,
  fun K => (.meth "Row" "grown" : He.Fa).ok K,
  fun K => (.meth "Row" "_put_back" : He.Fa).ok K,
  fun K => (.meth "Row" "undo" : He.Fa).ok K,
  fun K => (.meth "Row" "twin" : He.Fa).ok K,
  fun K => (.meth "Row" "meetings" : He.Fa).ok K,
  fun K => (.meth "Row" "tally" : He.Fa).ok K,
  fun K => (.meth "Desk" "opening" : He.Fa).ok K,
  fun K => (.meth "Desk" "balance" : He.Fa).ok K,
  fun K => (.meth "Desk" "names" : He.Fa).ok K,
  fun K => (.meth "Desk" "_laid" : He.Fa).ok K,
  fun K => (.meth "Desk" "_stand" : He.Fa).ok K,
  fun K => (.meth "Desk" "lay" : He.Fa).ok K,
  fun K => (.meth "Desk" "take" : He.Fa).ok K]
def fb5 : List (PySem.W.Frag → Bool) := [fun K => (.meth "Desk" "grow" : He.Fa).ok K,
  fun K => (.meth "Desk" "pay_in" : He.Fa).ok K,
  fun K => (.meth "Desk" "do" : He.Fa).ok K,
  fun K => (.meth "Desk" "undo" : He.Fa).ok K,
  fun K => (.meth "Desk" "redo" : He.Fa).ok K,
  fun K => (.meth "Desk" "deeds" : He.Fa).ok K,
  fun K => (.meth "Desk" "row" : He.Fa).ok K,
  fun K => (.meth "Desk" "ledger" : He.Fa).ok K,
  fun K => (.meth "Desk" "spent" : He.Fa).ok K,
  propB "Row" "standing",
  propB "Row" "taken",
  statB "Desk" "is_name",
  cvalB "Strand" "MOST" 24,
  cvalB "Strand" "TOP_KIND" 999,
  callB "Prices",
  fun K => (.exc "RowFull" : He.Fa).ok K,
  fun K => (.exc "NothingToUndo" : He.Fa).ok K,
  fun K => (.exc "NothingToRedo" : He.Fa).ok K,
  fun K => (.exc "DeskFull" : He.Fa).ok K,
  fun K => (.exc "BadLine" : He.Fa).ok K,
  oexB "BadStrand",
  oexS "BadStrand",
  supB "BadStrand" "BadStrand.__init__",
  oexB "BadKind",
  oexS "BadKind",
  supB "BadKind" "BadKind.__init__",
  oexB "BadPrice",
  oexS "BadPrice",
  supB "BadPrice" "BadPrice.__init__",
  oexB "NoSuchBead"]
def fb6 : List (PySem.W.Frag → Bool) := [oexS "NoSuchBead",
  supB "NoSuchBead" "NoSuchBead.__init__",
  oexB "GoneBead",
  oexS "GoneBead",
  supB "GoneBead" "GoneBead.__init__",
  oexB "EndBead",
  oexS "EndBead",
  supB "EndBead" "EndBead.__init__",
  oexB "BadCoins",
  oexS "BadCoins",
  supB "BadCoins" "BadCoins.__init__",
  oexB "NoCoins",
  oexS "NoCoins",
  supB "NoCoins" "NoCoins.__init__",
  oexB "BadName",
  oexS "BadName",
  supB "BadName" "BadName.__init__",
  oexB "NameTaken",
  oexS "NameTaken",
  supB "NameTaken" "NameTaken.__init__",
  oexB "NoSuchRow",
  oexS "NoSuchRow",
  supB "NoSuchRow" "NoSuchRow.__init__",
  oexB "BadJournal",
  oexS "BadJournal",
  supB "BadJournal" "BadJournal.__init__",
  fun K => (.noat "BadStrand" "at" : He.Fa).ok K,
  fun K => (.noat "BadKind" "kind" : He.Fa).ok K,
  fun K => (.noat "BadPrice" "word" : He.Fa).ok K,
  fun K => (.noat "NoSuchBead" "bead" : He.Fa).ok K]
def fb7 : List (PySem.W.Frag → Bool) := [fun K => (.noat "GoneBead" "bead" : He.Fa).ok K,
  fun K => (.noat "EndBead" "bead" : He.Fa).ok K,
  fun K => (.noat "BadCoins" "coins" : He.Fa).ok K,
  fun K => (.noat "NoCoins" "price" : He.Fa).ok K,
  fun K => (.noat "NoCoins" "coins" : He.Fa).ok K,
  fun K => (.noat "BadName" "name" : He.Fa).ok K,
  fun K => (.noat "NameTaken" "name" : He.Fa).ok K,
  fun K => (.noat "NoSuchRow" "name" : He.Fa).ok K,
  fun K => (.noat "BadJournal" "line" : He.Fa).ok K,
  fun K => (.exm "BadStrand" "MootError" true : He.Fa).ok K,
  fun K => (.exm "BadKind" "MootError" true : He.Fa).ok K,
  fun K => (.exm "BadPrice" "MootError" true : He.Fa).ok K,
  fun K => (.exm "NoSuchBead" "MootError" true : He.Fa).ok K,
  fun K => (.exm "GoneBead" "MootError" true : He.Fa).ok K,
  fun K => (.exm "EndBead" "MootError" true : He.Fa).ok K,
  fun K => (.exm "BadCoins" "MootError" true : He.Fa).ok K,
  fun K => (.exm "NoCoins" "MootError" true : He.Fa).ok K,
  fun K => (.exm "BadName" "MootError" true : He.Fa).ok K,
  fun K => (.exm "NameTaken" "MootError" true : He.Fa).ok K,
  fun K => (.exm "NoSuchRow" "MootError" true : He.Fa).ok K,
  fun K => (.exm "BadJournal" "MootError" true : He.Fa).ok K,
  fun K => (.exm "RowFull" "MootError" true : He.Fa).ok K,
  fun K => (.exm "NothingToUndo" "MootError" true : He.Fa).ok K,
  fun K => (.exm "NothingToRedo" "MootError" true : He.Fa).ok K,
  fun K => (.exm "DeskFull" "MootError" true : He.Fa).ok K,
  fun K => (.exm "BadLine" "MootError" true : He.Fa).ok K,
  fun K => (.exm "NothingToUndo" "NothingToUndo" true : He.Fa).ok K,
  fun K => (.exm "NothingToRedo" "NothingToRedo" true : He.Fa).ok K,
  fun K => (.exm "NothingToRedo" "NothingToUndo" false : He.Fa).ok K,
  fun K => (.exm "BadJournal" "BadJournal" true : He.Fa).ok K]
def fb8 : List (PySem.W.Frag → Bool) := [thirdB,
  excCB "BadJournal",
  subB "BadJournal" "BadLine" false,
  subB "BadJournal" "MootError" true,
  subT "BadJournal" "ValueError" true]
def fb : List (PySem.W.Frag → Bool) := fb0 ++ (fb1 ++ (fb2 ++ (fb3 ++ (fb4 ++ (fb5 ++ (fb6 ++ (fb7 ++ (fb8))))))))
end Bm
set_option Elab.async false
set_option linter.all false
set_option maxRecDepth 100000
set_option maxHeartbeats 0
/-! The head: the top's run, once, in the kernel. -/
namespace Bm
open PySem PySem.Spec PyProof.Rows L2
abbrev R : PySem.W.OpenRow := PySem.W.OpenLaw.row PySem.Challenge.rw_beadmoot_k47_whole_journal
abbrev hk : PySem.W.Hook := hookX fb fn
def ob (s : PySem.W.SharedT) : AlX := obsXG fb fn (HandSHeadRun.getT s)
theorem ob_eq (s : PySem.W.SharedT) : ob s = hk.obs s.abs := obsXG_eq (HandSHeadRun.getT_eq s)
def names : List PySem.Str := (R.prog.main.scope.names.map (·.1)).filter fun x => x != "law" && x != "__name__"
theorem run (w : World) : HandSHeadRun.RunEq R (PySem.W.view R.prog [77]) hk ob 10000 names w := by
  intro os
  kernel_rfl
end Bm
set_option Elab.async false
set_option linter.all false
set_option maxRecDepth 100000
set_option maxHeartbeats 4000000
namespace Bm
open PySem PySem.Spec PyProof.Rows L2
/-- what the walks lean on -/
structure Tx (K : PySem.W.Frag) (mg : Str → Option Value) : Prop where
  at_ : ∃ h : Heap, K.In h ∧ h.Ns mainGlobals mg
  c : SaysX fb fn K
section
variable {K : PySem.W.Frag} {mg : Str → Option Value}
theorem Tx.g_mark_of (T : Tx K mg) : mg "mark_of" = some (.ref (He.ga K "mark_of")) := by
  obtain ⟨h, X, G⟩ := T.at_
  exact He.glo_ok X G (T.c.fact 0)
theorem Tx.g_count_marks (T : Tx K mg) : mg "count_marks" = some (.ref (He.ga K "count_marks")) := by
  obtain ⟨h, X, G⟩ := T.at_
  exact He.glo_ok X G (T.c.fact 1)
theorem Tx.g_read_number (T : Tx K mg) : mg "read_number" = some (.ref (He.ga K "read_number")) := by
  obtain ⟨h, X, G⟩ := T.at_
  exact He.glo_ok X G (T.c.fact 2)
theorem Tx.g_split_words (T : Tx K mg) : mg "split_words" = some (.ref (He.ga K "split_words")) := by
  obtain ⟨h, X, G⟩ := T.at_
  exact He.glo_ok X G (T.c.fact 3)
theorem Tx.g_line_numbers (T : Tx K mg) : mg "line_numbers" = some (.ref (He.ga K "line_numbers")) := by
  obtain ⟨h, X, G⟩ := T.at_
  exact He.glo_ok X G (T.c.fact 4)
theorem Tx.g_write_journal (T : Tx K mg) : mg "write_journal" = some (.ref (He.ga K "write_journal")) := by
  obtain ⟨h, X, G⟩ := T.at_
  exact He.glo_ok X G (T.c.fact 5)
theorem Tx.g_read_first (T : Tx K mg) : mg "read_first" = some (.ref (He.ga K "read_first")) := by
  obtain ⟨h, X, G⟩ := T.at_
  exact He.glo_ok X G (T.c.fact 6)
theorem Tx.g_read_journal (T : Tx K mg) : mg "read_journal" = some (.ref (He.ga K "read_journal")) := by
  obtain ⟨h, X, G⟩ := T.at_
  exact He.glo_ok X G (T.c.fact 7)
theorem Tx.g_law_cell (T : Tx K mg) : mg "_law_cell" = some (.ref (He.ga K "_law_cell")) := by
  obtain ⟨h, X, G⟩ := T.at_
  exact He.glo_ok X G (T.c.fact 8)
theorem Tx.g_law_mixed (T : Tx K mg) : mg "_law_mixed" = some (.ref (He.ga K "_law_mixed")) := by
  obtain ⟨h, X, G⟩ := T.at_
  exact He.glo_ok X G (T.c.fact 9)
theorem Tx.g_law_draws (T : Tx K mg) : mg "_law_draws" = some (.ref (He.ga K "_law_draws")) := by
  obtain ⟨h, X, G⟩ := T.at_
  exact He.glo_ok X G (T.c.fact 10)
theorem Tx.g_law_is_integer (T : Tx K mg) : mg "_law_is_integer" = some (.ref (He.ga K "_law_is_integer")) := by
  obtain ⟨h, X, G⟩ := T.at_
  exact He.glo_ok X G (T.c.fact 11)
theorem Tx.g_law_same (T : Tx K mg) : mg "_law_same" = some (.ref (He.ga K "_law_same")) := by
  obtain ⟨h, X, G⟩ := T.at_
  exact He.glo_ok X G (T.c.fact 12)
theorem Tx.g_law_words (T : Tx K mg) : mg "_law_words" = some (.ref (He.ga K "_law_words")) := by
  obtain ⟨h, X, G⟩ := T.at_
  exact He.glo_ok X G (T.c.fact 13)
theorem Tx.g_law_replaced (T : Tx K mg) : mg "_law_replaced" = some (.ref (He.ga K "_law_replaced")) := by
  obtain ⟨h, X, G⟩ := T.at_
  exact He.glo_ok X G (T.c.fact 14)
theorem Tx.g_law_line (T : Tx K mg) : mg "_law_line" = some (.ref (He.ga K "_law_line")) := by
  obtain ⟨h, X, G⟩ := T.at_
  exact He.glo_ok X G (T.c.fact 15)
theorem Tx.g_law_bad_line (T : Tx K mg) : mg "_law_bad_line" = some (.ref (He.ga K "_law_bad_line")) := by
  obtain ⟨h, X, G⟩ := T.at_
  exact He.glo_ok X G (T.c.fact 16)
theorem Tx.g_law_done (T : Tx K mg) : mg "_law_done" = some (.ref (He.ga K "_law_done")) := by
  obtain ⟨h, X, G⟩ := T.at_
  exact He.glo_ok X G (T.c.fact 17)
theorem Tx.g_law_moved (T : Tx K mg) : mg "_law_moved" = some (.ref (He.ga K "_law_moved")) := by
  obtain ⟨h, X, G⟩ := T.at_
  exact He.glo_ok X G (T.c.fact 18)
theorem Tx.g_law_told (T : Tx K mg) : mg "_law_told" = some (.ref (He.ga K "_law_told")) := by
  obtain ⟨h, X, G⟩ := T.at_
  exact He.glo_ok X G (T.c.fact 19)
theorem Tx.g_law_alike (T : Tx K mg) : mg "_law_alike" = some (.ref (He.ga K "_law_alike")) := by
  obtain ⟨h, X, G⟩ := T.at_
  exact He.glo_ok X G (T.c.fact 20)
theorem Tx.g_law_brief (T : Tx K mg) : mg "_law_brief" = some (.ref (He.ga K "_law_brief")) := by
  obtain ⟨h, X, G⟩ := T.at_
  exact He.glo_ok X G (T.c.fact 21)
theorem Tx.g_law_lines (T : Tx K mg) : mg "_law_lines" = some (.ref (He.ga K "_law_lines")) := by
  obtain ⟨h, X, G⟩ := T.at_
  exact He.glo_ok X G (T.c.fact 22)
theorem Tx.g_law_setting (T : Tx K mg) : mg "_law_setting" = some (.ref (He.ga K "_law_setting")) := by
  obtain ⟨h, X, G⟩ := T.at_
  exact He.glo_ok X G (T.c.fact 23)
theorem Tx.g_law_moves_alike (T : Tx K mg) : mg "_law_moves_alike" = some (.ref (He.ga K "_law_moves_alike")) := by
  obtain ⟨h, X, G⟩ := T.at_
  exact He.glo_ok X G (T.c.fact 24)
theorem Tx.g_law_number (T : Tx K mg) : mg "_law_number" = some (.ref (He.ga K "_law_number")) := by
  obtain ⟨h, X, G⟩ := T.at_
  exact He.glo_ok X G (T.c.fact 25)
theorem Tx.g_law_opened (T : Tx K mg) : mg "_law_opened" = some (.ref (He.ga K "_law_opened")) := by
  obtain ⟨h, X, G⟩ := T.at_
  exact He.glo_ok X G (T.c.fact 26)
theorem Tx.g_law_led (T : Tx K mg) : mg "_law_led" = some (.ref (He.ga K "_law_led")) := by
  obtain ⟨h, X, G⟩ := T.at_
  exact He.glo_ok X G (T.c.fact 27)
theorem Tx.g_law_read (T : Tx K mg) : mg "_law_read" = some (.ref (He.ga K "_law_read")) := by
  obtain ⟨h, X, G⟩ := T.at_
  exact He.glo_ok X G (T.c.fact 28)
theorem Tx.g_law_first_line (T : Tx K mg) : mg "_law_first_line" = some (.ref (He.ga K "_law_first_line")) := by
  obtain ⟨h, X, G⟩ := T.at_
  exact He.glo_ok X G (T.c.fact 29)
theorem Tx.g_law_spoilt (T : Tx K mg) : mg "_law_spoilt" = some (.ref (He.ga K "_law_spoilt")) := by
  obtain ⟨h, X, G⟩ := T.at_
  exact He.glo_ok X G (T.c.fact 30)
theorem Tx.g_law_reads (T : Tx K mg) : mg "_law_reads" = some (.ref (He.ga K "_law_reads")) := by
  obtain ⟨h, X, G⟩ := T.at_
  exact He.glo_ok X G (T.c.fact 31)
theorem Tx.g_law (T : Tx K mg) : mg "law" = some (.ref (He.ga K "law")) := by
  obtain ⟨h, X, G⟩ := T.at_
  exact He.glo_ok X G (T.c.fact 32)
theorem Tx.g_Ledger (T : Tx K mg) : mg "Ledger" = some (.ref (He.ga K "Ledger")) := by
  obtain ⟨h, X, G⟩ := T.at_
  exact He.glo_ok X G (T.c.fact 33)
theorem Tx.g_Strand (T : Tx K mg) : mg "Strand" = some (.ref (He.ga K "Strand")) := by
  obtain ⟨h, X, G⟩ := T.at_
  exact He.glo_ok X G (T.c.fact 34)
theorem Tx.g_Tally (T : Tx K mg) : mg "Tally" = some (.ref (He.ga K "Tally")) := by
  obtain ⟨h, X, G⟩ := T.at_
  exact He.glo_ok X G (T.c.fact 35)
theorem Tx.g_Prices (T : Tx K mg) : mg "Prices" = some (.ref (He.ga K "Prices")) := by
  obtain ⟨h, X, G⟩ := T.at_
  exact He.glo_ok X G (T.c.fact 36)
theorem Tx.g_Row (T : Tx K mg) : mg "Row" = some (.ref (He.ga K "Row")) := by
  obtain ⟨h, X, G⟩ := T.at_
  exact He.glo_ok X G (T.c.fact 37)
theorem Tx.g_Desk (T : Tx K mg) : mg "Desk" = some (.ref (He.ga K "Desk")) := by
  obtain ⟨h, X, G⟩ := T.at_
  exact He.glo_ok X G (T.c.fact 38)
theorem Tx.g_MootError (T : Tx K mg) : mg "MootError" = some (.ref (He.ga K "MootError")) := by
  obtain ⟨h, X, G⟩ := T.at_
  exact He.glo_ok X G (T.c.fact 39)
theorem Tx.g_BadStrand (T : Tx K mg) : mg "BadStrand" = some (.ref (He.ga K "BadStrand")) := by
  obtain ⟨h, X, G⟩ := T.at_
  exact He.glo_ok X G (T.c.fact 40)
theorem Tx.g_BadKind (T : Tx K mg) : mg "BadKind" = some (.ref (He.ga K "BadKind")) := by
  obtain ⟨h, X, G⟩ := T.at_
  exact He.glo_ok X G (T.c.fact 41)
theorem Tx.g_BadPrice (T : Tx K mg) : mg "BadPrice" = some (.ref (He.ga K "BadPrice")) := by
  obtain ⟨h, X, G⟩ := T.at_
  exact He.glo_ok X G (T.c.fact 42)
theorem Tx.g_NoSuchBead (T : Tx K mg) : mg "NoSuchBead" = some (.ref (He.ga K "NoSuchBead")) := by
  obtain ⟨h, X, G⟩ := T.at_
  exact He.glo_ok X G (T.c.fact 43)
theorem Tx.g_GoneBead (T : Tx K mg) : mg "GoneBead" = some (.ref (He.ga K "GoneBead")) := by
  obtain ⟨h, X, G⟩ := T.at_
  exact He.glo_ok X G (T.c.fact 44)
theorem Tx.g_EndBead (T : Tx K mg) : mg "EndBead" = some (.ref (He.ga K "EndBead")) := by
  obtain ⟨h, X, G⟩ := T.at_
  exact He.glo_ok X G (T.c.fact 45)
theorem Tx.g_BadCoins (T : Tx K mg) : mg "BadCoins" = some (.ref (He.ga K "BadCoins")) := by
  obtain ⟨h, X, G⟩ := T.at_
  exact He.glo_ok X G (T.c.fact 46)
theorem Tx.g_NoCoins (T : Tx K mg) : mg "NoCoins" = some (.ref (He.ga K "NoCoins")) := by
  obtain ⟨h, X, G⟩ := T.at_
  exact He.glo_ok X G (T.c.fact 47)
theorem Tx.g_BadName (T : Tx K mg) : mg "BadName" = some (.ref (He.ga K "BadName")) := by
  obtain ⟨h, X, G⟩ := T.at_
  exact He.glo_ok X G (T.c.fact 48)
theorem Tx.g_NameTaken (T : Tx K mg) : mg "NameTaken" = some (.ref (He.ga K "NameTaken")) := by
  obtain ⟨h, X, G⟩ := T.at_
  exact He.glo_ok X G (T.c.fact 49)
theorem Tx.g_NoSuchRow (T : Tx K mg) : mg "NoSuchRow" = some (.ref (He.ga K "NoSuchRow")) := by
  obtain ⟨h, X, G⟩ := T.at_
  exact He.glo_ok X G (T.c.fact 50)
theorem Tx.g_BadJournal (T : Tx K mg) : mg "BadJournal" = some (.ref (He.ga K "BadJournal")) := by
  obtain ⟨h, X, G⟩ := T.at_
  exact He.glo_ok X G (T.c.fact 51)
theorem Tx.g_RowFull (T : Tx K mg) : mg "RowFull" = some (.ref (He.ga K "RowFull")) := by
  obtain ⟨h, X, G⟩ := T.at_
  exact He.glo_ok X G (T.c.fact 52)
theorem Tx.g_NothingToUndo (T : Tx K mg) : mg "NothingToUndo" = some (.ref (He.ga K "NothingToUndo")) := by
  obtain ⟨h, X, G⟩ := T.at_
  exact He.glo_ok X G (T.c.fact 53)
theorem Tx.g_NothingToRedo (T : Tx K mg) : mg "NothingToRedo" = some (.ref (He.ga K "NothingToRedo")) := by
  obtain ⟨h, X, G⟩ := T.at_
  exact He.glo_ok X G (T.c.fact 54)
theorem Tx.g_DeskFull (T : Tx K mg) : mg "DeskFull" = some (.ref (He.ga K "DeskFull")) := by
  obtain ⟨h, X, G⟩ := T.at_
  exact He.glo_ok X G (T.c.fact 55)
theorem Tx.g_BadLine (T : Tx K mg) : mg "BadLine" = some (.ref (He.ga K "BadLine")) := by
  obtain ⟨h, X, G⟩ := T.at_
  exact He.glo_ok X G (T.c.fact 56)
theorem Tx.g_MARKS (T : Tx K mg) : mg "MARKS" = some (.ref (He.ga K "MARKS")) := by
  obtain ⟨h, X, G⟩ := T.at_
  exact He.glo_ok X G (T.c.fact 57)
theorem Tx.f_len (T : Tx K mg) : mg "len" = none := by
  obtain ⟨h, X, G⟩ := T.at_
  exact He.free_ok X G (T.c.fact 58)
theorem Tx.f_range (T : Tx K mg) : mg "range" = none := by
  obtain ⟨h, X, G⟩ := T.at_
  exact He.free_ok X G (T.c.fact 59)
theorem Tx.f_tuple (T : Tx K mg) : mg "tuple" = none := by
  obtain ⟨h, X, G⟩ := T.at_
  exact He.free_ok X G (T.c.fact 60)
theorem Tx.f_list (T : Tx K mg) : mg "list" = none := by
  obtain ⟨h, X, G⟩ := T.at_
  exact He.free_ok X G (T.c.fact 61)
theorem Tx.f_int (T : Tx K mg) : mg "int" = none := by
  obtain ⟨h, X, G⟩ := T.at_
  exact He.free_ok X G (T.c.fact 62)
theorem Tx.f_set (T : Tx K mg) : mg "set" = none := by
  obtain ⟨h, X, G⟩ := T.at_
  exact He.free_ok X G (T.c.fact 63)
theorem Tx.f_sum (T : Tx K mg) : mg "sum" = none := by
  obtain ⟨h, X, G⟩ := T.at_
  exact He.free_ok X G (T.c.fact 64)
theorem Tx.f_sorted (T : Tx K mg) : mg "sorted" = none := by
  obtain ⟨h, X, G⟩ := T.at_
  exact He.free_ok X G (T.c.fact 65)
theorem Tx.f_str (T : Tx K mg) : mg "str" = none := by
  obtain ⟨h, X, G⟩ := T.at_
  exact He.free_ok X G (T.c.fact 66)
theorem Tx.f_zip (T : Tx K mg) : mg "zip" = none := by
  obtain ⟨h, X, G⟩ := T.at_
  exact He.free_ok X G (T.c.fact 67)
theorem Tx.f_all (T : Tx K mg) : mg "all" = none := by
  obtain ⟨h, X, G⟩ := T.at_
  exact He.free_ok X G (T.c.fact 68)
theorem Tx.f_isinstance (T : Tx K mg) : mg "isinstance" = none := by
  obtain ⟨h, X, G⟩ := T.at_
  exact He.free_ok X G (T.c.fact 69)
theorem Tx.f_super (T : Tx K mg) : mg "super" = none := by
  obtain ⟨h, X, G⟩ := T.at_
  exact He.free_ok X G (T.c.fact 70)
theorem Tx.f_ValueError (T : Tx K mg) : mg "ValueError" = none := by
  obtain ⟨h, X, G⟩ := T.at_
  exact He.free_ok X G (T.c.fact 71)
theorem Tx.f_bool (T : Tx K mg) : mg "bool" = none := by
  obtain ⟨h, X, G⟩ := T.at_
  exact He.free_ok X G (T.c.fact 72)
theorem Tx.i_MOST_COINS (T : Tx K mg) : ∃ t, mg "MOST_COINS" = some (.int 1000000000000 t) := by
  obtain ⟨h, X, G⟩ := T.at_
  exact He.int_ok X G (T.c.fact 73)
theorem Tx.i_MOST_PAID_IN (T : Tx K mg) : ∃ t, mg "MOST_PAID_IN" = some (.int 1000000000 t) := by
  obtain ⟨h, X, G⟩ := T.at_
  exact He.int_ok X G (T.c.fact 74)
theorem Tx.i_TOP_PRICE (T : Tx K mg) : ∃ t, mg "TOP_PRICE" = some (.int 1000000000 t) := by
  obtain ⟨h, X, G⟩ := T.at_
  exact He.int_ok X G (T.c.fact 75)
theorem Tx.i_MOST_ROWS (T : Tx K mg) : ∃ t, mg "MOST_ROWS" = some (.int 12 t) := by
  obtain ⟨h, X, G⟩ := T.at_
  exact He.int_ok X G (T.c.fact 76)
theorem Tx.i_MOST_PRICE (T : Tx K mg) : ∃ t, mg "MOST_PRICE" = some (.int 1000000000 t) := by
  obtain ⟨h, X, G⟩ := T.at_
  exact He.int_ok X G (T.c.fact 77)
theorem Tx.i_MOST_LETTERS (T : Tx K mg) : ∃ t, mg "MOST_LETTERS" = some (.int 12 t) := by
  obtain ⟨h, X, G⟩ := T.at_
  exact He.int_ok X G (T.c.fact 78)
theorem Tx.i_MOST_DIGITS (T : Tx K mg) : ∃ t, mg "MOST_DIGITS" = some (.int 13 t) := by
  obtain ⟨h, X, G⟩ := T.at_
  exact He.int_ok X G (T.c.fact 79)
theorem Tx.t_DIGITS (T : Tx K mg) : ∃ t, mg "DIGITS" = some (.str "0123456789" t) := by
  obtain ⟨h, X, G⟩ := T.at_
  exact He.str_ok X G (T.c.fact 80)
theorem Tx.t_LETTERS (T : Tx K mg) : ∃ t, mg "LETTERS" = some (.str "abcdefghijklmnopqrstuvwxyz" t) := by
  obtain ⟨h, X, G⟩ := T.at_
  exact He.str_ok X G (T.c.fact 81)
theorem Tx.u_MARKS (T : Tx K mg) : ∀ H : Hp, SqT K H (He.ga K "MARKS") (([.str "quiet", .str "odd", .str "edge", .str "strife"] : List V)) := fun H => He.tupB_ok (T.c.fact 82) H
theorem Tx.c_Ledger (T : Tx K mg) : Cls K (He.ga K "Ledger") := He.cls_ok (T.c.fact 83)
theorem Tx.k_Ledger (T : Tx K mg) : Mk K (He.ga K "Ledger") (He.ma K (He.ga K "Ledger") "__init__") := He.mkr_ok (T.c.fact 84)
theorem Tx.c_Strand (T : Tx K mg) : Cls K (He.ga K "Strand") := He.cls_ok (T.c.fact 85)
theorem Tx.k_Strand (T : Tx K mg) : Mk K (He.ga K "Strand") (He.ma K (He.ga K "Strand") "__init__") := He.mkr_ok (T.c.fact 86)
theorem Tx.c_Tally (T : Tx K mg) : Cls K (He.ga K "Tally") := He.cls_ok (T.c.fact 87)
theorem Tx.k_Tally (T : Tx K mg) : Mk K (He.ga K "Tally") (He.ma K (He.ga K "Tally") "__init__") := He.mkr_ok (T.c.fact 88)
theorem Tx.c_Prices (T : Tx K mg) : Cls K (He.ga K "Prices") := He.cls_ok (T.c.fact 89)
theorem Tx.k_Prices (T : Tx K mg) : Mk K (He.ga K "Prices") (He.ma K (He.ga K "Prices") "__init__") := He.mkr_ok (T.c.fact 90)
theorem Tx.c_Row (T : Tx K mg) : Cls K (He.ga K "Row") := He.cls_ok (T.c.fact 91)
theorem Tx.k_Row (T : Tx K mg) : Mk K (He.ga K "Row") (He.ma K (He.ga K "Row") "__init__") := He.mkr_ok (T.c.fact 92)
theorem Tx.c_Desk (T : Tx K mg) : Cls K (He.ga K "Desk") := He.cls_ok (T.c.fact 93)
theorem Tx.k_Desk (T : Tx K mg) : Mk K (He.ga K "Desk") (He.ma K (He.ga K "Desk") "__init__") := He.mkr_ok (T.c.fact 94)
theorem Tx.n_Ledger_coins (T : Tx K mg) : NoAttr K (He.ga K "Ledger") "_coins" := He.noat_ok (T.c.fact 95)
theorem Tx.n_Ledger_written (T : Tx K mg) : NoAttr K (He.ga K "Ledger") "_written" := He.noat_ok (T.c.fact 96)
theorem Tx.n_Strand_kinds (T : Tx K mg) : NoAttr K (He.ga K "Strand") "kinds" := He.noat_ok (T.c.fact 97)
theorem Tx.n_Strand_size (T : Tx K mg) : NoAttr K (He.ga K "Strand") "size" := He.noat_ok (T.c.fact 98)
theorem Tx.n_Strand_unlike_pairs (T : Tx K mg) : NoAttr K (He.ga K "Strand") "unlike_pairs" := He.noat_ok (T.c.fact 99)
theorem Tx.n_Strand_ends_unlike (T : Tx K mg) : NoAttr K (He.ga K "Strand") "ends_unlike" := He.noat_ok (T.c.fact 100)
theorem Tx.n_Strand_variety (T : Tx K mg) : NoAttr K (He.ga K "Strand") "variety" := He.noat_ok (T.c.fact 101)
theorem Tx.n_Tally_quiet (T : Tx K mg) : NoAttr K (He.ga K "Tally") "quiet" := He.noat_ok (T.c.fact 102)
theorem Tx.n_Tally_odd (T : Tx K mg) : NoAttr K (He.ga K "Tally") "odd" := He.noat_ok (T.c.fact 103)
theorem Tx.n_Tally_edge (T : Tx K mg) : NoAttr K (He.ga K "Tally") "edge" := He.noat_ok (T.c.fact 104)
theorem Tx.n_Tally_strife (T : Tx K mg) : NoAttr K (He.ga K "Tally") "strife" := He.noat_ok (T.c.fact 105)
theorem Tx.n_Tally_counts (T : Tx K mg) : NoAttr K (He.ga K "Tally") "counts" := He.noat_ok (T.c.fact 106)
theorem Tx.n_Prices_quiet (T : Tx K mg) : NoAttr K (He.ga K "Prices") "quiet" := He.noat_ok (T.c.fact 107)
theorem Tx.n_Prices_odd (T : Tx K mg) : NoAttr K (He.ga K "Prices") "odd" := He.noat_ok (T.c.fact 108)
theorem Tx.n_Prices_edge (T : Tx K mg) : NoAttr K (He.ga K "Prices") "edge" := He.noat_ok (T.c.fact 109)
theorem Tx.n_Prices_strife (T : Tx K mg) : NoAttr K (He.ga K "Prices") "strife" := He.noat_ok (T.c.fact 110)
theorem Tx.n_Row_kinds (T : Tx K mg) : NoAttr K (He.ga K "Row") "_kinds" := He.noat_ok (T.c.fact 111)
theorem Tx.n_Row_standing (T : Tx K mg) : NoAttr K (He.ga K "Row") "_standing" := He.noat_ok (T.c.fact 112)
theorem Tx.n_Row_taken (T : Tx K mg) : NoAttr K (He.ga K "Row") "_taken" := He.noat_ok (T.c.fact 113)
theorem Tx.n_Row_marks (T : Tx K mg) : NoAttr K (He.ga K "Row") "_marks" := He.noat_ok (T.c.fact 114)
theorem Tx.n_Row_meetings (T : Tx K mg) : NoAttr K (He.ga K "Row") "_meetings" := He.noat_ok (T.c.fact 115)
theorem Tx.n_Row_deeds (T : Tx K mg) : NoAttr K (He.ga K "Row") "_deeds" := He.noat_ok (T.c.fact 116)
theorem Tx.n_Desk_purse (T : Tx K mg) : NoAttr K (He.ga K "Desk") "_purse" := He.noat_ok (T.c.fact 117)
theorem Tx.n_Desk_prices (T : Tx K mg) : NoAttr K (He.ga K "Desk") "_prices" := He.noat_ok (T.c.fact 118)
theorem Tx.n_Desk_opening (T : Tx K mg) : NoAttr K (He.ga K "Desk") "_opening" := He.noat_ok (T.c.fact 119)
theorem Tx.n_Desk_rows (T : Tx K mg) : NoAttr K (He.ga K "Desk") "_rows" := He.noat_ok (T.c.fact 120)
theorem Tx.n_Desk_done (T : Tx K mg) : NoAttr K (He.ga K "Desk") "_done" := He.noat_ok (T.c.fact 121)
theorem Tx.n_Desk_undone (T : Tx K mg) : NoAttr K (He.ga K "Desk") "_undone" := He.noat_ok (T.c.fact 122)
theorem Tx.m_Ledger_balance (T : Tx K mg) : Meth K (He.ga K "Ledger") "balance" (He.ma K (He.ga K "Ledger") "balance") := He.meth_ok (T.c.fact 123)
theorem Tx.m_Ledger_pay (T : Tx K mg) : Meth K (He.ga K "Ledger") "pay" (He.ma K (He.ga K "Ledger") "pay") := He.meth_ok (T.c.fact 124)
theorem Tx.m_Ledger_pay_in (T : Tx K mg) : Meth K (He.ga K "Ledger") "pay_in" (He.ma K (He.ga K "Ledger") "pay_in") := He.meth_ok (T.c.fact 125)
theorem Tx.m_Ledger_take_back (T : Tx K mg) : Meth K (He.ga K "Ledger") "take_back" (He.ma K (He.ga K "Ledger") "take_back") := He.meth_ok (T.c.fact 126)
theorem Tx.m_Ledger_payments (T : Tx K mg) : Meth K (He.ga K "Ledger") "payments" (He.ma K (He.ga K "Ledger") "payments") := He.meth_ok (T.c.fact 127)
theorem Tx.m_Ledger_spent (T : Tx K mg) : Meth K (He.ga K "Ledger") "spent" (He.ma K (He.ga K "Ledger") "spent") := He.meth_ok (T.c.fact 128)
theorem Tx.m_Prices_call (T : Tx K mg) : Meth K (He.ga K "Prices") "__call__" (He.ma K (He.ga K "Prices") "__call__") := He.meth_ok (T.c.fact 129)
theorem Tx.m_Row_check_standing (T : Tx K mg) : Meth K (He.ga K "Row") "_check_standing" (He.ma K (He.ga K "Row") "_check_standing") := He.meth_ok (T.c.fact 130)
theorem Tx.m_Row_check_inner (T : Tx K mg) : Meth K (He.ga K "Row") "_check_inner" (He.ma K (He.ga K "Row") "_check_inner") := He.meth_ok (T.c.fact 131)
theorem Tx.m_Row_neighbours (T : Tx K mg) : Meth K (He.ga K "Row") "neighbours" (He.ma K (He.ga K "Row") "neighbours") := He.meth_ok (T.c.fact 132)
theorem Tx.m_Row_mark (T : Tx K mg) : Meth K (He.ga K "Row") "mark" (He.ma K (He.ga K "Row") "mark") := He.meth_ok (T.c.fact 133)
theorem Tx.m_Row_take_out (T : Tx K mg) : Meth K (He.ga K "Row") "_take_out" (He.ma K (He.ga K "Row") "_take_out") := He.meth_ok (T.c.fact 134)
theorem Tx.m_Row_take (T : Tx K mg) : Meth K (He.ga K "Row") "take" (He.ma K (He.ga K "Row") "take") := He.meth_ok (T.c.fact 135)
theorem Tx.m_Row_grow (T : Tx K mg) : Meth K (He.ga K "Row") "grow" (He.ma K (He.ga K "Row") "grow") := He.meth_ok (T.c.fact 136)
theorem Tx.m_Row_grown (T : Tx K mg) : Meth K (He.ga K "Row") "grown" (He.ma K (He.ga K "Row") "grown") := He.meth_ok (T.c.fact 137)
theorem Tx.m_Row_put_back (T : Tx K mg) : Meth K (He.ga K "Row") "_put_back" (He.ma K (He.ga K "Row") "_put_back") := He.meth_ok (T.c.fact 138)
theorem Tx.m_Row_undo (T : Tx K mg) : Meth K (He.ga K "Row") "undo" (He.ma K (He.ga K "Row") "undo") := He.meth_ok (T.c.fact 139)
theorem Tx.m_Row_twin (T : Tx K mg) : Meth K (He.ga K "Row") "twin" (He.ma K (He.ga K "Row") "twin") := He.meth_ok (T.c.fact 140)
theorem Tx.m_Row_meetings (T : Tx K mg) : Meth K (He.ga K "Row") "meetings" (He.ma K (He.ga K "Row") "meetings") := He.meth_ok (T.c.fact 141)
theorem Tx.m_Row_tally (T : Tx K mg) : Meth K (He.ga K "Row") "tally" (He.ma K (He.ga K "Row") "tally") := He.meth_ok (T.c.fact 142)
theorem Tx.m_Desk_opening (T : Tx K mg) : Meth K (He.ga K "Desk") "opening" (He.ma K (He.ga K "Desk") "opening") := He.meth_ok (T.c.fact 143)
theorem Tx.m_Desk_balance (T : Tx K mg) : Meth K (He.ga K "Desk") "balance" (He.ma K (He.ga K "Desk") "balance") := He.meth_ok (T.c.fact 144)
theorem Tx.m_Desk_names (T : Tx K mg) : Meth K (He.ga K "Desk") "names" (He.ma K (He.ga K "Desk") "names") := He.meth_ok (T.c.fact 145)
theorem Tx.m_Desk_laid (T : Tx K mg) : Meth K (He.ga K "Desk") "_laid" (He.ma K (He.ga K "Desk") "_laid") := He.meth_ok (T.c.fact 146)
theorem Tx.m_Desk_stand (T : Tx K mg) : Meth K (He.ga K "Desk") "_stand" (He.ma K (He.ga K "Desk") "_stand") := He.meth_ok (T.c.fact 147)
theorem Tx.m_Desk_lay (T : Tx K mg) : Meth K (He.ga K "Desk") "lay" (He.ma K (He.ga K "Desk") "lay") := He.meth_ok (T.c.fact 148)
theorem Tx.m_Desk_take (T : Tx K mg) : Meth K (He.ga K "Desk") "take" (He.ma K (He.ga K "Desk") "take") := He.meth_ok (T.c.fact 149)
theorem Tx.m_Desk_grow (T : Tx K mg) : Meth K (He.ga K "Desk") "grow" (He.ma K (He.ga K "Desk") "grow") := He.meth_ok (T.c.fact 150)
theorem Tx.m_Desk_pay_in (T : Tx K mg) : Meth K (He.ga K "Desk") "pay_in" (He.ma K (He.ga K "Desk") "pay_in") := He.meth_ok (T.c.fact 151)
theorem Tx.m_Desk_do (T : Tx K mg) : Meth K (He.ga K "Desk") "do" (He.ma K (He.ga K "Desk") "do") := He.meth_ok (T.c.fact 152)
theorem Tx.m_Desk_undo (T : Tx K mg) : Meth K (He.ga K "Desk") "undo" (He.ma K (He.ga K "Desk") "undo") := He.meth_ok (T.c.fact 153)
theorem Tx.m_Desk_redo (T : Tx K mg) : Meth K (He.ga K "Desk") "redo" (He.ma K (He.ga K "Desk") "redo") := He.meth_ok (T.c.fact 154)
theorem Tx.m_Desk_deeds (T : Tx K mg) : Meth K (He.ga K "Desk") "deeds" (He.ma K (He.ga K "Desk") "deeds") := He.meth_ok (T.c.fact 155)
theorem Tx.m_Desk_row (T : Tx K mg) : Meth K (He.ga K "Desk") "row" (He.ma K (He.ga K "Desk") "row") := He.meth_ok (T.c.fact 156)
theorem Tx.m_Desk_ledger (T : Tx K mg) : Meth K (He.ga K "Desk") "ledger" (He.ma K (He.ga K "Desk") "ledger") := He.meth_ok (T.c.fact 157)
theorem Tx.m_Desk_spent (T : Tx K mg) : Meth K (He.ga K "Desk") "spent" (He.ma K (He.ga K "Desk") "spent") := He.meth_ok (T.c.fact 158)
theorem Tx.p_Row_standing (T : Tx K mg) : PropOf K (He.ga K "Row") "standing" (He.ma K (He.ga K "Row") "standing") (wfn K "Row" "standing" "property") := propB_ok (T.c.fact 159)
theorem Tx.p_Row_taken (T : Tx K mg) : PropOf K (He.ga K "Row") "taken" (He.ma K (He.ga K "Row") "taken") (wfn K "Row" "taken" "property") := propB_ok (T.c.fact 160)
theorem Tx.s_is_name (T : Tx K mg) : StatM K (He.ga K "Desk") "is_name" (He.ma K (He.ga K "Desk") "is_name") (wfn K "Desk" "is_name" "staticmethod") := statB_ok (T.c.fact 161)
theorem Tx.v_MOST (T : Tx K mg) : ClX.CRead K (He.ga K "Strand") (.type "type") ∧ ∃ u, ClX.CVal K (He.ga K "Strand") (.type "type") "MOST" (.int 24) u := cvalB_ok (T.c.fact 162)
theorem Tx.v_TOP_KIND (T : Tx K mg) : ClX.CRead K (He.ga K "Strand") (.type "type") ∧ ∃ u, ClX.CVal K (He.ga K "Strand") (.type "type") "TOP_KIND" (.int 999) u := cvalB_ok (T.c.fact 163)
theorem Tx.o_Prices (T : Tx K mg) : StX.CallO K (He.ga K "Prices") (He.ma K (He.ga K "Prices") "__call__") := callB_ok (T.c.fact 164)
theorem Tx.x_RowFull (T : Tx K mg) : PySem.W.excIn K (He.ga K "RowFull") He.veBase "ValueError.__new__" = true ∧ PySem.W.keepIn K (.ref (He.ga K "RowFull")) = true ∧ PySem.W.subIn K (.ref (He.ga K "RowFull")) (.type "BaseException") = some true ∧ PySem.W.typeIn K (.ref (He.ga K "RowFull")) = some (.type "type") := He.exc_ok (T.c.fact 165)
theorem Tx.x_NothingToUndo (T : Tx K mg) : PySem.W.excIn K (He.ga K "NothingToUndo") He.veBase "ValueError.__new__" = true ∧ PySem.W.keepIn K (.ref (He.ga K "NothingToUndo")) = true ∧ PySem.W.subIn K (.ref (He.ga K "NothingToUndo")) (.type "BaseException") = some true ∧ PySem.W.typeIn K (.ref (He.ga K "NothingToUndo")) = some (.type "type") := He.exc_ok (T.c.fact 166)
theorem Tx.x_NothingToRedo (T : Tx K mg) : PySem.W.excIn K (He.ga K "NothingToRedo") He.veBase "ValueError.__new__" = true ∧ PySem.W.keepIn K (.ref (He.ga K "NothingToRedo")) = true ∧ PySem.W.subIn K (.ref (He.ga K "NothingToRedo")) (.type "BaseException") = some true ∧ PySem.W.typeIn K (.ref (He.ga K "NothingToRedo")) = some (.type "type") := He.exc_ok (T.c.fact 167)
theorem Tx.x_DeskFull (T : Tx K mg) : PySem.W.excIn K (He.ga K "DeskFull") He.veBase "ValueError.__new__" = true ∧ PySem.W.keepIn K (.ref (He.ga K "DeskFull")) = true ∧ PySem.W.subIn K (.ref (He.ga K "DeskFull")) (.type "BaseException") = some true ∧ PySem.W.typeIn K (.ref (He.ga K "DeskFull")) = some (.type "type") := He.exc_ok (T.c.fact 168)
theorem Tx.x_BadLine (T : Tx K mg) : PySem.W.excIn K (He.ga K "BadLine") He.veBase "ValueError.__new__" = true ∧ PySem.W.keepIn K (.ref (He.ga K "BadLine")) = true ∧ PySem.W.subIn K (.ref (He.ga K "BadLine")) (.type "BaseException") = some true ∧ PySem.W.typeIn K (.ref (He.ga K "BadLine")) = some (.type "type") := He.exc_ok (T.c.fact 169)
theorem Tx.oS_BadStrand (T : Tx K mg) : OexC K (He.ga K "BadStrand") := oexB_ok (T.c.fact 170) (T.c.fact 171)
theorem Tx.su_BadStrand (T : Tx K mg) : supB "BadStrand" "BadStrand.__init__" K = true := (T.c.fact 172)
theorem Tx.oS_BadKind (T : Tx K mg) : OexC K (He.ga K "BadKind") := oexB_ok (T.c.fact 173) (T.c.fact 174)
theorem Tx.su_BadKind (T : Tx K mg) : supB "BadKind" "BadKind.__init__" K = true := (T.c.fact 175)
theorem Tx.oS_BadPrice (T : Tx K mg) : OexC K (He.ga K "BadPrice") := oexB_ok (T.c.fact 176) (T.c.fact 177)
theorem Tx.su_BadPrice (T : Tx K mg) : supB "BadPrice" "BadPrice.__init__" K = true := (T.c.fact 178)
theorem Tx.oS_NoSuchBead (T : Tx K mg) : OexC K (He.ga K "NoSuchBead") := oexB_ok (T.c.fact 179) (T.c.fact 180)
theorem Tx.su_NoSuchBead (T : Tx K mg) : supB "NoSuchBead" "NoSuchBead.__init__" K = true := (T.c.fact 181)
theorem Tx.oS_GoneBead (T : Tx K mg) : OexC K (He.ga K "GoneBead") := oexB_ok (T.c.fact 182) (T.c.fact 183)
theorem Tx.su_GoneBead (T : Tx K mg) : supB "GoneBead" "GoneBead.__init__" K = true := (T.c.fact 184)
theorem Tx.oS_EndBead (T : Tx K mg) : OexC K (He.ga K "EndBead") := oexB_ok (T.c.fact 185) (T.c.fact 186)
theorem Tx.su_EndBead (T : Tx K mg) : supB "EndBead" "EndBead.__init__" K = true := (T.c.fact 187)
theorem Tx.oS_BadCoins (T : Tx K mg) : OexC K (He.ga K "BadCoins") := oexB_ok (T.c.fact 188) (T.c.fact 189)
theorem Tx.su_BadCoins (T : Tx K mg) : supB "BadCoins" "BadCoins.__init__" K = true := (T.c.fact 190)
theorem Tx.oS_NoCoins (T : Tx K mg) : OexC K (He.ga K "NoCoins") := oexB_ok (T.c.fact 191) (T.c.fact 192)
theorem Tx.su_NoCoins (T : Tx K mg) : supB "NoCoins" "NoCoins.__init__" K = true := (T.c.fact 193)
theorem Tx.oS_BadName (T : Tx K mg) : OexC K (He.ga K "BadName") := oexB_ok (T.c.fact 194) (T.c.fact 195)
theorem Tx.su_BadName (T : Tx K mg) : supB "BadName" "BadName.__init__" K = true := (T.c.fact 196)
theorem Tx.oS_NameTaken (T : Tx K mg) : OexC K (He.ga K "NameTaken") := oexB_ok (T.c.fact 197) (T.c.fact 198)
theorem Tx.su_NameTaken (T : Tx K mg) : supB "NameTaken" "NameTaken.__init__" K = true := (T.c.fact 199)
theorem Tx.oS_NoSuchRow (T : Tx K mg) : OexC K (He.ga K "NoSuchRow") := oexB_ok (T.c.fact 200) (T.c.fact 201)
theorem Tx.su_NoSuchRow (T : Tx K mg) : supB "NoSuchRow" "NoSuchRow.__init__" K = true := (T.c.fact 202)
theorem Tx.oS_BadJournal (T : Tx K mg) : OexC K (He.ga K "BadJournal") := oexB_ok (T.c.fact 203) (T.c.fact 204)
theorem Tx.su_BadJournal (T : Tx K mg) : supB "BadJournal" "BadJournal.__init__" K = true := (T.c.fact 205)
theorem Tx.n_BadStrand_at (T : Tx K mg) : PySem.W.findIn K (.ref (He.ga K "BadStrand")) "at" = some none := He.noat_ok (T.c.fact 206)
theorem Tx.n_BadKind_kind (T : Tx K mg) : PySem.W.findIn K (.ref (He.ga K "BadKind")) "kind" = some none := He.noat_ok (T.c.fact 207)
theorem Tx.n_BadPrice_word (T : Tx K mg) : PySem.W.findIn K (.ref (He.ga K "BadPrice")) "word" = some none := He.noat_ok (T.c.fact 208)
theorem Tx.n_NoSuchBead_bead (T : Tx K mg) : PySem.W.findIn K (.ref (He.ga K "NoSuchBead")) "bead" = some none := He.noat_ok (T.c.fact 209)
theorem Tx.n_GoneBead_bead (T : Tx K mg) : PySem.W.findIn K (.ref (He.ga K "GoneBead")) "bead" = some none := He.noat_ok (T.c.fact 210)
theorem Tx.n_EndBead_bead (T : Tx K mg) : PySem.W.findIn K (.ref (He.ga K "EndBead")) "bead" = some none := He.noat_ok (T.c.fact 211)
theorem Tx.n_BadCoins_coins (T : Tx K mg) : PySem.W.findIn K (.ref (He.ga K "BadCoins")) "coins" = some none := He.noat_ok (T.c.fact 212)
theorem Tx.n_NoCoins_price (T : Tx K mg) : PySem.W.findIn K (.ref (He.ga K "NoCoins")) "price" = some none := He.noat_ok (T.c.fact 213)
theorem Tx.n_NoCoins_coins (T : Tx K mg) : PySem.W.findIn K (.ref (He.ga K "NoCoins")) "coins" = some none := He.noat_ok (T.c.fact 214)
theorem Tx.n_BadName_name (T : Tx K mg) : PySem.W.findIn K (.ref (He.ga K "BadName")) "name" = some none := He.noat_ok (T.c.fact 215)
theorem Tx.n_NameTaken_name (T : Tx K mg) : PySem.W.findIn K (.ref (He.ga K "NameTaken")) "name" = some none := He.noat_ok (T.c.fact 216)
theorem Tx.n_NoSuchRow_name (T : Tx K mg) : PySem.W.findIn K (.ref (He.ga K "NoSuchRow")) "name" = some none := He.noat_ok (T.c.fact 217)
theorem Tx.n_BadJournal_line (T : Tx K mg) : PySem.W.findIn K (.ref (He.ga K "BadJournal")) "line" = some none := He.noat_ok (T.c.fact 218)
theorem Tx.e_BadStrand (T : Tx K mg) : PySem.W.exmOne K (.ref (He.ga K "BadStrand")) (.ref (He.ga K "MootError")) = some true := He.exm_ok (T.c.fact 219)
theorem Tx.e_BadKind (T : Tx K mg) : PySem.W.exmOne K (.ref (He.ga K "BadKind")) (.ref (He.ga K "MootError")) = some true := He.exm_ok (T.c.fact 220)
theorem Tx.e_BadPrice (T : Tx K mg) : PySem.W.exmOne K (.ref (He.ga K "BadPrice")) (.ref (He.ga K "MootError")) = some true := He.exm_ok (T.c.fact 221)
theorem Tx.e_NoSuchBead (T : Tx K mg) : PySem.W.exmOne K (.ref (He.ga K "NoSuchBead")) (.ref (He.ga K "MootError")) = some true := He.exm_ok (T.c.fact 222)
theorem Tx.e_GoneBead (T : Tx K mg) : PySem.W.exmOne K (.ref (He.ga K "GoneBead")) (.ref (He.ga K "MootError")) = some true := He.exm_ok (T.c.fact 223)
theorem Tx.e_EndBead (T : Tx K mg) : PySem.W.exmOne K (.ref (He.ga K "EndBead")) (.ref (He.ga K "MootError")) = some true := He.exm_ok (T.c.fact 224)
theorem Tx.e_BadCoins (T : Tx K mg) : PySem.W.exmOne K (.ref (He.ga K "BadCoins")) (.ref (He.ga K "MootError")) = some true := He.exm_ok (T.c.fact 225)
theorem Tx.e_NoCoins (T : Tx K mg) : PySem.W.exmOne K (.ref (He.ga K "NoCoins")) (.ref (He.ga K "MootError")) = some true := He.exm_ok (T.c.fact 226)
theorem Tx.e_BadName (T : Tx K mg) : PySem.W.exmOne K (.ref (He.ga K "BadName")) (.ref (He.ga K "MootError")) = some true := He.exm_ok (T.c.fact 227)
theorem Tx.e_NameTaken (T : Tx K mg) : PySem.W.exmOne K (.ref (He.ga K "NameTaken")) (.ref (He.ga K "MootError")) = some true := He.exm_ok (T.c.fact 228)
theorem Tx.e_NoSuchRow (T : Tx K mg) : PySem.W.exmOne K (.ref (He.ga K "NoSuchRow")) (.ref (He.ga K "MootError")) = some true := He.exm_ok (T.c.fact 229)
theorem Tx.e_BadJournal (T : Tx K mg) : PySem.W.exmOne K (.ref (He.ga K "BadJournal")) (.ref (He.ga K "MootError")) = some true := He.exm_ok (T.c.fact 230)
theorem Tx.e_RowFull (T : Tx K mg) : PySem.W.exmOne K (.ref (He.ga K "RowFull")) (.ref (He.ga K "MootError")) = some true := He.exm_ok (T.c.fact 231)
theorem Tx.e_NothingToUndo (T : Tx K mg) : PySem.W.exmOne K (.ref (He.ga K "NothingToUndo")) (.ref (He.ga K "MootError")) = some true := He.exm_ok (T.c.fact 232)
theorem Tx.e_NothingToRedo (T : Tx K mg) : PySem.W.exmOne K (.ref (He.ga K "NothingToRedo")) (.ref (He.ga K "MootError")) = some true := He.exm_ok (T.c.fact 233)
theorem Tx.e_DeskFull (T : Tx K mg) : PySem.W.exmOne K (.ref (He.ga K "DeskFull")) (.ref (He.ga K "MootError")) = some true := He.exm_ok (T.c.fact 234)
theorem Tx.e_BadLine (T : Tx K mg) : PySem.W.exmOne K (.ref (He.ga K "BadLine")) (.ref (He.ga K "MootError")) = some true := He.exm_ok (T.c.fact 235)
theorem Tx.e2_undo (T : Tx K mg) : PySem.W.exmOne K (.ref (He.ga K "NothingToUndo")) (.ref (He.ga K "NothingToUndo")) = some true := He.exm_ok (T.c.fact 236)
theorem Tx.e2_redo (T : Tx K mg) : PySem.W.exmOne K (.ref (He.ga K "NothingToRedo")) (.ref (He.ga K "NothingToRedo")) = some true := He.exm_ok (T.c.fact 237)
theorem Tx.e2_redoU (T : Tx K mg) : PySem.W.exmOne K (.ref (He.ga K "NothingToRedo")) (.ref (He.ga K "NothingToUndo")) = some false := He.exm_ok (T.c.fact 238)
theorem Tx.e2_jour (T : Tx K mg) : PySem.W.exmOne K (.ref (He.ga K "BadJournal")) (.ref (He.ga K "BadJournal")) = some true := He.exm_ok (T.c.fact 239)
theorem Tx.third (T : Tx K mg) : PySem.W.nsIn K cStatics "thirdparty.any" = some none := He.eqO_ok (T.c.fact 240)
theorem Tx.ec_BadJournal (T : Tx K mg) : ExcC K (He.ga K "BadJournal") := excCB_ok (T.c.fact 241)
theorem Tx.kit_L (T : Tx K mg) : PySem.W.kitOne K (.ref (He.ga K "BadJournal")) (.ref (He.ga K "BadLine")) = some false := of_decide_eq_true (T.c.fact 242)
theorem Tx.kit_M (T : Tx K mg) : PySem.W.kitOne K (.ref (He.ga K "BadJournal")) (.ref (He.ga K "MootError")) = some true := of_decide_eq_true (T.c.fact 243)
theorem Tx.kit_V (T : Tx K mg) : PySem.W.kitOne K (.ref (He.ga K "BadJournal")) (.type "ValueError") = some true := of_decide_eq_true (T.c.fact 244)
theorem Tx.d_BadStrand_init (T : Tx K mg) : xBadStrand_init.ok K = true ∧ fnX K xBadStrand_init.at_ = xBadStrand_init.val := T.c.dok 0
theorem Tx.d_BadKind_init (T : Tx K mg) : xBadKind_init.ok K = true ∧ fnX K xBadKind_init.at_ = xBadKind_init.val := T.c.dok 1
theorem Tx.d_BadPrice_init (T : Tx K mg) : xBadPrice_init.ok K = true ∧ fnX K xBadPrice_init.at_ = xBadPrice_init.val := T.c.dok 2
theorem Tx.d_NoSuchBead_init (T : Tx K mg) : xNoSuchBead_init.ok K = true ∧ fnX K xNoSuchBead_init.at_ = xNoSuchBead_init.val := T.c.dok 3
theorem Tx.d_GoneBead_init (T : Tx K mg) : xGoneBead_init.ok K = true ∧ fnX K xGoneBead_init.at_ = xGoneBead_init.val := T.c.dok 4
theorem Tx.d_EndBead_init (T : Tx K mg) : xEndBead_init.ok K = true ∧ fnX K xEndBead_init.at_ = xEndBead_init.val := T.c.dok 5
theorem Tx.d_BadCoins_init (T : Tx K mg) : xBadCoins_init.ok K = true ∧ fnX K xBadCoins_init.at_ = xBadCoins_init.val := T.c.dok 6
theorem Tx.d_NoCoins_init (T : Tx K mg) : xNoCoins_init.ok K = true ∧ fnX K xNoCoins_init.at_ = xNoCoins_init.val := T.c.dok 7
theorem Tx.d_BadName_init (T : Tx K mg) : xBadName_init.ok K = true ∧ fnX K xBadName_init.at_ = xBadName_init.val := T.c.dok 8
theorem Tx.d_NameTaken_init (T : Tx K mg) : xNameTaken_init.ok K = true ∧ fnX K xNameTaken_init.at_ = xNameTaken_init.val := T.c.dok 9
theorem Tx.d_NoSuchRow_init (T : Tx K mg) : xNoSuchRow_init.ok K = true ∧ fnX K xNoSuchRow_init.at_ = xNoSuchRow_init.val := T.c.dok 10
theorem Tx.d_BadJournal_init (T : Tx K mg) : xBadJournal_init.ok K = true ∧ fnX K xBadJournal_init.at_ = xBadJournal_init.val := T.c.dok 11
theorem Tx.d_Ledger_init (T : Tx K mg) : FunD K xLedger_init.name xLedger_init.qual xLedger_init.params xLedger_init.body xLedger_init.scope (xLedger_init.dvs K) (xLedger_init.kws K) (xLedger_init.at_.ad K) (fdOf K (xLedger_init.at_.ad K)) := T.c.def_ 12
theorem Tx.d_Ledger_balance (T : Tx K mg) : FunD K xLedger_balance.name xLedger_balance.qual xLedger_balance.params xLedger_balance.body xLedger_balance.scope (xLedger_balance.dvs K) (xLedger_balance.kws K) (xLedger_balance.at_.ad K) (fdOf K (xLedger_balance.at_.ad K)) := T.c.def_ 13
theorem Tx.d_Ledger_pay (T : Tx K mg) : FunD K xLedger_pay.name xLedger_pay.qual xLedger_pay.params xLedger_pay.body xLedger_pay.scope (xLedger_pay.dvs K) (xLedger_pay.kws K) (xLedger_pay.at_.ad K) (fdOf K (xLedger_pay.at_.ad K)) := T.c.def_ 14
theorem Tx.d_Ledger_pay_in (T : Tx K mg) : FunD K xLedger_pay_in.name xLedger_pay_in.qual xLedger_pay_in.params xLedger_pay_in.body xLedger_pay_in.scope (xLedger_pay_in.dvs K) (xLedger_pay_in.kws K) (xLedger_pay_in.at_.ad K) (fdOf K (xLedger_pay_in.at_.ad K)) := T.c.def_ 15
theorem Tx.d_Ledger_take_back (T : Tx K mg) : FunD K xLedger_take_back.name xLedger_take_back.qual xLedger_take_back.params xLedger_take_back.body xLedger_take_back.scope (xLedger_take_back.dvs K) (xLedger_take_back.kws K) (xLedger_take_back.at_.ad K) (fdOf K (xLedger_take_back.at_.ad K)) := T.c.def_ 16
theorem Tx.d_Ledger_payments (T : Tx K mg) : FunD K xLedger_payments.name xLedger_payments.qual xLedger_payments.params xLedger_payments.body xLedger_payments.scope (xLedger_payments.dvs K) (xLedger_payments.kws K) (xLedger_payments.at_.ad K) (fdOf K (xLedger_payments.at_.ad K)) := T.c.def_ 17
theorem Tx.d_Ledger_spent (T : Tx K mg) : FunD K xLedger_spent.name xLedger_spent.qual xLedger_spent.params xLedger_spent.body xLedger_spent.scope (xLedger_spent.dvs K) (xLedger_spent.kws K) (xLedger_spent.at_.ad K) (fdOf K (xLedger_spent.at_.ad K)) := T.c.def_ 18
theorem Tx.d_Strand_init (T : Tx K mg) : FunD K xStrand_init.name xStrand_init.qual xStrand_init.params xStrand_init.body xStrand_init.scope (xStrand_init.dvs K) (xStrand_init.kws K) (xStrand_init.at_.ad K) (fdOf K (xStrand_init.at_.ad K)) := T.c.def_ 19
theorem Tx.d_mark_of (T : Tx K mg) : FunD K xmark_of.name xmark_of.qual xmark_of.params xmark_of.body xmark_of.scope (xmark_of.dvs K) (xmark_of.kws K) (xmark_of.at_.ad K) (fdOf K (xmark_of.at_.ad K)) := T.c.def_ 20
theorem Tx.d_Tally_init (T : Tx K mg) : FunD K xTally_init.name xTally_init.qual xTally_init.params xTally_init.body xTally_init.scope (xTally_init.dvs K) (xTally_init.kws K) (xTally_init.at_.ad K) (fdOf K (xTally_init.at_.ad K)) := T.c.def_ 21
theorem Tx.d_count_marks (T : Tx K mg) : FunD K xcount_marks.name xcount_marks.qual xcount_marks.params xcount_marks.body xcount_marks.scope (xcount_marks.dvs K) (xcount_marks.kws K) (xcount_marks.at_.ad K) (fdOf K (xcount_marks.at_.ad K)) := T.c.def_ 22
theorem Tx.d_Prices_init (T : Tx K mg) : FunD K xPrices_init.name xPrices_init.qual xPrices_init.params xPrices_init.body xPrices_init.scope (xPrices_init.dvs K) (xPrices_init.kws K) (xPrices_init.at_.ad K) (fdOf K (xPrices_init.at_.ad K)) := T.c.def_ 23
theorem Tx.d_Prices_call (T : Tx K mg) : FunD K xPrices_call.name xPrices_call.qual xPrices_call.params xPrices_call.body xPrices_call.scope (xPrices_call.dvs K) (xPrices_call.kws K) (xPrices_call.at_.ad K) (fdOf K (xPrices_call.at_.ad K)) := T.c.def_ 24
theorem Tx.d_Row_init (T : Tx K mg) : FunD K xRow_init.name xRow_init.qual xRow_init.params xRow_init.body xRow_init.scope (xRow_init.dvs K) (xRow_init.kws K) (xRow_init.at_.ad K) (fdOf K (xRow_init.at_.ad K)) := T.c.def_ 25
theorem Tx.d_Row_standing (T : Tx K mg) : FunD K xRow_standing.name xRow_standing.qual xRow_standing.params xRow_standing.body xRow_standing.scope (xRow_standing.dvs K) (xRow_standing.kws K) (xRow_standing.at_.ad K) (fdOf K (xRow_standing.at_.ad K)) := T.c.def_ 26
theorem Tx.d_Row_taken (T : Tx K mg) : FunD K xRow_taken.name xRow_taken.qual xRow_taken.params xRow_taken.body xRow_taken.scope (xRow_taken.dvs K) (xRow_taken.kws K) (xRow_taken.at_.ad K) (fdOf K (xRow_taken.at_.ad K)) := T.c.def_ 27
theorem Tx.d_Row_check_standing (T : Tx K mg) : FunD K xRow_check_standing.name xRow_check_standing.qual xRow_check_standing.params xRow_check_standing.body xRow_check_standing.scope (xRow_check_standing.dvs K) (xRow_check_standing.kws K) (xRow_check_standing.at_.ad K) (fdOf K (xRow_check_standing.at_.ad K)) := T.c.def_ 28
theorem Tx.d_Row_check_inner (T : Tx K mg) : FunD K xRow_check_inner.name xRow_check_inner.qual xRow_check_inner.params xRow_check_inner.body xRow_check_inner.scope (xRow_check_inner.dvs K) (xRow_check_inner.kws K) (xRow_check_inner.at_.ad K) (fdOf K (xRow_check_inner.at_.ad K)) := T.c.def_ 29
theorem Tx.d_Row_neighbours (T : Tx K mg) : FunD K xRow_neighbours.name xRow_neighbours.qual xRow_neighbours.params xRow_neighbours.body xRow_neighbours.scope (xRow_neighbours.dvs K) (xRow_neighbours.kws K) (xRow_neighbours.at_.ad K) (fdOf K (xRow_neighbours.at_.ad K)) := T.c.def_ 30
theorem Tx.d_Row_mark (T : Tx K mg) : FunD K xRow_mark.name xRow_mark.qual xRow_mark.params xRow_mark.body xRow_mark.scope (xRow_mark.dvs K) (xRow_mark.kws K) (xRow_mark.at_.ad K) (fdOf K (xRow_mark.at_.ad K)) := T.c.def_ 31
theorem Tx.d_Row_take_out (T : Tx K mg) : FunD K xRow_take_out.name xRow_take_out.qual xRow_take_out.params xRow_take_out.body xRow_take_out.scope (xRow_take_out.dvs K) (xRow_take_out.kws K) (xRow_take_out.at_.ad K) (fdOf K (xRow_take_out.at_.ad K)) := T.c.def_ 32
theorem Tx.d_Row_take (T : Tx K mg) : FunD K xRow_take.name xRow_take.qual xRow_take.params xRow_take.body xRow_take.scope (xRow_take.dvs K) (xRow_take.kws K) (xRow_take.at_.ad K) (fdOf K (xRow_take.at_.ad K)) := T.c.def_ 33
theorem Tx.d_Row_grow (T : Tx K mg) : FunD K xRow_grow.name xRow_grow.qual xRow_grow.params xRow_grow.body xRow_grow.scope (xRow_grow.dvs K) (xRow_grow.kws K) (xRow_grow.at_.ad K) (fdOf K (xRow_grow.at_.ad K)) := T.c.def_ 34
theorem Tx.d_Row_grown (T : Tx K mg) : FunD K xRow_grown.name xRow_grown.qual xRow_grown.params xRow_grown.body xRow_grown.scope (xRow_grown.dvs K) (xRow_grown.kws K) (xRow_grown.at_.ad K) (fdOf K (xRow_grown.at_.ad K)) := T.c.def_ 35
theorem Tx.d_Row_put_back (T : Tx K mg) : FunD K xRow_put_back.name xRow_put_back.qual xRow_put_back.params xRow_put_back.body xRow_put_back.scope (xRow_put_back.dvs K) (xRow_put_back.kws K) (xRow_put_back.at_.ad K) (fdOf K (xRow_put_back.at_.ad K)) := T.c.def_ 36
theorem Tx.d_Row_undo (T : Tx K mg) : FunD K xRow_undo.name xRow_undo.qual xRow_undo.params xRow_undo.body xRow_undo.scope (xRow_undo.dvs K) (xRow_undo.kws K) (xRow_undo.at_.ad K) (fdOf K (xRow_undo.at_.ad K)) := T.c.def_ 37
theorem Tx.d_Row_twin (T : Tx K mg) : FunD K xRow_twin.name xRow_twin.qual xRow_twin.params xRow_twin.body xRow_twin.scope (xRow_twin.dvs K) (xRow_twin.kws K) (xRow_twin.at_.ad K) (fdOf K (xRow_twin.at_.ad K)) := T.c.def_ 38
theorem Tx.d_Row_meetings (T : Tx K mg) : FunD K xRow_meetings.name xRow_meetings.qual xRow_meetings.params xRow_meetings.body xRow_meetings.scope (xRow_meetings.dvs K) (xRow_meetings.kws K) (xRow_meetings.at_.ad K) (fdOf K (xRow_meetings.at_.ad K)) := T.c.def_ 39
theorem Tx.d_Row_tally (T : Tx K mg) : FunD K xRow_tally.name xRow_tally.qual xRow_tally.params xRow_tally.body xRow_tally.scope (xRow_tally.dvs K) (xRow_tally.kws K) (xRow_tally.at_.ad K) (fdOf K (xRow_tally.at_.ad K)) := T.c.def_ 40
theorem Tx.d_read_number (T : Tx K mg) : FunD K xread_number.name xread_number.qual xread_number.params xread_number.body xread_number.scope (xread_number.dvs K) (xread_number.kws K) (xread_number.at_.ad K) (fdOf K (xread_number.at_.ad K)) := T.c.def_ 41
theorem Tx.d_split_words (T : Tx K mg) : FunD K xsplit_words.name xsplit_words.qual xsplit_words.params xsplit_words.body xsplit_words.scope (xsplit_words.dvs K) (xsplit_words.kws K) (xsplit_words.at_.ad K) (fdOf K (xsplit_words.at_.ad K)) := T.c.def_ 42
theorem Tx.d_line_numbers (T : Tx K mg) : FunD K xline_numbers.name xline_numbers.qual xline_numbers.params xline_numbers.body xline_numbers.scope (xline_numbers.dvs K) (xline_numbers.kws K) (xline_numbers.at_.ad K) (fdOf K (xline_numbers.at_.ad K)) := T.c.def_ 43
theorem Tx.d_Desk_init (T : Tx K mg) : FunD K xDesk_init.name xDesk_init.qual xDesk_init.params xDesk_init.body xDesk_init.scope (xDesk_init.dvs K) (xDesk_init.kws K) (xDesk_init.at_.ad K) (fdOf K (xDesk_init.at_.ad K)) := T.c.def_ 44
theorem Tx.d_Desk_is_name (T : Tx K mg) : FunD K xDesk_is_name.name xDesk_is_name.qual xDesk_is_name.params xDesk_is_name.body xDesk_is_name.scope (xDesk_is_name.dvs K) (xDesk_is_name.kws K) (xDesk_is_name.at_.ad K) (fdOf K (xDesk_is_name.at_.ad K)) := T.c.def_ 45
theorem Tx.d_Desk_opening (T : Tx K mg) : FunD K xDesk_opening.name xDesk_opening.qual xDesk_opening.params xDesk_opening.body xDesk_opening.scope (xDesk_opening.dvs K) (xDesk_opening.kws K) (xDesk_opening.at_.ad K) (fdOf K (xDesk_opening.at_.ad K)) := T.c.def_ 46
theorem Tx.d_Desk_balance (T : Tx K mg) : FunD K xDesk_balance.name xDesk_balance.qual xDesk_balance.params xDesk_balance.body xDesk_balance.scope (xDesk_balance.dvs K) (xDesk_balance.kws K) (xDesk_balance.at_.ad K) (fdOf K (xDesk_balance.at_.ad K)) := T.c.def_ 47
theorem Tx.d_Desk_names (T : Tx K mg) : FunD K xDesk_names.name xDesk_names.qual xDesk_names.params xDesk_names.body xDesk_names.scope (xDesk_names.dvs K) (xDesk_names.kws K) (xDesk_names.at_.ad K) (fdOf K (xDesk_names.at_.ad K)) := T.c.def_ 48
theorem Tx.d_Desk_laid (T : Tx K mg) : FunD K xDesk_laid.name xDesk_laid.qual xDesk_laid.params xDesk_laid.body xDesk_laid.scope (xDesk_laid.dvs K) (xDesk_laid.kws K) (xDesk_laid.at_.ad K) (fdOf K (xDesk_laid.at_.ad K)) := T.c.def_ 49
theorem Tx.d_Desk_stand (T : Tx K mg) : FunD K xDesk_stand.name xDesk_stand.qual xDesk_stand.params xDesk_stand.body xDesk_stand.scope (xDesk_stand.dvs K) (xDesk_stand.kws K) (xDesk_stand.at_.ad K) (fdOf K (xDesk_stand.at_.ad K)) := T.c.def_ 50
theorem Tx.d_Desk_lay (T : Tx K mg) : FunD K xDesk_lay.name xDesk_lay.qual xDesk_lay.params xDesk_lay.body xDesk_lay.scope (xDesk_lay.dvs K) (xDesk_lay.kws K) (xDesk_lay.at_.ad K) (fdOf K (xDesk_lay.at_.ad K)) := T.c.def_ 51
theorem Tx.d_Desk_take (T : Tx K mg) : FunD K xDesk_take.name xDesk_take.qual xDesk_take.params xDesk_take.body xDesk_take.scope (xDesk_take.dvs K) (xDesk_take.kws K) (xDesk_take.at_.ad K) (fdOf K (xDesk_take.at_.ad K)) := T.c.def_ 52
theorem Tx.d_Desk_grow (T : Tx K mg) : FunD K xDesk_grow.name xDesk_grow.qual xDesk_grow.params xDesk_grow.body xDesk_grow.scope (xDesk_grow.dvs K) (xDesk_grow.kws K) (xDesk_grow.at_.ad K) (fdOf K (xDesk_grow.at_.ad K)) := T.c.def_ 53
theorem Tx.d_Desk_pay_in (T : Tx K mg) : FunD K xDesk_pay_in.name xDesk_pay_in.qual xDesk_pay_in.params xDesk_pay_in.body xDesk_pay_in.scope (xDesk_pay_in.dvs K) (xDesk_pay_in.kws K) (xDesk_pay_in.at_.ad K) (fdOf K (xDesk_pay_in.at_.ad K)) := T.c.def_ 54
theorem Tx.d_Desk_do (T : Tx K mg) : FunD K xDesk_do.name xDesk_do.qual xDesk_do.params xDesk_do.body xDesk_do.scope (xDesk_do.dvs K) (xDesk_do.kws K) (xDesk_do.at_.ad K) (fdOf K (xDesk_do.at_.ad K)) := T.c.def_ 55
theorem Tx.d_Desk_undo (T : Tx K mg) : FunD K xDesk_undo.name xDesk_undo.qual xDesk_undo.params xDesk_undo.body xDesk_undo.scope (xDesk_undo.dvs K) (xDesk_undo.kws K) (xDesk_undo.at_.ad K) (fdOf K (xDesk_undo.at_.ad K)) := T.c.def_ 56
theorem Tx.d_Desk_redo (T : Tx K mg) : FunD K xDesk_redo.name xDesk_redo.qual xDesk_redo.params xDesk_redo.body xDesk_redo.scope (xDesk_redo.dvs K) (xDesk_redo.kws K) (xDesk_redo.at_.ad K) (fdOf K (xDesk_redo.at_.ad K)) := T.c.def_ 57
theorem Tx.d_Desk_deeds (T : Tx K mg) : FunD K xDesk_deeds.name xDesk_deeds.qual xDesk_deeds.params xDesk_deeds.body xDesk_deeds.scope (xDesk_deeds.dvs K) (xDesk_deeds.kws K) (xDesk_deeds.at_.ad K) (fdOf K (xDesk_deeds.at_.ad K)) := T.c.def_ 58
theorem Tx.d_Desk_row (T : Tx K mg) : FunD K xDesk_row.name xDesk_row.qual xDesk_row.params xDesk_row.body xDesk_row.scope (xDesk_row.dvs K) (xDesk_row.kws K) (xDesk_row.at_.ad K) (fdOf K (xDesk_row.at_.ad K)) := T.c.def_ 59
theorem Tx.d_Desk_ledger (T : Tx K mg) : FunD K xDesk_ledger.name xDesk_ledger.qual xDesk_ledger.params xDesk_ledger.body xDesk_ledger.scope (xDesk_ledger.dvs K) (xDesk_ledger.kws K) (xDesk_ledger.at_.ad K) (fdOf K (xDesk_ledger.at_.ad K)) := T.c.def_ 60
theorem Tx.d_Desk_spent (T : Tx K mg) : FunD K xDesk_spent.name xDesk_spent.qual xDesk_spent.params xDesk_spent.body xDesk_spent.scope (xDesk_spent.dvs K) (xDesk_spent.kws K) (xDesk_spent.at_.ad K) (fdOf K (xDesk_spent.at_.ad K)) := T.c.def_ 61
theorem Tx.d_write_journal (T : Tx K mg) : FunD K xwrite_journal.name xwrite_journal.qual xwrite_journal.params xwrite_journal.body xwrite_journal.scope (xwrite_journal.dvs K) (xwrite_journal.kws K) (xwrite_journal.at_.ad K) (fdOf K (xwrite_journal.at_.ad K)) := T.c.def_ 62
theorem Tx.d_read_first (T : Tx K mg) : FunD K xread_first.name xread_first.qual xread_first.params xread_first.body xread_first.scope (xread_first.dvs K) (xread_first.kws K) (xread_first.at_.ad K) (fdOf K (xread_first.at_.ad K)) := T.c.def_ 63
theorem Tx.d_read_journal (T : Tx K mg) : FunD K xread_journal.name xread_journal.qual xread_journal.params xread_journal.body xread_journal.scope (xread_journal.dvs K) (xread_journal.kws K) (xread_journal.at_.ad K) (fdOf K (xread_journal.at_.ad K)) := T.c.def_ 64
theorem Tx.d_law_cell (T : Tx K mg) : FunD K xlaw_cell.name xlaw_cell.qual xlaw_cell.params xlaw_cell.body xlaw_cell.scope (xlaw_cell.dvs K) (xlaw_cell.kws K) (xlaw_cell.at_.ad K) (fdOf K (xlaw_cell.at_.ad K)) := T.c.def_ 65
theorem Tx.d_law_mixed (T : Tx K mg) : FunD K xlaw_mixed.name xlaw_mixed.qual xlaw_mixed.params xlaw_mixed.body xlaw_mixed.scope (xlaw_mixed.dvs K) (xlaw_mixed.kws K) (xlaw_mixed.at_.ad K) (fdOf K (xlaw_mixed.at_.ad K)) := T.c.def_ 66
theorem Tx.d_law_draws (T : Tx K mg) : FunD K xlaw_draws.name xlaw_draws.qual xlaw_draws.params xlaw_draws.body xlaw_draws.scope (xlaw_draws.dvs K) (xlaw_draws.kws K) (xlaw_draws.at_.ad K) (fdOf K (xlaw_draws.at_.ad K)) := T.c.def_ 67
theorem Tx.d_law_is_integer (T : Tx K mg) : FunD K xlaw_is_integer.name xlaw_is_integer.qual xlaw_is_integer.params xlaw_is_integer.body xlaw_is_integer.scope (xlaw_is_integer.dvs K) (xlaw_is_integer.kws K) (xlaw_is_integer.at_.ad K) (fdOf K (xlaw_is_integer.at_.ad K)) := T.c.def_ 68
theorem Tx.d_law_same (T : Tx K mg) : FunD K xlaw_same.name xlaw_same.qual xlaw_same.params xlaw_same.body xlaw_same.scope (xlaw_same.dvs K) (xlaw_same.kws K) (xlaw_same.at_.ad K) (fdOf K (xlaw_same.at_.ad K)) := T.c.def_ 69
theorem Tx.d_law_words (T : Tx K mg) : FunD K xlaw_words.name xlaw_words.qual xlaw_words.params xlaw_words.body xlaw_words.scope (xlaw_words.dvs K) (xlaw_words.kws K) (xlaw_words.at_.ad K) (fdOf K (xlaw_words.at_.ad K)) := T.c.def_ 70
theorem Tx.d_law_replaced (T : Tx K mg) : FunD K xlaw_replaced.name xlaw_replaced.qual xlaw_replaced.params xlaw_replaced.body xlaw_replaced.scope (xlaw_replaced.dvs K) (xlaw_replaced.kws K) (xlaw_replaced.at_.ad K) (fdOf K (xlaw_replaced.at_.ad K)) := T.c.def_ 71
theorem Tx.d_law_line (T : Tx K mg) : FunD K xlaw_line.name xlaw_line.qual xlaw_line.params xlaw_line.body xlaw_line.scope (xlaw_line.dvs K) (xlaw_line.kws K) (xlaw_line.at_.ad K) (fdOf K (xlaw_line.at_.ad K)) := T.c.def_ 72
theorem Tx.d_law_bad_line (T : Tx K mg) : FunD K xlaw_bad_line.name xlaw_bad_line.qual xlaw_bad_line.params xlaw_bad_line.body xlaw_bad_line.scope (xlaw_bad_line.dvs K) (xlaw_bad_line.kws K) (xlaw_bad_line.at_.ad K) (fdOf K (xlaw_bad_line.at_.ad K)) := T.c.def_ 73
theorem Tx.d_law_done (T : Tx K mg) : FunD K xlaw_done.name xlaw_done.qual xlaw_done.params xlaw_done.body xlaw_done.scope (xlaw_done.dvs K) (xlaw_done.kws K) (xlaw_done.at_.ad K) (fdOf K (xlaw_done.at_.ad K)) := T.c.def_ 74
theorem Tx.d_law_moved (T : Tx K mg) : FunD K xlaw_moved.name xlaw_moved.qual xlaw_moved.params xlaw_moved.body xlaw_moved.scope (xlaw_moved.dvs K) (xlaw_moved.kws K) (xlaw_moved.at_.ad K) (fdOf K (xlaw_moved.at_.ad K)) := T.c.def_ 75
theorem Tx.d_law_told (T : Tx K mg) : FunD K xlaw_told.name xlaw_told.qual xlaw_told.params xlaw_told.body xlaw_told.scope (xlaw_told.dvs K) (xlaw_told.kws K) (xlaw_told.at_.ad K) (fdOf K (xlaw_told.at_.ad K)) := T.c.def_ 76
theorem Tx.d_law_alike (T : Tx K mg) : FunD K xlaw_alike.name xlaw_alike.qual xlaw_alike.params xlaw_alike.body xlaw_alike.scope (xlaw_alike.dvs K) (xlaw_alike.kws K) (xlaw_alike.at_.ad K) (fdOf K (xlaw_alike.at_.ad K)) := T.c.def_ 77
theorem Tx.d_law_brief (T : Tx K mg) : FunD K xlaw_brief.name xlaw_brief.qual xlaw_brief.params xlaw_brief.body xlaw_brief.scope (xlaw_brief.dvs K) (xlaw_brief.kws K) (xlaw_brief.at_.ad K) (fdOf K (xlaw_brief.at_.ad K)) := T.c.def_ 78
theorem Tx.d_law_lines (T : Tx K mg) : FunD K xlaw_lines.name xlaw_lines.qual xlaw_lines.params xlaw_lines.body xlaw_lines.scope (xlaw_lines.dvs K) (xlaw_lines.kws K) (xlaw_lines.at_.ad K) (fdOf K (xlaw_lines.at_.ad K)) := T.c.def_ 79
theorem Tx.d_law_setting (T : Tx K mg) : FunD K xlaw_setting.name xlaw_setting.qual xlaw_setting.params xlaw_setting.body xlaw_setting.scope (xlaw_setting.dvs K) (xlaw_setting.kws K) (xlaw_setting.at_.ad K) (fdOf K (xlaw_setting.at_.ad K)) := T.c.def_ 80
theorem Tx.d_law_moves_alike (T : Tx K mg) : FunD K xlaw_moves_alike.name xlaw_moves_alike.qual xlaw_moves_alike.params xlaw_moves_alike.body xlaw_moves_alike.scope (xlaw_moves_alike.dvs K) (xlaw_moves_alike.kws K) (xlaw_moves_alike.at_.ad K) (fdOf K (xlaw_moves_alike.at_.ad K)) := T.c.def_ 81
theorem Tx.d_law_number (T : Tx K mg) : FunD K xlaw_number.name xlaw_number.qual xlaw_number.params xlaw_number.body xlaw_number.scope (xlaw_number.dvs K) (xlaw_number.kws K) (xlaw_number.at_.ad K) (fdOf K (xlaw_number.at_.ad K)) := T.c.def_ 82
theorem Tx.d_law_opened (T : Tx K mg) : FunD K xlaw_opened.name xlaw_opened.qual xlaw_opened.params xlaw_opened.body xlaw_opened.scope (xlaw_opened.dvs K) (xlaw_opened.kws K) (xlaw_opened.at_.ad K) (fdOf K (xlaw_opened.at_.ad K)) := T.c.def_ 83
theorem Tx.d_law_led (T : Tx K mg) : FunD K xlaw_led.name xlaw_led.qual xlaw_led.params xlaw_led.body xlaw_led.scope (xlaw_led.dvs K) (xlaw_led.kws K) (xlaw_led.at_.ad K) (fdOf K (xlaw_led.at_.ad K)) := T.c.def_ 84
theorem Tx.d_law_read (T : Tx K mg) : FunD K xlaw_read.name xlaw_read.qual xlaw_read.params xlaw_read.body xlaw_read.scope (xlaw_read.dvs K) (xlaw_read.kws K) (xlaw_read.at_.ad K) (fdOf K (xlaw_read.at_.ad K)) := T.c.def_ 85
theorem Tx.d_law_first_line (T : Tx K mg) : FunD K xlaw_first_line.name xlaw_first_line.qual xlaw_first_line.params xlaw_first_line.body xlaw_first_line.scope (xlaw_first_line.dvs K) (xlaw_first_line.kws K) (xlaw_first_line.at_.ad K) (fdOf K (xlaw_first_line.at_.ad K)) := T.c.def_ 86
theorem Tx.d_law_spoilt (T : Tx K mg) : FunD K xlaw_spoilt.name xlaw_spoilt.qual xlaw_spoilt.params xlaw_spoilt.body xlaw_spoilt.scope (xlaw_spoilt.dvs K) (xlaw_spoilt.kws K) (xlaw_spoilt.at_.ad K) (fdOf K (xlaw_spoilt.at_.ad K)) := T.c.def_ 87
theorem Tx.d_law_reads (T : Tx K mg) : FunD K xlaw_reads.name xlaw_reads.qual xlaw_reads.params xlaw_reads.body xlaw_reads.scope (xlaw_reads.dvs K) (xlaw_reads.kws K) (xlaw_reads.at_.ad K) (fdOf K (xlaw_reads.at_.ad K)) := T.c.def_ 88
theorem Tx.d_law (T : Tx K mg) : FunD K xlaw.name xlaw.qual xlaw.params xlaw.body xlaw.scope (xlaw.dvs K) (xlaw.kws K) (xlaw.at_.ad K) (fdOf K (xlaw.at_.ad K)) := T.c.def_ 89
end
end Bm
set_option Elab.async false
set_option linter.all false
set_option maxRecDepth 100000
set_option maxHeartbeats 4000000
/-! Errors whose class says super().__init__(text) and stores its fields: made, raised, within an except suite too. -/
namespace Bm
open PySem PySem.Spec PyProof.Rows L2
/-- the def __init__ of such a class, as it stands: its cell for the class, its code's record -/
structure SupAt (K : PySem.W.Frag) (C fI cc cda : Addr) (q : Str) (ps : Arguments) (body : List Stmt) (sc : Scope) (fd : FuncData) : Prop where
  fn : ∃ oc od kV doc pm an ct osl, fd = PySem.W.fnX "__init__" q ps body sc [("__class__", cc)] .none kV doc pm an (.ref cda) ct ∧ K.lookup fI = some ⟨oc, od, .func fd, osl⟩
  code : PySem.W.codeIn K (.ref cda) q = true
  cell : ∃ cl cd sl, K.lookup cc = some ⟨cl, cd, .cell (some (.ref C)), sl⟩
  file : ∃ cl cd vs sl t, K.lookup cda = some ⟨cl, cd, .fields vs, sl⟩ ∧ vs[2]? = some (.str "/claim/cut.py" t)
  sup : PySem.W.ks_superIn K C C "__init__" = some (some (.builtin "ValueError.__init__"))
  sub : PySem.W.subIn K (.ref C) (.type "ValueError") = some true
  self : PySem.W.mroIn K C (.ref C) = some true
  oex : OexC K C
  third : PySem.W.nsIn K cStatics "thirdparty.any" = some none

theorem supAt_of {K : PySem.W.Frag} {c : Str} {d : DX} (e : fnX K d.at_ = d.val) (ok : d.ok K = true) (hat : d.at_ = .mth c "__init__") (hn : d.name = "__init__") (hdf : d.dfl = []) (hc : d.clo = [("__class__" : Str)]) (hs : supB c d.qual K = true)
    (ox : OexC K (He.ga K c)) (th : PySem.W.nsIn K cStatics "thirdparty.any" = some none) :
    (∃ cc cda, SupAt K (He.ga K c) (He.ma K (He.ga K c) "__init__") cc cda d.qual d.params d.body d.scope (fdOf K (He.ma K (He.ga K c) "__init__"))) ∧
      PySem.W.findIn K (.ref (He.ga K c)) "__init__" = some (some (.ref (He.ma K (He.ga K c) "__init__"))) ∧ PySem.W.typeIn K (.ref (He.ma K (He.ga K c) "__init__")) = some (.type "function") := by
  obtain ⟨s1, s2⟩ := He.ba hs
  obtain ⟨s2, s3⟩ := He.ba s2
  obtain ⟨s3, s4⟩ := He.ba s3
  obtain ⟨s4, s5⟩ := He.ba s4
  obtain ⟨s5, s6⟩ := He.ba s5
  refine ⟨?_, He.eqO_ok s5, of_decide_eq_true s6⟩
  obtain ⟨kp, ok2⟩ := He.ba ok
  rw [hat] at e ok2
  have ea : (At.mth c "__init__").ad K = He.ma K (He.ga K c) "__init__" := rfl
  unfold fnX at e
  unfold fdOf
  rw [ea] at e ok2
  cases lk : K.lookup (He.ma K (He.ga K c) "__init__") with
  | none =>
    rw [lk] at s1
    cases s1
  | some o =>
    obtain ⟨oc, od, dt, osl⟩ := o
    rw [lk] at s1 e ok2
    cases dt with
    | func fd =>
      obtain ⟨m1, m2, m3, m4, m5, m6, m7, m8, m9, m10, m11, m12, m13, m14, m15⟩ := fd
      have e2 : (some (m1, m2, m3, m4, m5, m6, m7.map (·.1), m15) : FnX) = d.val := e
      unfold DX.val at e2
      simp only [Option.some.injEq, Prod.mk.injEq] at e2
      obtain ⟨q1, q2, q3, q4, q5, q6, q7, q8⟩ := e2
      obtain ⟨cc, cda, e7, e13, hcc, hcd⟩ := closB_ok (show closB K (He.ga K c) m7 m13 = true from s1)
      have ok3 : (PySem.W.codeIn K m13 d.qual && (He.dflB K m8 (d.dvs K) && He.kwdB K m9 (d.kws K))) = true := ok2
      subst e7 e13
      have e8 : m8 = .none := by
        have z := (He.ba (He.ba ok3).2).1
        have zz : d.dvs K = [] := by
          unfold DX.dvs
          rw [hdf] <;> rfl
        rw [zz] at z
        cases m8 with
        | none => rfl
        | _ => cases z
      subst e8
      refine ⟨cc, cda, ⟨oc, od, m9, m10, m11, m12, m14, osl, ?_, lk⟩, (He.ba ok3).1, cellB_ok hcc, fileB_ok hcd, He.eqO_ok s2, of_decide_eq_true s3, of_decide_eq_true s4, ox, th⟩
      rw [← q2, ← q3, ← q5, ← hn, ← q1]
      subst q6 q8
      rw [q4]
    | _ => cases s1
end Bm
namespace Bm
open PySem PySem.Spec PyProof.Rows L2
/-! ### the body of such a def, at work -/
abbrev superObjOf (x C : Addr) : Obj := PySem.W.ks_superObj C x C
/-- its context: what is handled, and the objects pl that are held meanwhile -/
def cxS (CX : CXT) (P : Program) (w : World) (K : PySem.W.Frag) (mg : Str → Option Value) (base : Heap) (N : List Str) (q : Str) (sc : Scope) (fI cc cda : Addr) (A : Around) (outer : List Env) (s : Shared) (H : Hp) (E : XK) (pl : List (Addr × Obj)) : Cx where
  prog := P
  w := w
  K := K
  mg := mg
  base := base
  A := A.deeper (PySem.W.ksEnv q sc s.heap.objs.size fI (.ref cda) cc)
  N := N
  s_0 := s
  H_0 := H
  env := PySem.W.ksEnv q sc s.heap.objs.size fI (.ref cda) cc
  outer := outer
  stack := PySem.W.ksEnv q sc s.heap.objs.size fI (.ref cda) cc :: outer
  ex := []
  calm := false
  fn := fun _ => false
  pn := pl
  xe := fun e s' => wpAny (model P w) (A.deeper (PySem.W.ksEnv q sc s.heap.objs.size fI (.ref cda) cc)) (leaving (PySem.W.ksEnv q sc s.heap.objs.size fI (.ref cda) cc) e) (fun _ s'' => CX outer H s E e s'') (fun e' s'' => CX outer H s E e' s'') s'
/-- the names of such a def -/
structure SupScope (ps : List Str) (sc : Scope) : Prop where
  kind : sc.kind = .function
  co : sc.isCoroutine = false
  gen : sc.isGenerator = false
  nd : ps.Nodup
  par : ∀ x ∈ ps, sc.names.lookup x = some .local
  nocell : ∀ y ∈ sc.names, y.2 ≠ .cell
  fr : ∀ y ∈ sc.names, y.2 = .free → y.1 = ("__class__" : Str)
  cls : sc.names.lookup ("__class__" : Str) = some .free
  sup : sc.names.lookup ("super" : Str) = some .globalImplicit
section
variable {CX : CXT} {P : Program} {w : World} {K : PySem.W.Frag} {mg : Str → Option Value} {base : Heap} {ps : List Str} {q : Str} {params : Arguments} {body : List Stmt} {sc : Scope} {C fI cc cda : Addr} {fd : FuncData} {A : Around} {outer : List Env} {s : Shared} {H : Hp} {E : XK} {us : List Value} {vs : List V} {pl : List (Addr × Obj)}
theorem inv_startS {h₁ : Heap} {tk : Nat} (S : SupScope ps sc) (T : SupAt K C fI cc cda q params body sc fd) (hpin : ∀ p ∈ pl, L2H.PinOk outer H s p) (e0 : Env0 P w K mg base A outer s H) (hl : vs.length = ps.length) (r : Vals vs us) (hns : h₁.Ns s.heap.objs.size fun y => (ps.zip us).reverse.lookup y)
    (kp : ∀ b o, s.heap.get? b = some o → h₁.get? b = some o) : Inv (cxS CX P w K mg base ps q sc fI cc cda A outer s H E pl) [] (vs.map some) H { s with heap := h₁, toks := tk } := by
  have noA : ∀ b : Addr, b ∉ (cxS CX P w K mg base ps q sc fI cc cda A outer s H E pl).ex := fun b z => absurd (show b ∈ ([] : List Addr) from z) (by simp)
  have kin : K.In base := e0.mod.kin
  obtain ⟨cl0, cd0, sl0, hcell⟩ := T.cell
  have hcb := kin _ _ hcell
  have one : ∀ {y : Str} {c : Addr}, List.lookup y [(("__class__" : Str), cc)] = some c → y = ("__class__" : Str) ∧ c = cc := fun {y c} z => by
    simp only [List.lookup] at z
    split at z
    · rename_i e
      exact ⟨beq_iff_eq.mp e, (Option.some.inj z).symm⟩
    · cases z
  refine ⟨⟨e0.mod, S.kind, rfl, rfl, Nat.le_refl _, fun x y c h1 h2 => ?_, fun y hy => ?_, fun y c z _ => ?_, fun z => (Bool.noConfusion (show false = true from z)), Around.frames_deeper e0.frames, .inr ⟨rfl, rfl⟩, fun b z => absurd z (noA b), e0.bs, e0.bsz, fun b _ _ => noA b,
      fun b z => absurd z (noA b), e0.funs, e0.frf⟩,
    rfl, e0.bare, Un.kept kp, ⟨_, hns, fun i y v e1 e2 e3 => ?_⟩, fun y c e => ?_, e0.hok.fresh (Nat.le_refl _), fun y c e => ?_, fun p hp => ?_, e0.hok.kept kp, ?_⟩
  · exact (one h1).1.trans (one h2).1.symm
  · have hy : sc.names.lookup y = some .cell ∨ sc.names.lookup y = some .free := hy
    rcases hy with hy | hy
    · exact absurd rfl (S.nocell _ (PySem.mem_of_lookup hy))
    · have ey := S.fr _ (PySem.mem_of_lookup hy) rfl
      dsimp only at ey
      subst ey
      exact ⟨cc, rfl⟩
  · cases (show false = true from z)
  · have e1 : ps[i]? = some y := e1
    rw [List.getElem?_map] at e2
    have ha : vs[i]? = some v := by
      cases e : vs[i]? with
      | none => rw [e] at e2; cases e2
      | some a => rw [e] at e2; cases e2; rfl
    obtain ⟨u, hu, rv⟩ := r.get ha
    exact ⟨u, rv, .inl ⟨S.par y (List.mem_of_getElem? e1), NdefX.zip_look S.nd e1 hu⟩⟩
  · obtain ⟨-, rfl⟩ := one e
    exact ⟨_, _, kp _ _ (e0.bs _ _ hcb).1, rfl⟩
  · obtain ⟨-, rfl⟩ := one e
    exact (e0.bs _ _ hcb).2
  · have hp' : p ∈ pl ++ [] := hp
    rw [List.append_nil] at hp'
    have z := hpin p hp'
    exact ⟨kp _ _ z.get, z.free, Nat.ne_of_lt (Heap.lt_size z.get), z.nofs, z.nocell⟩
  · show (vs.map some).length = ps.length
    rw [List.length_map, hl]
end
section
variable {CX : CXT} {P : Program} {w : World} {K : PySem.W.Frag} {mg : Str → Option Value} {base : Heap} {ps : List Str} {q : Str} {params : Arguments} {body : List Stmt} {sc : Scope} {C fI cc cda : Addr} {fd : FuncData} {A : Around} {outer : List Env} {s0 s : Shared} {H0 H : Hp} {E : XK} {pl : List (Addr × Obj)} {σ : L2.St}
abbrev SupX (X : Cx) (q : Str) (sc : Scope) (fI cc cda : Addr) : Prop := X.env = PySem.W.ksEnv q sc X.env.locals fI (.ref cda) cc
theorem super_line {ar : Arg} {a : Addr} {p0 p1 p2 p3 p4 p5 : Pos} {tx : Str} {j : Nat} {bd : List Stmt} (S : SupScope ps sc) (T : SupAt K C fI cc cda q params body sc fd) (mgS : mg "super" = none) (hfile : P.main.file = ("/claim/cut.py" : Str)) (htop : (P.main.scope.names.lookup ("super" : Str)).isSome = false)
    (hi : ∀ L f a b, interactive (PySem.W.ksEnv q sc L f (.ref a) b) = false) (hsw : ∀ L f a b, swapsWith (.Call (.Attribute (.Call (.Name "super" p0) [] [] p1) "__init__" p2) [.Constant (.str tx) j p3] [] p4) none p5.line (PySem.W.ksEnv q sc L f (.ref a) b) = pure false) (hc : ∀ L f a b, ∃ pl : Sem Bool, eval (.Call (.Attribute (.Call (.Name "super" p0) [] [] p1) "__init__" p2) [.Constant (.str tx) j p3] [] p4) (PySem.W.ksEnv q sc L f (.ref a) b) = (do
      let ov ← attributeBase (.Call (.Name "super" p0) [] [] p1) "__init__" (PySem.W.ksEnv q sc L f (.ref a) b) (eval (.Call (.Name "super" p0) [] [] p1) (PySem.W.ksEnv q sc L f (.ref a) b))
      standAt p2.atName
      let (g, first) ← holding [ov] (getMethod ov "__init__" pl)
      callWith p4 g first (backTo p4 (starEach [.Constant (.str tx) j p3] (PySem.W.ksEnv q sc L f (.ref a) b))) []))
    (hp : (params.posonlyargs ++ params.args).head? = some ar) (har : ps[0]? = some ar.arg) (hσ : σ[0]? = some (some (.ref a))) (e : H a = some (exo a C none)) (I : Inv (cxS CX P w K mg base ps q sc fI cc cda A outer s0 H0 E pl) [] σ H s) :
    PySem.wpAt (model P w) (A.deeper (PySem.W.ksEnv q sc s0.heap.objs.size fI (.ref cda) cc)) (.func bd (PySem.W.ksEnv q sc s0.heap.objs.size fI (.ref cda) cc)) (exec (.Expr (.Call (.Attribute (.Call (.Name "super" p0) [] [] p1) "__init__" p2) [.Constant (.str tx) j p3] [] p4) p5) (PySem.W.ksEnv q sc s0.heap.objs.size fI (.ref cda) cc))
      (fun f s' => f = .next ∧ Inv (cxS CX P w K mg base ps q sc fI cc cda A outer s0 H0 E pl) [] σ H s') (cxS CX P w K mg base ps q sc fI cc cda A outer s0 H0 E pl).xe s := by
  have X : K.In s.heap := I.kIn
  obtain ⟨oc, od, kV, doc, pm, an, ct, osl, efd, hf⟩ := T.fn
  obtain ⟨fcl, fcd, fvs, fsl, ft, hcode, hvs⟩ := T.file
  obtain ⟨ccl, ccd, csl, hcell⟩ := T.cell
  obtain ⟨nm, qn, N, bs, bm, sn, sub, ab, col, dd, k0, k1, k2, k3, k5, hC, hbm⟩ := T.oex.cls
  have hcl : PySem.W.clsIn K C = some { name := nm, bases := bs, mro := .ref C :: bm, ns := N, qualname := qn, hasDict := true, slotNames := sn, subclasses := sub, abstract := ab, collection := col, hasDel := false } := by
    unfold PySem.W.clsIn
    rw [hC] <;> rfl
  obtain ⟨t1, ho⟩ := exo_at I.hok e
  obtain ⟨m, hn, hlk⟩ := I.loc
  have hself : m ar.arg = some (.ref a) := by
    obtain ⟨u, ru, lk⟩ := hlk 0 ar.arg (.ref a) har hσ (.inl (S.par _ (List.mem_of_getElem? har)))
    cases ru
    rcases lk with ⟨_, z⟩ | ⟨z, _⟩
    · exact z
    · have e1 : sc.names.lookup ar.arg = some .local := S.par _ (List.mem_of_getElem? har)
      have z' : sc.names.lookup ar.arg = some .cell ∨ sc.names.lookup ar.arg = some .free := z
      rw [e1] at z'
      rcases z' with z' | z' <;> cases z'
  obtain ⟨mb, hmb, hmbx⟩ := I.mod.blt
  have gk : s.heap.Ns mainGlobals mg := I.mod.glob.keeps I.bk
  have bk : s.heap.Ns builtinsNs mb := hmb.keeps I.bk
  have hboot : mb ("super" : Str) = some (.type "super") := (hmbx _ (by decide)).trans (by decide +kernel)
  obtain ⟨pl0, hc⟩ := hc s0.heap.objs.size fI cda cc
  refine ks_wpAt_Expr_any (ks_wpAt_MethodCall ?_ hc) (hi _ _ _ _) (hsw _ _ _ _)
  refine ks_wpAt_super_base (env := PySem.W.ksEnv q sc s0.heap.objs.size fI (.ref cda) cc) (file := "/claim/cut.py") S.sup S.cls (by decide) rfl (X _ _ hf) rfl (by rw [efd]; exact hp) rfl (X _ _ hcode) rfl hvs (by rw [hfile]; exact beq_self_eq_true _) htop ?_
  refine PySem.W.ks_loadName_global S.kind S.sup (PySem.Calls.loadGlobal_builtin (env := PySem.W.ksEnv q sc s0.heap.objs.size fI (.ref cda) cc) gk mgS bk hboot ⟨rfl, ?_⟩)
  refine wpAny_loadName_free S.kind S.cls rfl ⟨_, X _ _ hcell, rfl⟩ ?_
  refine wpAny_loadName_local S.kind (S.par _ (List.mem_of_getElem? har)) hn hself ?_
  obtain ⟨hh, g, d, t, os⟩ := s
  refine ks_wpAny_isType_cls (X _ _ hC) rfl ⟨rfl, ?_⟩
  refine ks_wpAny_call_super (X _ _ hC) rfl ho rfl (fun c z => by cases z) (PySem.W.looks_mroIn X T.self) (fun h' e1 k1 => ?_)
  have I1 : Inv (cxS CX P w K mg base ps q sc fI cc cda A outer s0 H0 E pl) [] σ H ⟨h', g, d, t, os⟩ := I.kept (t' := t) k1
  have X1 : K.In h' := I1.kIn
  have ho1 := k1 _ _ ho
  have IA : PySem.W.InstAt h' a { cls := .ref C, dict := none, data := .fields #[.ref t1, .none, .none, .none, .bool false, .none] } C none := ⟨ho1, rfl, rfl, trivial⟩
  have hI : PySem.W.Looks (model P w) h' (isInstance (.ref a) (.type "ValueError")) true := IA.type.andThen (PySem.W.looks_subIn X1 T.sub)
  have hm := T.sup
  unfold PySem.W.ks_superIn at hm
  rw [hcl] at hm
  refine PySem.W.kxs_getMethod PySem.W.kxs_ValueError e1 (PySem.W.looks_opaque X1 T.third) (l₀ := .ref C :: bm) (fun A Q E s k q => wpAny_bind ((PySem.W.looks_clsIn X1 hcl) A _ E s k (wpAny_pure q))) rfl X1 hm hI (PySem.W.ks_ne X1 IA hcl) (by decide) ?_
  have k2 : ∀ b o, h'.get? b = some o → (h'.push (PySem.W.kxs_mw "ValueError.__init__" a)).get? b = some o := fun b o z => Heap.get?_push_of_some _ z
  have hu : (h'.push (PySem.W.kxs_mw "ValueError.__init__" a)).get? h'.objs.size = some (PySem.W.kxs_mw "ValueError.__init__" a) := Heap.get?_push_at rfl rfl
  have I2 : Inv (cxS CX P w K mg base ps q sc fI cc cda A outer s0 H0 E pl) [] σ H ⟨h'.push (PySem.W.kxs_mw "ValueError.__init__" a), g, d, t + 1, os⟩ := I1.kept (t' := t + 1) k2
  have I3 : Inv (cxS CX P w K mg base ps q sc fI cc cda A outer s0 H0 E pl) [(h'.objs.size, PySem.W.kxs_mw "ValueError.__init__" a)] σ H ⟨h'.push (PySem.W.kxs_mw "ValueError.__init__" a), g, d, t + 1, os⟩ :=
    ⟨I2.ok, I2.os, I2.bare, I2.base, I2.loc, I2.cell, I2.free, I2.freeC, fun p hp => by
      rcases List.mem_append.mp hp with hp | hp
      · exact I2.pin p (List.mem_append_left _ hp)
      · cases List.mem_singleton.mp hp
        exact ⟨hu, I1.hok.fresh (Nat.le_refl _), fun z => absurd I1.lt (by rw [← z]; exact Nat.lt_irrefl _), I1.nofs (Nat.le_refl _), fun v z => by cases z⟩, I2.hok, I2.len⟩
  have ha : PA (cxS CX P w K mg base ps q sc fI cc cda A outer s0 H0 E pl) [.Constant (.str tx) j p3] (tCons (tC (.str tx)) tNil) := pa_cons pe_str pa_nil
  refine PySem.W.kxs_callWith (i := "ValueError.__init__") (x := a) rfl ?_
  refine PySem.Calls.evalArgs_plain (wpAny_mono (ha.run p4 _ _ σ H (fun vs H1 => vs = [V.str tx] ∧ H1 = H) I3 ⟨rfl, rfl⟩) (fun us s3 hh => ?_) fun e s' z => ?_)
  · obtain ⟨vs, H1, I4, r, ev, eH⟩ := hh
    subst ev eH
    have hu4 := (I4.pin (h'.objs.size, PySem.W.kxs_mw "ValueError.__init__" a) (List.mem_append_right _ (List.mem_singleton.mpr rfl))).1
    refine ⟨hu4, ?_⟩
    have hlen : us.length ≤ sizeLine := by
      rw [← Paired.length r, sizeLine_eq]
      show 1 ≤ 16777216
      omega
    obtain ⟨h4, g4, d4, t4, os4⟩ := s3
    obtain ⟨t2, ho4⟩ := exo_at I4.hok e
    have hC4 := I4.kIn _ _ hC
    refine wpAny_call (codeAny_of_tree ?_)
    show wpAny _ _ (callAny (.ref h'.objs.size) ⟨us, []⟩) _ _ _
    simp only [callAny]
    refine wpAny_bind (wpAny_load hu4 ?_)
    simp only [PySem.W.kxs_mw, show (Value.type "method-wrapper" == Value.type "method" || Value.type "method-wrapper" == Value.type "builtin_function_or_method" || Value.type "method-wrapper" == Value.type "method-wrapper") = true by decide, if_true]
    refine PySem.W.KFB.if_so (by decide) ?_
    refine wpAny_bind (PySem.W.check_bound_init PySem.F.excBase_ValueError.toExcCallFacts hC4 ho4 rfl ?_)
    refine wpAny_bind (wpAny_pure (wpAny_pure ?_))
    refine ⟨plainId_quiet PySem.F.excBase_ValueError.init.plain _, codeAny_builtin PySem.F.excBase_ValueError.initEntry ?_⟩
    refine PySem.W.exc_init_tree (cls := .ref C) (t0 := t2) (dv := none) (c2 := .none) (c3 := .none) (b4 := .bool false) ho4 hlen fun h5 k5 e5 _ => ?_
    have J := I4.write (t' := t4) (x := a) (e := a) (o := exo a C none) (by rw [e]; exact True.intro) (.inl rfl) k5 ⟨_, e5⟩ (exo_ok e5)
    have eu : upd H1 a (exo a C none) = H1 := by
      funext b
      by_cases hb : b = a
      · rw [hb, upd_same, e]
      · rw [upd_ne hb]
    rw [eu] at J
    exact ⟨trivial, ⟨J.ok, J.os, J.bare, J.base, J.loc, J.cell, J.free, J.freeC, fun p hp => J.pin p (by rw [List.append_nil] at hp; exact List.mem_append_left _ hp), J.hok, J.len⟩⟩
  · exact z
end
end Bm
namespace Bm
open PySem PySem.Spec PyProof.Rows L2
/-- super().__init__('tx'), as the first line of such a body -/
def supLine (p0 p1 p2 p3 p4 p5 : Pos) (tx : Str) (j : Nat) : Stmt := .Expr (.Call (.Attribute (.Call (.Name "super" p0) [] [] p1) "__init__" p2) [.Constant (.str tx) j p3] [] p4) p5
structure SupLine (q : Str) (sc : Scope) (st : Stmt) (p0 p1 p2 p3 p4 p5 : Pos) (tx : Str) (j : Nat) : Prop where
  eq : st = supLine p0 p1 p2 p3 p4 p5 tx j
  hi : ∀ L f a b, interactive (PySem.W.ksEnv q sc L f (.ref a) b) = false
  hsw : ∀ L f a b, swapsWith (.Call (.Attribute (.Call (.Name "super" p0) [] [] p1) "__init__" p2) [.Constant (.str tx) j p3] [] p4) none p5.line (PySem.W.ksEnv q sc L f (.ref a) b) = pure false
  hc : ∀ L f a b, ∃ pl : Sem Bool, eval (.Call (.Attribute (.Call (.Name "super" p0) [] [] p1) "__init__" p2) [.Constant (.str tx) j p3] [] p4) (PySem.W.ksEnv q sc L f (.ref a) b) = (do
      let ov ← attributeBase (.Call (.Name "super" p0) [] [] p1) "__init__" (PySem.W.ksEnv q sc L f (.ref a) b) (eval (.Call (.Name "super" p0) [] [] p1) (PySem.W.ksEnv q sc L f (.ref a) b))
      standAt p2.atName
      let (g, first) ← holding [ov] (getMethod ov "__init__" pl)
      callWith p4 g first (backTo p4 (starEach [.Constant (.str tx) j p3] (PySem.W.ksEnv q sc L f (.ref a) b))) [])
/-- what stays of the body, as a term of rules -/
def SupRest (ps : List Str) (q : Str) (sc : Scope) (rest : List Stmt) (t : PySem.W.Frag → TS) : Prop := ∀ (CX : CXT) (P : Program) (w : World) (K : PySem.W.Frag) (mg : Str → Option Value) (base : Heap) (fI cc cda : Addr) (A : Around) (outer : List Env) (s : Shared) (H : Hp) (E : XK) (pl : List (Addr × Obj)),
  PSs (cxS CX P w K mg base ps q sc fI cc cda A outer s H E pl) rest (t K)
section
variable {CX : CXT} {P : Program} {w : World} {K : PySem.W.Frag} {mg : Str → Option Value} {base : Heap} {ps : List Str} {q : Str} {params : Arguments} {st : Stmt} {rest : List Stmt} {sc : Scope} {C fI cc cda : Addr} {fd : FuncData} {t : PySem.W.Frag → TS} {ar : Arg} {p0 p1 p2 p3 p4 p5 : Pos} {tx : Str} {j : Nat} {sp : Sp}
/-- its promise -/
def spS (K : PySem.W.Frag) (C : Addr) (ps : List Str) (t : PySem.W.Frag → TS) : Sp := fun vs H Q _ => ∃ (a : Addr) (ws : List V), vs = .ref a :: ws ∧ vs.length = ps.length ∧ H a = some (exo a C none) ∧ t K { nx := fun _ H' => Q .non H', rt := Q } (vs.map some) H
theorem spS_len {vs : List V} {H : Hp} {Q : VK} {E : XK} (h : spS K C ps t vs H Q E) : vs.length = ps.length := by
  obtain ⟨_, _, _, hl, _⟩ := h
  exact hl
theorem sup_run (S : SupScope ps sc) (T : SupAt K C fI cc cda q params (st :: rest) sc fd) (mgS : mg "super" = none) (hfile : P.main.file = ("/claim/cut.py" : Str)) (htop : (P.main.scope.names.lookup ("super" : Str)).isSome = false) (SL : SupLine q sc st p0 p1 p2 p3 p4 p5 tx j)
    (hp : (params.posonlyargs ++ params.args).head? = some ar) (har : ps[0]? = some ar.arg) (hrest : SupRest ps q sc rest t)
    {A : Around} {outer : List Env} {s : Shared} {H : Hp} {args : Args} {us : List Value} {vs : List V} {Q : VK} {E : XK} {pl : List (Addr × Obj)} (hroom : A.depth < recursionLimit) (hpin : ∀ p ∈ pl, L2H.PinOk outer H s p) (e0 : Env0 P w K mg base A outer s H)
    (hb : BindsTo s fd args (ps.zip us)) (r : Vals vs us) (h : spS K C ps t vs H Q E) : codeAny (model P w) A (.call (.ref fI) args) (CR CX outer P w H s Q E) s := by
  obtain ⟨a, ws, ev, hl, ea, hq⟩ := h
  obtain ⟨oc, od, kV, doc, pm, an, ct, osl, efd, hf⟩ := T.fn
  have KX : K.In s.heap := e0.mod.kin.keeps fun b o e => (e0.bs b o e).1
  have lim : s.heap.NoLimit := e0.mod.nolimit.keeps fun b o e => (e0.bs b o e).1
  have hloc : ∀ x ∈ ps.zip us, sc.names.lookup x.1 = some .local := fun x hx => S.par _ (List.of_mem_zip (show (x.1, x.2) ∈ ps.zip us from hx)).1
  have hfd : fd.scope = sc ∧ fd.body = .stmts (st :: rest) ∧ fd.code = .ref cda ∧ fd.qualname = q := by
    rw [efd]
    exact ⟨rfl, rfl, rfl, rfl⟩
  have hce : ∀ L f, callEnv fd L f = PySem.W.ksEnv q sc L f (.ref cda) cc := fun L f => by
    rw [efd]
    rfl
  refine ks_codeAny_call_defAt (fd := fd) (body := st :: rest) (binds := ps.zip us) hroom (KX _ _ hf) rfl lim (by rw [hfd.2.2.1, hfd.2.2.2]; exact PySem.W.codeRec_of KX T.code) hfd.2.1 hb (by rw [hfd.1]; exact S.nocell) (by rw [hfd.1]; exact hloc) (fun h₀ hns keep => ?_) (by rw [hfd.1]; exact S.co) (by rw [hfd.1]; exact S.gen) (by rw [hfd.1]; exact S.kind)
  rw [hce]
  have I := inv_startS (CX := CX) (E := E) (tk := s.toks + (ps.zip us).length) S T hpin e0 hl r hns keep
  rw [SL.eq]
  have h0 : (vs.map some)[0]? = some (some (.ref a)) := by
    rw [ev]
    rfl
  refine ks_wpAt_execs_cons (ks_wpAt_mono (super_line S T mgS hfile htop SL.hi SL.hsw SL.hc hp har h0 ea I) (fun f s' hh => ?_) fun e s' z => z)
  obtain ⟨rfl, I1⟩ := hh
  refine PySem.wpAt_of_wpAny (wpAny_mono ((hrest CX P w K mg base fI cc cda A outer s H E pl).run [] s' (vs.map some) H _ I1 hq) (fun fl s2 hs => ?_) fun e s' z => z)
  have fin : ∀ {σ' : L2.St} {H' : Hp} {v : V} {u : Value}, Inv (cxS CX P w K mg base ps q sc fI cc cda A outer s H E pl) [] σ' H' s2 → RelV v u → Q v H' → CE outer P w H s Q u s2 :=
    fun {σ' H' v u} J rv q => ⟨v, H', J.os, J.bare, J.base, J.hok, rv, q⟩
  cases fl with
  | ret u =>
    obtain ⟨v, σ', H', J, rv, q⟩ := hs
    exact fin J rv q
  | next =>
    obtain ⟨σ', H', J, q⟩ := hs
    exact fin (v := V.non) (u := Value.none) J rfl q
  | brk =>
    obtain ⟨_, _, _, q⟩ := hs
    exact False.elim q
  | cont =>
    obtain ⟨_, _, _, q⟩ := hs
    exact False.elim q
/-- all of it: what a class's __init__ promises, cold and while an error is handled -/
structure SupOk (P : Program) (w : World) (K : PySem.W.Frag) (mg : Str → Option Value) (base : Heap) (C fI : Addr) (fd : FuncData) (ps : List Str) (t : PySem.W.Frag → TS) : Prop where
  oex : OexC K C
  at_ : PySem.W.findIn K (.ref C) "__init__" = some (some (.ref fI))
  ty : PySem.W.typeIn K (.ref fI) = some (.type "function")
  cold : FnOk P w K mg base (L2.CX P w) 1 fI fd ps (spS K C ps t)
  hot : L2H.FnH P w K mg base (L2.CX P w) 1 fI fd ps (spS K C ps t)
  bd : Binds K fd ps []
theorem sup_ok (S : SupScope ps sc) (T : ∃ cc cda, SupAt K C fI cc cda q params (st :: rest) sc fd) (iC : PySem.W.findIn K (.ref C) "__init__" = some (some (.ref fI))) (tI : PySem.W.typeIn K (.ref fI) = some (.type "function")) (mgS : mg "super" = none) (hfile : P.main.file = ("/claim/cut.py" : Str)) (htop : (P.main.scope.names.lookup ("super" : Str)).isSome = false) (SL : SupLine q sc st p0 p1 p2 p3 p4 p5 tx j)
    (hp : (params.posonlyargs ++ params.args).head? = some ar) (har : ps[0]? = some ar.arg) (hrest : SupRest ps q sc rest t) (hbd : ∀ (cl : List (Str × Addr)) (kV doc pm : Value) (an : Option Addr) (cdv ct : Value) (us : List Value), us.length = ps.length → bindArgs (PySem.W.fnX "__init__" q params (st :: rest) sc cl .none kV doc pm an cdv ct) ⟨us, []⟩ = pure (ps.zip us)) :
    SupOk P w K mg base C fI fd ps t := by
  obtain ⟨cc, cda, T⟩ := T
  refine ⟨T.oex, iC, tI, ⟨fun vs H Q E h => spS_len h, fun A outer s H args us vs Q E hr e0 hb r h => ?_⟩, ⟨fun vs H Q E h => spS_len h, fun A outer s H args us vs Q E p hr hot hpin e0 hb r h => ?_⟩, ?_⟩
  · exact sup_run S T mgS hfile htop SL hp har hrest (pl := []) hr.depth (fun p hp => absurd hp (by simp)) e0 hb r h
  · exact sup_run S T mgS hfile htop SL hp har hrest (pl := [p]) hr.depth (fun p' hp' => by rw [List.mem_singleton.mp hp']; exact hpin) e0 hb r h
  · obtain ⟨oc, od, kV, doc, pm, an, ct, osl, efd, hf⟩ := T.fn
    rw [efd]
    exact .all (hbd _ _ _ _ _ _ _)
end
end Bm
set_option Elab.async false
set_option linter.all false
set_option maxRecDepth 100000
set_option maxHeartbeats 4000000
/-! The errors of the program: how they are made and raised, in short. -/
namespace Bm
open PySem PySem.Spec PyProof.Rows L2
/-- C(e, ..): the values become the new error's fields -/
def tErr (C : Addr) (n : Nat) (mk : List V → List (Str × V)) (ta : TA) : L2.St → Hp → XK → Prop := fun σ H Q => ta σ H fun vs H1 => vs.length = n ∧ ∀ d, H1 d = none → Q (.ref C) (some d) (upd H1 d (.xd (mk vs)))
/-- one field, two fields -/
def tOne (K : PySem.W.Frag) (f : Str) : TS := tOst K f (tVar 0) (tVar 1)
def tTwo (K : PySem.W.Frag) (f g : Str) : TS := tSeq (tOst K f (tVar 0) (tVar 1)) (tOst K g (tVar 0) (tVar 2))
def mkOne (f : Str) : List V → List (Str × V)
  | [v] => [(f, v)]
  | _ => []
def mkTwo (f g : Str) : List V → List (Str × V)
  | [v, u] => [(g, u), (f, v)]
  | _ => []
theorem heap_end {H1 : Hp} {a d : Addr} {o1 o2 o3 o4 : HO} (ha : H1 a = none) (hda : d ≠ a) : upd (del (upd (upd (upd H1 a o1) d o2) a o3) a) d o4 = upd H1 d o4 := by
  funext b
  by_cases hd : b = d
  · rw [hd, upd_same, upd_same]
  · rw [upd_ne hd, upd_ne hd]
    by_cases hb : b = a
    · rw [hb, del_same, ha]
    · rw [del_ne hb, upd_ne hb, upd_ne hd, upd_ne hb]
theorem heap_end2 {H1 : Hp} {a d : Addr} {o1 o2 o3 o4 o5 : HO} (ha : H1 a = none) (hda : d ≠ a) : upd (del (upd (upd (upd (upd H1 a o1) d o2) a o3) d o5) a) d o4 = upd H1 d o4 := by
  funext b
  by_cases hd : b = d
  · rw [hd, upd_same, upd_same]
  · rw [upd_ne hd, upd_ne hd]
    by_cases hb : b = a
    · rw [hb, del_same, ha]
    · rw [del_ne hb, upd_ne hd, upd_ne hb, upd_ne hd, upd_ne hb]
/-- what such a promise gives: the reading of the made error -/
def Gives (K : PySem.W.Frag) (C : Addr) (ps : List Str) (t : PySem.W.Frag → TS) (n : Nat) (mk : List V → List (Str × V)) : Prop := ∀ (vs : List V) (H1 : Hp) (Q : XK) (a : Addr), vs.length = n → H1 a = none → (∀ d, H1 d = none → Q (.ref C) (some d) (upd H1 d (.xd (mk vs)))) →
  spS K C ps t (.ref a :: vs) (upd H1 a (exo a C none)) (fun v H2 => v = .non ∧ ∃ (d : Addr) (fs : List (Str × V)), H2 a = some (exo a C (some d)) ∧ H2 d = some (exd d fs) ∧ H1 d = none ∧ Q (.ref C) (some d) (upd (del H2 a) d (.xd fs))) (fun _ _ _ => False)
theorem gives_one {K : PySem.W.Frag} {C : Addr} {p0 f : Str} (O : OexC K C) (hf : PySem.W.findIn K (.ref C) f = some none) : Gives K C [p0, f] (fun K => tOne K f) 1 (mkOne f) := by
  intro vs H1 Q a hl ha hq
  match vs, hl with
  | [v], _ =>
    refine ⟨a, [v], rfl, rfl, upd_same, v, rfl, .ref a, rfl, a, C, rfl, O, hf, .inl ⟨upd_same, fun d hd hne => ⟨rfl, d, [(f, v)], upd_same, by rw [upd_ne hne]; exact upd_same, ?_, ?_⟩⟩⟩
    · rw [upd_ne hne] at hd
      exact hd
    · rw [upd_ne hne] at hd
      rw [heap_end ha hne]
      exact hq d hd
theorem gives_two {K : PySem.W.Frag} {C : Addr} {p0 f g : Str} (O : OexC K C) (hf : PySem.W.findIn K (.ref C) f = some none) (hg : PySem.W.findIn K (.ref C) g = some none) : Gives K C [p0, f, g] (fun K => tTwo K f g) 2 (mkTwo f g) := by
  intro vs H1 Q a hl ha hq
  match vs, hl with
  | [v, u], _ =>
    refine ⟨a, [v, u], rfl, rfl, upd_same, v, rfl, .ref a, rfl, a, C, rfl, O, hf, .inl ⟨upd_same, fun d hd hne => ?_⟩⟩
    refine ⟨u, rfl, .ref a, rfl, a, C, rfl, O, hg, .inr ⟨d, [(f, v)], upd_same, by rw [upd_ne hne]; exact upd_same, by show 1 ≤ 900; decide, ⟨rfl, d, [(g, u), (f, v)], by rw [upd_ne (Ne.symm hne)]; exact upd_same, upd_same, ?_, ?_⟩⟩⟩
    · rw [upd_ne hne] at hd
      exact hd
    · rw [upd_ne hne] at hd
      rw [heap_end2 ha hne]
      exact hq d hd
/-! ### made -/
section
variable {X : Cx} {x : Str} {e : Expr} {es : List Expr} {ta : TA} {p pos : Pos} {C fI : Addr} {fd : FuncData} {ps : List Str} {t : PySem.W.Frag → TS} {n : Nat} {mk : List V → List (Str × V)}
theorem passN0 : Passes (L2.CX X.prog X.w) X (fun _ _ _ => False) := passL
/-- C(e, ..) where nothing is handled -/
theorem pmkN (S : SupOk X.prog X.w X.K X.mg X.base C fI fd ps t) (G : Gives X.K C ps t n mk) (hn : n ≤ 1000) (hr : Room 2 X.A) (hg : Gl X x) (hm : X.mg x = some (.ref C)) (ha : PA X (e :: es) ta)
    (hdb : (x == ("__debug__" : Str)) = false := by decide) (he : starEach (e :: es) X.env = (false, eval e X.env) :: starEach es X.env := by rfl) (hpl : (backTo pos (starEach es X.env)).any (·.1) = false := by rfl) :
    L2N.PMk X (.Call (.Name x p) (e :: es) [] pos) (tErr C n mk ta) := by
  intro pins s σ H Q I h
  have T := S.oex
  obtain ⟨nm, q, N, bs, bm, sn, sub, ab, col, dd, k0, k1, k2, k3, k5, hC, hbm⟩ := T.cls
  refine wpAny_Call_Name_kw (ld_glob I hg hm ?_ hdb)
  refine PySem.W.callWith_K (h₀ := X.base) I.ok.mod.kin T.kC (thn (ha.run pos pins s σ H _ I h) fun us s1 hh => ?_) he hpl
  obtain ⟨vs, H1, I1, r1, hz, q1⟩ := hh
  refine ⟨I1.kIn, ?_⟩
  show wpAny _ _ (call (.ref C) us) _ _ _
  obtain ⟨hp, g, dr, tk, os⟩ := s1
  have hup : hp.objs.size ≤ hp.objs.size + 1 := Nat.le_succ _
  have hfr : H1 (hp.objs.size + 1) = none := I1.hok.fresh hup
  have hq := G vs H1 Q (hp.objs.size + 1) hz hfr q1
  have keeps2 : ∀ b o, hp.get? b = some o → ((hp.push (PySem.W.kdv_tup us)).push (PySem.HandSPX.excO C hp.objs.size)).get? b = some o := fun b o z => Heap.get?_push_of_some _ (Heap.get?_push_of_some _ z)
  have hnew : ((hp.push (PySem.W.kdv_tup us)).push (PySem.HandSPX.excO C hp.objs.size)).get? (hp.objs.size + 1) = some (PySem.HandSPX.excO C hp.objs.size) := by heap_get
  have I2 : Inv X pins σ (upd H1 (hp.objs.size + 1) (exo (hp.objs.size + 1) C none)) ⟨(hp.push (PySem.W.kdv_tup us)).push (PySem.HandSPX.excO C hp.objs.size), g, dr, tk, os⟩ :=
    I1.laid (t' := tk) (a := hp.objs.size + 1) (o := exo (hp.objs.size + 1) C none) (h' := (hp.push (PySem.W.kdv_tup us)).push (PySem.HandSPX.excO C hp.objs.size)) keeps2 hup (exo_ok hnew)
  have r2 : Vals (V.ref (hp.objs.size + 1) :: vs) (Value.ref (hp.objs.size + 1) :: us) := .cons rfl r1
  have hl : (Value.ref (hp.objs.size + 1) :: us ++ []).length = ps.length := by
    rw [List.append_nil]
    exact r2.length.symm.trans (S.cold.len _ _ _ _ hq)
  have hus : us.length ≤ sizeLine := by
    rw [← Paired.length r1, sizeLine_eq]
    omega
  have b2 := S.bd _ (Value.ref (hp.objs.size + 1) :: us) I2.kIn hl
  rw [List.append_nil] at b2
  refine wpAny_call (PySem.HandSPX.call_own F.excBase_ValueError (fun Y => PySem.HandSPX.refsVE_contains Y bm hbm) (I1.kIn _ _ hC) (PySem.W.looks_findIn I1.kIn S.at_) (fun self => PySem.W.bind_fn I1.kIn self S.ty) hus
    (codeAny_mono (S.cold.run _ X.stack _ _ ⟨Value.ref (hp.objs.size + 1) :: us, []⟩ (Value.ref (hp.objs.size + 1) :: us) _ _ (fun _ _ _ => False) (hr.make C us []) (I2.env0.make C us []) b2 r2 hq) fun r s' hq' => ?_))
  cases r with
  | error er => exact passN0 pins σ _ _ er s' I2 hq'
  | ok fl =>
    cases fl with
    | ret u =>
      obtain ⟨v, H2, os2, bare2, un2, hok2, rv, ev, d, fs, ea, ed, hd1, q2⟩ := hq'
      subst ev
      obtain ⟨h2, g2, d2, t2, os'⟩ := s'
      obtain ⟨t0, G', J, kG, ge, hoe, na⟩ := mk_end0 (d2 := d2) (t2 := t2) I1 hup keeps2 un2 hok2 os2 bare2 ea ed hd1
      exact ⟨rv, hp.objs.size + 1, _, _, ⟨G', g2, d2, t2, os'⟩, _, .ref C, some d, rfl, J, kG, ge, hoe, ⟨rfl, rfl, fun vs hv => by cases hv; rfl⟩, rfl, rfl, na, rfl, bare2, raises_own T.exC T.tyC, q2⟩
    | next => exact False.elim hq'
    | brk => exact False.elim hq'
    | cont => exact False.elim hq'
/-- arguments' reading, closed under what it leaves -/
def upA (ta : TA) : TA := fun σ H Q => ∃ Q' : List V → Hp → Prop, ta σ H Q' ∧ ∀ vs H1, Q' vs H1 → Q vs H1
theorem pa_up {es : List Expr} (h : PA X es ta) : PA X es (upA ta) := ⟨fun pos pins s σ H Q I ⟨Q', q, im⟩ => thn (h.run pos pins s σ H Q' I q) fun us s1 ⟨vs, H1, I1, r, z⟩ => ⟨vs, H1, I1, r, im vs H1 z⟩⟩
/-- C(e, ..) in an except suite -/
theorem pmkH (S : SupOk X.prog X.w X.K X.mg X.base C fI fd ps t) (G : Gives X.K C ps t n mk) (hn : n ≤ 1000) (hr : L2H.RoomH 2 X.A) (hc : L2H.HotC X) (hg : Gl X x) (hm : X.mg x = some (.ref C)) (ha : PA X (e :: es) ta)
    (hdb : (x == ("__debug__" : Str)) = false := by decide) (he : starEach (e :: es) X.env = (false, eval e X.env) :: starEach es X.env := by rfl) (hpl : (backTo pos (starEach es X.env)).any (·.1) = false := by rfl) :
    L2H.PMk5 X (.Call (.Name x p) (e :: es) [] pos) (tErr C n mk ta) := fun pins s σ H Q I h =>
  L2H.pmk5_oexH S.oex S.at_ S.ty S.hot hr hc S.bd passN0 hg hm (pa_up ha) hdb he hpl pins s σ H Q I ⟨_, h, fun vs H1 ⟨hl, hq⟩ => ⟨by omega, fun a ha1 => by
    rw [List.append_nil]
    exact G vs H1 Q a hl ha1 hq⟩⟩
/-- C(), C a bare class -/
theorem pmk0 {bmB : List Value} {B newId initId : String} (F : ExcBaseFacts B newId initId bmB) (q : PySem.W.excIn X.K C bmB newId = true) (gC : X.mg x = some (.ref C)) (kC : PySem.W.keepIn X.K (.ref C) = true) (r : Raises X (.ref C)) (hg : Gl X x)
    (hdb : (x == ("__debug__" : Str)) = false := by decide) : L2N.PMk X (.Call (.Name x p) [] [] pos) (fun _ H Q => Q (.ref C) none H) := by
  intro pins s σ H Q I h
  refine wpAny_Call_Name_kw (ld_glob I hg gC ?_ hdb)
  refine PySem.W.callWith_K0 I.kIn kC ?_
  show wpAny _ _ (call (.ref C) []) _ _ _
  obtain ⟨bm, N, nm, qn, bs, hdct, sn, sub, ab, col, dd, k0, k1, k2, k3, k5, mN, hC, hN, hni, T⟩ := exc_obj I.kIn q
  exact wpAny_call_exc_subT F T hC hN hni (fun h' e hm => L2N.mk_of I hm r h (I.hok.gone hm.new)) (by rw [sizeLine_eq]; exact Nat.zero_le _)
/-- a statement that is never reached -/
theorem ps_never {st : Stmt} : PS X st (fun _ _ _ => False) := ⟨fun _ _ _ _ _ _ h => h.elim⟩
theorem pss_never {st : List Stmt} : PSs X st (fun _ _ _ => False) := ⟨fun _ _ _ _ _ _ h => h.elim⟩
/-- what a callee lets out, taken by one who asks less -/
theorem cx_NL {P : Program} {w : World} {outer : List Env} {H : Hp} {s s' : Shared} {E : XK} {u : Value} (c : L2N.CX P w outer H s E u s') : L2.CX P w outer H s E u s' := by
  obtain ⟨a, B, H', cls, d, e1, fl, r⟩ := c
  exact ⟨a, B, H', cls, d, e1, L2H.flyingZ_imp (fun o z => z.zc) fl, r⟩
theorem atN {W : WX} (tk : L2N.Takes X W) (σ : L2.St) : PassesAt (L2N.CX X.prog X.w) X σ (WE W σ) := L2N.passAt tk σ
theorem atL {W : WX} (tk : L2.Takes X W) (σ : L2.St) : PassesAt (L2N.CX X.prog X.w) X σ (WE W σ) := fun pins H s e s' I c => L2.passAt tk σ pins H s e s' I (cx_NL c)
theorem atLL {W : WX} (tk : L2.Takes X W) (σ : L2.St) : PassesAt (L2.CX X.prog X.w) X σ (WE W σ) := L2.passAt tk σ
abbrev W0 : WX := fun _ _ _ _ => False
theorem takesN0 : L2N.Takes X W0 := fun _ _ x => by
  obtain ⟨_, _, _, _, _, _, _, _, _, _, _, _, _, _, _, _, z⟩ := x
  exact z.elim
end
end Bm
set_option Elab.async false
set_option linter.all false
set_option maxRecDepth 100000
set_option maxHeartbeats 4000000
/-! The program's errors: each class's __init__ walked; the rules for its raise (printed by gen_err.py). -/
namespace Bm
open PySem PySem.Spec PyProof.Rows L2
/-- what all walks lean on: the heap behind the top, the program's file and names -/
structure Wx (P : Program) (K : PySem.W.Frag) (mg : Str → Option Value) : Prop extends Tx K mg where
  file : P.main.file = ("/claim/cut.py" : Str)
  noSup : (P.main.scope.names.lookup ("super" : Str)).isSome = false
/-- a raise statement's context: errors leave, nothing is handled, there is room -/
structure Rs (X : Cx) (W : WX) : Prop where
  wx : Wx X.prog X.K X.mg
  calm : X.calm = true
  tk : L2N.Takes X W
  rm : Room 2 X.A
section
variable {P : Program} {w : World} {K : PySem.W.Frag} {mg : Str → Option Value} {base : Heap} {X : Cx} {W : WX}
theorem ssc_BadStrand : SupScope ["self", "at"] xBadStrand_init.scope := ⟨rfl, rfl, rfl, by decide +kernel, by decide +kernel, by decide +kernel, by decide +kernel, rfl, rfl⟩
theorem sok_BadStrand (T : Wx P K mg) : SupOk P w K mg base (He.ga K "BadStrand") (He.ma K (He.ga K "BadStrand") "__init__") (fdOf K (He.ma K (He.ga K "BadStrand") "__init__")) ["self", "at"] (fun K => tOne K "at") := by
  obtain ⟨ok, e⟩ := T.toTx.d_BadStrand_init
  obtain ⟨h, KI, G⟩ := T.toTx.at_
  obtain ⟨A, i1, i2⟩ := supAt_of (c := "BadStrand") (d := xBadStrand_init) e ok rfl rfl rfl rfl T.toTx.su_BadStrand T.toTx.oS_BadStrand T.toTx.third
  exact sup_ok ssc_BadStrand A i1 i2 T.toTx.f_super T.file T.noSup ⟨rfl, fun _ _ _ _ => rfl, fun _ _ _ _ => rfl, fun _ _ _ _ => ⟨_, rfl⟩⟩ rfl rfl (fun _ _ _ _ _ _ _ _ _ _ _ _ _ _ _ => pss_one (ps_ost (pv 0) (pv 1))) (fun _ _ _ _ _ _ _ us hl => match us, hl with | [_, _], _ => rfl)
theorem giv_BadStrand (T : Wx P K mg) : Gives K (He.ga K "BadStrand") ["self", "at"] (fun K => tOne K "at") 1 (mkOne "at") := gives_one T.toTx.oS_BadStrand T.toTx.n_BadStrand_at
theorem r_BadStrand {e : Expr} {es : List Expr} {ta : TA} {p q pos : Pos} (R : Rs X W) (hg : Gl X "BadStrand") (ha : PA X (e :: es) ta) (he : starEach (e :: es) X.env = (false, eval e X.env) :: starEach es X.env := by rfl) (hpl : (backTo q (starEach es X.env)).any (·.1) = false := by rfl) :
    PS X (.Raise (some (.Call (.Name "BadStrand" p) (e :: es) [] q)) none pos) (fun _ σ H => tErr (He.ga X.K "BadStrand") 1 (mkOne "at") ta σ H fun cls d H' => W cls d σ H') :=
  L2N.ps_raise R.calm R.tk (pmkN (sok_BadStrand R.wx) (giv_BadStrand R.wx) (by decide) R.rm hg R.wx.toTx.g_BadStrand ha (by decide) he hpl)
theorem ssc_BadKind : SupScope ["self", "kind"] xBadKind_init.scope := ⟨rfl, rfl, rfl, by decide +kernel, by decide +kernel, by decide +kernel, by decide +kernel, rfl, rfl⟩
theorem sok_BadKind (T : Wx P K mg) : SupOk P w K mg base (He.ga K "BadKind") (He.ma K (He.ga K "BadKind") "__init__") (fdOf K (He.ma K (He.ga K "BadKind") "__init__")) ["self", "kind"] (fun K => tOne K "kind") := by
  obtain ⟨ok, e⟩ := T.toTx.d_BadKind_init
  obtain ⟨h, KI, G⟩ := T.toTx.at_
  obtain ⟨A, i1, i2⟩ := supAt_of (c := "BadKind") (d := xBadKind_init) e ok rfl rfl rfl rfl T.toTx.su_BadKind T.toTx.oS_BadKind T.toTx.third
  exact sup_ok ssc_BadKind A i1 i2 T.toTx.f_super T.file T.noSup ⟨rfl, fun _ _ _ _ => rfl, fun _ _ _ _ => rfl, fun _ _ _ _ => ⟨_, rfl⟩⟩ rfl rfl (fun _ _ _ _ _ _ _ _ _ _ _ _ _ _ _ => pss_one (ps_ost (pv 0) (pv 1))) (fun _ _ _ _ _ _ _ us hl => match us, hl with | [_, _], _ => rfl)
theorem giv_BadKind (T : Wx P K mg) : Gives K (He.ga K "BadKind") ["self", "kind"] (fun K => tOne K "kind") 1 (mkOne "kind") := gives_one T.toTx.oS_BadKind T.toTx.n_BadKind_kind
theorem r_BadKind {e : Expr} {es : List Expr} {ta : TA} {p q pos : Pos} (R : Rs X W) (hg : Gl X "BadKind") (ha : PA X (e :: es) ta) (he : starEach (e :: es) X.env = (false, eval e X.env) :: starEach es X.env := by rfl) (hpl : (backTo q (starEach es X.env)).any (·.1) = false := by rfl) :
    PS X (.Raise (some (.Call (.Name "BadKind" p) (e :: es) [] q)) none pos) (fun _ σ H => tErr (He.ga X.K "BadKind") 1 (mkOne "kind") ta σ H fun cls d H' => W cls d σ H') :=
  L2N.ps_raise R.calm R.tk (pmkN (sok_BadKind R.wx) (giv_BadKind R.wx) (by decide) R.rm hg R.wx.toTx.g_BadKind ha (by decide) he hpl)
theorem ssc_BadPrice : SupScope ["self", "word"] xBadPrice_init.scope := ⟨rfl, rfl, rfl, by decide +kernel, by decide +kernel, by decide +kernel, by decide +kernel, rfl, rfl⟩
theorem sok_BadPrice (T : Wx P K mg) : SupOk P w K mg base (He.ga K "BadPrice") (He.ma K (He.ga K "BadPrice") "__init__") (fdOf K (He.ma K (He.ga K "BadPrice") "__init__")) ["self", "word"] (fun K => tOne K "word") := by
  obtain ⟨ok, e⟩ := T.toTx.d_BadPrice_init
  obtain ⟨h, KI, G⟩ := T.toTx.at_
  obtain ⟨A, i1, i2⟩ := supAt_of (c := "BadPrice") (d := xBadPrice_init) e ok rfl rfl rfl rfl T.toTx.su_BadPrice T.toTx.oS_BadPrice T.toTx.third
  exact sup_ok ssc_BadPrice A i1 i2 T.toTx.f_super T.file T.noSup ⟨rfl, fun _ _ _ _ => rfl, fun _ _ _ _ => rfl, fun _ _ _ _ => ⟨_, rfl⟩⟩ rfl rfl (fun _ _ _ _ _ _ _ _ _ _ _ _ _ _ _ => pss_one (ps_ost (pv 0) (pv 1))) (fun _ _ _ _ _ _ _ us hl => match us, hl with | [_, _], _ => rfl)
theorem giv_BadPrice (T : Wx P K mg) : Gives K (He.ga K "BadPrice") ["self", "word"] (fun K => tOne K "word") 1 (mkOne "word") := gives_one T.toTx.oS_BadPrice T.toTx.n_BadPrice_word
theorem r_BadPrice {e : Expr} {es : List Expr} {ta : TA} {p q pos : Pos} (R : Rs X W) (hg : Gl X "BadPrice") (ha : PA X (e :: es) ta) (he : starEach (e :: es) X.env = (false, eval e X.env) :: starEach es X.env := by rfl) (hpl : (backTo q (starEach es X.env)).any (·.1) = false := by rfl) :
    PS X (.Raise (some (.Call (.Name "BadPrice" p) (e :: es) [] q)) none pos) (fun _ σ H => tErr (He.ga X.K "BadPrice") 1 (mkOne "word") ta σ H fun cls d H' => W cls d σ H') :=
  L2N.ps_raise R.calm R.tk (pmkN (sok_BadPrice R.wx) (giv_BadPrice R.wx) (by decide) R.rm hg R.wx.toTx.g_BadPrice ha (by decide) he hpl)
theorem ssc_NoSuchBead : SupScope ["self", "bead"] xNoSuchBead_init.scope := ⟨rfl, rfl, rfl, by decide +kernel, by decide +kernel, by decide +kernel, by decide +kernel, rfl, rfl⟩
theorem sok_NoSuchBead (T : Wx P K mg) : SupOk P w K mg base (He.ga K "NoSuchBead") (He.ma K (He.ga K "NoSuchBead") "__init__") (fdOf K (He.ma K (He.ga K "NoSuchBead") "__init__")) ["self", "bead"] (fun K => tOne K "bead") := by
  obtain ⟨ok, e⟩ := T.toTx.d_NoSuchBead_init
  obtain ⟨h, KI, G⟩ := T.toTx.at_
  obtain ⟨A, i1, i2⟩ := supAt_of (c := "NoSuchBead") (d := xNoSuchBead_init) e ok rfl rfl rfl rfl T.toTx.su_NoSuchBead T.toTx.oS_NoSuchBead T.toTx.third
  exact sup_ok ssc_NoSuchBead A i1 i2 T.toTx.f_super T.file T.noSup ⟨rfl, fun _ _ _ _ => rfl, fun _ _ _ _ => rfl, fun _ _ _ _ => ⟨_, rfl⟩⟩ rfl rfl (fun _ _ _ _ _ _ _ _ _ _ _ _ _ _ _ => pss_one (ps_ost (pv 0) (pv 1))) (fun _ _ _ _ _ _ _ us hl => match us, hl with | [_, _], _ => rfl)
theorem giv_NoSuchBead (T : Wx P K mg) : Gives K (He.ga K "NoSuchBead") ["self", "bead"] (fun K => tOne K "bead") 1 (mkOne "bead") := gives_one T.toTx.oS_NoSuchBead T.toTx.n_NoSuchBead_bead
theorem r_NoSuchBead {e : Expr} {es : List Expr} {ta : TA} {p q pos : Pos} (R : Rs X W) (hg : Gl X "NoSuchBead") (ha : PA X (e :: es) ta) (he : starEach (e :: es) X.env = (false, eval e X.env) :: starEach es X.env := by rfl) (hpl : (backTo q (starEach es X.env)).any (·.1) = false := by rfl) :
    PS X (.Raise (some (.Call (.Name "NoSuchBead" p) (e :: es) [] q)) none pos) (fun _ σ H => tErr (He.ga X.K "NoSuchBead") 1 (mkOne "bead") ta σ H fun cls d H' => W cls d σ H') :=
  L2N.ps_raise R.calm R.tk (pmkN (sok_NoSuchBead R.wx) (giv_NoSuchBead R.wx) (by decide) R.rm hg R.wx.toTx.g_NoSuchBead ha (by decide) he hpl)
theorem ssc_GoneBead : SupScope ["self", "bead"] xGoneBead_init.scope := ⟨rfl, rfl, rfl, by decide +kernel, by decide +kernel, by decide +kernel, by decide +kernel, rfl, rfl⟩
theorem sok_GoneBead (T : Wx P K mg) : SupOk P w K mg base (He.ga K "GoneBead") (He.ma K (He.ga K "GoneBead") "__init__") (fdOf K (He.ma K (He.ga K "GoneBead") "__init__")) ["self", "bead"] (fun K => tOne K "bead") := by
  obtain ⟨ok, e⟩ := T.toTx.d_GoneBead_init
  obtain ⟨h, KI, G⟩ := T.toTx.at_
  obtain ⟨A, i1, i2⟩ := supAt_of (c := "GoneBead") (d := xGoneBead_init) e ok rfl rfl rfl rfl T.toTx.su_GoneBead T.toTx.oS_GoneBead T.toTx.third
  exact sup_ok ssc_GoneBead A i1 i2 T.toTx.f_super T.file T.noSup ⟨rfl, fun _ _ _ _ => rfl, fun _ _ _ _ => rfl, fun _ _ _ _ => ⟨_, rfl⟩⟩ rfl rfl (fun _ _ _ _ _ _ _ _ _ _ _ _ _ _ _ => pss_one (ps_ost (pv 0) (pv 1))) (fun _ _ _ _ _ _ _ us hl => match us, hl with | [_, _], _ => rfl)
theorem giv_GoneBead (T : Wx P K mg) : Gives K (He.ga K "GoneBead") ["self", "bead"] (fun K => tOne K "bead") 1 (mkOne "bead") := gives_one T.toTx.oS_GoneBead T.toTx.n_GoneBead_bead
theorem r_GoneBead {e : Expr} {es : List Expr} {ta : TA} {p q pos : Pos} (R : Rs X W) (hg : Gl X "GoneBead") (ha : PA X (e :: es) ta) (he : starEach (e :: es) X.env = (false, eval e X.env) :: starEach es X.env := by rfl) (hpl : (backTo q (starEach es X.env)).any (·.1) = false := by rfl) :
    PS X (.Raise (some (.Call (.Name "GoneBead" p) (e :: es) [] q)) none pos) (fun _ σ H => tErr (He.ga X.K "GoneBead") 1 (mkOne "bead") ta σ H fun cls d H' => W cls d σ H') :=
  L2N.ps_raise R.calm R.tk (pmkN (sok_GoneBead R.wx) (giv_GoneBead R.wx) (by decide) R.rm hg R.wx.toTx.g_GoneBead ha (by decide) he hpl)
theorem ssc_EndBead : SupScope ["self", "bead"] xEndBead_init.scope := ⟨rfl, rfl, rfl, by decide +kernel, by decide +kernel, by decide +kernel, by decide +kernel, rfl, rfl⟩
theorem sok_EndBead (T : Wx P K mg) : SupOk P w K mg base (He.ga K "EndBead") (He.ma K (He.ga K "EndBead") "__init__") (fdOf K (He.ma K (He.ga K "EndBead") "__init__")) ["self", "bead"] (fun K => tOne K "bead") := by
  obtain ⟨ok, e⟩ := T.toTx.d_EndBead_init
  obtain ⟨h, KI, G⟩ := T.toTx.at_
  obtain ⟨A, i1, i2⟩ := supAt_of (c := "EndBead") (d := xEndBead_init) e ok rfl rfl rfl rfl T.toTx.su_EndBead T.toTx.oS_EndBead T.toTx.third
  exact sup_ok ssc_EndBead A i1 i2 T.toTx.f_super T.file T.noSup ⟨rfl, fun _ _ _ _ => rfl, fun _ _ _ _ => rfl, fun _ _ _ _ => ⟨_, rfl⟩⟩ rfl rfl (fun _ _ _ _ _ _ _ _ _ _ _ _ _ _ _ => pss_one (ps_ost (pv 0) (pv 1))) (fun _ _ _ _ _ _ _ us hl => match us, hl with | [_, _], _ => rfl)
theorem giv_EndBead (T : Wx P K mg) : Gives K (He.ga K "EndBead") ["self", "bead"] (fun K => tOne K "bead") 1 (mkOne "bead") := gives_one T.toTx.oS_EndBead T.toTx.n_EndBead_bead
theorem r_EndBead {e : Expr} {es : List Expr} {ta : TA} {p q pos : Pos} (R : Rs X W) (hg : Gl X "EndBead") (ha : PA X (e :: es) ta) (he : starEach (e :: es) X.env = (false, eval e X.env) :: starEach es X.env := by rfl) (hpl : (backTo q (starEach es X.env)).any (·.1) = false := by rfl) :
    PS X (.Raise (some (.Call (.Name "EndBead" p) (e :: es) [] q)) none pos) (fun _ σ H => tErr (He.ga X.K "EndBead") 1 (mkOne "bead") ta σ H fun cls d H' => W cls d σ H') :=
  L2N.ps_raise R.calm R.tk (pmkN (sok_EndBead R.wx) (giv_EndBead R.wx) (by decide) R.rm hg R.wx.toTx.g_EndBead ha (by decide) he hpl)
theorem ssc_BadCoins : SupScope ["self", "coins"] xBadCoins_init.scope := ⟨rfl, rfl, rfl, by decide +kernel, by decide +kernel, by decide +kernel, by decide +kernel, rfl, rfl⟩
theorem sok_BadCoins (T : Wx P K mg) : SupOk P w K mg base (He.ga K "BadCoins") (He.ma K (He.ga K "BadCoins") "__init__") (fdOf K (He.ma K (He.ga K "BadCoins") "__init__")) ["self", "coins"] (fun K => tOne K "coins") := by
  obtain ⟨ok, e⟩ := T.toTx.d_BadCoins_init
  obtain ⟨h, KI, G⟩ := T.toTx.at_
  obtain ⟨A, i1, i2⟩ := supAt_of (c := "BadCoins") (d := xBadCoins_init) e ok rfl rfl rfl rfl T.toTx.su_BadCoins T.toTx.oS_BadCoins T.toTx.third
  exact sup_ok ssc_BadCoins A i1 i2 T.toTx.f_super T.file T.noSup ⟨rfl, fun _ _ _ _ => rfl, fun _ _ _ _ => rfl, fun _ _ _ _ => ⟨_, rfl⟩⟩ rfl rfl (fun _ _ _ _ _ _ _ _ _ _ _ _ _ _ _ => pss_one (ps_ost (pv 0) (pv 1))) (fun _ _ _ _ _ _ _ us hl => match us, hl with | [_, _], _ => rfl)
theorem giv_BadCoins (T : Wx P K mg) : Gives K (He.ga K "BadCoins") ["self", "coins"] (fun K => tOne K "coins") 1 (mkOne "coins") := gives_one T.toTx.oS_BadCoins T.toTx.n_BadCoins_coins
theorem r_BadCoins {e : Expr} {es : List Expr} {ta : TA} {p q pos : Pos} (R : Rs X W) (hg : Gl X "BadCoins") (ha : PA X (e :: es) ta) (he : starEach (e :: es) X.env = (false, eval e X.env) :: starEach es X.env := by rfl) (hpl : (backTo q (starEach es X.env)).any (·.1) = false := by rfl) :
    PS X (.Raise (some (.Call (.Name "BadCoins" p) (e :: es) [] q)) none pos) (fun _ σ H => tErr (He.ga X.K "BadCoins") 1 (mkOne "coins") ta σ H fun cls d H' => W cls d σ H') :=
  L2N.ps_raise R.calm R.tk (pmkN (sok_BadCoins R.wx) (giv_BadCoins R.wx) (by decide) R.rm hg R.wx.toTx.g_BadCoins ha (by decide) he hpl)
theorem ssc_NoCoins : SupScope ["self", "price", "coins"] xNoCoins_init.scope := ⟨rfl, rfl, rfl, by decide +kernel, by decide +kernel, by decide +kernel, by decide +kernel, rfl, rfl⟩
theorem sok_NoCoins (T : Wx P K mg) : SupOk P w K mg base (He.ga K "NoCoins") (He.ma K (He.ga K "NoCoins") "__init__") (fdOf K (He.ma K (He.ga K "NoCoins") "__init__")) ["self", "price", "coins"] (fun K => tTwo K "price" "coins") := by
  obtain ⟨ok, e⟩ := T.toTx.d_NoCoins_init
  obtain ⟨h, KI, G⟩ := T.toTx.at_
  obtain ⟨A, i1, i2⟩ := supAt_of (c := "NoCoins") (d := xNoCoins_init) e ok rfl rfl rfl rfl T.toTx.su_NoCoins T.toTx.oS_NoCoins T.toTx.third
  exact sup_ok ssc_NoCoins A i1 i2 T.toTx.f_super T.file T.noSup ⟨rfl, fun _ _ _ _ => rfl, fun _ _ _ _ => rfl, fun _ _ _ _ => ⟨_, rfl⟩⟩ rfl rfl (fun _ _ _ _ _ _ _ _ _ _ _ _ _ _ _ => pss_cons (ps_ost (pv 0) (pv 1)) (pss_one (ps_ost (pv 0) (pv 2)))) (fun _ _ _ _ _ _ _ us hl => match us, hl with | [_, _, _], _ => rfl)
theorem giv_NoCoins (T : Wx P K mg) : Gives K (He.ga K "NoCoins") ["self", "price", "coins"] (fun K => tTwo K "price" "coins") 2 (mkTwo "price" "coins") := gives_two T.toTx.oS_NoCoins T.toTx.n_NoCoins_price T.toTx.n_NoCoins_coins
theorem r_NoCoins {e : Expr} {es : List Expr} {ta : TA} {p q pos : Pos} (R : Rs X W) (hg : Gl X "NoCoins") (ha : PA X (e :: es) ta) (he : starEach (e :: es) X.env = (false, eval e X.env) :: starEach es X.env := by rfl) (hpl : (backTo q (starEach es X.env)).any (·.1) = false := by rfl) :
    PS X (.Raise (some (.Call (.Name "NoCoins" p) (e :: es) [] q)) none pos) (fun _ σ H => tErr (He.ga X.K "NoCoins") 2 (mkTwo "price" "coins") ta σ H fun cls d H' => W cls d σ H') :=
  L2N.ps_raise R.calm R.tk (pmkN (sok_NoCoins R.wx) (giv_NoCoins R.wx) (by decide) R.rm hg R.wx.toTx.g_NoCoins ha (by decide) he hpl)
theorem ssc_BadName : SupScope ["self", "name"] xBadName_init.scope := ⟨rfl, rfl, rfl, by decide +kernel, by decide +kernel, by decide +kernel, by decide +kernel, rfl, rfl⟩
theorem sok_BadName (T : Wx P K mg) : SupOk P w K mg base (He.ga K "BadName") (He.ma K (He.ga K "BadName") "__init__") (fdOf K (He.ma K (He.ga K "BadName") "__init__")) ["self", "name"] (fun K => tOne K "name") := by
  obtain ⟨ok, e⟩ := T.toTx.d_BadName_init
  obtain ⟨h, KI, G⟩ := T.toTx.at_
  obtain ⟨A, i1, i2⟩ := supAt_of (c := "BadName") (d := xBadName_init) e ok rfl rfl rfl rfl T.toTx.su_BadName T.toTx.oS_BadName T.toTx.third
  exact sup_ok ssc_BadName A i1 i2 T.toTx.f_super T.file T.noSup ⟨rfl, fun _ _ _ _ => rfl, fun _ _ _ _ => rfl, fun _ _ _ _ => ⟨_, rfl⟩⟩ rfl rfl (fun _ _ _ _ _ _ _ _ _ _ _ _ _ _ _ => pss_one (ps_ost (pv 0) (pv 1))) (fun _ _ _ _ _ _ _ us hl => match us, hl with | [_, _], _ => rfl)
theorem giv_BadName (T : Wx P K mg) : Gives K (He.ga K "BadName") ["self", "name"] (fun K => tOne K "name") 1 (mkOne "name") := gives_one T.toTx.oS_BadName T.toTx.n_BadName_name
theorem r_BadName {e : Expr} {es : List Expr} {ta : TA} {p q pos : Pos} (R : Rs X W) (hg : Gl X "BadName") (ha : PA X (e :: es) ta) (he : starEach (e :: es) X.env = (false, eval e X.env) :: starEach es X.env := by rfl) (hpl : (backTo q (starEach es X.env)).any (·.1) = false := by rfl) :
    PS X (.Raise (some (.Call (.Name "BadName" p) (e :: es) [] q)) none pos) (fun _ σ H => tErr (He.ga X.K "BadName") 1 (mkOne "name") ta σ H fun cls d H' => W cls d σ H') :=
  L2N.ps_raise R.calm R.tk (pmkN (sok_BadName R.wx) (giv_BadName R.wx) (by decide) R.rm hg R.wx.toTx.g_BadName ha (by decide) he hpl)
theorem ssc_NameTaken : SupScope ["self", "name"] xNameTaken_init.scope := ⟨rfl, rfl, rfl, by decide +kernel, by decide +kernel, by decide +kernel, by decide +kernel, rfl, rfl⟩
theorem sok_NameTaken (T : Wx P K mg) : SupOk P w K mg base (He.ga K "NameTaken") (He.ma K (He.ga K "NameTaken") "__init__") (fdOf K (He.ma K (He.ga K "NameTaken") "__init__")) ["self", "name"] (fun K => tOne K "name") := by
  obtain ⟨ok, e⟩ := T.toTx.d_NameTaken_init
  obtain ⟨h, KI, G⟩ := T.toTx.at_
  obtain ⟨A, i1, i2⟩ := supAt_of (c := "NameTaken") (d := xNameTaken_init) e ok rfl rfl rfl rfl T.toTx.su_NameTaken T.toTx.oS_NameTaken T.toTx.third
  exact sup_ok ssc_NameTaken A i1 i2 T.toTx.f_super T.file T.noSup ⟨rfl, fun _ _ _ _ => rfl, fun _ _ _ _ => rfl, fun _ _ _ _ => ⟨_, rfl⟩⟩ rfl rfl (fun _ _ _ _ _ _ _ _ _ _ _ _ _ _ _ => pss_one (ps_ost (pv 0) (pv 1))) (fun _ _ _ _ _ _ _ us hl => match us, hl with | [_, _], _ => rfl)
theorem giv_NameTaken (T : Wx P K mg) : Gives K (He.ga K "NameTaken") ["self", "name"] (fun K => tOne K "name") 1 (mkOne "name") := gives_one T.toTx.oS_NameTaken T.toTx.n_NameTaken_name
theorem r_NameTaken {e : Expr} {es : List Expr} {ta : TA} {p q pos : Pos} (R : Rs X W) (hg : Gl X "NameTaken") (ha : PA X (e :: es) ta) (he : starEach (e :: es) X.env = (false, eval e X.env) :: starEach es X.env := by rfl) (hpl : (backTo q (starEach es X.env)).any (·.1) = false := by rfl) :
    PS X (.Raise (some (.Call (.Name "NameTaken" p) (e :: es) [] q)) none pos) (fun _ σ H => tErr (He.ga X.K "NameTaken") 1 (mkOne "name") ta σ H fun cls d H' => W cls d σ H') :=
  L2N.ps_raise R.calm R.tk (pmkN (sok_NameTaken R.wx) (giv_NameTaken R.wx) (by decide) R.rm hg R.wx.toTx.g_NameTaken ha (by decide) he hpl)
theorem ssc_NoSuchRow : SupScope ["self", "name"] xNoSuchRow_init.scope := ⟨rfl, rfl, rfl, by decide +kernel, by decide +kernel, by decide +kernel, by decide +kernel, rfl, rfl⟩
theorem sok_NoSuchRow (T : Wx P K mg) : SupOk P w K mg base (He.ga K "NoSuchRow") (He.ma K (He.ga K "NoSuchRow") "__init__") (fdOf K (He.ma K (He.ga K "NoSuchRow") "__init__")) ["self", "name"] (fun K => tOne K "name") := by
  obtain ⟨ok, e⟩ := T.toTx.d_NoSuchRow_init
  obtain ⟨h, KI, G⟩ := T.toTx.at_
  obtain ⟨A, i1, i2⟩ := supAt_of (c := "NoSuchRow") (d := xNoSuchRow_init) e ok rfl rfl rfl rfl T.toTx.su_NoSuchRow T.toTx.oS_NoSuchRow T.toTx.third
  exact sup_ok ssc_NoSuchRow A i1 i2 T.toTx.f_super T.file T.noSup ⟨rfl, fun _ _ _ _ => rfl, fun _ _ _ _ => rfl, fun _ _ _ _ => ⟨_, rfl⟩⟩ rfl rfl (fun _ _ _ _ _ _ _ _ _ _ _ _ _ _ _ => pss_one (ps_ost (pv 0) (pv 1))) (fun _ _ _ _ _ _ _ us hl => match us, hl with | [_, _], _ => rfl)
theorem giv_NoSuchRow (T : Wx P K mg) : Gives K (He.ga K "NoSuchRow") ["self", "name"] (fun K => tOne K "name") 1 (mkOne "name") := gives_one T.toTx.oS_NoSuchRow T.toTx.n_NoSuchRow_name
theorem r_NoSuchRow {e : Expr} {es : List Expr} {ta : TA} {p q pos : Pos} (R : Rs X W) (hg : Gl X "NoSuchRow") (ha : PA X (e :: es) ta) (he : starEach (e :: es) X.env = (false, eval e X.env) :: starEach es X.env := by rfl) (hpl : (backTo q (starEach es X.env)).any (·.1) = false := by rfl) :
    PS X (.Raise (some (.Call (.Name "NoSuchRow" p) (e :: es) [] q)) none pos) (fun _ σ H => tErr (He.ga X.K "NoSuchRow") 1 (mkOne "name") ta σ H fun cls d H' => W cls d σ H') :=
  L2N.ps_raise R.calm R.tk (pmkN (sok_NoSuchRow R.wx) (giv_NoSuchRow R.wx) (by decide) R.rm hg R.wx.toTx.g_NoSuchRow ha (by decide) he hpl)
theorem ssc_BadJournal : SupScope ["self", "line"] xBadJournal_init.scope := ⟨rfl, rfl, rfl, by decide +kernel, by decide +kernel, by decide +kernel, by decide +kernel, rfl, rfl⟩
theorem sok_BadJournal (T : Wx P K mg) : SupOk P w K mg base (He.ga K "BadJournal") (He.ma K (He.ga K "BadJournal") "__init__") (fdOf K (He.ma K (He.ga K "BadJournal") "__init__")) ["self", "line"] (fun K => tOne K "line") := by
  obtain ⟨ok, e⟩ := T.toTx.d_BadJournal_init
  obtain ⟨h, KI, G⟩ := T.toTx.at_
  obtain ⟨A, i1, i2⟩ := supAt_of (c := "BadJournal") (d := xBadJournal_init) e ok rfl rfl rfl rfl T.toTx.su_BadJournal T.toTx.oS_BadJournal T.toTx.third
  exact sup_ok ssc_BadJournal A i1 i2 T.toTx.f_super T.file T.noSup ⟨rfl, fun _ _ _ _ => rfl, fun _ _ _ _ => rfl, fun _ _ _ _ => ⟨_, rfl⟩⟩ rfl rfl (fun _ _ _ _ _ _ _ _ _ _ _ _ _ _ _ => pss_one (ps_ost (pv 0) (pv 1))) (fun _ _ _ _ _ _ _ us hl => match us, hl with | [_, _], _ => rfl)
theorem giv_BadJournal (T : Wx P K mg) : Gives K (He.ga K "BadJournal") ["self", "line"] (fun K => tOne K "line") 1 (mkOne "line") := gives_one T.toTx.oS_BadJournal T.toTx.n_BadJournal_line
theorem r_BadJournal {e : Expr} {es : List Expr} {ta : TA} {p q pos : Pos} (R : Rs X W) (hg : Gl X "BadJournal") (ha : PA X (e :: es) ta) (he : starEach (e :: es) X.env = (false, eval e X.env) :: starEach es X.env := by rfl) (hpl : (backTo q (starEach es X.env)).any (·.1) = false := by rfl) :
    PS X (.Raise (some (.Call (.Name "BadJournal" p) (e :: es) [] q)) none pos) (fun _ σ H => tErr (He.ga X.K "BadJournal") 1 (mkOne "line") ta σ H fun cls d H' => W cls d σ H') :=
  L2N.ps_raise R.calm R.tk (pmkN (sok_BadJournal R.wx) (giv_BadJournal R.wx) (by decide) R.rm hg R.wx.toTx.g_BadJournal ha (by decide) he hpl)
theorem r_RowFull {p q pos : Pos} (R : Rs X W) (hg : Gl X "RowFull") : PS X (.Raise (some (.Call (.Name "RowFull" p) [] [] q)) none pos) (fun _ σ H => W (.ref (He.ga X.K "RowFull")) none σ H) := by
  obtain ⟨h1, h2, h3, h4⟩ := R.wx.toTx.x_RowFull
  exact L2N.ps_raise R.calm R.tk (pmk0 F.excBase_ValueError h1 R.wx.toTx.g_RowFull h2 (raises_own h3 h4) hg)
theorem r_NothingToUndo {p q pos : Pos} (R : Rs X W) (hg : Gl X "NothingToUndo") : PS X (.Raise (some (.Call (.Name "NothingToUndo" p) [] [] q)) none pos) (fun _ σ H => W (.ref (He.ga X.K "NothingToUndo")) none σ H) := by
  obtain ⟨h1, h2, h3, h4⟩ := R.wx.toTx.x_NothingToUndo
  exact L2N.ps_raise R.calm R.tk (pmk0 F.excBase_ValueError h1 R.wx.toTx.g_NothingToUndo h2 (raises_own h3 h4) hg)
theorem r_NothingToRedo {p q pos : Pos} (R : Rs X W) (hg : Gl X "NothingToRedo") : PS X (.Raise (some (.Call (.Name "NothingToRedo" p) [] [] q)) none pos) (fun _ σ H => W (.ref (He.ga X.K "NothingToRedo")) none σ H) := by
  obtain ⟨h1, h2, h3, h4⟩ := R.wx.toTx.x_NothingToRedo
  exact L2N.ps_raise R.calm R.tk (pmk0 F.excBase_ValueError h1 R.wx.toTx.g_NothingToRedo h2 (raises_own h3 h4) hg)
theorem r_DeskFull {p q pos : Pos} (R : Rs X W) (hg : Gl X "DeskFull") : PS X (.Raise (some (.Call (.Name "DeskFull" p) [] [] q)) none pos) (fun _ σ H => W (.ref (He.ga X.K "DeskFull")) none σ H) := by
  obtain ⟨h1, h2, h3, h4⟩ := R.wx.toTx.x_DeskFull
  exact L2N.ps_raise R.calm R.tk (pmk0 F.excBase_ValueError h1 R.wx.toTx.g_DeskFull h2 (raises_own h3 h4) hg)
theorem r_BadLine {p q pos : Pos} (R : Rs X W) (hg : Gl X "BadLine") : PS X (.Raise (some (.Call (.Name "BadLine" p) [] [] q)) none pos) (fun _ σ H => W (.ref (He.ga X.K "BadLine")) none σ H) := by
  obtain ⟨h1, h2, h3, h4⟩ := R.wx.toTx.x_BadLine
  exact L2N.ps_raise R.calm R.tk (pmk0 F.excBase_ValueError h1 R.wx.toTx.g_BadLine h2 (raises_own h3 h4) hg)
end
end Bm
set_option Elab.async false
set_option linter.all false
set_option maxRecDepth 100000
set_option maxHeartbeats 4000000
/-! Calls by promises, one way for all: what a callee lets out is told at the caller's slots. -/
namespace Bm
open PySem PySem.Spec PyProof.Rows L2
section
variable {X : Cx} {CX : CXT} {k : Nat} {f C g : Addr} {sp : Sp} {W : WX} {x m : Str} {e o : Expr} {es : List Expr} {te ta : TE} {t : TA} {p pos apos : Pos}
theorem runR {pins : List (Addr × Obj)} {σ : L2.St} {H : Hp} {s : Shared} {Q : VK} {us : List Value} {vs : List V} (F : FnR X.prog X.w X.K X.mg X.base CX k f sp) (hr : Room k X.A) (hx : ∀ σ, PassesAt CX X σ (WE W σ)) (I : Inv X pins σ H s) (r : Vals vs us) (h : sp vs H Q (WE W σ)) :
    codeAny (model X.prog X.w) X.A (.call (.ref f) ⟨us, []⟩) (fun r s' => match r with | .ok (.ret v) => EP X pins σ Q v s' | .ok _ => False | .error e => X.xe e s') s := by
  refine codeAny_mono (F X.A X.stack s H us vs Q (WE W σ) hr I.env0 r h) fun z s' hq => ?_
  cases z with
  | error e => exact hx σ pins H s e s' I hq
  | ok fl =>
    cases fl with
    | ret u => exact I.after hq
    | next => exact False.elim hq
    | brk => exact False.elim hq
    | cont => exact False.elim hq
theorem runMk {pins : List (Addr × Obj)} {σ : L2.St} {H : Hp} {s : Shared} {Q : VK} {us : List Value} {vs : List V} (M : Mk X.K C f) (F : FnR X.prog X.w X.K X.mg X.base CX k f sp) (hr : Room (k + 1) X.A) (hx : ∀ σ, PassesAt CX X σ (WE W σ)) (I : Inv X pins σ H s) (r : Vals vs us)
    (h : ∀ a d, H a = Option.none → H d = Option.none → d ≠ a → sp (V.ref a :: vs) (upd (upd H d (.own a)) a (.ins C d [])) (fun v H2 => v = .non ∧ Q (.ref a) H2) (WE W σ)) : wpAny (model X.prog X.w) X.A (call (.ref C) us) (EP X pins σ Q) X.xe s := by
  have hq := h (s.heap.objs.size + 1) s.heap.objs.size (I.hok.fresh (Nat.le_succ _)) (I.hok.fresh (Nat.le_refl _)) (Nat.ne_of_lt (Nat.lt_succ_self _))
  have I2 := Inv.made (C := C) I
  have r2 : Vals (V.ref (s.heap.objs.size + 1) :: vs) (Value.ref (s.heap.objs.size + 1) :: us) := .cons rfl r
  refine wpAny_call (make_map (f := f) I.kIn M.makes M.init (beq_iff_eq.mp M.fn) (codeAny_mono (F _ X.stack _ _ (Value.ref (s.heap.objs.size + 1) :: us) _ _ (WE W σ) (hr.make C us []) (I2.env0.make C us []) r2 hq) fun z s' hq' => ?_))
  cases z with
  | error e => exact hx σ pins _ _ e s' I2 hq'
  | ok fl =>
    cases fl with
    | ret u =>
      obtain ⟨v, H', I3, rv, ev, q3⟩ := I2.after hq'
      subst ev
      exact ⟨rv, ⟨V.ref (s.heap.objs.size + 1), H', I3, rfl, q3⟩⟩
    | next => exact False.elim hq'
    | brk => exact False.elim hq'
    | cont => exact False.elim hq'
/-- x(e, ..), x a def of the module -/
def tFn (sp : Sp) (W : WX) (t : TA) : TE := fun σ H Q => t σ H fun vs H1 => sp vs H1 Q (WE W σ)
theorem k_fun (F : FnR X.prog X.w X.K X.mg X.base CX k f sp) (hr : Room k X.A) (hk : PySem.W.keepIn X.K (.ref f) = true) (hm : X.mg x = some (.ref f)) (hx : ∀ σ, PassesAt CX X σ (WE W σ)) (ha : PA X (e :: es) t) (hg : Gl X x := by rfl) (hdb : (x == ("__debug__" : Str)) = false := by decide)
    (he : starEach (e :: es) X.env = (false, eval e X.env) :: starEach es X.env := by rfl) (hpl : (backTo pos (starEach es X.env)).any (·.1) = false := by rfl) : PE X (.Call (.Name x p) (e :: es) [] pos) (tFn sp W t) := by
  refine ⟨fun pins s σ H Q I h => ?_⟩
  refine wpAny_Call_Name_kw (ld_glob I hg hm ?_ hdb)
  refine PySem.W.callWith_K (h₀ := X.base) I.ok.mod.kin hk (thn (ha.run pos pins s σ H _ I h) fun us s1 hh => ?_) he hpl
  obtain ⟨vs, H1, I1, r, q⟩ := hh
  exact ⟨I1.kIn, wpAny_call (runR F hr hx I1 r q)⟩
/-- C(e, ..) -/
def tNew (C : Addr) (sp : Sp) (W : WX) (t : TA) : TE := fun σ H Q => t σ H fun vs H1 => ∀ a d, H1 a = Option.none → H1 d = Option.none → d ≠ a → sp (V.ref a :: vs) (upd (upd H1 d (.own a)) a (.ins C d [])) (fun v H2 => v = .non ∧ Q (.ref a) H2) (WE W σ)
theorem k_new (M : Mk X.K C f) (F : FnR X.prog X.w X.K X.mg X.base CX k f sp) (hr : Room (k + 1) X.A) (hm : X.mg x = some (.ref C)) (hx : ∀ σ, PassesAt CX X σ (WE W σ)) (ha : PA X (e :: es) t) (hg : Gl X x := by rfl) (hdb : (x == ("__debug__" : Str)) = false := by decide)
    (he : starEach (e :: es) X.env = (false, eval e X.env) :: starEach es X.env := by rfl) (hpl : (backTo pos (starEach es X.env)).any (·.1) = false := by rfl) : PE X (.Call (.Name x p) (e :: es) [] pos) (tNew C sp W t) := by
  refine ⟨fun pins s σ H Q I h => ?_⟩
  refine wpAny_Call_Name_kw (ld_glob I hg hm ?_ hdb)
  refine PySem.W.callWith_K (h₀ := X.base) I.ok.mod.kin M.kp (thn (ha.run pos pins s σ H _ I h) fun us s1 hh => ?_) he hpl
  obtain ⟨vs, H1, I1, r, q⟩ := hh
  exact ⟨I1.kIn, runMk M F hr hx I1 r q⟩
/-- C( *e) -/
def tNewS (K : PySem.W.Frag) (C : Addr) (sp : Sp) (W : WX) (te : TE) : TE := fun σ H Q => te σ H fun y H1 => ∃ a xs, y = V.ref a ∧ (SqT K H1 a xs ∨ SqL K H1 a xs) ∧ ∀ a d, H1 a = Option.none → H1 d = Option.none → d ≠ a → sp (V.ref a :: xs) (upd (upd H1 d (.own a)) a (.ins C d [])) (fun v H2 => v = .non ∧ Q (.ref a) H2) (WE W σ)
theorem k_newS {q : Pos} (M : Mk X.K C f) (F : FnR X.prog X.w X.K X.mg X.base CX k f sp) (hr : Room (k + 1) X.A) (hm : X.mg x = some (.ref C)) (hx : ∀ σ, PassesAt CX X σ (WE W σ)) (he : PE X e te) (hg : Gl X x := by rfl) (hdb : (x == ("__debug__" : Str)) = false := by decide)
    (hst : starEach [.Starred e q] X.env = [(true, eval e X.env)] := by rfl) : PE X (.Call (.Name x p) [.Starred e q] [] pos) (tNewS X.K C sp W te) := by
  refine ⟨fun pins s σ H Q I h => ?_⟩
  refine wpAny_Call_Name_kw (ld_glob I hg hm ?_ hdb)
  refine PySem.W.callWith_S (h₀ := X.base) I.ok.mod.kin M.kp (thn (he.run pins s σ H _ I h) fun v s1 hh => ?_) hst
  obtain ⟨y, H1, I1, ry, a, xs, ey, hxs, q⟩ := hh
  subst ey
  obtain rfl : v = Value.ref a := ry
  exact StX.star_any I1 hxs fun us s2 I2 rv => ⟨I2.kIn, runMk M F hr hx I2 rv q⟩
/-- o.m(e, ..), o.m() -/
def tMth (C : Addr) (m : Str) (sp : Sp) (W : WX) (ta : TE) (t : TA) : TE := fun σ H Q => ta σ H fun x H1 => ∃ a dx fs, x = .ref a ∧ H1 a = some (.ins C dx fs) ∧ fs.lookup m = none ∧ t σ H1 fun vs H2 => sp (x :: vs) H2 Q (WE W σ)
theorem k_mth {pl : Sem Bool} (c : Cls X.K C) (hm : Meth X.K C m f) (F : FnR X.prog X.w X.K X.mg X.base CX k f sp) (hr : Room k X.A) (hx : ∀ σ, PassesAt CX X σ (WE W σ)) (he : PE X o ta) (ha : PA X (e :: es) t)
    (hst : starEach (e :: es) X.env = (false, eval e X.env) :: starEach es X.env := by rfl) (hpl : (backTo pos (starEach es X.env)).any (·.1) = false := by rfl)
    (ht : eval (.Call (.Attribute o m apos) (e :: es) [] pos) X.env = (do
      let ov ← eval o X.env
      standAt apos.atName
      let (f, first) ← holding [ov] (getMethod ov m pl)
      callWith pos f first (backTo pos (starEach (e :: es) X.env)) (backToKw pos (keywordEach [] X.env))) := by rfl) : PE X (.Call (.Attribute o m apos) (e :: es) [] pos) (tMth C m sp W ta t) := by
  refine ⟨fun pins s σ H Q I h => ?_⟩
  refine PySem.W.methodCall_KW (pl := pl) (thn (he.run pins s σ H _ I h) fun u s1 hh => ?_) ht
  obtain ⟨y, H1, I1, rx, a, dx, fs, ex, ea, l, q⟩ := hh
  subst ex
  obtain rfl : u = Value.ref a := rx
  refine getmeth_ok I1 ea c hm l ?_
  refine PySem.W.callWith_K (first := [.ref a]) (h₀ := X.base) I.ok.mod.kin hm.kp (thn (ha.run pos pins s1 σ H1 _ I1 q) fun us s2 hh => ?_) hst hpl
  obtain ⟨vs, H2, I2, r, q2⟩ := hh
  exact ⟨I2.kIn, wpAny_call (runR (us := .ref a :: us) (vs := .ref a :: vs) F hr hx I2 (.cons rfl r) q2)⟩
theorem k_mth0 {pl : Sem Bool} (c : Cls X.K C) (hm : Meth X.K C m f) (F : FnR X.prog X.w X.K X.mg X.base CX k f sp) (hr : Room k X.A) (hx : ∀ σ, PassesAt CX X σ (WE W σ)) (he : PE X o ta)
    (ht : eval (.Call (.Attribute o m apos) [] [] pos) X.env = (do
      let ov ← eval o X.env
      standAt apos.atName
      let (f, first) ← holding [ov] (getMethod ov m pl)
      callWith pos f first (backTo pos (starEach [] X.env)) (backToKw pos (keywordEach [] X.env))) := by rfl) : PE X (.Call (.Attribute o m apos) [] [] pos) (tMth C m sp W ta tNil) := by
  refine ⟨fun pins s σ H Q I h => ?_⟩
  refine PySem.W.methodCall_KW (pl := pl) (thn (he.run pins s σ H _ I h) fun u s1 hh => ?_) ht
  obtain ⟨y, H1, I1, rx, a, dx, fs, ex, ea, l, q⟩ := hh
  subst ex
  obtain rfl : u = Value.ref a := rx
  refine getmeth_ok I1 ea c hm l ?_
  exact PySem.W.callWith_K0 (first := [.ref a]) I1.kIn hm.kp (wpAny_call (runR (us := [.ref a]) (vs := [.ref a]) F hr hx I1 (.cons rfl .nil) q))
/-- o.m(e, ..), m a staticmethod of o's class -/
def tSta (C : Addr) (m : Str) (sp : Sp) (W : WX) (ta : TE) (t : TA) : TE := fun σ H Q => ta σ H fun x H1 => ∃ a dx fs, x = .ref a ∧ H1 a = some (.ins C dx fs) ∧ fs.lookup m = none ∧ t σ H1 fun vs H2 => sp vs H2 Q (WE W σ)
theorem k_sta {pl : Sem Bool} {q : Addr} (c : Cls X.K C) (S : StatM X.K C m q f) (hcp : PySem.W.copiedNames.contains m = false) (hk : PySem.W.keepIn X.K (.ref f) = true) (F : FnR X.prog X.w X.K X.mg X.base CX k f sp) (hr : Room k X.A) (hx : ∀ σ, PassesAt CX X σ (WE W σ)) (he : PE X o ta) (ha : PA X (e :: es) t)
    (hst : starEach (e :: es) X.env = (false, eval e X.env) :: starEach es X.env := by rfl) (hpl : (backTo pos (starEach es X.env)).any (·.1) = false := by rfl)
    (ht : eval (.Call (.Attribute o m apos) (e :: es) [] pos) X.env = (do
      let ov ← eval o X.env
      standAt apos.atName
      let (f, first) ← holding [ov] (getMethod ov m pl)
      callWith pos f first (backTo pos (starEach (e :: es) X.env)) (backToKw pos (keywordEach [] X.env))) := by rfl) : PE X (.Call (.Attribute o m apos) (e :: es) [] pos) (tSta C m sp W ta t) := by
  refine ⟨fun pins s σ H Q I h => ?_⟩
  refine PySem.W.methodCall_KW (pl := pl) (thn (he.run pins s σ H _ I h) fun u s1 hh => ?_) ht
  obtain ⟨y, H1, I1, rx, a, dx, fs, ex, ea, l, q1⟩ := hh
  subst ex
  obtain rfl : u = Value.ref a := rx
  obtain ⟨mA, O, rr, _, _, _⟩ := ins_get I1.hok ea
  have hn : mA m = none := RelO.none_of (by rw [← l]; exact rr m)
  obtain ⟨od, J, hl⟩ := O.look
  have hl' : PySem.W.lookIn m od = some none := by rw [hl m, hn]
  obtain ⟨rest, hp⟩ := S.rc
  refine PySem.W.method_usual (r := some (.ref q)) I1.kIn J (PySem.W.plainGet_of (c.get m)).1 (PySem.W.plainGet_of (c.get m)).2 S.at_ ?_ ?_
  · show ((PySem.W.typeIn X.K (.ref q)).any fun t => t != .type "function" && t != .type "method_descriptor" && t != .type "wrapper_descriptor") = true
    rw [S.ty]
    first
    | rfl
    | decide +kernel
  · refine PySem.W.get_bind I1.kIn J (PySem.W.plainGet_of (c.get m)).1 (ClX.find_cm S.ic S.at_ S.get S.tk hcp hl') (PySem.W.plainGet_of (c.get m)).2 ?_
    refine wpAny_call (PySem.W.sm_get (s := { s1 with toks := s1.toks + 1 }) I1.kIn hp (PySem.W.handed_on rfl ?_))
    refine PySem.W.callWith_K (first := []) (h₀ := X.base) I.ok.mod.kin hk (thn (ha.run pos pins _ σ H1 _ (I1.tok _) q1) fun us s2 hh => ?_) hst hpl
    obtain ⟨vs, H2, I2, r, q2⟩ := hh
    exact ⟨I2.kIn, wpAny_call (runR (us := us) (vs := vs) F hr hx I2 r q2)⟩
/-- o.f(e, ..), f a field that holds an instance of the class at C, which is called -/
def tIns (X : Cx) (C0 C : Addr) (m : Str) (sp : Sp) (W : WX) (ta : TE) (t : TA) : TE := fun σ H Q => ta σ H fun x H1 => ∃ a dx fs b, x = .ref a ∧ H1 a = some (.ins C0 dx fs) ∧ fs.lookup m = some (.ref b) ∧ t σ H1 fun vs H2 => StX.InsC X H2 b C ∧ sp (.ref b :: vs) H2 Q (WE W σ)
theorem k_ins {pl : Sem Bool} {C0 : Addr} (c0 : Cls X.K C0) (n : NoAttr X.K C0 m) (c : StX.CallO X.K C f) (F : FnR X.prog X.w X.K X.mg X.base CX k f sp) (hr : Room k X.A) (hx : ∀ σ, PassesAt CX X σ (WE W σ)) (he : PE X o ta) (ha : PA X (e :: es) t)
    (hst : starEach (e :: es) X.env = (false, eval e X.env) :: starEach es X.env := by rfl) (hpl : (backTo pos (starEach es X.env)).any (·.1) = false := by rfl)
    (ht : eval (.Call (.Attribute o m apos) (e :: es) [] pos) X.env = (do
      let ov ← eval o X.env
      standAt apos.atName
      let (f, first) ← holding [ov] (getMethod ov m pl)
      callWith pos f first (backTo pos (starEach (e :: es) X.env)) (backToKw pos (keywordEach [] X.env))) := by rfl) : PE X (.Call (.Attribute o m apos) (e :: es) [] pos) (tIns X C0 C m sp W ta t) := by
  refine ⟨fun pins s σ H Q I h => ?_⟩
  refine PySem.W.methodCall_KW (pl := pl) (thn (he.run pins s σ H _ I h) fun u s1 hh => ?_) ht
  obtain ⟨y, H1, I1, rx, a, dx, fs, b, ex, ea, l, q1⟩ := hh
  subst ex
  obtain rfl : u = Value.ref a := rx
  refine getmeth_fld I1 ea c0 n l fun u2 s2 I2 r2 => ?_
  obtain rfl : u2 = Value.ref b := r2
  refine StX.callO_with (thn (ha.run pos pins s2 σ H1 _ I2 q1) fun us s3 hh => ?_) hst hpl
  obtain ⟨vs, H2, I3, r, hi, q2⟩ := hh
  obtain ⟨ox, od, J, hd⟩ := StX.insC_at I3 hi
  exact ⟨⟨C, ox, od, J, hd⟩, wpAny_call (PySem.W.kco_code I3.kIn J hd c.at_ c.fn c.fi (runR (us := .ref b :: us) (vs := .ref b :: vs) F hr hx I3 (.cons rfl r) q2))⟩
/-- o.f, a property -/
def tPrp (C : Addr) (sp : Sp) (ta : TE) : TE := fun σ H Q => ta σ H fun x H1 => ∃ a dx fs, x = .ref a ∧ H1 a = some (.ins C dx fs) ∧ sp [.ref a] H1 Q (fun _ _ _ => False)
theorem k_prp {pr : Addr} (c : Cls X.K C) (hp : PropOf X.K C m pr f) {ps : List Str} {fd : FuncData} (F : FnOk X.prog X.w X.K X.mg X.base (L2N.CX X.prog X.w) k f fd ps sp) (hr : Room (k + 1) X.A) (hb : Binds X.K fd ps []) (he : PE X o ta)
    (hab : attributeBase o m X.env (eval o X.env) = eval o X.env := by rfl) : PE X (.Attribute o m pos) (tPrp C sp ta) :=
  pe_prop (dvs := []) (E := fun _ _ _ => False) he c hp F hr hb .nil (fun _ _ _ _ _ _ _ h => by
    obtain ⟨_, _, _, _, _, _, _, _, _, _, _, _, z⟩ := h
    exact z.elim) hab
/-- C(k = v, ..) -/
def tNewK (C : Addr) (n : Nat) (sp : Sp) (gV : List V → List V → List V) (W : WX) (tk : TA) : TE := fun σ H Q => tk σ H fun zs H2 => zs.length = n ∧ ∀ a d, H2 a = none → H2 d = none → d ≠ a →
  sp (gV [.ref a] zs) (upd (upd H2 d (.own a)) a (.ins C d [])) (fun v H3 => v = .non ∧ Q (.ref a) H3) (WE W σ)
theorem k_newK {fd : FuncData} {ps ks : List Str} {kws : List Keyword} {tk : TA} {gv : List Value → List Value → List Value} {gV : List V → List V → List V} (M : Mk X.K C f) (F : FnOk X.prog X.w X.K X.mg X.base CX k f fd ps sp) (hr : Room (k + 1) X.A) (hm : X.mg x = some (.ref C)) (hb : KBn X.K fd ps 1 ks gv gV)
    (hx : ∀ σ, PassesAt CX X σ (WE W σ)) (hkw : PK X kws tk) (hg : Gl X x := by rfl)
    (hall : (backToKw pos (keywordEach kws X.env)).all (·.1.isSome) = true := by rfl) (hks : (backToKw pos (keywordEach kws X.env)).filterMap (·.1) = ks := by rfl) (hdb : (x == ("__debug__" : Str)) = false := by decide)
    (hpl : ((backTo pos (starEach [] X.env)).any (·.1) || (backToKw pos (keywordEach kws X.env)).any (·.1.isNone)) = false := by rfl) : PE X (.Call (.Name x p) [] kws pos) (tNewK C ks.length sp gV W tk) := by
  refine ⟨fun pins s σ H Q I h => ?_⟩
  refine wpAny_Call_Name_kw (ld_glob I hg hm ?_ hdb)
  refine PySem.W.callWith_KW0 (h₀ := X.base) I.ok.mod.kin M.kp hall ?_ hpl
  refine thn (hkw.run pos pins s σ H _ I h) fun ws s2 hh => ?_
  obtain ⟨zs, H2, I2, rz, l2, q2⟩ := hh
  refine ⟨I2.kIn, ?_⟩
  rw [hks]
  have hq := q2 (s2.heap.objs.size + 1) s2.heap.objs.size (I2.hok.fresh (Nat.le_succ _)) (I2.hok.fresh (Nat.le_refl _)) (Nat.ne_of_lt (Nat.lt_succ_self _))
  have I3 := Inv.made (C := C) I2
  have r1 : Vals [V.ref (s2.heap.objs.size + 1)] [Value.ref (s2.heap.objs.size + 1)] := .cons rfl .nil
  have r2 := hb.rel r1 rz
  refine wpAny_call (make_map (f := f) I2.kIn M.makes M.init (beq_iff_eq.mp M.fn) (codeAny_mono (F.run _ X.stack _ _ ⟨[Value.ref (s2.heap.objs.size + 1)], ks.zip ws⟩ (gv [Value.ref (s2.heap.objs.size + 1)] ws) _ _ (WE W σ) (hr.make C [] (ks.zip ws))
    (I3.env0.make C [] (ks.zip ws)) (hb.to _ [Value.ref (s2.heap.objs.size + 1)] ws I3.kIn rfl (rz.length.symm.trans l2)) r2 hq) fun z s' hq' => ?_))
  cases z with
  | error e => exact hx σ pins _ _ e s' I3 hq'
  | ok fl =>
    cases fl with
    | ret u =>
      obtain ⟨v, H', I4, rv, ev, q3⟩ := I3.after hq'
      subst ev
      exact ⟨rv, ⟨V.ref (s2.heap.objs.size + 1), H', I4, rfl, q3⟩⟩
    | next => exact False.elim hq'
    | brk => exact False.elim hq'
    | cont => exact False.elim hq'
end
end Bm
set_option Elab.async false
set_option linter.all false
set_option maxRecDepth 100000
set_option maxHeartbeats 4000000
/-! Operators by all the kinds of values that this program gives them. -/
namespace Bm
open PySem PySem.Spec PyProof.Rows L2
section
variable {X : Cx}
theorem OpR.alt {f : Value → Value → Sem Value} {r r' : R2} (h : OpR X f r) (h' : OpR X f r') : OpR X f (fun x y H Q => r x y H Q ∨ r' x y H Q) := by
  intro pins s σ H x y v u Q I rx ry q
  rcases q with q | q
  · exact h pins s σ H x y v u Q I rx ry q
  · exact h' pins s σ H x y v u Q I rx ry q
/-- a + b -/
def rAddS : R2 := fun x y H Q => ∃ i j, x = .str i ∧ y = .str j ∧ i.length + j.length ≤ sizeLine ∧ Q (.str (i ++ j)) H
def rAddU (K : PySem.W.Frag) : R2 := fun x y H Q => (rI0 fun i j => .int (i + j)) x y H Q ∨ (rAddS x y H Q ∨ (rCat x y H Q ∨ rCatT K x y H Q))
theorem o_add : OpR X (binaryOp .Add) (rAddU X.K) := OpR.alt op_add (OpR.alt op_add_str (OpR.alt op_cat op_catT))
/-- a == b -/
def rEqU (K : PySem.W.Frag) : R2 := fun x y H Q => rEq x y H Q ∨ rEqD K x y H Q
def rNeU (K : PySem.W.Frag) : R2 := fun x y H Q => rNe x y H Q ∨ rNeD K x y H Q
theorem o_eq (hu : X.A.units + 64 < cLine) : OpR X (compareOp .Eq) (rEqU X.K) := OpR.alt op_eq (op_eqD hu)
theorem o_ne (hu : X.A.units + 64 < cLine) : OpR X (compareOp .NotEq) (rNeU X.K) := OpR.alt op_ne (op_neD hu)
/-- a in b: a list or tuple of plain items, a sign in a text -/
def rInU (K : PySem.W.Frag) : R2 := fun x y H Q => rIn K false x y H Q ∨ rInS x y H Q
def rNiU (K : PySem.W.Frag) : R2 := fun x y H Q => rIn K true x y H Q ∨ rNotInS x y H Q
theorem o_in : OpR X (compareOp .In) (rInU X.K) := OpR.alt op_in_seq op_inS
theorem o_ni : OpR X (compareOp .NotIn) (rNiU X.K) := OpR.alt op_notIn_seq op_notInS
/-- a is True, False -/
def rIsBl : R2 := fun x y H Q => ∃ b : Bool, y = .bl b ∧ Q (.bl (decide (x = .bl b))) H
theorem o_isBl : OpR X (compareOp .Is) rIsBl := by
  intro pins s σ H x y v u Q I rx ry h
  obtain ⟨b, rfl, q⟩ := h
  cases (show u = Value.bool b from ry)
  by_cases e : x = .bl b
  · subst e
    cases (show v = Value.bool b from rx)
    exact wpAny_is_self rfl (fin_bl I q (by simp))
  · have ne : v ≠ Value.bool b := fun z => by
      subst z
      cases x <;> first
        | (obtain ⟨_, z⟩ := rx; cases z; done)
        | (cases rx; exact e rfl)
        | cases rx
    have pl : plainIs v (Value.bool b) = true := by
      cases x <;> first
        | (obtain ⟨t, rfl⟩ := rx; rfl)
        | (cases rx; rfl)
    exact wpAny_is_other pl ne (fin_bl I q (by simp [e]))
/-- slices -/
def rSlU (K : PySem.W.Frag) : V → Option Int → Option Int → Hp → VK → Prop := fun x lo hi H Q => rSlL K x lo hi H Q ∨ (rSlT K x lo hi H Q ∨ rSlS x lo hi H Q)
theorem sl_any : SlR X (rSlU X.K) := SlR.or sl_list (SlR.or sl_tup sl_str)
/-- int(x) -/
def rInt : List V → Hp → VK → Prop := fun xs H Q => ((∃ i, xs = [.int i] ∧ Q (.int i) H) ∨ ∃ k, xs = [.bl k] ∧ Q (.int (if k then 1 else 0)) H) ∨ ∃ a n, xs = [.str a] ∧ PySem.intText? a = some n ∧ a.length ≤ 640 ∧ Q (.int n) H
theorem call_int : CallR X (.type "int") rInt := CallR.or call_int1 call_int_str
/-- list.count of plain items -/
theorem eq_any {A : Around} {s : Shared} {y x : V} {u v : Value} (ry : RelV y u) (rx : RelV x v) (fy : flatV y = true) (fx : flatV x = true) : SeqAt.EqAt A s u v (eqV y x) := eqAt_V ry rx fy fx
theorem cnt_vals {x : V} : ∀ {xs : List V} {us : List Value}, Vals xs us → xs.all flatV = true → us.countP (eqU x) = xs.countP (fun y => eqV y x)
  | _, _, .nil, _ => rfl
  | y :: xs, u :: us, .cons r t, f => by
    rw [List.all_cons, Bool.and_eq_true] at f
    rw [List.countP_cons, List.countP_cons, cnt_vals t f.2, eqU_of r f.1]
def rCntV (K : PySem.W.Frag) : V → List V → Hp → VK → Prop := fun x xs H Q => ∃ (p : Addr) (ys : List V) (y : V), x = .ref p ∧ xs = [y] ∧ SqL K H p ys ∧ flatV y = true ∧ ys.all flatV = true ∧ Q (.int (ys.countP fun z => eqV z y : Nat)) H
theorem mt_cntV : MtR X "list.count" (rCntV X.K) := by
  intro pins s σ H x xs v us Q I rx rxs h
  obtain ⟨p, ys, y, rfl, rfl, hs, fy, fys, q⟩ := h
  cases rx
  obtain ⟨u, rfl, ru⟩ := rxs.one
  obtain ⟨its, rv, ⟨⟨cls, dd, data, sl⟩, n, ho, hc, hdn, hd⟩, hlen⟩ := I.list hs
  simp only at hc hd
  subst hc hd
  refine call_meets PySem.F.slot_list_count ⟨_, ho, rfl⟩ PySem.F.entry_list_count (PySem.F.args_list_count_2 _ _) (SeqAt.list_countAt p its.toArray n dd sl u (eqU y)) ⟨ho, fun z hz => mem_eqAt ru fy rv fys z (by simpa using hz), ?_⟩
  have ec : its.toArray.toList.countP (eqU y) = ys.countP fun z => eqV z y := by
    rw [List.toList_toArray]
    exact cnt_vals rv fys
  refine ⟨.int (ys.countP fun z => eqV z y : Nat), H, I.tok _, ⟨s.toks, ?_⟩, q⟩
  show Value.int ((its.toArray.toList.countP (eqU y) : Nat) : Int) s.toks = _
  rw [ec]
/-- len(set(t)), t a tuple of ints: some number -/
def tLenSetT (K : PySem.W.Frag) (ta : TE) : TE := fun σ H Q => ta σ H fun x H1 => ∃ (l : Addr) (ns : List Int), x = V.ref l ∧ SqT K H1 l (ns.map V.int) ∧ ns.length < 64 ∧ ∀ n : Int, Q (.int n) H1
theorem pe_lenSetT {a : Expr} {ta : TE} {p p2 q pos : Pos} (hc : X.calm = true) (hm : X.mg "len" = none) (hm2 : X.mg "set" = none) (ha : PE X a ta) (hg : Gl X "len" := by rfl) (hg2 : Gl X "set" := by rfl)
    (na : starEach [a] X.env = (false, eval a X.env) :: starEach [] X.env := by rfl) : PE X (.Call (.Name "len" p) [.Call (.Name "set" p2) [a] [] q] [] pos) (tLenSetT X.K ta) := by
  refine ⟨fun pins s σ H Q I h => ?_⟩
  refine Call_ (ld_blt I hg hm PySem.boot_len ?_)
  refine PyProof.Rows.callWith_builtin1 (PyProof.Rows.args_cons ?_ rfl) rfl rfl
  refine Call_ (ld_blt I hg2 hm2 PyProof.Rows.boot_set ?_)
  refine PyProof.Rows.callWith_type1 (PyProof.Rows.args_cons (thn (ha.run pins s σ H _ I h) fun v s1 hh => PyProof.Rows.args_nil ?_) na) na rfl
  obtain ⟨x, H1, I1, r1, l, ns, rfl, hq, h1, q1⟩ := hh
  cases r1
  obtain ⟨its, r, pt, hz⟩ := I1.tuple hq
  have hi : IntsAre its.toArray.toList ns := ints_of_vals r
  refine call_set_tupI (w := X.w) ns (I1.ok.hd hc) (show s1.heap.IsTuple l its.toArray from pt) hi (by unfold scanBound; omega) fun h' tk c R1 hcn k => ?_
  refine PyProof.Rows.args_nil ?_
  obtain ⟨o, es, ep, t, ho, hex, hdt, g, nd, hm3, hb, hf, hn, hr, hl2⟩ := R1
  have I2 : Inv X pins σ H1 { s1 with heap := h', toks := tk } := I1.kept k
  exact call_len_set ho hex hdt hf (by unfold scanBound at hb; omega) ⟨.int es.size, H1, I2.tok _, ⟨_, rfl⟩, q1 _⟩
/-- all that a walk's rules ask of the place where it stands -/
structure Bx (X : Cx) (W : WX) (k : Nat) : Prop where
  wx : Wx X.prog X.K X.mg
  tk : L2N.Takes X W
  calm : X.calm = true
  rm : Room k X.A
variable {W : WX} {k : Nat}
theorem Bx.rs (B : Bx X W k) (h : 2 ≤ k := by decide) : Rs X W := ⟨B.wx, B.calm, B.tk, B.rm.mono h⟩
theorem Bx.hu (B : Bx X W k) : X.A.units + 1 < cLine := hu_of B.rm
theorem Bx.hu64 (B : Bx X W k) : X.A.units + 64 < cLine := by
  have h := B.rm.un
  omega
theorem Bx.blk {s : Shared} {H : Hp} {sc : Scope} {ce : Env} {fp : List Addr} (B : Bx X W k) : Bx (X.blk s H sc ce fp) W0 k := ⟨B.wx, takesN0, B.calm, B.rm⟩
theorem Bx.hx (B : Bx X W k) : ∀ σ, PassesAt (L2N.CX X.prog X.w) X σ (WE W σ) := fun σ => atN B.tk σ
/-- an assignment to a name, wherever it lives -/
theorem st_set {i : Nat} {x : Str} {e : Expr} {te : TE} {pos pos' : Pos} (hN : X.N.Nodup) (he : PE X e te) (hi : X.N[i]? = some x := by rfl) (hx : Loc X.env.scope x := by first | exact .inl rfl | exact .inr rfl) (hs : swapsWith e (some (.Name x pos')) pos.line X.env = pure false := by rfl)
    (hf : X.fn x = true ∨ X.env.scope.names.lookup x = some .local := by first | exact .inl rfl | exact .inr rfl) : PS X (.Assign [.Name x pos'] e pos) (tAsg te (gName i)) := ps_set hN hi hx he hs hf
/-- comprehensions, the block's own ground handed on -/
theorem pe_lcB {elt tg iter : Expr} {ifs : List Expr} {scope : Scope} {own : List (Str × Nat)} {pos : Pos} {wi : TI} {g : TG} {tt : TT} {te : TE} (B : Bx X W k) (hN : X.N.Nodup) (hi : PI X tg iter wi) (ok : BlkOk X.N X.env.scope scope own)
    (hg : ∀ (s : Shared) (H : Hp) (C : Addr) (cl : List (Str × Addr)) (fp : List Addr), PG (X.blk s H scope (compEnvC scope cl C X.env) fp) tg g)
    (ht : ∀ (s : Shared) (H : Hp) (C : Addr) (cl : List (Str × Addr)) (fp : List Addr), Bx (X.blk s H scope (compEnvC scope cl C X.env) fp) W0 k → PTs (X.blk s H scope (compEnvC scope cl C X.env) fp) ifs tt)
    (he : ∀ (s : Shared) (H : Hp) (C : Addr) (cl : List (Str × Addr)) (fp : List Addr), Bx (X.blk s H scope (compEnvC scope cl C X.env) fp) W0 k → PE (X.blk s H scope (compEnvC scope cl C X.env) fp) elt te) (hs : ∀ x, foldedSetIterable iter X.env x = pure x := by intro _; rfl) :
    PE X (.ListComp elt [⟨tg, iter, ifs, 0⟩] scope pos) (tLc wi g tt te (own.map (·.2))) :=
  pe_lc B.calm hN hi ok hg (fun s H C cl fp => ht s H C cl fp B.blk) (fun s H C cl fp => he s H C cl fp B.blk) hs
theorem ps_setLcB {i : Nat} {y : Str} {py : Pos} {elt tg iter : Expr} {ifs : List Expr} {scope : Scope} {own : List (Str × Nat)} {pos spos : Pos} {wi : TI} {g : TG} {tt : TT} {te : TE} (B : Bx X W k) (hN : X.N.Nodup) (hy : X.N[i]? = some y) (hyl : X.env.scope.names.lookup y = some .local)
    (hsw : swapsWith (.ListComp elt [⟨tg, iter, ifs, 0⟩] scope pos) (some (.Name y py)) spos.line X.env = pure true) (hi : PI X tg iter wi) (ok : BlkOk X.N X.env.scope scope own)
    (hg : ∀ (s : Shared) (H : Hp) (C : Addr) (cl : List (Str × Addr)) (fp : List Addr), PG (X.blk s H scope (compEnvC scope cl C X.env) fp) tg g)
    (ht : ∀ (s : Shared) (H : Hp) (C : Addr) (cl : List (Str × Addr)) (fp : List Addr), Bx (X.blk s H scope (compEnvC scope cl C X.env) fp) W0 k → PTs (X.blk s H scope (compEnvC scope cl C X.env) fp) ifs tt)
    (he : ∀ (s : Shared) (H : Hp) (C : Addr) (cl : List (Str × Addr)) (fp : List Addr), Bx (X.blk s H scope (compEnvC scope cl C X.env) fp) W0 k → PE (X.blk s H scope (compEnvC scope cl C X.env) fp) elt te) (hs : ∀ x, foldedSetIterable iter X.env x = pure x := by intro _; rfl) :
    PS X (.Assign [.Name y py] (.ListComp elt [⟨tg, iter, ifs, 0⟩] scope pos) spos) (tAsg (tLc wi g tt te (own.map (·.2))) (gName i)) :=
  ps_setLc B.calm hN hy hyl hsw hi ok hg (fun s H C cl fp => ht s H C cl fp B.blk) (fun s H C cl fp => he s H C cl fp B.blk) hs
end
/-- the same with the frag named from outside (in a block the place is a bound name) -/
theorem ix_seqK (K : PySem.W.Frag) {X : Cx} (h : X.K = K := by rfl) : IxR X (rIx K) := by
  subst h
  exact ix_seq
theorem call_isiK (K : PySem.W.Frag) {X : Cx} (h : X.K = K := by rfl) : CallR X (.builtin "isinstance") (rIsi K) := by
  subst h
  exact call_isi
/-- is it true -/
def tTr (K : PySem.W.Frag) (te : TE) : TT := fun σ H Q => te σ H fun x H' => ∃ k, TruV K x H' k ∧ Q k H'
theorem pt_truthK (K : PySem.W.Frag) {X : Cx} {a : Expr} {ta : TE} (ha : PE X a ta) (he : ∀ whole, isTrue a X.env whole = (do let v ← whole; standAt a.pos; holding [v] (truthy v))) (h : X.K = K := by rfl) : PT X a (tTr K ta) := by
  subst h
  exact pt_truth ha he
theorem o_eqK (K : PySem.W.Frag) {X : Cx} (hu : X.A.units + 64 < cLine) (h : X.K = K := by rfl) : OpR X (compareOp .Eq) (rEqU K) := by
  subst h
  exact o_eq hu
theorem o_neK (K : PySem.W.Frag) {X : Cx} (hu : X.A.units + 64 < cLine) (h : X.K = K := by rfl) : OpR X (compareOp .NotEq) (rNeU K) := by
  subst h
  exact o_ne hu
theorem o_inK (K : PySem.W.Frag) {X : Cx} (h : X.K = K := by rfl) : OpR X (compareOp .In) (rInU K) := by
  subst h
  exact o_in
theorem o_niK (K : PySem.W.Frag) {X : Cx} (h : X.K = K := by rfl) : OpR X (compareOp .NotIn) (rNiU K) := by
  subst h
  exact o_ni
theorem o_addK (K : PySem.W.Frag) {X : Cx} (h : X.K = K := by rfl) : OpR X (binaryOp .Add) (rAddU K) := by
  subst h
  exact o_add
theorem pe_fldK (K : PySem.W.Frag) {X : Cx} {e : Expr} {f : Str} {ta : TE} {pos : Pos} (he : PE X e ta) (hb : attributeBase e f X.env (eval e X.env) = eval e X.env) (h : X.K = K := by rfl) : PE X (.Attribute e f pos) (tFld K ta f) := by
  subst h
  exact pe_fld he hb
theorem call_lenK (K : PySem.W.Frag) {X : Cx} (h : X.K = K := by rfl) : CallR X (.builtin "len") (fun xs H Q => ∃ x n, xs = [x] ∧ LenV K x H n ∧ Q (.int n) H) := by
  subst h
  exact call_len
theorem mt_cntVK (K : PySem.W.Frag) {X : Cx} (h : X.K = K := by rfl) : MtR X "list.count" (rCntV K) := by
  subst h
  exact mt_cntV
theorem pe_bmK (K : PySem.W.Frag) {X : Cx} {T id : String} {name : Str} {o e : Expr} {es : List Expr} {r : V → List V → Hp → VK → Prop} {to : TE} {t : TA} {apos cpos : Pos} (pa : PlainAttrs T) (slot : Slot T name id) (hty : typeOf (.builtin id) = pure (.type "method_descriptor")) (hm : MtR X id r) (ho : PE X o to) (ha : PA X (e :: es) t)
    (h : X.K = K := by rfl) (hb : attributeBase o name X.env (eval o X.env) = eval o X.env := by rfl)
    (hf : ((backTo cpos (starEach (e :: es) X.env)).all (fun y => !y.1) && (backToKw cpos (keywordEach [] X.env)).all (fun y => y.1.isSome)
      && decide ((e :: es).length + ([] : List Keyword).length + (if ([] : List Keyword).isEmpty then 0 else 1) < 30)) = true := by rfl)
    (hl : (apos.endLine == cpos.line) = true := by rfl) (hs : starEach (e :: es) X.env = (false, eval e X.env) :: starEach es X.env := by rfl) (hp : (backTo cpos (starEach es X.env)).any (·.1) = false := by rfl) : PE X (.Call (.Attribute o name apos) (e :: es) [] cpos) (tBM K T r to t) := by
  subst h
  exact pe_bm pa slot hty hm ho ha hb hf hl hs hp
end Bm
set_option Elab.async false
set_option linter.all false
set_option maxRecDepth 100000
set_option maxHeartbeats 4000000
/-! Names of the module, in short (printed by gen_const.py); the frame of a def's proof. -/
namespace Bm
open PySem PySem.Spec PyProof.Rows L2
theorem b_len : bootBuiltins "len" = some (.builtin "len") := by decide +kernel
theorem b_sum : bootBuiltins "sum" = some (.builtin "sum") := by decide +kernel
theorem b_sorted : bootBuiltins "sorted" = some (.builtin "sorted") := by decide +kernel
theorem b_all : bootBuiltins "all" = some (.builtin "all") := by decide +kernel
theorem b_isinstance : bootBuiltins "isinstance" = some (.builtin "isinstance") := by decide +kernel
theorem b_list : bootBuiltins "list" = some (.type "list") := by decide +kernel
theorem b_tuple : bootBuiltins "tuple" = some (.type "tuple") := by decide +kernel
theorem b_int : bootBuiltins "int" = some (.type "int") := by decide +kernel
theorem b_str : bootBuiltins "str" = some (.type "str") := by decide +kernel
theorem b_bool : bootBuiltins "bool" = some (.type "bool") := by decide +kernel
theorem b_ValueError : bootBuiltins "ValueError" = some (.type "ValueError") := by decide +kernel
section
variable {X : Cx} {W : WX} {k : Nat} {pos : Pos}
theorem gi_MOST_COINS (B : Bx X W k) (hg : Gl X "MOST_COINS" := by rfl) : PE X (.Name "MOST_COINS" pos) (tC (.int 1000000000000)) := by
  obtain ⟨t, e⟩ := B.wx.toTx.i_MOST_COINS
  exact pe_glob hg e ⟨t, rfl⟩
theorem gi_MOST_PAID_IN (B : Bx X W k) (hg : Gl X "MOST_PAID_IN" := by rfl) : PE X (.Name "MOST_PAID_IN" pos) (tC (.int 1000000000)) := by
  obtain ⟨t, e⟩ := B.wx.toTx.i_MOST_PAID_IN
  exact pe_glob hg e ⟨t, rfl⟩
theorem gi_TOP_PRICE (B : Bx X W k) (hg : Gl X "TOP_PRICE" := by rfl) : PE X (.Name "TOP_PRICE" pos) (tC (.int 1000000000)) := by
  obtain ⟨t, e⟩ := B.wx.toTx.i_TOP_PRICE
  exact pe_glob hg e ⟨t, rfl⟩
theorem gi_MOST_ROWS (B : Bx X W k) (hg : Gl X "MOST_ROWS" := by rfl) : PE X (.Name "MOST_ROWS" pos) (tC (.int 12)) := by
  obtain ⟨t, e⟩ := B.wx.toTx.i_MOST_ROWS
  exact pe_glob hg e ⟨t, rfl⟩
theorem gi_MOST_PRICE (B : Bx X W k) (hg : Gl X "MOST_PRICE" := by rfl) : PE X (.Name "MOST_PRICE" pos) (tC (.int 1000000000)) := by
  obtain ⟨t, e⟩ := B.wx.toTx.i_MOST_PRICE
  exact pe_glob hg e ⟨t, rfl⟩
theorem gi_MOST_LETTERS (B : Bx X W k) (hg : Gl X "MOST_LETTERS" := by rfl) : PE X (.Name "MOST_LETTERS" pos) (tC (.int 12)) := by
  obtain ⟨t, e⟩ := B.wx.toTx.i_MOST_LETTERS
  exact pe_glob hg e ⟨t, rfl⟩
theorem gi_MOST_DIGITS (B : Bx X W k) (hg : Gl X "MOST_DIGITS" := by rfl) : PE X (.Name "MOST_DIGITS" pos) (tC (.int 13)) := by
  obtain ⟨t, e⟩ := B.wx.toTx.i_MOST_DIGITS
  exact pe_glob hg e ⟨t, rfl⟩
theorem gt_DIGITS (B : Bx X W k) (hg : Gl X "DIGITS" := by rfl) : PE X (.Name "DIGITS" pos) (tC (.str "0123456789")) := by
  obtain ⟨t, e⟩ := B.wx.toTx.t_DIGITS
  exact pe_glob hg e ⟨t, rfl⟩
theorem gt_LETTERS (B : Bx X W k) (hg : Gl X "LETTERS" := by rfl) : PE X (.Name "LETTERS" pos) (tC (.str "abcdefghijklmnopqrstuvwxyz")) := by
  obtain ⟨t, e⟩ := B.wx.toTx.t_LETTERS
  exact pe_glob hg e ⟨t, rfl⟩
theorem g_MARKS (B : Bx X W k) (hg : Gl X "MARKS" := by rfl) : PE X (.Name "MARKS" pos) (tC (.ref (He.ga X.K "MARKS"))) := pe_glob hg B.wx.toTx.g_MARKS rfl
theorem gc_BadLine (B : Bx X W k) (hg : Gl X "BadLine" := by rfl) : PE X (.Name "BadLine" pos) (tC (.ref (He.ga X.K "BadLine"))) := pe_glob hg B.wx.toTx.g_BadLine rfl
theorem gc_MootError (B : Bx X W k) (hg : Gl X "MootError" := by rfl) : PE X (.Name "MootError" pos) (tC (.ref (He.ga X.K "MootError"))) := pe_glob hg B.wx.toTx.g_MootError rfl
theorem gy_int (B : Bx X W k) (hg : Gl X "int" := by rfl) : PE X (.Name "int" pos) (tC (.ty "int")) := pe_bltn hg B.wx.toTx.f_int b_int rfl
theorem gy_bool (B : Bx X W k) (hg : Gl X "bool" := by rfl) : PE X (.Name "bool" pos) (tC (.ty "bool")) := pe_bltn hg B.wx.toTx.f_bool b_bool rfl
theorem gy_str (B : Bx X W k) (hg : Gl X "str" := by rfl) : PE X (.Name "str" pos) (tC (.ty "str")) := pe_bltn hg B.wx.toTx.f_str b_str rfl
theorem gy_list (B : Bx X W k) (hg : Gl X "list" := by rfl) : PE X (.Name "list" pos) (tC (.ty "list")) := pe_bltn hg B.wx.toTx.f_list b_list rfl
theorem gy_tuple (B : Bx X W k) (hg : Gl X "tuple" := by rfl) : PE X (.Name "tuple" pos) (tC (.ty "tuple")) := pe_bltn hg B.wx.toTx.f_tuple b_tuple rfl
theorem gy_ValueError (B : Bx X W k) (hg : Gl X "ValueError" := by rfl) : PE X (.Name "ValueError" pos) (tC (.ty "ValueError")) := pe_bltn hg B.wx.toTx.f_ValueError b_ValueError rfl
theorem gv_MOST {p2 : Pos} (B : Bx X W k) (hg : Gl X "Strand" := by rfl) (hb : attributeBase (.Name "Strand" p2) "MOST" X.env (eval (.Name "Strand" p2) X.env) = eval (.Name "Strand" p2) X.env := by rfl) : PE X (.Attribute (.Name "Strand" p2) "MOST" pos) (tC (.int 24)) := by
  refine ⟨fun pins s σ H Q I h => ?_⟩
  obtain ⟨r, u, v⟩ := B.wx.toTx.v_MOST
  exact (ClX.pe_cval (pe_glob (v := .ref (He.ga X.K "Strand")) hg B.wx.toTx.g_Strand rfl) hb).run pins s σ H Q I ⟨_, _, _, u, rfl, r, v, h⟩
theorem gv_TOP_KIND {p2 : Pos} (B : Bx X W k) (hg : Gl X "Strand" := by rfl) (hb : attributeBase (.Name "Strand" p2) "TOP_KIND" X.env (eval (.Name "Strand" p2) X.env) = eval (.Name "Strand" p2) X.env := by rfl) : PE X (.Attribute (.Name "Strand" p2) "TOP_KIND" pos) (tC (.int 999)) := by
  refine ⟨fun pins s σ H Q I h => ?_⟩
  obtain ⟨r, u, v⟩ := B.wx.toTx.v_TOP_KIND
  exact (ClX.pe_cval (pe_glob (v := .ref (He.ga X.K "Strand")) hg B.wx.toTx.g_Strand rfl) hb).run pins s σ H Q I ⟨_, _, _, u, rfl, r, v, h⟩
end
/-- a def of the text, by its body: the frame of all walks -/
theorem mkR {P : Program} {w : World} {K : PySem.W.Frag} {mg : Str → Option Value} {base : Heap} {x qual : Str} {params : Arguments} {body : List Stmt} {scope : Scope} {kws : List (Str × V)} {f : Addr} {fd : FuncData} {N ps : List Str} {sp : Sp} (k : Nat)
    (T : Wx P K mg) (F : FunD K x qual params body scope [] kws f fd) (S : FnScope N ps scope) (len : ∀ vs H Q E, sp vs H Q E → vs.length = ps.length)
    (hb : ∀ (kV doc pm : Value) (an : Option Addr) (cdv ct : Value) (us : List Value), us.length = ps.length → bindArgs (PySem.W.fnOf x qual params body scope .none kV doc pm an cdv ct) ⟨us, []⟩ = pure (ps.zip us))
    (hbody : ∀ (cdv : Value) (A : Around) (outer : List Env) (s : Shared) (H : Hp) (vs : List V) (Q : VK) (E : XK), Bx (cxOf (L2N.CX P w) P w K mg base N qual scope f cdv A outer s H E) (fun c d _ H => E c d H) k → sp vs H Q E →
      ∃ t, PSs (cxOf (L2N.CX P w) P w K mg base N qual scope f cdv A outer s H E) body t ∧ t { nx := fun _ H' => Q .non H', rt := Q } (start N vs) H) : FnR P w K mg base (L2N.CX P w) (k + 1) f sp := by
  have G := FunD.ok (P := P) (w := w) (mg := mg) (base := base) (CX := L2N.CX P w) (k := k) (sp := sp) F S len fun cdv A outer s H vs Q E hr h => hbody cdv A outer s H vs Q E ⟨T, L2N.takes_of rfl rfl rfl rfl, rfl, hr⟩ h
  have R := G.raw (F.bindsN hb) .nil
  exact R.imp fun vs H Q E h => by rw [List.append_nil]; exact h
/-- .. as FnOk, with its way of binding (for properties) -/
theorem mkOk {P : Program} {w : World} {K : PySem.W.Frag} {mg : Str → Option Value} {base : Heap} {x qual : Str} {params : Arguments} {body : List Stmt} {scope : Scope} {dvs : List V} {kws : List (Str × V)} {f : Addr} {fd : FuncData} {N ps : List Str} {sp : Sp} (k : Nat)
    (T : Wx P K mg) (F : FunD K x qual params body scope dvs kws f fd) (S : FnScope N ps scope) (len : ∀ vs H Q E, sp vs H Q E → vs.length = ps.length)
    (hbody : ∀ (cdv : Value) (A : Around) (outer : List Env) (s : Shared) (H : Hp) (vs : List V) (Q : VK) (E : XK), Bx (cxOf (L2N.CX P w) P w K mg base N qual scope f cdv A outer s H E) (fun c d _ H => E c d H) k → sp vs H Q E →
      ∃ t, PSs (cxOf (L2N.CX P w) P w K mg base N qual scope f cdv A outer s H E) body t ∧ t { nx := fun _ H' => Q .non H', rt := Q } (start N vs) H) : FnOk P w K mg base (L2N.CX P w) (k + 1) f fd ps sp :=
  FunD.ok (P := P) (w := w) (mg := mg) (base := base) (CX := L2N.CX P w) (k := k) (sp := sp) F S len fun cdv A outer s H vs Q E hr h => hbody cdv A outer s H vs Q E ⟨T, L2N.takes_of rfl rfl rfl rfl, rfl, hr⟩ h
end Bm
set_option Elab.async false
set_option linter.all false
set_option maxRecDepth 100000
/-! The program in plain Lean: rows, the desk, its lines; undoing undoes, a journal rebuilds. No program text here. -/
namespace Bm
open PySem TL
/-! ### texts -/
abbrev blank : Str := " "
abbrev brk : Str := "\n"
def wds (l : Str) : List Str := Txt.split l blank
theorem tl_blank : tl blank = [32] := rfl
theorem tl_brk : tl brk = [10] := rfl
/-- what is split at one sign is joined again -/
theorem joinL_spl {s : Nat} : ∀ (l acc : List Nat), joinL [s] (spl [s] 0 acc l) = acc ++ l
  | [], acc => by rw [spl_nil, List.append_nil]; rfl
  | c :: r, acc => by
    by_cases h : c = s
    · subst h
      rw [spl_hit (by simp [pre])]
      have ih := joinL_spl (s := c) r []
      show joinL [c] (acc :: spl [c] 0 [] r) = acc ++ c :: r
      cases e : spl [c] 0 [] r with
      | nil =>
        rw [e] at ih
        cases r with
        | nil => rw [spl_nil] at e; cases e
        | cons a t => simp [joinL] at ih
      | cons q qs =>
        rw [e] at ih
        show acc ++ ([c] ++ joinL [c] (q :: qs)) = acc ++ c :: r
        rw [ih]
        rfl
    · rw [spl_miss (by simp [pre]; exact h), joinL_spl r (acc ++ [c]), List.append_assoc]
      rfl
theorem spl_free {s : Nat} : ∀ (l acc : List Nat), s ∉ acc → ∀ p ∈ spl [s] 0 acc l, s ∉ p
  | [], acc, h, p, hp => by
    rw [spl_nil] at hp
    rw [List.mem_singleton.mp hp]
    exact h
  | c :: r, acc, h, p, hp => by
    by_cases hc : c = s
    · subst hc
      rw [spl_hit (by simp [pre])] at hp
      rcases List.mem_cons.mp hp with e | e
      · rw [e]
        exact h
      · exact spl_free r [] (by simp) p e
    · rw [spl_miss (by simp [pre]; exact hc)] at hp
      refine spl_free r (acc ++ [c]) ?_ p hp
      rw [List.mem_append, List.mem_singleton]
      rintro (z | z)
      · exact h z
      · exact hc z.symm
theorem spl_ne {s : Nat} : ∀ (l acc : List Nat), spl [s] 0 acc l ≠ []
  | [], acc => by rw [spl_nil]; simp
  | c :: r, acc => by
    by_cases hc : c = s
    · subst hc
      rw [spl_hit (by simp [pre])]
      simp
    · rw [spl_miss (by simp [pre]; exact hc)]
      exact spl_ne r _
section
variable {y : Str} {s : Nat}
theorem split_map (x : Str) (ey : tl y = [s]) (hk : y.cps.all (· < 256) = true) : (Txt.split x y).map tl = spl [s] 0 [] (tl x) := by
  rw [split_spl x y (by rw [ey]; simp) (kind_ok hk), ey]
theorem join_split (x : Str) (ey : tl y = [s]) (hk : y.cps.all (· < 256) = true) : Txt.join y (Txt.split x y) = x := by
  refine ext_tl ?_
  rw [join_eq, tl_join, split_map x ey hk, ey, joinL_spl, List.nil_append]
theorem split_ne (x : Str) (ey : tl y = [s]) (hk : y.cps.all (· < 256) = true) : Txt.split x y ≠ [] := by
  intro e
  have z := split_map x ey hk
  rw [e] at z
  exact spl_ne _ _ z.symm
theorem split_free (x : Str) (ey : tl y = [s]) (hk : y.cps.all (· < 256) = true) : ∀ p ∈ Txt.split x y, s ∉ tl p := by
  intro p hp
  refine spl_free (tl x) [] (by simp) (tl p) ?_
  rw [← split_map x ey hk]
  exact List.mem_map_of_mem hp
theorem joinL_len : ∀ (ps : List (List Nat)), (joinL [s] ps).length + 1 = (ps.map List.length).sum + ps.length ∨ ps = []
  | [] => .inr rfl
  | [p] => .inl (by simp [joinL])
  | p :: q :: r => by
    rcases joinL_len (q :: r) with h | h
    · refine .inl ?_
      have e : joinL [s] (p :: q :: r) = p ++ ([s] ++ joinL [s] (q :: r)) := rfl
      rw [e]
      simp only [List.length_append, List.map_cons, List.sum_cons, List.length_cons, List.length_nil] at h ⊢
      omega
    · cases h
/-- lengths of what is split -/
theorem split_len (x : Str) (ey : tl y = [s]) (hk : y.cps.all (· < 256) = true) : ((Txt.split x y).map (·.length)).sum + (Txt.split x y).length = x.length + 1 := by
  have z := split_map x ey hk
  have j := joinL_spl (s := s) (tl x) []
  have e1 : ((Txt.split x y).map (·.length)).sum = ((spl [s] 0 [] (tl x)).map List.length).sum := by
    rw [← z, List.map_map]
    congr 1
  have e2 : (Txt.split x y).length = (spl [s] 0 [] (tl x)).length := by rw [← z, List.length_map]
  rcases joinL_len (s := s) (spl [s] 0 [] (tl x)) with h | h
  · rw [j] at h
    rw [e1, e2, ← h, len_tl] <;> rfl
  · exact absurd h (spl_ne _ _)
end
theorem sum_ge : ∀ {l : List Nat} {n : Nat}, n ∈ l → n ≤ l.sum
  | a :: r, n, h => by
    rcases List.mem_cons.mp h with e | e
    · rw [List.sum_cons]; omega
    · have := sum_ge e
      rw [List.sum_cons]; omega
theorem blank_ok : blank.cps.all (· < 256) = true := by decide +kernel
theorem brk_ok : brk.cps.all (· < 256) = true := by decide +kernel
theorem wds_ne (l : Str) : wds l ≠ [] := split_ne l tl_blank blank_ok
theorem wds_join (l : Str) : Txt.join blank (wds l) = l := join_split l tl_blank blank_ok
theorem wds_len (l : Str) : ((wds l).map (·.length)).sum + (wds l).length = l.length + 1 := split_len l tl_blank blank_ok
theorem wds_mem {l w : Str} (h : w ∈ wds l) : w.length ≤ l.length := by
  have e := wds_len l
  have z := sum_ge (List.mem_map_of_mem (f := (·.length)) h)
  have p : 0 < (wds l).length := List.length_pos_of_mem h
  omega
/-! ### numbers -/
def digs : Str := "0123456789"
def isDig (c : Nat) : Bool := decide (c ∈ digs.cps.toList)
theorem isDig_iff (c : Nat) : isDig c = true ↔ 48 ≤ c ∧ c ≤ 57 := by
  have e : digs.cps.toList = [48, 49, 50, 51, 52, 53, 54, 55, 56, 57] := rfl
  unfold isDig
  rw [e]
  simp only [List.mem_cons, List.not_mem_nil, or_false, decide_eq_true_eq]
  omega
/-- read_number -/
def rdNum (w : Str) (most : Int) : Option Int :=
  if w = ("" : Str) ∨ (w.length : Int) > most then none
  else if (tl w).all isDig = false then none
  else if (tl w).head? = some 48 ∧ (w.length : Int) > 1 then none
  else some (NumText.digitsVal (tl w) : Nat)
theorem digs_of {w : Str} (h : (tl w).all isDig = true) : NumText.AllDigits (tl w) := fun c hc => by
  have z := (isDig_iff c).mp (List.all_eq_true.mp h c hc)
  omega
theorem digitsVal_app (l : List Nat) (c : Nat) : NumText.digitsVal (l ++ [c]) = NumText.digitsVal l * 10 + (c - 48) := by
  unfold NumText.digitsVal
  rw [List.foldl_append]
  rfl
/-- digits without a leading zero are a number's own -/
theorem numL_back : ∀ (n : Nat) (l : List Nat), l.length = n → NumText.AllDigits l → l ≠ [] → (l.head? = some 48 → l.length = 1) → numL (NumText.digitsVal l) = l := by
  intro n
  induction n with
  | zero =>
    intro l hl _ hne _
    exact absurd (List.length_eq_zero_iff.mp hl) hne
  | succ n ih =>
    intro l hl hd hne h0
    obtain ⟨r, c, rfl⟩ : ∃ r c, l = r ++ [c] := ⟨l.dropLast, l.getLast hne, (List.dropLast_concat_getLast hne).symm⟩
    have hc : 48 ≤ c ∧ c ≤ 57 := hd c (by simp)
    rw [digitsVal_app]
    by_cases hr : r = []
    · subst hr
      have e : NumText.digitsVal ([] : List Nat) = 0 := rfl
      rw [e, Nat.zero_mul, Nat.zero_add, numL_lt (by omega)]
      have : 48 + (c - 48) = c := by omega
      rw [this]
      rfl
    · have hdr : NumText.AllDigits r := fun x hx => hd x (List.mem_append_left _ hx)
      have hlr : r.length = n := by
        rw [List.length_append] at hl
        simpa using hl
      have hh : r.head? ≠ some 48 := fun z => by
        have e : (r ++ [c]).head? = some 48 := by rw [List.head?_append, z]; rfl
        have e1 := h0 e
        rw [List.length_append] at e1
        have h2 : 0 < r.length := List.length_pos_iff.mpr hr
        have h3 : r.length + 1 = 1 := e1
        omega
      have back := ih r hlr hdr hr (fun z => absurd z hh)
      have pos : 0 < NumText.digitsVal r := by
        rcases Nat.eq_zero_or_pos (NumText.digitsVal r) with z | z
        · rw [z, numL_lt (by decide)] at back
          rw [← back] at hh
          exact absurd rfl hh
        · exact z
      rw [numL_step (n := NumText.digitsVal r * 10 + (c - 48)) (by omega)]
      have e1 : (NumText.digitsVal r * 10 + (c - 48)) / 10 = NumText.digitsVal r := by omega
      have e2 : 48 + (NumText.digitsVal r * 10 + (c - 48)) % 10 = c := by omega
      rw [e1, e2, back]
abbrev shw (i : Int) : Str := Str.ofString (toString i)
theorem rdNum_some {w : Str} {most n : Int} (h : rdNum w most = some n) : 0 ≤ n ∧ w = shw n ∧ w ≠ ("" : Str) ∧ (w.length : Int) ≤ most ∧ (tl w).all isDig = true ∧ n = (NumText.digitsVal (tl w) : Nat) := by
  unfold rdNum at h
  split at h
  · cases h
  · rename_i h1
    split at h
    · cases h
    · rename_i h2
      split at h
      · cases h
      · rename_i h3
        have e : ((NumText.digitsVal (tl w) : Nat) : Int) = n := Option.some.inj h
        have hd : (tl w).all isDig = true := by simpa using h2
        have ne : w ≠ ("" : Str) := fun z => h1 (.inl z)
        have ne2 : tl w ≠ [] := fun z => ne (ext_tl z)
        refine ⟨by omega, ?_, ne, by omega, hd, e.symm⟩
        rw [← e]
        refine ext_tl ?_
        rw [tl_num, numL_back _ _ rfl (digs_of hd) ne2]
        intro z
        have hlen := len_tl w
        have : 0 < (tl w).length := List.length_pos_iff.mpr ne2
        have : ¬ ((w.length : Int) > 1) := fun y => h3 ⟨z, y⟩
        omega
def nums : List Str → Option (List Int)
  | [] => some []
  | w :: r => match rdNum w 13, nums r with
    | some n, some l => some (n :: l)
    | _, _ => none
theorem nums_some : ∀ {ws : List Str} {l : List Int}, nums ws = some l → ws = l.map shw ∧ (∀ n ∈ l, 0 ≤ n) ∧ ws.map (fun w => rdNum w 13) = l.map some
  | [], l, h => by
    have e : l = [] := (Option.some.inj h).symm
    subst e
    exact ⟨rfl, (fun n hn => absurd hn (by simp)), rfl⟩
  | w :: r, l, h => by
    unfold nums at h
    cases hw : rdNum w 13 with
    | none => rw [hw] at h; cases h
    | some n =>
      cases hr : nums r with
      | none => rw [hw, hr] at h; cases h
      | some t =>
        rw [hw, hr] at h
        have e : n :: t = l := Option.some.inj h
        subst e
        obtain ⟨e1, e2, e3⟩ := nums_some hr
        have hn := rdNum_some hw
        refine ⟨by rw [List.map_cons, ← e1, ← hn.2.1], fun m hm => ?_, by rw [List.map_cons, List.map_cons, hw, e3]⟩
        rcases List.mem_cons.mp hm with z | z
        · rw [z]; exact hn.1
        · exact e2 m z
theorem nums_none : ∀ {ws : List Str}, nums ws = none → ∃ w ∈ ws, rdNum w 13 = none
  | [], h => by cases h
  | w :: r, h => by
    unfold nums at h
    cases hw : rdNum w 13 with
    | none => exact ⟨w, List.mem_cons_self .., hw⟩
    | some n =>
      cases hr : nums r with
      | none =>
        obtain ⟨v, hv, e⟩ := nums_none hr
        exact ⟨v, List.mem_cons_of_mem _ hv, e⟩
      | some t => rw [hw, hr] at h; cases h
end Bm
set_option Elab.async false
set_option linter.all false
set_option maxRecDepth 100000
/-! Rows and desks in plain Lean. -/
namespace Bm
open PySem TL
/-! ### a row -/
structure RowD where
  kinds : List Int
  stand : List Int
  taken : List Int
  marks : List Str
  meets : List (Int × Int)
  deeds : List (Bool × Int)
def upto (n : Nat) : List Int := (List.range n).map fun (i : Nat) => (i : Int)
def RowD.new (ks : List Int) : RowD := ⟨ks, upto ks.length, [], [], (List.range (ks.length - 1)).map fun (i : Nat) => ((i : Int), (i : Int) + 1), []⟩
def nbr (l : List Int) (b : Int) : Int × Int := (l.getD (l.idxOf b - 1) 0, l.getD (l.idxOf b + 1) 0)
def markOf (l b r : Int) : Str := if l = r then (if b = l then "quiet" else "odd") else if b = l ∨ b = r then "edge" else "strife"
def RowD.kd (R : RowD) (i : Int) : Int := R.kinds.getD i.toNat 0
def RowD.mk1 (R : RowD) (b : Int) : Str := markOf (R.kd (nbr R.stand b).1) (R.kd b) (R.kd (nbr R.stand b).2)
def RowD.mark (R : RowD) (b : Int) : Option Str :=
  if b < 0 ∨ b ≥ R.kinds.length then none else if b ∉ R.stand then none else if b = 0 ∨ b = (R.kinds.length : Int) - 1 then none else some (R.mk1 b)
def RowD.take (R : RowD) (b : Int) : RowD := ⟨R.kinds, R.stand.filter fun o => decide (o ≠ b), R.taken ++ [b], R.marks ++ [R.mk1 b], R.meets ++ [nbr R.stand b], R.deeds ++ [(true, b)]⟩
def RowD.grow (R : RowD) (k : Int) : RowD := ⟨R.kinds ++ [k], R.stand ++ [(R.kinds.length : Int)], R.taken, R.marks, R.meets ++ [((R.kinds.length : Int) - 1, (R.kinds.length : Int))], R.deeds ++ [(false, (R.kinds.length : Int))]⟩
structure RowOk (R : RowD) (N : Nat) : Prop where
  k2 : 2 ≤ R.kinds.length
  k24 : R.kinds.length ≤ 24
  kr : ∀ k ∈ R.kinds, 0 ≤ k ∧ k ≤ 999
  st : R.stand.Pairwise (· < ·)
  s0 : R.stand.head? = some 0
  sl : R.stand.getLast? = some ((R.kinds.length : Int) - 1)
  sr : ∀ b ∈ R.stand, 0 ≤ b ∧ b < R.kinds.length
  lenS : R.stand.length ≤ R.kinds.length
  lenT : R.taken.length ≤ N
  lenM : R.marks.length ≤ N
  lenG : R.meets.length ≤ N + 24
  lenD : R.deeds.length ≤ N
theorem RowOk.mono {R : RowD} {N M : Nat} (h : RowOk R N) (l : N ≤ M) : RowOk R M :=
  ⟨h.k2, h.k24, h.kr, h.st, h.s0, h.sl, h.sr, h.lenS, by have := h.lenT; omega, by have := h.lenM; omega, by have := h.lenG; omega, by have := h.lenD; omega⟩
theorem upto_mem {n : Nat} {b : Int} : b ∈ upto n ↔ 0 ≤ b ∧ b < n := by
  unfold upto
  rw [List.mem_map]
  constructor
  · rintro ⟨i, hi, rfl⟩
    have := List.mem_range.mp hi
    omega
  · rintro ⟨h1, h2⟩
    exact ⟨b.toNat, List.mem_range.mpr (by omega), by omega⟩
theorem upto_len (n : Nat) : (upto n).length = n := by
  unfold upto
  rw [List.length_map, List.length_range]
theorem upto_sorted (n : Nat) : (upto n).Pairwise (· < ·) := by
  unfold upto
  rw [List.pairwise_map]
  exact List.pairwise_lt_range.imp fun h => by omega
theorem new_ok {ks : List Int} {N : Nat} (h2 : 2 ≤ ks.length) (h24 : ks.length ≤ 24) (hr : ∀ k ∈ ks, 0 ≤ k ∧ k ≤ 999) : RowOk (RowD.new ks) N := by
  obtain ⟨m, hm⟩ : ∃ m, ks.length = m + 2 := ⟨ks.length - 2, by omega⟩
  refine ⟨h2, h24, hr, upto_sorted _, ?_, ?_, fun b hb => upto_mem.mp hb, ?_, Nat.zero_le _, Nat.zero_le _, ?_, Nat.zero_le _⟩
  · show (upto ks.length).head? = some 0
    rw [hm]
    unfold upto
    rw [List.range_succ_eq_map] <;> rfl
  · show (upto ks.length).getLast? = some ((ks.length : Int) - 1)
    rw [hm]
    unfold upto
    rw [show m + 2 = (m + 1) + 1 from rfl, List.range_succ, List.map_append, List.map_singleton, List.getLast?_concat]
    congr 1
    omega
  · show (upto ks.length).length ≤ ks.length
    rw [upto_len]
    exact Nat.le_refl _
  · show ((List.range (ks.length - 1)).map _).length ≤ N + 24
    rw [List.length_map, List.length_range]
    omega
theorem mark_some {R : RowD} {b : Int} {m : Str} (h : R.mark b = some m) : 0 < b ∧ b < (R.kinds.length : Int) - 1 ∧ b ∈ R.stand ∧ m = R.mk1 b := by
  unfold RowD.mark at h
  split at h
  · cases h
  · rename_i h1
    split at h
    · cases h
    · rename_i h2
      split at h
      · cases h
      · rename_i h3
        exact ⟨by omega, by omega, Classical.byContradiction h2, (Option.some.inj h).symm⟩
/-- an inner bead stands between two others -/
theorem inner_at {R : RowD} {N : Nat} (ok : RowOk R N) {b : Int} (hb : b ∈ R.stand) (h0 : 0 < b) (h1 : b < (R.kinds.length : Int) - 1) :
    ∃ j, 1 ≤ j ∧ j + 1 < R.stand.length ∧ R.stand.idxOf b = j ∧ R.stand[j]? = some b := by
  have hlt : R.stand.idxOf b < R.stand.length := List.idxOf_lt_length_iff.mpr hb
  have hg : R.stand[R.stand.idxOf b]? = some b := by
    rw [List.getElem?_eq_getElem hlt]
    congr 1
    exact List.getElem_idxOf hlt
  refine ⟨R.stand.idxOf b, ?_, ?_, rfl, hg⟩
  · rcases Nat.eq_zero_or_pos (R.stand.idxOf b) with z | z
    · have s0 := ok.s0
      rw [List.head?_eq_getElem?, ← z, hg] at s0
      have : b = 0 := Option.some.inj s0
      omega
    · exact z
  · rcases Nat.lt_or_ge (R.stand.idxOf b + 1) R.stand.length with z | z
    · exact z
    · have sl := ok.sl
      rw [List.getLast?_eq_getElem?] at sl
      have e : R.stand.length - 1 = R.stand.idxOf b := by omega
      rw [e, hg] at sl
      have := Option.some.inj sl
      omega
theorem take_ok {R : RowD} {N : Nat} {b : Int} {m : Str} (ok : RowOk R N) (h : R.mark b = some m) : RowOk (R.take b) (N + 1) := by
  obtain ⟨h0, h1, hb, _⟩ := mark_some h
  have hne0 : (0 : Int) ≠ b := by omega
  have hnel : (R.kinds.length : Int) - 1 ≠ b := by omega
  refine ⟨ok.k2, ok.k24, ok.kr, ok.st.filter _, ?_, ?_, fun c hc => ok.sr c (List.mem_filter.mp hc).1, Nat.le_trans (List.length_filter_le _ _) ok.lenS, ?_, ?_, ?_, ?_⟩
  · show (R.stand.filter fun o => decide (o ≠ b)).head? = some 0
    have s0 := ok.s0
    cases e : R.stand with
    | nil => rw [e] at s0; cases s0
    | cons x r =>
      rw [e] at s0
      have : x = 0 := Option.some.inj s0
      subst this
      rw [List.filter_cons_of_pos (by simpa using hne0)]
      rfl
  · show (R.stand.filter fun o => decide (o ≠ b)).getLast? = some ((R.kinds.length : Int) - 1)
    have sl := ok.sl
    obtain ⟨r, e⟩ := List.getLast?_eq_some_iff.mp sl
    rw [e, List.filter_append, List.filter_cons_of_pos (by simpa using hnel), List.filter_nil, List.getLast?_concat]
  · have := ok.lenT
    show (R.taken ++ [b]).length ≤ N + 1
    rw [List.length_append]
    show R.taken.length + 1 ≤ N + 1
    omega
  · have := ok.lenM
    show (R.marks ++ [_]).length ≤ N + 1
    rw [List.length_append]
    show R.marks.length + 1 ≤ N + 1
    omega
  · have := ok.lenG
    show (R.meets ++ [_]).length ≤ N + 1 + 24
    rw [List.length_append]
    show R.meets.length + 1 ≤ N + 1 + 24
    omega
  · have := ok.lenD
    show (R.deeds ++ [_]).length ≤ N + 1
    rw [List.length_append]
    show R.deeds.length + 1 ≤ N + 1
    omega
theorem grow_ok {R : RowD} {N : Nat} {k : Int} (ok : RowOk R N) (h : R.kinds.length < 24) (hk : 0 ≤ k ∧ k ≤ 999) : RowOk (R.grow k) (N + 1) := by
  have e : (R.grow k).kinds.length = R.kinds.length + 1 := by
    show (R.kinds ++ [k]).length = _
    rw [List.length_append] <;> rfl
  refine ⟨by rw [e]; have := ok.k2; omega, by rw [e]; omega, fun x hx => ?_, ?_, ?_, ?_, fun b hb => ?_, ?_, ?_, ?_, ?_, ?_⟩
  · rcases List.mem_append.mp (show x ∈ R.kinds ++ [k] from hx) with z | z
    · exact ok.kr x z
    · rw [List.mem_singleton.mp z]
      exact hk
  · show (R.stand ++ [(R.kinds.length : Int)]).Pairwise (· < ·)
    rw [List.pairwise_append]
    exact ⟨ok.st, List.pairwise_singleton _ _, fun a ha b hb => by rw [List.mem_singleton.mp hb]; exact (ok.sr a ha).2⟩
  · show (R.stand ++ [(R.kinds.length : Int)]).head? = some 0
    rw [List.head?_append, ok.s0] <;> rfl
  · show (R.stand ++ [(R.kinds.length : Int)]).getLast? = _
    rw [List.getLast?_concat, e]
    congr 1
    omega
  · rw [e]
    rcases List.mem_append.mp (show b ∈ R.stand ++ [(R.kinds.length : Int)] from hb) with z | z
    · have := ok.sr b z
      omega
    · rw [List.mem_singleton.mp z]
      omega
  · rw [e]
    have := ok.lenS
    show (R.stand ++ [_]).length ≤ _
    rw [List.length_append]
    show R.stand.length + 1 ≤ _
    omega
  · have := ok.lenT
    show R.taken.length ≤ N + 1
    omega
  · have := ok.lenM
    show R.marks.length ≤ N + 1
    omega
  · have := ok.lenG
    show (R.meets ++ [_]).length ≤ N + 1 + 24
    rw [List.length_append]
    show R.meets.length + 1 ≤ N + 1 + 24
    omega
  · have := ok.lenD
    show (R.deeds ++ [_]).length ≤ N + 1
    rw [List.length_append]
    show R.deeds.length + 1 ≤ N + 1
    omega
/-- what undo gives back to the standing beads -/
theorem sorted_back {R : RowD} {N : Nat} {b : Int} (ok : RowOk R N) (hb : b ∈ R.stand) {l : List Int} (hp : l.Perm ((R.stand.filter fun o => decide (o ≠ b)) ++ [b])) (hs : l.Pairwise (· ≤ ·)) : l = R.stand := by
  have hn : R.stand.Nodup := ok.st.imp fun h => by omega
  have hp2 : ((R.stand.filter fun o => decide (o ≠ b)) ++ [b]).Perm R.stand := by
    have e : (R.stand.filter fun o => decide (o ≠ b)) = R.stand.erase b := by
      rw [hn.erase_eq_filter b]
      exact List.filter_congr fun x _ => (by rw [Bool.eq_iff_iff] <;> simp)
    rw [e]
    exact (List.perm_append_singleton b (R.stand.erase b)).trans (List.perm_cons_erase hb).symm
  exact (hp.trans hp2).eq_of_pairwise (le := (· ≤ ·)) (fun a c _ _ h1 h2 => by omega) hs (ok.st.imp fun h => by omega)

/-! ### the desk -/
inductive Ent where
  | paid (name : Str) (bead : Int) (mark : Str) (price : Int)
  | inn (amount : Int)
structure Core where
  coins : Int
  writ : List Ent
  opn : Int × Int × Int × Int × Int
  rows : List (Str × RowD)
  done : List Str
def Core.new (o : Int × Int × Int × Int × Int) : Core := ⟨o.1, [], o, [], []⟩
def rowOf : List (Str × RowD) → Str → Option RowD
  | [], _ => none
  | p :: r, n => if p.1 = n then some p.2 else rowOf r n
def setRow : List (Str × RowD) → Str → RowD → List (Str × RowD)
  | [], _, _ => []
  | p :: r, n, R => if p.1 = n then (n, R) :: r else p :: setRow r n R
def dropRow (l : List (Str × RowD)) (n : Str) : List (Str × RowD) := l.filter fun p => decide (p.1 ≠ n)
def letters : Str := "abcdefghijklmnopqrstuvwxyz"
def isName (n : Str) : Bool := if n = ("" : Str) ∨ (n.length : Int) > 12 then false else (tl n).all fun c => decide (c ∈ letters.cps.toList)
def badStrand (ks : List Int) : Bool := decide ((ks.length : Int) < 2 ∨ (ks.length : Int) > 24) || ks.any fun k => decide (k < 0 ∨ k > 999)
def Core.price (c : Core) (m : Str) : Int := if m = ("quiet" : Str) then c.opn.2.1 else if m = ("odd" : Str) then c.opn.2.2.1 else if m = ("edge" : Str) then c.opn.2.2.2.1 else c.opn.2.2.2.2
def Core.lay (c : Core) (n : Str) (ks : List Int) : Option Core :=
  if isName n = false then none else if (rowOf c.rows n).isSome = true then none else if (c.rows.length : Int) = 12 then none else if badStrand ks = true then none else some { c with rows := c.rows ++ [(n, RowD.new ks)] }
def Core.take (c : Core) (n : Str) (b : Int) : Option Core := match rowOf c.rows n with
  | none => none
  | some R => match R.mark b with
    | none => none
    | some m => if c.price m > c.coins then none else some { c with coins := c.coins - c.price m, writ := c.writ ++ [.paid n b m (c.price m)], rows := setRow c.rows n (R.take b) }
def Core.grow (c : Core) (n : Str) (k : Int) : Option Core := match rowOf c.rows n with
  | none => none
  | some R => if k < 0 ∨ k > 999 then none else if R.kinds.length ≥ 24 then none else some { c with rows := setRow c.rows n (R.grow k) }
def Core.pay (c : Core) (a : Int) : Option Core := if a < 1 ∨ a > 1000000000 ∨ c.coins + a > 1000000000000 then none else some { c with coins := c.coins + a, writ := c.writ ++ [.inn a] }
def Core.stood (c : Core) (l : Str) : Core := { c with done := c.done ++ [l] }
def wd (l : Str) (i : Nat) : Str := (wds l).getD i ""
/-- what a line does, not yet noted -/
def Core.act (c : Core) (l : Str) : Option Core :=
  if wd l 0 = ("lay" : Str) ∧ 3 ≤ (wds l).length then (nums ((wds l).drop 2)).bind fun ks => c.lay (wd l 1) ks
  else if wd l 0 = ("take" : Str) ∧ (wds l).length = 3 then (nums ((wds l).drop 2)).bind fun ks => c.take (wd l 1) (ks.getD 0 0)
  else if wd l 0 = ("grow" : Str) ∧ (wds l).length = 3 then (nums ((wds l).drop 2)).bind fun ks => c.grow (wd l 1) (ks.getD 0 0)
  else if wd l 0 = ("coins" : Str) ∧ (wds l).length = 2 then (nums ((wds l).drop 1)).bind fun ks => c.pay (ks.getD 0 0)
  else none
def Core.step (c : Core) (l : Str) : Option Core := (c.act l).map fun c' => c'.stood l
/-- do, line by line -/
def Core.run : Core → List Str → Option Core
  | c, [] => some c
  | c, l :: r => match c.step l with
    | none => none
    | some c' => c'.run r
theorem run_snoc : ∀ {c : Core} {ls : List Str} {l : Str}, c.run (ls ++ [l]) = (c.run ls).bind fun d => d.step l
  | c, [], l => by
    show (match c.step l with | none => none | some c' => c'.run []) = c.step l
    cases c.step l <;> rfl
  | c, a :: r, l => by
    show (match c.step a with | none => none | some c' => c'.run (r ++ [l])) = (match c.step a with | none => none | some c' => c'.run r).bind _
    cases c.step a with
    | none => rfl
    | some c' => exact run_snoc
/-! ### what the desk keeps to -/
structure CoreOk (c : Core) : Prop where
  rows : ∀ p ∈ c.rows, RowOk p.2 c.done.length
  names : (c.rows.map (·.1)).Nodup
  r12 : c.rows.length ≤ 12
  wl : c.writ.length ≤ c.done.length
theorem rowOf_mem : ∀ {l : List (Str × RowD)} {n : Str} {R : RowD}, rowOf l n = some R → (n, R) ∈ l
  | p :: r, n, R, h => by
    unfold rowOf at h
    split at h
    · rename_i e
      obtain ⟨a, b⟩ := p
      have e2 : b = R := Option.some.inj h
      dsimp only at e
      subst e e2
      exact List.mem_cons_self ..
    · exact List.mem_cons_of_mem _ (rowOf_mem h)
theorem rowOf_none : ∀ {l : List (Str × RowD)} {n : Str}, rowOf l n = none ↔ n ∉ l.map (·.1)
  | [], n => by simp [rowOf]
  | p :: r, n => by
    unfold rowOf
    rw [List.map_cons, List.mem_cons]
    split
    · rename_i e
      constructor
      · intro h; cases h
      · intro h; exact absurd (.inl e.symm) h
    · rename_i e
      rw [rowOf_none (l := r)]
      constructor
      · rintro h (z | z)
        · exact e z.symm
        · exact h z
      · intro h z
        exact h (.inr z)
theorem setRow_pos {p : Str × RowD} {r : List (Str × RowD)} {n : Str} {R : RowD} (e : p.1 = n) : setRow (p :: r) n R = (n, R) :: r := if_pos e
theorem setRow_neg {p : Str × RowD} {r : List (Str × RowD)} {n : Str} {R : RowD} (e : ¬ p.1 = n) : setRow (p :: r) n R = p :: setRow r n R := if_neg e
theorem setRow_names : ∀ (l : List (Str × RowD)) (n : Str) (R : RowD), (setRow l n R).map (·.1) = l.map (·.1)
  | [], n, R => rfl
  | p :: r, n, R => by
    unfold setRow
    split
    · rename_i e
      rw [List.map_cons, List.map_cons, ← e]
    · rw [List.map_cons, List.map_cons, setRow_names r n R]
theorem setRow_mem : ∀ {l : List (Str × RowD)} {n : Str} {R : RowD} {q : Str × RowD}, q ∈ setRow l n R → q ∈ l ∨ q = (n, R)
  | p :: r, n, R, q, h => by
    unfold setRow at h
    split at h
    · rcases List.mem_cons.mp h with z | z
      · exact .inr z
      · exact .inl (List.mem_cons_of_mem _ z)
    · rcases List.mem_cons.mp h with z | z
      · exact .inl (by rw [z]; exact List.mem_cons_self ..)
      · rcases setRow_mem z with y | y
        · exact .inl (List.mem_cons_of_mem _ y)
        · exact .inr y
theorem setRow_get : ∀ {l : List (Str × RowD)} {n : Str} {R R' : RowD}, rowOf l n = some R → rowOf (setRow l n R') n = some R'
  | p :: r, n, R, R', h => by
    unfold rowOf at h
    unfold setRow
    split at h
    · rename_i e
      rw [if_pos e]
      unfold rowOf
      rw [if_pos rfl]
    · rename_i e
      rw [if_neg e]
      unfold rowOf
      rw [if_neg e]
      exact setRow_get h
theorem setRow_back : ∀ {l : List (Str × RowD)} {n : Str} {R R' : RowD}, rowOf l n = some R → setRow (setRow l n R') n R = l
  | p :: r, n, R, R', h => by
    unfold rowOf at h
    split at h
    · rename_i e
      obtain ⟨a, b⟩ := p
      have e2 : b = R := Option.some.inj h
      dsimp only at e
      subst e e2
      rw [setRow_pos rfl, setRow_pos rfl]
    · rename_i e
      rw [setRow_neg e, setRow_neg e, setRow_back h]
theorem dropRow_back {l : List (Str × RowD)} {n : Str} {R : RowD} (h : rowOf l n = none) : dropRow (l ++ [(n, R)]) n = l := by
  unfold dropRow
  rw [List.filter_append]
  have e1 : (l.filter fun p => decide (p.1 ≠ n)) = l := by
    rw [List.filter_eq_self]
    intro p hp
    rw [decide_eq_true_eq]
    rintro rfl
    exact rowOf_none.mp h (List.mem_map_of_mem hp)
  have e2 : ([(n, R)].filter fun p : Str × RowD => decide (p.1 ≠ n)) = [] := by simp
  rw [e1, e2, List.append_nil]
theorem badStrand_no {ks : List Int} (h : badStrand ks = false) : 2 ≤ ks.length ∧ ks.length ≤ 24 ∧ ∀ k ∈ ks, 0 ≤ k ∧ k ≤ 999 := by
  unfold badStrand at h
  rw [Bool.or_eq_false_iff] at h
  obtain ⟨h1, h2⟩ := h
  have h3 := of_decide_eq_false h1
  refine ⟨by omega, by omega, fun k hk => ?_⟩
  have z := List.any_eq_false.mp h2 k hk
  have z2 : ¬ (k < 0 ∨ k > 999) := by simpa using z
  omega
/-- one line more: all is kept to -/
theorem act_ok {c d : Core} {l : Str} (ok : CoreOk c) (h : c.act l = some d) : CoreOk (d.stood l) ∧ d.opn = c.opn ∧ d.done = c.done := by
  have dl : (c.done ++ [l]).length = c.done.length + 1 := by rw [List.length_append] <;> rfl
  have rmono : ∀ p ∈ c.rows, RowOk p.2 (c.done.length + 1) := fun p hp => (ok.rows p hp).mono (Nat.le_succ _)
  have lay : ∀ {n : Str} {ks : List Int}, c.lay n ks = some d → CoreOk (d.stood l) ∧ d.opn = c.opn ∧ d.done = c.done := by
    intro n ks h
    unfold Core.lay at h
    split at h
    · cases h
    split at h
    · cases h
    rename_i h2
    split at h
    · cases h
    rename_i h3
    split at h
    · cases h
    rename_i h4
    have e := Option.some.inj h
    subst e
    obtain ⟨b1, b2, b3⟩ := badStrand_no (by simpa using h4)
    have hn : rowOf c.rows n = none := by simpa using h2
    refine ⟨⟨fun p hp => ?_, ?_, ?_, ?_⟩, rfl, rfl⟩
    · show RowOk p.2 (c.done ++ [l]).length
      rw [dl]
      rcases List.mem_append.mp hp with z | z
      · exact rmono p z
      · rw [List.mem_singleton.mp z]
        exact new_ok b1 b2 b3
    · show ((c.rows ++ [(n, RowD.new ks)]).map (·.1)).Nodup
      rw [List.map_append, List.nodup_append]
      refine ⟨ok.names, by simp, fun a ha b hb => ?_⟩
      have hb' : b = n := by simpa using hb
      rw [hb']
      rintro rfl
      exact rowOf_none.mp hn ha
    · show (c.rows ++ [_]).length ≤ 12
      have := ok.r12
      rw [List.length_append]
      show c.rows.length + 1 ≤ 12
      omega
    · show c.writ.length ≤ (c.done ++ [l]).length
      rw [dl]
      exact Nat.le_succ_of_le ok.wl
  have rowset : ∀ {n : Str} {R' : RowD}, RowOk R' (c.done.length + 1) → (∀ p ∈ setRow c.rows n R', RowOk p.2 (c.done.length + 1)) ∧ ((setRow c.rows n R').map (·.1)).Nodup ∧ (setRow c.rows n R').length ≤ 12 := by
    intro n R' hr
    have en := setRow_names c.rows n R'
    refine ⟨fun p hp => ?_, by rw [en]; exact ok.names, ?_⟩
    · rcases setRow_mem hp with z | z
      · exact rmono p z
      · rw [z]; exact hr
    · have e := congrArg List.length en
      rw [List.length_map, List.length_map] at e
      rw [e]
      exact ok.r12
  have take : ∀ {n : Str} {b : Int}, c.take n b = some d → CoreOk (d.stood l) ∧ d.opn = c.opn ∧ d.done = c.done := by
    intro n b h
    unfold Core.take at h
    cases hr : rowOf c.rows n with
    | none => rw [hr] at h; cases h
    | some R =>
      rw [hr] at h
      dsimp only at h
      cases hm : R.mark b with
      | none => rw [hm] at h; cases h
      | some m =>
        rw [hm] at h
        dsimp only at h
        split at h
        · cases h
        have e := Option.some.inj h
        subst e
        obtain ⟨r1, r2, r3⟩ := rowset (n := n) (take_ok (ok.rows _ (rowOf_mem hr)) hm)
        refine ⟨⟨fun p hp => (by show RowOk p.2 (c.done ++ [l]).length; rw [dl]; exact r1 p hp), r2, r3, ?_⟩, rfl, rfl⟩
        show (c.writ ++ [_]).length ≤ (c.done ++ [l]).length
        rw [dl]
        have := ok.wl
        rw [List.length_append]
        show c.writ.length + 1 ≤ _
        omega
  have grow : ∀ {n : Str} {k : Int}, c.grow n k = some d → CoreOk (d.stood l) ∧ d.opn = c.opn ∧ d.done = c.done := by
    intro n k h
    unfold Core.grow at h
    cases hr : rowOf c.rows n with
    | none => rw [hr] at h; cases h
    | some R =>
      rw [hr] at h
      dsimp only at h
      split at h
      · cases h
      rename_i h1
      split at h
      · cases h
      rename_i h2
      have e := Option.some.inj h
      subst e
      have h3 : R.kinds.length < 24 := by omega
      have h4 : 0 ≤ k ∧ k ≤ 999 := by omega
      obtain ⟨r1, r2, r3⟩ := rowset (n := n) (grow_ok (k := k) (ok.rows _ (rowOf_mem hr)) h3 h4)
      refine ⟨⟨fun p hp => (by show RowOk p.2 (c.done ++ [l]).length; rw [dl]; exact r1 p hp), r2, r3, ?_⟩, rfl, rfl⟩
      show c.writ.length ≤ (c.done ++ [l]).length
      rw [dl]
      exact Nat.le_succ_of_le ok.wl
  have pay : ∀ {a : Int}, c.pay a = some d → CoreOk (d.stood l) ∧ d.opn = c.opn ∧ d.done = c.done := by
    intro a h
    unfold Core.pay at h
    split at h
    · cases h
    have e := Option.some.inj h
    subst e
    refine ⟨⟨fun p hp => (by show RowOk p.2 (c.done ++ [l]).length; rw [dl]; exact rmono p hp), ok.names, ok.r12, ?_⟩, rfl, rfl⟩
    show (c.writ ++ [_]).length ≤ (c.done ++ [l]).length
    rw [dl]
    have := ok.wl
    rw [List.length_append]
    show c.writ.length + 1 ≤ _
    omega
  unfold Core.act at h
  split at h
  · obtain ⟨ks, _, h⟩ := Option.bind_eq_some_iff.mp h
    exact lay h
  split at h
  · obtain ⟨ks, _, h⟩ := Option.bind_eq_some_iff.mp h
    exact take h
  split at h
  · obtain ⟨ks, _, h⟩ := Option.bind_eq_some_iff.mp h
    exact grow h
  split at h
  · obtain ⟨ks, _, h⟩ := Option.bind_eq_some_iff.mp h
    exact pay h
  · cases h
theorem step_ok {c d : Core} {l : Str} (ok : CoreOk c) (h : c.step l = some d) : CoreOk d ∧ d.opn = c.opn ∧ d.done = c.done ++ [l] := by
  unfold Core.step at h
  obtain ⟨e, he, h⟩ := Option.map_eq_some_iff.mp h
  subst h
  obtain ⟨h1, h2, h3⟩ := act_ok ok he
  exact ⟨h1, h2, by show e.done ++ [l] = _; rw [h3]⟩
theorem new_core (o : Int × Int × Int × Int × Int) : CoreOk (Core.new o) := ⟨fun p hp => absurd hp (by simp [Core.new]), by simp [Core.new], by simp [Core.new], by simp [Core.new]⟩
/-- a desk that its own lines rebuild -/
def Good (c : Core) : Prop := (Core.new c.opn).run c.done = some c
theorem good_new (o : Int × Int × Int × Int × Int) : Good (Core.new o) := rfl
theorem run_ok : ∀ {ls : List Str} {c d : Core}, CoreOk c → c.run ls = some d → CoreOk d ∧ d.opn = c.opn ∧ d.done = c.done ++ ls
  | [], c, d, ok, h => by
    have e : c = d := Option.some.inj h
    subst e
    exact ⟨ok, rfl, by rw [List.append_nil]⟩
  | l :: r, c, d, ok, h => by
    unfold Core.run at h
    cases e : c.step l with
    | none => rw [e] at h; cases h
    | some c' =>
      rw [e] at h
      obtain ⟨h1, h2, h3⟩ := step_ok ok e
      obtain ⟨g1, g2, g3⟩ := run_ok h1 h
      exact ⟨g1, g2.trans h2, by rw [g3, h3, List.append_assoc]; rfl⟩
theorem Good.ok {c : Core} (g : Good c) : CoreOk c := (run_ok (new_core _) g).1
theorem good_step {c d : Core} {l : Str} (g : Good c) (h : c.step l = some d) : Good d := by
  obtain ⟨_, e1, e2⟩ := step_ok g.ok h
  unfold Good
  rw [e1, e2, run_snoc, show (Core.new c.opn).run c.done = some c from g]
  exact h
/-- the desk before its last line -/
theorem good_back {c : Core} {ls : List Str} {l : Str} (g : Good c) (e : c.done = ls ++ [l]) : ∃ b : Core, Good b ∧ b.done = ls ∧ b.opn = c.opn ∧ b.step l = some c := by
  have g' : (Core.new c.opn).run c.done = some c := g
  rw [e, run_snoc] at g'
  obtain ⟨b, hb, hs⟩ := Option.bind_eq_some_iff.mp g'
  obtain ⟨_, e1, e2⟩ := run_ok (new_core _) hb
  have e1 : b.opn = c.opn := e1
  have e2 : b.done = [] ++ ls := e2
  rw [List.nil_append] at e2
  refine ⟨b, ?_, e2, e1, hs⟩
  unfold Good
  rw [e1, e2]
  exact hb
end Bm
set_option Elab.async false
set_option linter.all false
set_option maxRecDepth 100000
set_option maxHeartbeats 4000000
set_option pp.deepTerms false
set_option pp.maxSteps 3000
/-! Tests read at once; tactics of the walks. -/
namespace Bm
open PySem PySem.Spec PyProof.Rows L2 Evl TL
section
variable {K : PySem.W.Frag} {σ : L2.St} {H H' : Hp} {t u : TT} {te : TE} {b c : Bool} {D : Ends} {tu tw tz : TS} {v : V}
theorem a_and (h1 : Ans t σ H b) (h2 : b = true → Ans u σ H c) : Ans (tAnd t u) σ H (b && c) := by
  intro Q q
  refine h1 _ ?_
  cases b with
  | true => exact h2 rfl Q q
  | false => exact q
theorem a_or (h1 : Ans t σ H b) (h2 : b = false → Ans u σ H c) : Ans (tOr t u) σ H (b || c) := by
  intro Q q
  refine h1 _ ?_
  cases b with
  | true => exact q
  | false => exact h2 rfl Q q
theorem a_not (h1 : Ans t σ H b) : Ans (tNot t) σ H (!b) := fun Q q => h1 _ q
theorem a_test (h : Val te σ H (.bl b)) : Ans (tTest te) σ H b := fun Q q => h _ ⟨b, rfl, q⟩
theorem a_tr (h : Val te σ H v) (ht : TruV K v H b) : Ans (tTr K te) σ H b := fun Q q => h _ ⟨b, ht, q⟩
theorem qif (h : Ans t σ H b) (h1 : b = true → tu { D with nx := tz D } σ H) (h2 : b = false → tw { D with nx := tz D } σ H) : tSeq (tIfS t tu tw) tz D σ H := by
  refine h _ ?_
  cases b with
  | true => exact h1 rfl
  | false => exact h2 rfl
theorem sif (h : Ans t σ H b) (h1 : b = true → tu D σ H) (h2 : b = false → tw D σ H) : tIfS t tu tw D σ H := by
  refine h _ ?_
  cases b with
  | true => exact h1 rfl
  | false => exact h2 rfl
theorem qwh (h : Ans t σ H b) (h1 : b = true → tu { D with nx := tz D } σ H) (h2 : b = false → tz D σ H) : tSeq (tIfS t tu tNext) tz D σ H := qif h h1 h2
theorem swh (h : Ans t σ H b) (h1 : b = true → tu D σ H) (h2 : b = false → D.nx σ H) : tIfS t tu tNext D σ H := sif h h1 h2
/-- a test that lays objects on its way -/
def AnsX (t : TT) (σ : L2.St) (H : Hp) (b : Bool) : Prop := ∀ Q : Bool → Hp → Prop, (∀ H1, Ex H H1 → Q b H1) → t σ H Q
theorem Ans.x (h : Ans t σ H b) : AnsX t σ H b := fun Q q => h Q (q H (Ex.refl H))
theorem qifX (h : AnsX t σ H b) (h1 : b = true → ∀ H1, Ex H H1 → tu { D with nx := tz D } σ H1) (h2 : b = false → ∀ H1, Ex H H1 → tw { D with nx := tz D } σ H1) : tSeq (tIfS t tu tw) tz D σ H := by
  refine h _ fun H1 e => ?_
  cases b with
  | true => exact h1 rfl H1 e
  | false => exact h2 rfl H1 e
theorem sifX (h : AnsX t σ H b) (h1 : b = true → ∀ H1, Ex H H1 → tu D σ H1) (h2 : b = false → ∀ H1, Ex H H1 → tw D σ H1) : tIfS t tu tw D σ H := by
  refine h _ fun H1 e => ?_
  cases b with
  | true => exact h1 rfl H1 e
  | false => exact h2 rfl H1 e
theorem qwhX (h : AnsX t σ H b) (h1 : b = true → ∀ H1, Ex H H1 → tu { D with nx := tz D } σ H1) (h2 : b = false → ∀ H1, Ex H H1 → tz D σ H1) : tSeq (tIfS t tu tNext) tz D σ H := qifX h h1 h2
theorem swhX (h : AnsX t σ H b) (h1 : b = true → ∀ H1, Ex H H1 → tu D σ H1) (h2 : b = false → ∀ H1, Ex H H1 → D.nx σ H1) : tIfS t tu tNext D σ H := sifX h h1 h2
theorem dcI {i j : Int} : decide (V.int i = V.int j) = decide (i = j) := by
  rw [Bool.eq_iff_iff]
  simp
theorem dcS {i j : Str} : decide (V.str i = V.str j) = decide (i = j) := by
  rw [Bool.eq_iff_iff]
  simp
theorem Ex.at_ {a : Addr} {o : HO} (e : Ex H H') (h : H a = some o) : H' a = some o := e a o h
end
section
variable {K : PySem.W.Frag} {J : It} {n : Nat} {G : Hp → Prop} {Y : Nat → Hp → V → Hp → Prop} {tt : TT} {te : TE} {vs : List Nat} {σ : L2.St} {H : Hp} {D : Addr} {Qd : Hp → Prop} {j : Nat}
/-- a comprehension whose items are plain values: R, a word of the turn and what is made so far; f, which turns give -/
theorem lcX (w : Walk J n G Y) (It : Nat → V → Prop) (hY : ∀ i H x H', i < n → Y i H x H' → H' = H ∧ It i x) (hn : n < 100000) (hD : H D = none) (hG : ∀ H', Ex H H' → G H') (f : Nat → V → Bool) (R : Nat → List V → Prop) (h0 : R 0 []) (hw : ∀ x, wipe ((wipe σ vs).set j (some x)) vs = wipe σ vs)
    (ht : ∀ i x acc H1, i < n → It i x → R i acc → Ex H H1 → ∀ Q : Bool → Hp → Prop, (∀ H3, Ex H1 H3 → Q (f i x) H3) → tt ((wipe σ vs).set j (some x)) H1 Q)
    (he : ∀ i x acc H1, i < n → It i x → R i acc → Ex H H1 → f i x = true → ∀ Q : VK, (∀ y H4, Ex H1 H4 → R (i + 1) (acc ++ [y]) → Q y H4) → te ((wipe σ vs).set j (some x)) H1 Q)
    (hno : ∀ i x acc, i < n → It i x → R i acc → f i x = false → R (i + 1) acc)
    (hd : ∀ H2 ys, Ex H H2 → H2 D = some (.lst ys) → R n ys → ys.length ≤ n → Qd H2) :
    ∃ W : Nat → Nat → Hp → Prop, (∃ m, W 0 m (upd H D (.lst []))) ∧ ∀ i m H, W i m H →
      (J.stop i H ∧ Qd H) ∨ (J.go i H ∧ ∃ Nx : Hp → Prop, (∀ H', Nx H' → ∃ m', m' < m ∧ W (i + 1) m' H') ∧ ∀ x H', J.yld i H x H' → gName j x (wipe σ vs) H' fun σ2 H2 => wipe σ2 vs = wipe σ vs ∧ tt σ2 H2 fun b H3 =>
        if b = true then te σ2 H3 fun y H4 => ∃ acc, H4 D = some (.lst acc) ∧ acc.length < sizeLine ∧ Nx (upd H4 D (.lst (acc ++ [y]))) else Nx H3) := by
  refine lc_it w (fun i H' => ∃ ys, H' D = some (.lst ys) ∧ R i ys ∧ ys.length ≤ i ∧ Ex H H') ⟨[], upd_same, h0, Nat.le_refl _, Ex.new hD⟩ (fun i H' _ p => hG H' (by obtain ⟨_, _, _, _, e⟩ := p; exact e)) (fun i x H1 H1' hi p y => ?_) (fun H2 p => ?_)
  · obtain ⟨e, hx⟩ := hY i H1 x H1' hi y
    subst e
    obtain ⟨ys, p1, p2, p3, p4⟩ := p
    refine ⟨hw x, ht i x ys _ hi hx p2 p4 _ fun H3 e3 => ?_⟩
    cases hf : f i x with
    | true =>
      refine iteT (he i x ys H3 hi hx p2 (p4.trans e3) hf _ fun y H4 e4 r => ⟨ys, e4 D _ (e3 D _ p1), sz_lt (by omega), ys ++ [y], upd_same, r, ?_, Ex.mut ((p4.trans e3).trans e4) hD⟩)
      rw [List.length_append]
      show ys.length + 1 ≤ i + 1
      omega
    | false => exact iteF ⟨ys, e3 D _ p1, hno i x ys hi hx p2 hf, by omega, p4.trans e3⟩
  · obtain ⟨ys, p1, p2, p3, p4⟩ := p
    exact hd H2 ys p4 p1 p2 p3
theorem yAt {xs : List V} : ∀ i (H : Hp) (x : V) (H' : Hp), i < xs.length → YAt xs i H x H' → H' = H ∧ xs[i]? = some x := fun _ _ _ _ _ y => y
theorem yRg {lo : Int} {n : Nat} : ∀ i (H : Hp) (x : V) (H' : Hp), i < n → YFn (fun i => .int (lo + (i : Nat))) i H x H' → H' = H ∧ x = .int (lo + (i : Nat)) := fun _ _ _ _ _ y => y
theorem yStr {z : Str} : ∀ i (H : Hp) (v : V) (H' : Hp), i < z.cps.size → (H' = H ∧ ∃ c, z.cps[i]? = some c ∧ v = .str ⟨#[c]⟩) → H' = H ∧ ∃ c, z.cps[i]? = some c ∧ v = .str ⟨#[c]⟩ := fun _ _ _ _ _ y => y
/-- no test -/
theorem tYes_ok {σ : L2.St} {H1 : Hp} {Q : Bool → Hp → Prop} (h : ∀ H3, Ex H1 H3 → Q true H3) : tYes σ H1 Q := h H1 (Ex.refl H1)
theorem ansQ {t : TT} {b : Bool} {H1 : Hp} (h : Ans t σ H1 b) {Q : Bool → Hp → Prop} (q : ∀ H3, Ex H1 H3 → Q b H3) : t σ H1 Q := h Q (q H1 (Ex.refl H1))
end
theorem ne_new {H : Hp} {a b : Addr} {o : HO} (h' : H b = none) (h : H a = some o) : a ≠ b := ne_of_none h h'
/-- the values of a list, one by one -/
theorem take_snoc {α : Type} {l : List α} {i : Nat} {x : α} (h : l[i]? = some x) : l.take (i + 1) = l.take i ++ [x] := by
  rw [List.take_succ, h] <;> rfl
theorem take_all {α : Type} (l : List α) : l.take l.length = l := List.take_length
/-- an assignment of which only this is known -/
theorem qasg {te : TE} {j : Nat} {tz : TS} {D : Ends} {σ : L2.St} {H : Hp} (P : V → Hp → Prop) (h : ∀ Q : VK, (∀ x H1, P x H1 → Q x H1) → te σ H Q) (h1 : ∀ x H1, P x H1 → tz D (σ.set j (some x)) H1) : tSeq (tAsg te (gName j)) tz D σ H := h _ h1
/-- an item at any place, from the front or from the back -/
def kAt (ks : List Int) (j : Int) : Int := (atI ks j).getD 0
theorem atI_any {ks : List Int} {j : Int} (h0 : -(ks.length : Int) ≤ j) (h1 : j < ks.length) : atI (ks.map V.int) j = some (.int (kAt ks j)) := by
  have e : ∃ n, n < ks.length ∧ ixN ks.length j = some n := by
    unfold ixN
    by_cases h : 0 ≤ j
    · rw [if_pos h, if_pos h1]
      exact ⟨_, by omega, rfl⟩
    · rw [if_neg h, if_pos h0]
      exact ⟨_, by omega, rfl⟩
  obtain ⟨n, hn, e⟩ := e
  unfold kAt atI
  rw [List.length_map, e]
  show (ks.map V.int)[n]? = some (.int (((ks[n]?)).getD 0))
  rw [List.getElem?_map, List.getElem?_eq_getElem hn]
  rfl
theorem kAt_nat {ks : List Int} {i : Nat} {k : Int} (h : ks[i]? = some k) : kAt ks (i : Int) = k := by
  unfold kAt
  rw [atI_nat h]
  rfl
theorem qc {v : V} {j : Nat} {tz : TS} {D : Ends} {σ : L2.St} {H : Hp} (h : tz D (σ.set j (some v)) H) : tSeq (tAsg (tC v) (gName j)) tz D σ H := h
end Bm
set_option Elab.async false
set_option linter.all false
set_option maxRecDepth 10000
set_option maxHeartbeats 400000
set_option pp.deepTerms false
set_option pp.maxSteps 1500
set_option maxErrors 6
/-! Walks: marks, numbers, words. -/
namespace Bm
open PySem PySem.Spec PyProof.Rows L2 Evl TL
local macro_rules | `(tactic| walk_at "sz") => `(tactic| first | assumption | (refine sz_of ?_; omega) | (refine sz_lt ?_; omega))
local macro_rules | `(tactic| walk_at "ne") => `(tactic| first | assumption | (refine Ne.symm ?_; assumption) | exact ne_new (by assumption) (by walk_at "hp") | exact Ne.symm (ne_new (by assumption) (by walk_at "hp")))
local macro_rules | `(tactic| walk_at "hp") => `(tactic| first | assumption | exact upd_same | (refine (upd_ne (by walk_at "ne")).trans ?_; walk_at "hp") | (refine Ex.at_ (by assumption) ?_; walk_at "hp"))
local macro_rules | `(tactic| walk_at "sq") => `(tactic| first | assumption | (refine sq_of ?_; walk_at "hp") | (refine st_of ?_; walk_at "hp") | (refine ex_l (by assumption) ?_; walk_at "sq") | (refine ex_t (by assumption) ?_; walk_at "sq"))
local macro_rules | `(tactic| walk_at "sd") => `(tactic| first | exact (show (0 : Int) < _ from by omega) | exact (show (0 : Int) < _ ∧ _ < (1073741824 : Int) from ⟨by omega, by omega⟩) | exact (show CPow _ _ from ⟨by decide, by decide, by decide⟩) | exact (show CMul _ _ from .inl ⟨by omega, by omega⟩) | exact (show CMul _ _ from .inr ⟨by omega, by omega⟩))
local macro_rules | `(tactic| walk_at "g1") => `(tactic| first
  | refine ⟨_, rfl, ?_⟩
  | refine ⟨_, _, rfl, rfl, ?_⟩
  | refine .inl ⟨_, _, rfl, rfl, ?_⟩
  | refine .inl ⟨rfl, ?_⟩
  | refine .inl (.inl ⟨_, rfl, ?_⟩)
  | (refine ⟨_, _, rfl, ⟨?_, rfl⟩, ?_⟩; (walk_at "sz"))
  | refine ⟨(by walk_at "sd"), ?_⟩)
local macro_rules | `(tactic| walk_at "go") => `(tactic| repeat walk_at "g1")
local macro_rules | `(tactic| walk_at "st") => `(tactic| dsimp only [gName])
local macro_rules | `(tactic| walk_at "ln") => `(tactic| first | exact (show 0 < 1000 from by decide) | exact (show 1 < 1000 from by decide) | exact (show 2 < 1000 from by decide) | exact (show 3 < 1000 from by decide) | exact (show 4 < 1000 from by decide) | exact (show 5 < 1000 from by decide) | exact (show 6 < 1000 from by decide) | exact (show 7 < 1000 from by decide))
local macro_rules | `(tactic| walk_at "le") => `(tactic| first | exact (show 0 ≤ sizeLine from by decide) | exact (show 1 ≤ sizeLine from by decide) | exact (show 2 ≤ sizeLine from by decide) | exact (show 3 ≤ sizeLine from by decide) | exact (show 4 ≤ sizeLine from by decide) | exact (show 5 ≤ sizeLine from by decide) | exact (show 6 ≤ sizeLine from by decide) | exact (show 7 ≤ sizeLine from by decide) | exact (show 8 ≤ sizeLine from by decide))
local macro_rules | `(tactic| walk_at "nt") => `(tactic| first | exact nt_ins | exact nt_lst | exact nt_dK)
local macro_rules | `(tactic| walk_at "fr") => `(tactic| first | assumption | exact Fr.refl | exact Fr.ex (by assumption) | (refine Fr.put ?_ (by walk_at "hp") (by walk_at "nt") (by simp); walk_at "fr") | (refine Fr.new ?_ (by assumption); walk_at "fr"))
/-! ### promises -/
def spMarkOf : Sp := fun vs H Q _ => ∃ l b r : Int, vs = [.int l, .int b, .int r] ∧ Q (.str (markOf l b r)) H
def numV : Option Int → V
  | none => .non
  | some n => .int n
def spRead : Sp := fun vs H Q _ => ∃ (z : Str) (m : Int), vs = [.str z, .int m] ∧ m ≤ 640 ∧ z.length ≤ 100000 ∧ Q (numV (rdNum z m)) H
section
variable {P : Program} {w : World} {K : PySem.W.Frag} {mg : Str → Option Value} {base : Heap}
theorem sc_mark_of : FnScope ["left", "bead", "right"] ["left", "bead", "right"] xmark_of.scope := ⟨rfl, rfl, rfl, by decide +kernel, rfl, by decide +kernel, by decide +kernel⟩
theorem w_mark_of (T : Wx P K mg) : FnR P w K mg base (L2N.CX P w) 1 (He.ga K "mark_of") (spMarkOf) :=
  mkR 0 T T.toTx.d_mark_of sc_mark_of (by rintro vs H Q E ⟨_, _, _, rfl, _⟩; rfl) (fun _ _ _ _ _ _ us hl => match us, hl with | [_, _, _], _ => rfl) (fun cdv A outer s H vs Q E B hsp => by
  obtain ⟨l, b, r, rfl, hq⟩ := hsp
  refine ⟨_, (pss_cons (ps_if (pt_cmpR (o_eqK K B.hu64) (pv 0) (pv 2) (nomark _)) (pss_cons (ps_if (pt_cmpR (o_eqK K B.hu64) (pv 1) (pv 0) (nomark _)) (pss_one (ps_ret pe_str)) pss_nil)
    (pss_one (ps_ret pe_str))) pss_nil)
    (pss_cons (ps_if (PW.pt (pw_or (pt_cmpR (o_eqK K B.hu64) (pv 1) (pv 0) (nomark _)) (pw_or1 (pt_cmpR (o_eqK K B.hu64) (pv 1) (pv 2) (nomark _))))) (pss_one (ps_ret pe_str)) pss_nil)
    (pss_one (ps_ret pe_str)))), ?_⟩
  unfold markOf at hq
  refine qwh (b := decide (l = r)) (a_test fun Q q => by walk_at "go"; rw [dcI]; exact q) (fun h => ?_) (fun h => ?_)
  · rw [if_pos (of_decide_eq_true h)] at hq
    refine qwh (b := decide (b = l)) (a_test fun Q q => by walk_at "go"; rw [dcI]; exact q) (fun h => ?_) (fun h => ?_)
    · rw [if_pos (of_decide_eq_true h)] at hq
      exact hq
    · rw [if_neg (of_decide_eq_false h)] at hq
      exact hq
  · rw [if_neg (of_decide_eq_false h)] at hq
    refine qwh (a_or (b := decide (b = l)) (c := decide (b = r)) (a_test fun Q q => by walk_at "go"; rw [dcI]; exact q) fun _ => a_test fun Q q => by walk_at "go"; rw [dcI]; exact q) (fun h => ?_) (fun h => ?_)
    · have h1 : b = l ∨ b = r := by simpa using h
      rw [if_pos h1] at hq
      exact hq
    · have h1 : ¬ (b = l ∨ b = r) := by simpa using h
      rw [if_neg h1] at hq
      exact hq)
theorem sc_read_number : FnScope ["word", "most", "char"] ["word", "most"] xread_number.scope := ⟨rfl, rfl, rfl, by decide +kernel, rfl, by decide +kernel, by decide +kernel⟩
theorem w_read_number (T : Wx P K mg) : FnR P w K mg base (L2N.CX P w) 1 (He.ga K "read_number") (spRead) :=
  mkR 0 T T.toTx.d_read_number sc_read_number (by rintro vs H Q E ⟨_, _, rfl, _⟩; rfl) (fun _ _ _ _ _ _ us hl => match us, hl with | [_, _], _ => rfl) (fun cdv A outer s H vs Q E B hsp => by
  obtain ⟨z, m, rfl, hm, hz, hq⟩ := hsp
  refine ⟨_, (pss_cons (ps_if (PW.pt (pw_or (pt_cmpR (o_eqK K B.hu64) (pv 0) pe_str (nomark _)) (pw_or1 (pt_cmpR op_gt (pe_callB (call_lenK K) (by rfl) B.wx.toTx.f_len b_len (pa_cons (pv 0) pa_nil)) (pv 1) (nomark _))))) (pss_one (ps_ret pe_non)) pss_nil)
    (pss_cons (ps_for (L2.passes_of rfl) B.calm (pi_str (pv 0)) (pg_name (i := 2) sc_read_number.nd rfl (by first | exact .inl rfl | exact .inr rfl)) (pss_one (ps_if (pt_cmpR (o_niK K) (pv 2) (gt_DIGITS B) (by with_unfolding_all rfl)) (pss_one (ps_ret pe_non)) pss_nil)))
    (pss_cons (ps_if (PW.pt (pw_and (pt_cmpR (o_eqK K B.hu64) (pe_ix (ix_seqK K) (pv 0) pe_int (fun _ _ => rfl)) pe_str (nomark _)) (pw_and1 (pt_cmpR op_gt (pe_callB (call_lenK K) (by rfl) B.wx.toTx.f_len b_len (pa_cons (pv 0) pa_nil)) pe_int (nomark _))))) (pss_one (ps_ret pe_non)) pss_nil)
    (pss_one (ps_ret (pe_callTy call_int (by rfl) B.wx.toTx.f_int b_int (pa_cons (pv 0) pa_nil))))))), ?_⟩
  have hsz : z.length ≤ sizeLine := sz_of hz
  unfold rdNum at hq
  refine qwh (a_or (b := decide (z = ("" : Str))) (c := decide (m < (z.length : Int))) (a_test fun Q q => by walk_at "go"; rw [dcS]; exact q) fun _ => a_test fun Q q => by walk_at "go"; exact q) (fun h => ?_) (fun h => ?_)
  · have h1 : z = ("" : Str) ∨ (z.length : Int) > m := by simpa using h
    rw [if_pos h1] at hq
    exact hq
  · have h1 : ¬ (z = ("" : Str) ∨ (z.length : Int) > m) := by simpa using h
    rw [if_neg h1] at hq
    have hne : z ≠ ("" : Str) := fun e => h1 (.inl e)
    refine ⟨_, rfl, _, rfl, for_it walk_str (fun i σ' H' => H' = H ∧ (∃ c, σ' = [some (.str z), some (.int m), c]) ∧ ((tl z).take i).all isDig = true) ⟨rfl, ⟨none, rfl⟩, rfl⟩ (fun _ _ _ _ _ => True.intro) ?_ ?_⟩
    · rintro i x σ' H' H'' hi ⟨rfl, ⟨c0, rfl⟩, hd⟩ ⟨rfl, c, hc, rfl⟩
      have hc' : (tl z)[i]? = some c := by rw [← hc, ← Array.getElem?_toList]
      refine swh (b := !isDig c) (a_test fun Q q => ?_) (fun h => ?_) (fun h => ?_)
      · refine ⟨_, rfl, .inr ⟨c, _, rfl, rfl, q⟩⟩
      · have hf : (tl z).all isDig = false := by
          rw [List.all_eq_false]
          exact ⟨c, List.mem_of_getElem? hc', by simpa using h⟩
        rw [if_pos hf] at hq
        exact hq
      · refine ⟨rfl, ⟨_, rfl⟩, ?_⟩
        rw [take_snoc hc', List.all_append, hd]
        simpa using h
    · rintro σ' H' ⟨rfl, ⟨c0, rfl⟩, hd⟩
      have ha : (tl z).all isDig = true := by
        have e : (tl z).take z.cps.size = tl z := List.take_of_length_le (by simp)
        rw [e] at hd
        exact hd
      rw [if_neg (by rw [ha]; exact Bool.noConfusion)] at hq
      have hl := len_tl z
      obtain ⟨c, r, hz0⟩ : ∃ c r, tl z = c :: r := by
        cases e : tl z with
        | nil => exact absurd (ext_tl e) hne
        | cons c r => exact ⟨c, r, rfl⟩
      have hat : atI z.cps.toList 0 = some c := by
        show atI (tl z) 0 = some c
        rw [hz0]
        show atI (c :: r) ((0 : Nat) : Int) = some c
        exact atI_nat rfl
      dsimp only
      refine qwh (b := decide (c = 48) && decide (1 < (z.length : Int))) ?_ (fun h => ?_) (fun h => ?_)
      · refine a_and (a_test fun Q q => ?_) fun _ => a_test fun Q q => by walk_at "go"; exact q
        refine ⟨_, rfl, .inr (.inr ⟨z, 0, c, rfl, rfl, hsz, hat, .inl ⟨rfl, ?_⟩⟩)⟩
        have e : decide (V.str ⟨#[c]⟩ = V.str "0") = decide (c = 48) := by
          rw [Bool.eq_iff_iff, decide_eq_true_eq, decide_eq_true_eq]
          constructor
          · intro h
            have h2 : (⟨#[c]⟩ : Str) = "0" := V.str.inj h
            have h3 : tl (⟨#[c]⟩ : Str) = tl ("0" : Str) := by rw [h2]
            exact (List.cons.inj (show [c] = [48] from h3)).1
          · rintro rfl
            rfl
        rw [e]
        exact q
      · have h2 : (tl z).head? = some 48 ∧ (z.length : Int) > 1 := by
          have h3 : c = 48 ∧ 1 < (z.length : Int) := by simpa using h
          exact ⟨by rw [hz0, h3.1] <;> rfl, h3.2⟩
        rw [if_pos h2] at hq
        exact hq
      · have h2 : ¬ ((tl z).head? = some 48 ∧ (z.length : Int) > 1) := by
          have h3 : c = 48 → ¬ (1 < (z.length : Int)) := by simpa using h
          rintro ⟨h4, h5⟩
          rw [hz0] at h4
          exact h3 (Option.some.inj h4) h5
        rw [if_neg h2] at hq
        have hnm : ¬ ((z.length : Int) > m) := fun e => h1 (.inr e)
        have ht := intText_digits (x := z) (digs_of ha) (fun e => hne (ext_tl e)) (by omega)
        exact ⟨_, rfl, .inr ⟨z, _, rfl, ht, by omega, hq⟩⟩)
end
section
variable {X : Cx} {W : WX} {k : Nat} {e o : Expr} {es : List Expr} {ta : TA} {to : TE} {p pos apos : Pos} {pl : Sem Bool}
theorem c_read_number {K : PySem.W.Frag} (B : Bx X W k) (ha : PA X (e :: es) ta) (hK : X.K = K := by rfl) (hl : 1 ≤ k := by decide) (hg : Gl X "read_number" := by rfl) (hst : starEach (e :: es) X.env = (false, eval e X.env) :: starEach es X.env := by rfl) (hpl : (backTo pos (starEach es X.env)).any (·.1) = false := by rfl) : PE X (.Call (.Name "read_number" p) (e :: es) [] pos) (tFn (spRead) W ta) := by
  subst hK
  exact k_fun (w_read_number B.wx) (B.rm.mono hl) B.wx.toTx.d_read_number.kp B.wx.toTx.g_read_number B.hx ha hg (by decide) hst hpl
theorem c_mark_of {K : PySem.W.Frag} (B : Bx X W k) (ha : PA X (e :: es) ta) (hK : X.K = K := by rfl) (hl : 1 ≤ k := by decide) (hg : Gl X "mark_of" := by rfl) (hst : starEach (e :: es) X.env = (false, eval e X.env) :: starEach es X.env := by rfl) (hpl : (backTo pos (starEach es X.env)).any (·.1) = false := by rfl) : PE X (.Call (.Name "mark_of" p) (e :: es) [] pos) (tFn (spMarkOf) W ta) := by
  subst hK
  exact k_fun (w_mark_of B.wx) (B.rm.mono hl) B.wx.toTx.d_mark_of.kp B.wx.toTx.g_mark_of B.hx ha hg (by decide) hst hpl
end
end Bm
set_option Elab.async false
set_option linter.all false
set_option maxRecDepth 10000
set_option maxHeartbeats 400000
set_option pp.deepTerms false
set_option pp.maxSteps 1500
set_option maxErrors 6
/-! Walks: words, lines' numbers, the law's draws. -/
namespace Bm
open PySem PySem.Spec PyProof.Rows L2 Evl TL
local macro_rules | `(tactic| walk_at "sz") => `(tactic| first | assumption | (refine sz_of ?_; omega) | (refine sz_lt ?_; omega))
local macro_rules | `(tactic| walk_at "ne") => `(tactic| first | assumption | (refine Ne.symm ?_; assumption) | exact ne_new (by assumption) (by walk_at "hp") | exact Ne.symm (ne_new (by assumption) (by walk_at "hp")))
local macro_rules | `(tactic| walk_at "hp") => `(tactic| first | assumption | exact upd_same | (refine (upd_ne (by walk_at "ne")).trans ?_; walk_at "hp") | (refine Ex.at_ (by assumption) ?_; walk_at "hp"))
local macro_rules | `(tactic| walk_at "sq") => `(tactic| first | assumption | (refine sq_of ?_; walk_at "hp") | (refine st_of ?_; walk_at "hp") | (refine ex_l (by assumption) ?_; walk_at "sq") | (refine ex_t (by assumption) ?_; walk_at "sq"))
local macro_rules | `(tactic| walk_at "sd") => `(tactic| first | exact (show (0 : Int) < _ from by omega) | exact (show (0 : Int) < _ ∧ _ < (1073741824 : Int) from ⟨by omega, by omega⟩) | exact (show CPow _ _ from ⟨by decide, by decide, by decide⟩) | exact (show CMul _ _ from .inl ⟨by omega, by omega⟩) | exact (show CMul _ _ from .inr ⟨by omega, by omega⟩))
local macro_rules | `(tactic| walk_at "g1") => `(tactic| first
  | refine ⟨_, rfl, ?_⟩
  | refine ⟨_, _, rfl, rfl, ?_⟩
  | refine .inl ⟨_, _, rfl, rfl, ?_⟩
  | refine .inl ⟨rfl, ?_⟩
  | refine .inl (.inl ⟨_, rfl, ?_⟩)
  | (refine ⟨_, _, rfl, ⟨?_, rfl⟩, ?_⟩; (walk_at "sz"))
  | refine ⟨(by walk_at "sd"), ?_⟩)
local macro_rules | `(tactic| walk_at "go") => `(tactic| repeat walk_at "g1")
local macro_rules | `(tactic| walk_at "st") => `(tactic| dsimp only [gName])
local macro_rules | `(tactic| walk_at "ln") => `(tactic| first | exact (show 0 < 1000 from by decide) | exact (show 1 < 1000 from by decide) | exact (show 2 < 1000 from by decide) | exact (show 3 < 1000 from by decide) | exact (show 4 < 1000 from by decide) | exact (show 5 < 1000 from by decide) | exact (show 6 < 1000 from by decide) | exact (show 7 < 1000 from by decide))
local macro_rules | `(tactic| walk_at "le") => `(tactic| first | exact (show 0 ≤ sizeLine from by decide) | exact (show 1 ≤ sizeLine from by decide) | exact (show 2 ≤ sizeLine from by decide) | exact (show 3 ≤ sizeLine from by decide) | exact (show 4 ≤ sizeLine from by decide) | exact (show 5 ≤ sizeLine from by decide) | exact (show 6 ≤ sizeLine from by decide) | exact (show 7 ≤ sizeLine from by decide) | exact (show 8 ≤ sizeLine from by decide))
local macro_rules | `(tactic| walk_at "nt") => `(tactic| first | exact nt_ins | exact nt_lst | exact nt_dK)
local macro_rules | `(tactic| walk_at "fr") => `(tactic| first | assumption | exact Fr.refl | exact Fr.ex (by assumption) | (refine Fr.put ?_ (by walk_at "hp") (by walk_at "nt") (by simp); walk_at "fr") | (refine Fr.new ?_ (by assumption); walk_at "fr"))
def spSplit : Sp := fun vs H Q _ => ∃ t : Str, vs = [.str t] ∧ t.length + 2 ≤ sizeLine ∧ ∀ p, H p = none → Q (.ref p) (upd H p (.lst ((wds t).map V.str)))
def spLine (K : PySem.W.Frag) : Sp := fun vs H Q E => ∃ (a : Addr) (ws : List Str), vs = [.ref a] ∧ SqL K H a (ws.map V.str) ∧ ws.length ≤ 90000 ∧ (∀ z ∈ ws, z.length ≤ 100000) ∧
  (nums ws = none → ∀ H', Ex H H' → E (.ref (He.ga K "BadLine")) none H') ∧ ∀ l, nums ws = some l → ∀ p H', H p = none → Ex H H' → H' p = some (.lst (l.map V.int)) → Q (.ref p) H'
def spCell (K : PySem.W.Frag) : Sp := fun vs H Q _ => ∃ (a : Addr) (i : Int) (ns : List Int), vs = [.ref a, .int i] ∧ SqL K H a (ns.map V.int) ∧ 0 ≤ i ∧ ∀ n : Int, Q (.int n) H
def spMixed : Sp := fun vs H Q _ => ∃ c k : Int, vs = [.int c, .int k] ∧ ∀ n : Int, Q (.int n) H
def spDraws : Sp := fun vs H Q _ => ∃ c n m : Int, vs = [.int c, .int n, .int m] ∧ 0 ≤ n ∧ n ≤ 1000 ∧ 0 < m ∧ m ≤ 1000000 ∧
  ∀ p H' (ns : List Int), H p = none → Ex H H' → H' p = some (.lst (ns.map V.int)) → (ns.length : Int) = n → (∀ x ∈ ns, 0 ≤ x ∧ x < m) → Q (.ref p) H'
section
variable {P : Program} {w : World} {K : PySem.W.Frag} {mg : Str → Option Value} {base : Heap}
theorem sc_split_words : FnScope ["text"] ["text"] xsplit_words.scope := ⟨rfl, rfl, rfl, by decide +kernel, rfl, by decide +kernel, by decide +kernel⟩
theorem w_split_words (T : Wx P K mg) : FnR P w K mg base (L2N.CX P w) 1 (He.ga K "split_words") (spSplit) :=
  mkR 0 T T.toTx.d_split_words sc_split_words (by rintro vs H Q E ⟨_, rfl, _⟩; rfl) (fun _ _ _ _ _ _ us hl => match us, hl with | [_], _ => rfl) (fun cdv A outer s H vs Q E B hsp => by
  obtain ⟨t, rfl, hl, hq⟩ := hsp
  refine ⟨_, (pss_one (ps_ret (pe_split (pv 0) pe_str))), ?_⟩
  exact ⟨_, rfl, ⟨t, rfl⟩, t, _, rfl, rfl, rfl, hl, fun p hp => hq p hp⟩)
theorem sc_line_numbers : FnScope ["words", "numbers", "word"] ["words"] xline_numbers.scope := ⟨rfl, rfl, rfl, by decide +kernel, rfl, by decide +kernel, by decide +kernel⟩
theorem w_line_numbers (T : Wx P K mg) : FnR P w K mg base (L2N.CX P w) 3 (He.ga K "line_numbers") (spLine K) :=
  mkR 2 T T.toTx.d_line_numbers sc_line_numbers (by rintro vs H Q E ⟨_, _, rfl, _⟩; rfl) (fun _ _ _ _ _ _ us hl => match us, hl with | [_], _ => rfl) (fun cdv A outer s H vs Q E B hsp => by
  obtain ⟨a, ws, rfl, hs, hl, hz, hn, hy⟩ := hsp
  refine ⟨_, (pss_cons (ps_setLcB (i := 1) (own := [("word", 2)]) B sc_line_numbers.nd rfl rfl (sw_true rfl rfl rfl (by decide +kernel)) (pi_list (pv 0)) (blkOk_by (N := ["words", "numbers", "word"]) (sc := xline_numbers.scope) (by decide +kernel)) (fun _ _ _ _ _ => pg_name (i := 2) sc_line_numbers.nd rfl (by first | exact .inl rfl | exact .inr rfl)) (fun _ _ _ _ _ B => pts_nil) (fun _ _ _ _ _ B => (c_read_number (K := K) B (pa_cons (pv 2) (pa_cons (gi_MOST_DIGITS B) pa_nil)))))
    (pss_cons (ps_if (pt_cmpR (o_inK K) pe_non (pv 1) (by with_unfolding_all rfl)) (pss_one (r_BadLine B.rs (by rfl))) pss_nil)
    (pss_one (ps_ret (pv 1))))), ?_⟩
  refine ⟨_, rfl, a, rfl, ⟨_, hs⟩, fun D hD => ?_⟩
  refine lcX walk_list _ yAt (by rw [List.length_map]; omega) hD (fun H' e => ex_l e hs) (fun _ _ => true) (fun i acc => acc = (ws.take i).map fun z => numV (rdNum z 13)) rfl (fun _ => rfl) (fun i x acc H1 hi hx r e Q q => q H1 (Ex.refl H1)) (fun i x acc H1 hi hx r e hf Q q => ?_) (fun i x acc hi hx r hf => by cases hf) (fun H2 ys e hD2 r hl2 => ?_)
  · rw [List.getElem?_map] at hx
    obtain ⟨z, hz1, rfl⟩ := Option.map_eq_some_iff.mp hx
    refine ⟨_, rfl, z, 13, rfl, by decide, hz z (List.mem_of_getElem? hz1), q _ _ (Ex.refl H1) ?_⟩
    rw [take_snoc hz1, List.map_append, r]
    rfl
  · rw [List.length_map, take_all] at r
    subst r
    walk_at "st"
    have hfl : (ws.map fun z => numV (rdNum z 13)).all flatV = true := by
      rw [List.all_eq_true]
      intro x hx
      obtain ⟨z, _, rfl⟩ := List.mem_map.mp hx
      cases rdNum z 13 <;> rfl
    refine qwh (b := (nums ws).isNone) (a_test fun Q q => ?_) (fun h => ?_) (fun h => ?_)
    · refine ⟨_, rfl, .inl ⟨D, _, rfl, .inl (sq_of hD2), rfl, hfl, ?_⟩⟩
      have e : inV .non (ws.map fun z => numV (rdNum z 13)) = (nums ws).isNone := by
        cases hk : nums ws with
        | none =>
          obtain ⟨z, hz1, hz2⟩ := nums_none hk
          show ((ws.map fun z => numV (rdNum z 13)).any fun y => eqV y .non) = true
          rw [List.any_eq_true]
          exact ⟨_, List.mem_map_of_mem hz1, by rw [hz2] <;> rfl⟩
        | some l =>
          have h3 := (nums_some hk).2.2
          show ((ws.map fun z => numV (rdNum z 13)).any fun y => eqV y .non) = false
          rw [List.any_eq_false]
          intro x hx
          obtain ⟨z, hz1, rfl⟩ := List.mem_map.mp hx
          have h4 : rdNum z 13 ∈ l.map some := by
            rw [← h3]
            exact List.mem_map_of_mem hz1
          obtain ⟨n, _, hn2⟩ := List.mem_map.mp h4
          rw [← hn2]
          exact Bool.noConfusion
      rw [if_neg Bool.false_ne_true, e]
      exact q
    · cases hk : nums ws with
      | none => exact hn hk H2 e
      | some l => rw [hk] at h; cases h
    · cases hk : nums ws with
      | none => rw [hk] at h; cases h
      | some l =>
        refine ⟨_, rfl, hy l hk D H2 hD e ?_⟩
        have h3 := (nums_some hk).2.2
        have h4 : (ws.map fun z => numV (rdNum z 13)) = l.map V.int := by
          have h5 : (ws.map fun z => numV (rdNum z 13)) = (ws.map fun z => rdNum z 13).map numV := by rw [List.map_map] <;> rfl
          rw [h5, h3, List.map_map]
          rfl
        rw [h4] at hD2
        exact hD2)
theorem sc_law_cell : FnScope ["_law_script", "_law_at"] ["_law_script", "_law_at"] xlaw_cell.scope := ⟨rfl, rfl, rfl, by decide +kernel, rfl, by decide +kernel, by decide +kernel⟩
theorem w_law_cell (T : Wx P K mg) : FnR P w K mg base (L2N.CX P w) 1 (He.ga K "_law_cell") (spCell K) :=
  mkR 0 T T.toTx.d_law_cell sc_law_cell (by rintro vs H Q E ⟨_, _, _, rfl, _⟩; rfl) (fun _ _ _ _ _ _ us hl => match us, hl with | [_, _], _ => rfl) (fun cdv A outer s H vs Q E B hsp => by
  obtain ⟨a, i, ns, rfl, hs, hi, hq⟩ := hsp
  refine ⟨_, (pss_cons (ps_if (pt_cmpR op_lt (pv 1) (pe_callB (call_lenK K) (by rfl) B.wx.toTx.f_len b_len (pa_cons (pv 0) pa_nil)) (nomark _)) (pss_one (ps_ret (pe_ix (ix_seqK K) (pv 0) (pv 1) (fun _ _ => rfl)))) pss_nil)
    (pss_one (ps_ret pe_int))), ?_⟩
  refine qwh (b := decide (i < (ns.length : Int))) (a_test fun Q q => ?_) (fun h => ?_) (fun h => ?_)
  · refine ⟨_, rfl, _, rfl, _, _, rfl, .inl ⟨_, hs, rfl⟩, _, _, rfl, rfl, ?_⟩
    rw [List.length_map]
    exact q
  · have h1 := of_decide_eq_true h
    have h2 : i.toNat < ns.length := by omega
    have h3 : atI (ns.map V.int) i = some (.int ns[i.toNat]) := at_of (j := i.toNat) (by omega) (by rw [List.getElem?_map, List.getElem?_eq_getElem h2] <;> rfl)
    exact ⟨_, rfl, _, rfl, .inl ⟨_, _, _, _, rfl, rfl, hs, h3, hq _⟩⟩
  · exact hq 0)
theorem sc_law_mixed : FnScope ["_law_cell_here", "_law_k", "_law_mixed_here"] ["_law_cell_here", "_law_k"] xlaw_mixed.scope := ⟨rfl, rfl, rfl, by decide +kernel, rfl, by decide +kernel, by decide +kernel⟩
theorem w_law_mixed (T : Wx P K mg) : FnR P w K mg base (L2N.CX P w) 1 (He.ga K "_law_mixed") (spMixed) :=
  mkR 0 T T.toTx.d_law_mixed sc_law_mixed (by rintro vs H Q E ⟨_, _, rfl, _⟩; rfl) (fun _ _ _ _ _ _ us hl => match us, hl with | [_, _], _ => rfl) (fun cdv A outer s H vs Q E B hsp => by
  obtain ⟨c, k, rfl, hq⟩ := hsp
  refine ⟨_, (pss_cons (st_set (i := 2) sc_law_mixed.nd (pe_op op_mod (pe_callTy call_int (by rfl) B.wx.toTx.f_int b_int (pa_cons (pe_op (o_addK K) (pe_op (o_addK K) (pv 0) (pe_op op_mul pe_int (pv 1))) pe_int) pa_nil)) pe_int))
    (pss_cons (st_set (i := 2) sc_law_mixed.nd (pe_op op_mod (pe_callTy call_int (by rfl) B.wx.toTx.f_int b_int (pa_cons (pe_op op_mul (pv 2) (pe_op (o_addK K) (pv 2) pe_int)) pa_nil)) pe_int))
    (pss_cons (st_set (i := 2) sc_law_mixed.nd (pe_op op_mod (pe_callTy call_int (by rfl) B.wx.toTx.f_int b_int (pa_cons (pe_op (o_addK K) (pe_op op_mul (pv 2) (pe_op (o_addK K) (pv 2) pe_int)) (pe_op op_mul pe_int (pv 1))) pa_nil)) pe_int))
    (pss_one (ps_ret (pe_op op_fdiv (pv 2) pe_int)))))), ?_⟩
  have mm : ∀ z : Int, 0 ≤ z % 2147483647 ∧ z % 2147483647 < 2147483647 := fun z => ⟨Int.emod_nonneg _ (by decide), Int.emod_lt_of_pos _ (by decide)⟩
  have m2 : ∀ z : Int, 0 ≤ z % 2147483629 ∧ z % 2147483629 < 2147483629 := fun z => ⟨Int.emod_nonneg _ (by decide), Int.emod_lt_of_pos _ (by decide)⟩
  walk_at "go"
  exact hq _)
end
section
variable {X : Cx} {W : WX} {k : Nat} {e o : Expr} {es : List Expr} {ta : TA} {to : TE} {p pos apos : Pos} {pl : Sem Bool}
theorem c_law_mixed {K : PySem.W.Frag} (B : Bx X W k) (ha : PA X (e :: es) ta) (hK : X.K = K := by rfl) (hl : 1 ≤ k := by decide) (hg : Gl X "_law_mixed" := by rfl) (hst : starEach (e :: es) X.env = (false, eval e X.env) :: starEach es X.env := by rfl) (hpl : (backTo pos (starEach es X.env)).any (·.1) = false := by rfl) : PE X (.Call (.Name "_law_mixed" p) (e :: es) [] pos) (tFn (spMixed) W ta) := by
  subst hK
  exact k_fun (w_law_mixed B.wx) (B.rm.mono hl) B.wx.toTx.d_law_mixed.kp B.wx.toTx.g_law_mixed B.hx ha hg (by decide) hst hpl
end
section
variable {P : Program} {w : World} {K : PySem.W.Frag} {mg : Str → Option Value} {base : Heap}
theorem sc_law_draws : FnScope ["_law_cell_here", "_law_count", "_law_size", "_law_draws_here", "_law_rest", "_law_k"] ["_law_cell_here", "_law_count", "_law_size"] xlaw_draws.scope := ⟨rfl, rfl, rfl, by decide +kernel, rfl, by decide +kernel, by decide +kernel⟩
theorem w_law_draws (T : Wx P K mg) : FnR P w K mg base (L2N.CX P w) 2 (He.ga K "_law_draws") (spDraws) :=
  mkR 1 T T.toTx.d_law_draws sc_law_draws (by rintro vs H Q E ⟨_, _, _, rfl, _⟩; rfl) (fun _ _ _ _ _ _ us hl => match us, hl with | [_, _, _], _ => rfl) (fun cdv A outer s H vs Q E B hsp => by
  obtain ⟨c, n, m, rfl, h0, h1, m0, m1, hq⟩ := hsp
  refine ⟨_, (pss_cons (st_set (i := 3) sc_law_draws.nd (pe_lst pa_nil))
    (pss_cons (st_set (i := 4) sc_law_draws.nd (pv 0))
    (pss_cons (ps_for (L2.passes_of rfl) B.calm (pi_range1 (by rfl) B.wx.toTx.f_range (pa_cons (pv 1) pa_nil)) (pg_name (i := 5) sc_law_draws.nd rfl (by first | exact .inl rfl | exact .inr rfl)) (pss_one (ps_if (PW.pt (pw_and (pt_cmpR op_ge (pv 0) (pe_op op_pow pe_int pe_int) (nomark _)) (pw_and1 (pt_cmpR op_gt (pv 4) pe_int (nomark _))))) (pss_cons (ps_expr (pe_bmK K PySem.F.plainAttrs_list PySem.F.slot_list_append PySem.F.type_list_append mt_append (pv 3) (pa_cons (pe_op op_mod (pe_callTy call_int (by rfl) B.wx.toTx.f_int b_int (pa_cons (pv 4) pa_nil)) (pv 2)) pa_nil)))
    (pss_one (st_set (i := 4) sc_law_draws.nd (pe_op op_fdiv (pv 4) (pv 2))))) (pss_one (ps_expr (pe_bmK K PySem.F.plainAttrs_list PySem.F.slot_list_append PySem.F.type_list_append mt_append (pv 3) (pa_cons (pe_op op_mod (pe_callTy call_int (by rfl) B.wx.toTx.f_int b_int (pa_cons (c_law_mixed (K := K) B (pa_cons (pv 0) (pa_cons (pv 5) pa_nil))) pa_nil)) (pv 2)) pa_nil)))))))
    (pss_one (ps_ret (pv 3)))))), ?_⟩
  refine ⟨by decide, fun p hp => ?_⟩
  walk_at "st"
  refine ⟨_, rfl, ?_⟩
  walk_at "st"
  refine ⟨_, rfl, n, rfl, by omega, by omega, for_it walk_range (fun i σ' H' => Ex H H' ∧ ∃ (ns : List Int) (r : Int) (kk : Option V), σ' = [some (.int c), some (.int n), some (.int m), some (.ref p), some (.int r), kk] ∧ H' p = some (.lst (ns.map V.int)) ∧ ns.length = i ∧ ∀ x ∈ ns, 0 ≤ x ∧ x < m)
    ⟨Ex.new hp, [], c, none, rfl, upd_same, rfl, fun x hx => absurd hx (by simp)⟩ (fun _ _ _ _ _ => True.intro) ?_ ?_⟩
  · rintro i x σ' H' H'' hi ⟨e, ns, r, kk, rfl, hl, hn, hr⟩ ⟨rfl, rfl⟩
    have hs : ns.length < sizeLine := sz_lt (by omega)
    have fin : ∀ (z : Int), 0 ≤ z ∧ z < m → ∀ r', ∃ l xs y, V.ref p = .ref l ∧ [V.int z] = [y] ∧ H'' l = some (.lst xs) ∧ xs.length < sizeLine ∧ (Ex H (upd H'' l (.lst (xs ++ [y]))) ∧ ∃ (ns : List Int) (r : Int) (kk : Option V), [some (.int c), some (.int n), some (.int m), some (.ref p), some (.int r'), some (V.int (0 + (i : Nat)))] = [some (.int c), some (.int n), some (.int m), some (.ref p), some (.int r), kk] ∧ (upd H'' l (.lst (xs ++ [y]))) p = some (.lst (ns.map V.int)) ∧ ns.length = i + 1 ∧ ∀ x ∈ ns, 0 ≤ x ∧ x < m) := by
      intro z hz r'
      refine ⟨p, _, _, rfl, rfl, hl, by rw [List.length_map]; exact hs, Ex.mut e hp, ns ++ [z], r', _, rfl, ?_, ?_, ?_⟩
      · rw [upd_same, List.map_append]
        rfl
      · rw [List.length_append, hn] <;> rfl
      · intro x hx
        rcases List.mem_append.mp hx with y | y
        · exact hr x y
        · rw [List.mem_singleton.mp y]
          exact hz
    have md : ∀ z : Int, 0 ≤ z % m ∧ z % m < m := fun z => ⟨Int.emod_nonneg _ (by omega), Int.emod_lt_of_pos _ m0⟩
    walk_at "st"
    refine sif (b := decide (1000000000000000000 ≤ c) && decide (0 < r)) ?_ (fun h => ?_) (fun h => ?_)
    · refine a_and (a_test fun Q q => ?_) fun _ => a_test fun Q q => ?_
      · walk_at "go"
        exact q
      · walk_at "go"
        exact q
    · refine ⟨_, rfl, .inl ⟨rfl, _, sq_of hl⟩, ?_⟩
      walk_at "go"
      obtain ⟨l, xs, y, f1, f2, f3, f4, f5⟩ := fin _ (md r) (r / m)
      refine ⟨l, xs, y, f1, f2, f3, f4, ?_⟩
      refine ⟨_, rfl, _, rfl, _, _, rfl, rfl, ⟨m0, by show m < 1073741824; omega⟩, ?_⟩
      exact f5
    · refine ⟨_, rfl, .inl ⟨rfl, _, sq_of hl⟩, ?_⟩
      refine ⟨_, rfl, _, rfl, _, _, rfl, fun z => ?_⟩
      walk_at "go"
      obtain ⟨l, xs, y, f1, f2, f3, f4, f5⟩ := fin _ (md z) r
      exact ⟨l, xs, y, f1, f2, f3, f4, f5⟩
  · rintro σ' H' ⟨e, ns, r, kk, rfl, hl, hn, hr⟩
    exact ⟨_, rfl, hq p H' ns hp e hl (by omega) hr⟩)
end
section
variable {X : Cx} {W : WX} {k : Nat} {e o : Expr} {es : List Expr} {ta : TA} {to : TE} {p pos apos : Pos} {pl : Sem Bool}
theorem c_split_words {K : PySem.W.Frag} (B : Bx X W k) (ha : PA X (e :: es) ta) (hK : X.K = K := by rfl) (hl : 1 ≤ k := by decide) (hg : Gl X "split_words" := by rfl) (hst : starEach (e :: es) X.env = (false, eval e X.env) :: starEach es X.env := by rfl) (hpl : (backTo pos (starEach es X.env)).any (·.1) = false := by rfl) : PE X (.Call (.Name "split_words" p) (e :: es) [] pos) (tFn (spSplit) W ta) := by
  subst hK
  exact k_fun (w_split_words B.wx) (B.rm.mono hl) B.wx.toTx.d_split_words.kp B.wx.toTx.g_split_words B.hx ha hg (by decide) hst hpl
theorem c_line_numbers {K : PySem.W.Frag} (B : Bx X W k) (ha : PA X (e :: es) ta) (hK : X.K = K := by rfl) (hl : 3 ≤ k := by decide) (hg : Gl X "line_numbers" := by rfl) (hst : starEach (e :: es) X.env = (false, eval e X.env) :: starEach es X.env := by rfl) (hpl : (backTo pos (starEach es X.env)).any (·.1) = false := by rfl) : PE X (.Call (.Name "line_numbers" p) (e :: es) [] pos) (tFn (spLine K) W ta) := by
  subst hK
  exact k_fun (w_line_numbers B.wx) (B.rm.mono hl) B.wx.toTx.d_line_numbers.kp B.wx.toTx.g_line_numbers B.hx ha hg (by decide) hst hpl
theorem c_law_cell {K : PySem.W.Frag} (B : Bx X W k) (ha : PA X (e :: es) ta) (hK : X.K = K := by rfl) (hl : 1 ≤ k := by decide) (hg : Gl X "_law_cell" := by rfl) (hst : starEach (e :: es) X.env = (false, eval e X.env) :: starEach es X.env := by rfl) (hpl : (backTo pos (starEach es X.env)).any (·.1) = false := by rfl) : PE X (.Call (.Name "_law_cell" p) (e :: es) [] pos) (tFn (spCell K) W ta) := by
  subst hK
  exact k_fun (w_law_cell B.wx) (B.rm.mono hl) B.wx.toTx.d_law_cell.kp B.wx.toTx.g_law_cell B.hx ha hg (by decide) hst hpl
theorem c_law_draws {K : PySem.W.Frag} (B : Bx X W k) (ha : PA X (e :: es) ta) (hK : X.K = K := by rfl) (hl : 2 ≤ k := by decide) (hg : Gl X "_law_draws" := by rfl) (hst : starEach (e :: es) X.env = (false, eval e X.env) :: starEach es X.env := by rfl) (hpl : (backTo pos (starEach es X.env)).any (·.1) = false := by rfl) : PE X (.Call (.Name "_law_draws" p) (e :: es) [] pos) (tFn (spDraws) W ta) := by
  subst hK
  exact k_fun (w_law_draws B.wx) (B.rm.mono hl) B.wx.toTx.d_law_draws.kp B.wx.toTx.g_law_draws B.hx ha hg (by decide) hst hpl
end
end Bm
set_option Elab.async false
set_option linter.all false
set_option maxRecDepth 100000
set_option maxHeartbeats 4000000
set_option pp.deepTerms false
set_option pp.maxSteps 3000
/-! What of the heap is a row, a ledger, a desk; what stays. -/
namespace Bm
open PySem PySem.Spec PyProof.Rows L2 Evl TL
/-! ### lists of values and what they stand for -/
section
variable {α β : Type} {F G : α → β → Prop}
theorem pr_app : ∀ {xs zs : List α} {ys ws : List β}, Paired F xs ys → Paired F zs ws → Paired F (xs ++ zs) (ys ++ ws)
  | _, _, _, _, .nil, q => q
  | _, _, _, _, .cons a r, q => .cons a (pr_app r q)
theorem pr_one {x : α} {y : β} (h : F x y) : Paired F [x] [y] := .cons h .nil
theorem pr_snoc : ∀ {xs : List α} {ys : List β} {y : β}, Paired F xs (ys ++ [y]) → ∃ xs' x, xs = xs' ++ [x] ∧ Paired F xs' ys ∧ F x y
  | _, [], y, .cons a r => by
    cases r
    exact ⟨[], _, rfl, .nil, a⟩
  | _, z :: ys, y, .cons a r => by
    obtain ⟨xs', x, e, p, f⟩ := pr_snoc r
    exact ⟨_ :: xs', x, by rw [e]; rfl, .cons a p, f⟩
theorem pr_get : ∀ {xs : List α} {ys : List β} {i : Nat} {x : α}, Paired F xs ys → xs[i]? = some x → ∃ y, ys[i]? = some y ∧ F x y
  | _, _, _, _, .nil, h => by simp at h
  | _, _, 0, x, .cons a r, h => by
    simp at h
    subst h
    exact ⟨_, rfl, a⟩
  | _, _, i + 1, x, .cons a r, h => by
    obtain ⟨y, e, f⟩ := pr_get (i := i) r (by simpa using h)
    exact ⟨y, by simpa using e, f⟩
end
/-! ### what stays -/
structure Fr (X : List Addr) (H H' : Hp) : Prop where
  obj : ∀ b o, H b = some o → b ∉ X → H' b = some o
  tup : ∀ b xs, H b = some (.tup xs) → H' b = some (.tup xs)
  old : ∀ b, H' b = none → H b = none
def Nw (X X' : List Addr) (H : Hp) : Prop := ∀ b ∈ X', b ∈ X ∨ H b = none
section
variable {X Y Z : List Addr} {H H1 H2 H' : Hp} {a l : Addr} {o o' : HO}
theorem Fr.ex (e : Ex H H') : Fr X H H' := ⟨fun b o h _ => e b o h, fun b xs h => e b _ h, fun b h => fresh_back e h⟩
theorem Fr.refl : Fr X H H := Fr.ex (Ex.refl H)
theorem Fr.mono (f : Fr X H H') (h : ∀ b ∈ X, b ∈ Y) : Fr Y H H' := ⟨fun b o q n => f.1 b o q fun z => n (h b z), f.2, f.3⟩
theorem Fr.trans (f : Fr X H H1) (g : Fr Y H1 H2) (n : Nw X Y H) : Fr X H H2 := ⟨fun b o q nb => g.1 b o (f.1 b o q nb) fun z => (n b z).elim nb fun y => (by
  rw [y] at q
  cases q), fun b xs q => g.2 b xs (f.2 b xs q), fun b q => f.3 b (g.3 b q)⟩
theorem Fr.same (f : Fr X H H1) (g : Fr X H1 H2) : Fr X H H2 := f.trans g fun b h => .inl h
theorem Nw.refl : Nw X X H := fun b h => .inl h
theorem Nw.trans (n : Nw X Y H) (m : Nw Y Z H1) (k : ∀ b, H1 b = none → H b = none) : Nw X Z H := fun b h => (m b h).elim (fun z => n b z) fun z => .inr (k b z)
/-- an object that is no tuple may change -/
theorem Fr.upd (h : H a = some o) (nt : ∀ xs, o ≠ .tup xs) (ha : a ∈ X) : Fr X H (upd H a o') := ⟨fun b u q n => (by
  rw [upd_ne (fun z => n (by rw [z]; exact ha))]
  exact q), fun b xs q => (by
  rw [upd_ne (fun z => nt xs (Option.some.inj (by rw [← h, ← z, q])))]
  exact q), fun b q => NdefX.upd_none q⟩
/-- objects not known as yet may do as they like -/
theorem Fr.new (f : Fr X H H') (hn : H a = none) : Fr X H (L2.upd H' a o) := ⟨fun b u q n => (by
  rw [upd_ne (ne_of_none q hn)]
  exact f.1 b u q n), fun b xs q => (by
  rw [upd_ne (ne_of_none q hn)]
  exact f.2 b xs q), fun b q => f.3 b (NdefX.upd_none q)⟩
theorem Ex.back (e : Ex H H') {b : Addr} (h : H' b = none) : H b = none := fresh_back e h
theorem Fr.at_ (f : Fr X H H') {b : Addr} {u : HO} (h : H b = some u) (n : b ∉ X) : H' b = some u := f.1 b u h n
end
theorem Fr.put {X : List Addr} {H H1 : Hp} {a : Addr} {o o' : HO} (f : Fr X H H1) (h : H1 a = some o) (nt : ∀ xs, o ≠ .tup xs) (ha : a ∈ X) : Fr X H (L2.upd H1 a o') := f.same (Fr.upd h nt ha)
theorem nt_lst {ys : List V} : ∀ xs, HO.lst ys ≠ HO.tup xs := fun _ z => by cases z
theorem nt_ins {C d : Addr} {fs : List (Str × V)} : ∀ xs, HO.ins C d fs ≠ HO.tup xs := fun _ z => by cases z
theorem nt_dK {kvs : List (Key × V)} : ∀ xs, HO.dK kvs ≠ HO.tup xs := fun _ z => by cases z
theorem un_upd {H : Hp} {a b : Addr} {o : HO} (e : upd H a o b = none) : H b = none := NdefX.upd_none e
/-- what a new instance's __init__ leaves alone -/
theorem ex_made {H H' : Hp} {a d : Addr} {o1 o2 : HO} (ha : H a = none) (hd : H d = none) (f : Fr [a] (upd (upd H d o1) a o2) H') : Ex H H' := by
  intro b o hb
  refine f.1 b o ?_ ?_
  · rw [upd_ne (ne_of_none hb ha), upd_ne (ne_of_none hb hd)]
    exact hb
  · simp
    exact ne_of_none hb ha
/-- a field set, the value known by P: the heap after it has no shape -/
theorem qsf {K : PySem.W.Frag} {σ : L2.St} {H : Hp} {D : Ends} {tz : TS} {r C dx : Addr} {fs : List (Str × V)} {te : TE} {f : Str} {j : Nat} (h0 : σ[j]? = some (some (.ref r))) (hr : H r = some (.ins C dx fs)) (c : Cls K C) (n : NoAttr K C f) (hl : fs.length < 1000) (P : V → Hp → Prop)
    (val : ∀ Q : VK, (∀ x H1, Ex H H1 → P x H1 → Q x H1) → te σ H Q)
    (cont : ∀ x H1 H', Ex H H1 → P x H1 → H' r = some (.ins C dx (putF f x fs)) → Fr [r] H1 H' → (∀ b, H' b = none → H b = none) → tz D σ H') : tSeq (sFld K (tVar j) te f) tz D σ H :=
  val _ fun x H1 e p => ⟨_, h0, r, C, dx, fs, rfl, e _ _ hr, c, n, hl, cont x H1 _ e p upd_same (Fr.upd (e _ _ hr) nt_ins (by simp)) (fun b hb => fresh_back e (un_upd hb))⟩
theorem qsfE {K : PySem.W.Frag} {σ : L2.St} {H : Hp} {D : Ends} {r C dx : Addr} {fs : List (Str × V)} {te : TE} {f : Str} {j : Nat} (h0 : σ[j]? = some (some (.ref r))) (hr : H r = some (.ins C dx fs)) (c : Cls K C) (n : NoAttr K C f) (hl : fs.length < 1000) (P : V → Hp → Prop)
    (val : ∀ Q : VK, (∀ x H1, Ex H H1 → P x H1 → Q x H1) → te σ H Q)
    (cont : ∀ x H1 H', Ex H H1 → P x H1 → H' r = some (.ins C dx (putF f x fs)) → Fr [r] H1 H' → (∀ b, H' b = none → H b = none) → D.nx σ H') : sFld K (tVar j) te f D σ H :=
  val _ fun x H1 e p => ⟨_, h0, r, C, dx, fs, rfl, e _ _ hr, c, n, hl, cont x H1 _ e p upd_same (Fr.upd (e _ _ hr) nt_ins (by simp)) (fun b hb => fresh_back e (un_upd hb))⟩
/-- o.f.append(e) -/
theorem qapp {K : PySem.W.Frag} {σ : L2.St} {H : Hp} {D : Ends} {tz : TS} {r C dx l : Addr} {fs : List (Str × V)} {xs : List V} {te : TE} {f : Str} {j : Nat} (h0 : σ[j]? = some (some (.ref r))) (hr : H r = some (.ins C dx fs)) (c : Cls K C) (n : NoAttr K C f) (hf : fs.lookup f = some (.ref l)) (hl : H l = some (.lst xs)) (hz : xs.length < 100000) (P : V → Hp → Prop)
    (val : ∀ Q : VK, (∀ y H1, Ex H H1 → P y H1 → Q y H1) → te σ H Q)
    (cont : ∀ y H1 H', Ex H H1 → P y H1 → H' l = some (.lst (xs ++ [y])) → Fr [l] H1 H' → (∀ b, H' b = none → H b = none) → tz D σ H') : tSeq (tDrop (tBM K "list" rAppend (tFld K (tVar j) f) (tCons te tNil))) tz D σ H :=
  ⟨_, h0, r, C, dx, fs, _, rfl, hr, c, n, hf, .inl ⟨rfl, _, sq_of hl⟩, val _ fun y H1 e p => ⟨l, xs, y, rfl, rfl, e _ _ hl, sz_lt hz, cont y H1 _ e p upd_same (Fr.upd (e _ _ hl) nt_lst (by simp)) (fun b hb => fresh_back e (un_upd hb))⟩⟩
/-- o.f.pop(), into a target, or dropped -/
theorem qpop {K : PySem.W.Frag} {σ : L2.St} {H : Hp} {D : Ends} {tz : TS} {r C dx l : Addr} {fs : List (Str × V)} {xs : List V} {y : V} {f : Str} {j : Nat} {g : TG} (h0 : σ[j]? = some (some (.ref r))) (hr : H r = some (.ins C dx fs)) (c : Cls K C) (n : NoAttr K C f) (hf : fs.lookup f = some (.ref l)) (hl : H l = some (.lst (xs ++ [y])))
    (cont : ∀ H', H' l = some (.lst xs) → Fr [l] H H' → (∀ b, H' b = none → H b = none) → g y σ H' (fun σ' H' => tz D σ' H')) : tSeq (tAsg (tBM0 K "list" rPop (tFld K (tVar j) f)) g) tz D σ H :=
  ⟨_, h0, r, C, dx, fs, _, rfl, hr, c, n, hf, .inl ⟨rfl, _, sq_of hl⟩, l, xs ++ [y], y, rfl, rfl, hl, by simp, by
    rw [List.dropLast_concat]
    exact cont _ upd_same (Fr.upd hl nt_lst (by simp)) (fun b hb => un_upd hb)⟩
theorem qpopD {K : PySem.W.Frag} {σ : L2.St} {H : Hp} {D : Ends} {tz : TS} {r C dx l : Addr} {fs : List (Str × V)} {xs : List V} {y : V} {f : Str} {j : Nat} (h0 : σ[j]? = some (some (.ref r))) (hr : H r = some (.ins C dx fs)) (c : Cls K C) (n : NoAttr K C f) (hf : fs.lookup f = some (.ref l)) (hl : H l = some (.lst (xs ++ [y])))
    (cont : ∀ H', H' l = some (.lst xs) → Fr [l] H H' → (∀ b, H' b = none → H b = none) → tz D σ H') : tSeq (tDrop (tBM0 K "list" rPop (tFld K (tVar j) f))) tz D σ H :=
  ⟨_, h0, r, C, dx, fs, _, rfl, hr, c, n, hf, .inl ⟨rfl, _, sq_of hl⟩, l, xs ++ [y], y, rfl, rfl, hl, by simp, by
    rw [List.dropLast_concat]
    exact cont _ upd_same (Fr.upd hl nt_lst (by simp)) (fun b hb => un_upd hb)⟩
/-- a new list -/
def NewL (H : Hp) (ys : List V) (x : V) (H1 : Hp) : Prop := ∃ p, x = .ref p ∧ H p = none ∧ H1 p = some (.lst ys)
def NewT (H : Hp) (ys : List V) (x : V) (H1 : Hp) : Prop := ∃ p, x = .ref p ∧ H p = none ∧ H1 p = some (.tup ys)
section
variable {K : PySem.W.Frag} {J : It} {n : Nat} {G : Hp → Prop} {Y : Nat → Hp → V → Hp → Prop} {tt : TT} {te : TE} {vs : List Nat} {σ : L2.St} {H : Hp} {D : Addr} {Qd : Hp → Prop} {j : Nat}
/-- lcX, where the word of the turn speaks of the heap -/
theorem lcXH (w : Walk J n G Y) (It : Nat → V → Prop) (hY : ∀ i H x H', i < n → Y i H x H' → H' = H ∧ It i x) (hn : n < 100000) (hD : H D = none) (hG : ∀ H', Ex H H' → G H') (f : Nat → V → Bool) (R : Nat → List V → Hp → Prop) (h0 : R 0 [] (upd H D (.lst []))) (hm : ∀ i acc H1 H2, Fr [D] H1 H2 → R i acc H1 → R i acc H2)
    (hw : ∀ x, wipe ((wipe σ vs).set j (some x)) vs = wipe σ vs)
    (ht : ∀ i x acc H1, i < n → It i x → R i acc H1 → Ex H H1 → ∀ Q : Bool → Hp → Prop, (∀ H3, Ex H1 H3 → Q (f i x) H3) → tt ((wipe σ vs).set j (some x)) H1 Q)
    (he : ∀ i x acc H1, i < n → It i x → R i acc H1 → Ex H H1 → f i x = true → ∀ Q : VK, (∀ y H4, Ex H1 H4 → R (i + 1) (acc ++ [y]) H4 → Q y H4) → te ((wipe σ vs).set j (some x)) H1 Q)
    (hno : ∀ i x acc H1, i < n → It i x → R i acc H1 → f i x = false → R (i + 1) acc H1)
    (hd : ∀ H2 ys, Ex H H2 → H2 D = some (.lst ys) → R n ys H2 → ys.length ≤ n → Qd H2) :
    ∃ W : Nat → Nat → Hp → Prop, (∃ m, W 0 m (upd H D (.lst []))) ∧ ∀ i m H, W i m H →
      (J.stop i H ∧ Qd H) ∨ (J.go i H ∧ ∃ Nx : Hp → Prop, (∀ H', Nx H' → ∃ m', m' < m ∧ W (i + 1) m' H') ∧ ∀ x H', J.yld i H x H' → gName j x (wipe σ vs) H' fun σ2 H2 => wipe σ2 vs = wipe σ vs ∧ tt σ2 H2 fun b H3 =>
        if b = true then te σ2 H3 fun y H4 => ∃ acc, H4 D = some (.lst acc) ∧ acc.length < sizeLine ∧ Nx (upd H4 D (.lst (acc ++ [y]))) else Nx H3) := by
  refine lc_it w (fun i H' => ∃ ys, H' D = some (.lst ys) ∧ R i ys H' ∧ ys.length ≤ i ∧ Ex H H') ⟨[], upd_same, h0, Nat.le_refl _, Ex.new hD⟩ (fun i H' _ p => hG H' (by obtain ⟨_, _, _, _, e⟩ := p; exact e)) (fun i x H1 H1' hi p y => ?_) (fun H2 p => ?_)
  · obtain ⟨e, hx⟩ := hY i H1 x H1' hi y
    subst e
    obtain ⟨ys, p1, p2, p3, p4⟩ := p
    refine ⟨hw x, ht i x ys _ hi hx p2 p4 _ fun H3 e3 => ?_⟩
    have p2' := hm i ys _ H3 (Fr.ex e3) p2
    cases hf : f i x with
    | true =>
      refine iteT (he i x ys H3 hi hx p2' (p4.trans e3) hf _ fun y H4 e4 r => ⟨ys, e4 D _ (e3 D _ p1), sz_lt (by omega), ys ++ [y], upd_same, hm _ _ _ _ (Fr.upd (e4 D _ (e3 D _ p1)) nt_lst (by simp)) r, ?_, Ex.mut ((p4.trans e3).trans e4) hD⟩)
      rw [List.length_append]
      show ys.length + 1 ≤ i + 1
      omega
    | false => exact iteF ⟨ys, e3 D _ p1, hno i x ys H3 hi hx p2' hf, by omega, p4.trans e3⟩
  · obtain ⟨ys, p1, p2, p3, p4⟩ := p
    exact hd H2 ys p4 p1 p2 p3
end
theorem ex_two {H : Hp} {a d : Addr} {o1 o2 : HO} (ha : H a = none) (hd : H d = none) (n : d ≠ a) : Ex H (upd (upd H d o1) a o2) := (Ex.new hd).trans (Ex.new (by rw [upd_ne n.symm]; exact ha))
/-! ### what stands for what -/
def EntV (H : Hp) (v : V) : Ent → Prop
  | .paid n b m p => ∃ t, v = .ref t ∧ H t = some (.tup [.str n, .int b, .str m, .int p])
  | .inn a => v = .int a
def MeetV (H : Hp) (v : V) (q : Int × Int) : Prop := ∃ t, v = .ref t ∧ H t = some (.tup [.int q.1, .int q.2])
def dword (k : Bool) : Str := if k then "take" else "grow"
def DeedV (H : Hp) (v : V) (q : Bool × Int) : Prop := ∃ t, v = .ref t ∧ H t = some (.tup [.str (dword q.1), .int q.2])
section
variable {X : List Addr} {H H' : Hp}
theorem EntV.fr (f : Fr X H H') {v : V} {e : Ent} (h : EntV H v e) : EntV H' v e := by
  cases e with
  | paid n b m p =>
    obtain ⟨t, e1, e2⟩ := h
    exact ⟨t, e1, f.2 _ _ e2⟩
  | inn a => exact h
theorem MeetV.fr (f : Fr X H H') {v : V} {q : Int × Int} (h : MeetV H v q) : MeetV H' v q := by
  obtain ⟨t, e1, e2⟩ := h
  exact ⟨t, e1, f.2 _ _ e2⟩
theorem DeedV.fr (f : Fr X H H') {v : V} {q : Bool × Int} (h : DeedV H v q) : DeedV H' v q := by
  obtain ⟨t, e1, e2⟩ := h
  exact ⟨t, e1, f.2 _ _ e2⟩
end
abbrev cL (K : PySem.W.Frag) : Addr := He.ga K "Ledger"
abbrev cP (K : PySem.W.Frag) : Addr := He.ga K "Prices"
abbrev cR (K : PySem.W.Frag) : Addr := He.ga K "Row"
abbrev cD (K : PySem.W.Frag) : Addr := He.ga K "Desk"
abbrev cS (K : PySem.W.Frag) : Addr := He.ga K "Strand"
abbrev cT (K : PySem.W.Frag) : Addr := He.ga K "Tally"
def ledF (c : Int) (w : Addr) : List (Str × V) := [("_coins", .int c), ("_written", .ref w)]
def rowF (k s t m g d : Addr) : List (Str × V) := [("_kinds", .ref k), ("_standing", .ref s), ("_taken", .ref t), ("_marks", .ref m), ("_meetings", .ref g), ("_deeds", .ref d)]
def prcF (o : Int × Int × Int × Int × Int) : List (Str × V) := [("quiet", .int o.2.1), ("odd", .int o.2.2.1), ("edge", .int o.2.2.2.1), ("strife", .int o.2.2.2.2)]
def dskF (l p o r d u : Addr) : List (Str × V) := [("_purse", .ref l), ("_prices", .ref p), ("_opening", .ref o), ("_rows", .ref r), ("_done", .ref d), ("_undone", .ref u)]
def opnV (o : Int × Int × Int × Int × Int) : List V := [.int o.1, .int o.2.1, .int o.2.2.1, .int o.2.2.2.1, .int o.2.2.2.2]
structure LedAt (K : PySem.W.Frag) (H : Hp) (l : Addr) (c : Int) (es : List Ent) (w : Addr) : Prop where
  ins : ∃ dx, H l = some (.ins (cL K) dx (ledF c w))
  lst : ∃ vs, H w = some (.lst vs) ∧ Paired (EntV H) vs es
structure RowAt (K : PySem.W.Frag) (H : Hp) (r : Addr) (R : RowD) (k s t m g d : Addr) : Prop where
  ins : ∃ dx, H r = some (.ins (cR K) dx (rowF k s t m g d))
  kinds : H k = some (.tup (R.kinds.map V.int))
  stand : H s = some (.lst (R.stand.map V.int))
  taken : H t = some (.lst (R.taken.map V.int))
  marks : H m = some (.lst (R.marks.map V.str))
  meets : ∃ vs, H g = some (.lst vs) ∧ Paired (MeetV H) vs R.meets
  deeds : ∃ vs, H d = some (.lst vs) ∧ Paired (DeedV H) vs R.deeds
  nd : [r, s, t, m, g, d].Nodup
/-- a row, its own addresses in X -/
def RowX (K : PySem.W.Frag) (H : Hp) (r : Addr) (R : RowD) (X : List Addr) : Prop := ∃ k s t m g d, X = [r, s, t, m, g, d] ∧ RowAt K H r R k s t m g d
section
variable {K : PySem.W.Frag} {X Y : List Addr} {H H' : Hp} {l w r k s t m g d : Addr} {c : Int} {es : List Ent} {R : RowD}
theorem LedAt.fr (h : LedAt K H l c es w) (f : Fr X H H') (h1 : l ∉ X) (h2 : w ∉ X) : LedAt K H' l c es w := by
  obtain ⟨⟨dx, e1⟩, vs, e2, p⟩ := h
  exact ⟨⟨dx, f.1 _ _ e1 h1⟩, vs, f.1 _ _ e2 h2, Paired.mapP p fun _ _ q => q.fr f⟩
theorem RowAt.fr (h : RowAt K H r R k s t m g d) (f : Fr X H H') (hx : ∀ b ∈ [r, s, t, m, g, d], b ∉ X) : RowAt K H' r R k s t m g d := by
  obtain ⟨⟨dx, e1⟩, e2, e3, e4, e5, ⟨v6, e6, p6⟩, ⟨v7, e7, p7⟩, nd⟩ := h
  exact ⟨⟨dx, f.1 _ _ e1 (hx _ (by simp))⟩, f.2 _ _ e2, f.1 _ _ e3 (hx _ (by simp)), f.1 _ _ e4 (hx _ (by simp)), f.1 _ _ e5 (hx _ (by simp)), ⟨v6, f.1 _ _ e6 (hx _ (by simp)), Paired.mapP p6 fun _ _ q => q.fr f⟩, ⟨v7, f.1 _ _ e7 (hx _ (by simp)), Paired.mapP p7 fun _ _ q => q.fr f⟩, nd⟩
theorem RowX.fr (h : RowX K H r R X) (f : Fr Y H H') (hx : ∀ b ∈ X, b ∉ Y) : RowX K H' r R X := by
  obtain ⟨k, s, t, m, g, d, rfl, h⟩ := h
  exact ⟨k, s, t, m, g, d, rfl, h.fr f hx⟩
theorem RowX.tr (h : RowX K H r R X) : ∀ b ∈ X, ∃ o, H b = some o := by
  obtain ⟨k, s, t, m, g, d, rfl, ⟨dx, e1⟩, e2, e3, e4, e5, ⟨v6, e6, p6⟩, ⟨v7, e7, p7⟩, nd⟩ := h
  intro b hb
  simp only [List.mem_cons, List.not_mem_nil, or_false] at hb
  rcases hb with rfl | rfl | rfl | rfl | rfl | rfl
  · exact ⟨_, e1⟩
  · exact ⟨_, e3⟩
  · exact ⟨_, e4⟩
  · exact ⟨_, e5⟩
  · exact ⟨_, e6⟩
  · exact ⟨_, e7⟩
theorem RowX.nd (h : RowX K H r R X) : X.Nodup := by
  obtain ⟨k, s, t, m, g, d, rfl, h⟩ := h
  exact h.nd
end
/-- the rows of a desk, in the dict's order -/
inductive RowsAt (K : PySem.W.Frag) (H : Hp) : List (Key × V) → List (Str × RowD) → List Addr → Prop
  | nil : RowsAt K H [] [] []
  | cons {n : Str} {r : Addr} {R : RowD} {kvs : List (Key × V)} {rs : List (Str × RowD)} {X Y : List Addr} : RowX K H r R X → RowsAt K H kvs rs Y → RowsAt K H ((.inr n, .ref r) :: kvs) ((n, R) :: rs) (X ++ Y)
section
variable {K : PySem.W.Frag} {X Y : List Addr} {H H' : Hp} {kvs : List (Key × V)} {rs : List (Str × RowD)} {n : Str} {R R' : RowD}
theorem RowsAt.fr (h : RowsAt K H kvs rs X) (f : Fr Y H H') (hx : ∀ b ∈ X, b ∉ Y) : RowsAt K H' kvs rs X := by
  induction h with
  | nil => exact .nil
  | cons a b ih => exact .cons (a.fr f fun c hc => hx c (List.mem_append_left _ hc)) (ih fun c hc => hx c (List.mem_append_right _ hc))
theorem RowsAt.tr (h : RowsAt K H kvs rs X) : ∀ b ∈ X, ∃ o, H b = some o := by
  induction h with
  | nil => intro b hb; cases hb
  | cons a r ih =>
    intro b hb
    rcases List.mem_append.mp hb with z | z
    · exact a.tr b z
    · exact ih b z
theorem RowsAt.len (h : RowsAt K H kvs rs X) : kvs.length = rs.length := by
  induction h with
  | nil => rfl
  | cons a r ih => rw [List.length_cons, List.length_cons, ih]
theorem RowsAt.keys (h : RowsAt K H kvs rs X) : (kvs.map fun kv => kV kv.1) = (rs.map (·.1)).map V.str := by
  induction h with
  | nil => rfl
  | cons a r ih =>
    rw [List.map_cons, List.map_cons, List.map_cons, ih]
    rfl
theorem key_ne {a b : Str} : (Sum.inr a : Key) = Sum.inr b ↔ a = b := ⟨fun e => Sum.inr.inj e, fun e => by rw [e]⟩
theorem RowsAt.none (h : RowsAt K H kvs rs X) (e : rowOf rs n = Option.none) : valV kvs (.inr n) = Option.none := by
  induction h with
  | nil => rfl
  | @cons n' r R kvs rs X Y a b ih =>
    unfold rowOf at e
    split at e
    · cases e
    · rename_i ne
      rw [valV_neg (p := (Sum.inr n', V.ref r)) (fun z => ne (key_ne.mp z))]
      exact ih e
/-- a row is found; and whatever row stands in its place later -/
theorem RowsAt.at_ (h : RowsAt K H kvs rs X) (e : rowOf rs n = some R) : ∃ r Z, valV kvs (.inr n) = some (.ref r) ∧ RowX K H r R Z ∧ (∀ b ∈ Z, b ∈ X) ∧
    ∀ (H' : Hp) (R' : RowD) (Z' : List Addr), X.Nodup → RowX K H' r R' Z' → Fr Z H H' → Nw Z Z' H → ∃ X', RowsAt K H' kvs (setRow rs n R') X' ∧ X'.Nodup ∧ ∀ b ∈ X', b ∈ X ∨ b ∈ Z' := by
  induction h with
  | nil => cases e
  | @cons n' r R0 kvs rs X Y a b ih =>
    unfold rowOf at e
    split at e
    · rename_i en
      dsimp only at en
      subst en
      have e2 : R0 = R := Option.some.inj e
      subst e2
      refine ⟨r, X, valV_pos (p := (Sum.inr n', V.ref r)) rfl, a, fun c hc => List.mem_append_left _ hc, fun H' R' Z' nd hr f nw => ?_⟩
      have nd' := List.nodup_append.mp nd
      have dis : ∀ c ∈ Y, c ∉ X := fun c hc hx => nd'.2.2 c hx c hc rfl
      refine ⟨Z' ++ Y, ?_, ?_, fun c hc => ?_⟩
      · rw [setRow_pos rfl]
        exact .cons hr (b.fr f dis)
      · rw [List.nodup_append]
        refine ⟨hr.nd, nd'.2.1, fun c hc c' hc' z => ?_⟩
        subst z
        rcases nw c hc with y | y
        · exact dis c hc' y
        · obtain ⟨o, ho⟩ := b.tr c hc'
          rw [y] at ho
          cases ho
      · rcases List.mem_append.mp hc with z | z
        · exact .inr z
        · exact .inl (List.mem_append_right _ z)
    · rename_i ne
      obtain ⟨r', Z, h1, h2, h3, h4⟩ := ih e
      refine ⟨r', Z, by rw [valV_neg (p := (Sum.inr n', V.ref r)) (fun z => ne (key_ne.mp z))]; exact h1, h2, fun c hc => List.mem_append_right _ (h3 c hc), fun H' R' Z' nd hr f nw => ?_⟩
      have nd' := List.nodup_append.mp nd
      have dis : ∀ c ∈ X, c ∉ Z := fun c hc hz => nd'.2.2 c hc c (h3 c hz) rfl
      obtain ⟨X', g1, g2, g3⟩ := h4 H' R' Z' nd'.2.1 hr f nw
      refine ⟨X ++ X', ?_, ?_, fun c hc => ?_⟩
      · rw [setRow_neg ne]
        exact .cons (a.fr f dis) g1
      · rw [List.nodup_append]
        refine ⟨nd'.1, g2, fun c hc c' hc' z => ?_⟩
        subst z
        rcases g3 c hc' with y | y
        · exact nd'.2.2 c hc c y rfl
        · rcases nw c y with x | x
          · exact dis c hc x
          · obtain ⟨o, ho⟩ := a.tr c hc
            rw [x] at ho
            cases ho
      · rcases List.mem_append.mp hc with z | z
        · exact .inl (List.mem_append_left _ z)
        · rcases g3 c z with y | y
          · exact .inl (List.mem_append_right _ y)
          · exact .inr y
/-- one more row at the end -/
theorem RowsAt.snoc {r : Addr} {Z : List Addr} (h : RowsAt K H kvs rs X) (hr : RowX K H r R Z) : RowsAt K H (kvs ++ [(.inr n, .ref r)]) (rs ++ [(n, R)]) (X ++ Z) := by
  induction h with
  | nil =>
    have q : RowsAt K H ((.inr n, .ref r) :: []) ((n, R) :: []) (Z ++ []) := .cons hr .nil
    rw [List.append_nil] at q
    exact q
  | @cons n' r' R0 kvs rs X Y a b ih =>
    rw [List.append_assoc]
    exact .cons a ih
/-- without a row -/
theorem RowsAt.drop (h : RowsAt K H kvs rs X) (nd : X.Nodup) : ∃ X', RowsAt K H (dropK kvs (.inr n)) (dropRow rs n) X' ∧ X'.Nodup ∧ ∀ b ∈ X', b ∈ X := by
  induction h with
  | nil => exact ⟨[], .nil, List.nodup_nil, fun b hb => hb⟩
  | @cons n' r' R0 kvs rs X Y a b ih =>
    have nd' := List.nodup_append.mp nd
    obtain ⟨X', h1, h2, h3⟩ := ih nd'.2.1
    by_cases e : n' = n
    · refine ⟨X', ?_, h2, fun c hc => List.mem_append_right _ (h3 c hc)⟩
      unfold dropK dropRow
      rw [List.filter_cons_of_neg (by simp [e]), List.filter_cons_of_neg (by simp [e])]
      exact h1
    · refine ⟨X ++ X', ?_, ?_, fun c hc => ?_⟩
      · unfold dropK dropRow
        rw [List.filter_cons_of_pos (by simpa using fun z => e (key_ne.mp z)), List.filter_cons_of_pos (by simpa using e)]
        exact .cons a h1
      · rw [List.nodup_append]
        exact ⟨nd'.1, h2, fun c hc c' hc' z => nd'.2.2 c hc c' (h3 c' hc') z⟩
      · rcases List.mem_append.mp hc with z | z
        · exact List.mem_append_left _ z
        · exact List.mem_append_right _ (h3 c z)
end
/-- a desk: what it tells, the lines undone; its own addresses in X -/
structure DeskA (K : PySem.W.Frag) (H : Hp) (a : Addr) (c : Core) (un : List Str) (l w p o rw dn ud : Addr) (kvs : List (Key × V)) (Y : List Addr) : Prop where
  ins : ∃ dx, H a = some (.ins (cD K) dx (dskF l p o rw dn ud))
  led : LedAt K H l c.coins c.writ w
  prc : ∃ dx, H p = some (.ins (cP K) dx (prcF c.opn))
  opn : H o = some (.tup (opnV c.opn))
  dct : H rw = some (.dK kvs)
  rows : RowsAt K H kvs c.rows Y
  done : H dn = some (.lst (c.done.map V.str))
  undn : H ud = some (.lst (un.map V.str))
  nd : (a :: l :: w :: p :: rw :: dn :: ud :: Y).Nodup
def DeskAt (K : PySem.W.Frag) (H : Hp) (a : Addr) (c : Core) (un : List Str) (X : List Addr) : Prop := ∃ l w p o rw dn ud kvs Y, X = a :: l :: w :: p :: rw :: dn :: ud :: Y ∧ DeskA K H a c un l w p o rw dn ud kvs Y
section
variable {K : PySem.W.Frag} {X Y : List Addr} {H H' : Hp} {a : Addr} {c : Core} {un : List Str}
theorem DeskAt.fr (h : DeskAt K H a c un X) (f : Fr Y H H') (hx : ∀ b ∈ X, b ∉ Y) : DeskAt K H' a c un X := by
  obtain ⟨l, w, p, o, rw, dn, ud, kvs, Z, rfl, ⟨dx, e1⟩, e2, ⟨dp, e3⟩, e4, e5, e6, e7, e8, nd⟩ := h
  exact ⟨l, w, p, o, rw, dn, ud, kvs, Z, rfl, ⟨dx, f.1 _ _ e1 (hx _ (by simp))⟩, e2.fr f (hx _ (by simp)) (hx _ (by simp)), ⟨dp, f.1 _ _ e3 (hx _ (by simp))⟩, f.2 _ _ e4, f.1 _ _ e5 (hx _ (by simp)),
    e6.fr f (fun b hb => hx b (by simp [hb])), f.1 _ _ e7 (hx _ (by simp)), f.1 _ _ e8 (hx _ (by simp)), nd⟩
theorem DeskAt.ex (h : DeskAt K H a c un X) (e : Ex H H') : DeskAt K H' a c un X := h.fr (Y := []) (Fr.ex e) fun b _ z => by cases z
theorem DeskAt.tr (h : DeskAt K H a c un X) : ∀ b ∈ X, ∃ o, H b = some o := by
  obtain ⟨l, w, p, o, rw, dn, ud, kvs, Z, rfl, ⟨dx, e1⟩, ⟨⟨dl, e2⟩, vs, e2', _⟩, ⟨dp, e3⟩, e4, e5, e6, e7, e8, nd⟩ := h
  intro b hb
  simp only [List.mem_cons] at hb
  rcases hb with rfl | rfl | rfl | rfl | rfl | rfl | rfl | hb
  · exact ⟨_, e1⟩
  · exact ⟨_, e2⟩
  · exact ⟨_, e2'⟩
  · exact ⟨_, e3⟩
  · exact ⟨_, e5⟩
  · exact ⟨_, e7⟩
  · exact ⟨_, e8⟩
  · exact e6.tr b hb
theorem DeskAt.nd (h : DeskAt K H a c un X) : X.Nodup := by
  obtain ⟨l, w, p, o, rw, dn, ud, kvs, Z, rfl, q⟩ := h
  exact q.nd
end
theorem dsk_inj {K : PySem.W.Frag} {H : Hp} {a dx l p o rw dn ud dx' l' p' o' rw' dn' ud' : Addr} (h : H a = some (.ins (cD K) dx (dskF l p o rw dn ud))) (h' : H a = some (.ins (cD K) dx' (dskF l' p' o' rw' dn' ud'))) : rw' = rw ∧ ud' = ud := by
  have e := Option.some.inj (h'.symm.trans h)
  simp only [HO.ins.injEq, dskF, List.cons.injEq, Prod.mk.injEq, V.ref.injEq, true_and, and_true] at e
  exact ⟨e.2.2.2.2.1, e.2.2.2.2.2.2⟩
/-- the desk itself, and its list of lines undone, are as they were -/
def KeepU (K : PySem.W.Frag) (H : Hp) (a : Addr) (H' : Hp) : Prop := ∀ dx l p o rw dn ud, H a = some (.ins (cD K) dx (dskF l p o rw dn ud)) → H' a = H a ∧ H' ud = H ud
/-- the old list of lines undone stands apart -/
def Left (K : PySem.W.Frag) (H : Hp) (a : Addr) (X' : List Addr) (H' : Hp) : Prop := ∀ dx l p o rw dn ud, H a = some (.ins (cD K) dx (dskF l p o rw dn ud)) → H' ud = H ud ∧ ud ∉ X'
section
variable {K : PySem.W.Frag} {H H1 H2 : Hp} {a : Addr} {c : Core} {un : List Str} {X X' : List Addr}
theorem KeepU.trans (h : KeepU K H a H1) (g : KeepU K H1 a H2) : KeepU K H a H2 := fun dx l p o rw dn ud e => by
  obtain ⟨a1, a2⟩ := h dx l p o rw dn ud e
  obtain ⟨b1, b2⟩ := g dx l p o rw dn ud (a1.trans e)
  exact ⟨b1.trans a1, b2.trans a2⟩
theorem KeepU.fr {Y : List Addr} (h : DeskAt K H a c un X) (f : Fr Y H H1) (n : ∀ dx l p o rw dn ud, H a = some (.ins (cD K) dx (dskF l p o rw dn ud)) → a ∉ Y ∧ ud ∉ Y) : KeepU K H a H1 := fun dx l p o rw dn ud e => by
  obtain ⟨l', w', p', o', rw', dn', ud', kvs', Y', rfl, ⟨dx', hi⟩, hl, hp, ho, hr, hrs, hdn, hud, nd⟩ := h
  obtain ⟨n1, n2⟩ := n _ _ _ _ _ _ _ e
  obtain ⟨_, e2⟩ := dsk_inj hi e
  subst e2
  exact ⟨(f.1 _ _ hi n1).trans hi.symm, (f.1 _ _ hud n2).trans hud.symm⟩
theorem KeepU.ex (h : DeskAt K H a c un X) (e : Ex H H1) : KeepU K H a H1 := KeepU.fr h (Fr.ex (X := []) e) fun _ _ _ _ _ _ _ _ => ⟨by simp, by simp⟩
theorem KeepU.left (h : KeepU K H a H1) (g : Left K H1 a X' H2) : Left K H a X' H2 := fun dx l p o rw dn ud e => by
  obtain ⟨a1, a2⟩ := h dx l p o rw dn ud e
  obtain ⟨b1, b2⟩ := g dx l p o rw dn ud (a1.trans e)
  exact ⟨b1.trans a2, b2⟩
end
/-- a class of the program's errors -/
def Mo (K : PySem.W.Frag) (C : Addr) : Prop := PySem.W.exmOne K (.ref C) (.ref (He.ga K "MootError")) = some true
/-- any of them may be raised, nothing but new objects behind it -/
def Moot (K : PySem.W.Frag) (H : Hp) (E : XK) : Prop := ∀ (C : Addr) (d : Option Addr) (H' : Hp), Mo K C → Ex H H' → E (.ref C) d H'
end Bm
set_option Elab.async false
set_option linter.all false
set_option maxRecDepth 10000
set_option maxHeartbeats 400000
set_option pp.deepTerms false
set_option pp.maxSteps 1500
set_option maxErrors 6
/-! Walks: the ledger, prices, tallies. -/
namespace Bm
open PySem PySem.Spec PyProof.Rows L2 Evl TL
local macro_rules | `(tactic| walk_at "sz") => `(tactic| first | assumption | (refine sz_of ?_; omega) | (refine sz_lt ?_; omega))
local macro_rules | `(tactic| walk_at "ne") => `(tactic| first | assumption | (refine Ne.symm ?_; assumption) | exact ne_new (by assumption) (by walk_at "hp") | exact Ne.symm (ne_new (by assumption) (by walk_at "hp")))
local macro_rules | `(tactic| walk_at "hp") => `(tactic| first | assumption | exact upd_same | (refine (upd_ne (by walk_at "ne")).trans ?_; walk_at "hp") | (refine Ex.at_ (by assumption) ?_; walk_at "hp"))
local macro_rules | `(tactic| walk_at "sq") => `(tactic| first | assumption | (refine sq_of ?_; walk_at "hp") | (refine st_of ?_; walk_at "hp") | (refine ex_l (by assumption) ?_; walk_at "sq") | (refine ex_t (by assumption) ?_; walk_at "sq"))
local macro_rules | `(tactic| walk_at "sd") => `(tactic| first | exact (show (0 : Int) < _ from by omega) | exact (show (0 : Int) < _ ∧ _ < (1073741824 : Int) from ⟨by omega, by omega⟩) | exact (show CPow _ _ from ⟨by decide, by decide, by decide⟩) | exact (show CMul _ _ from .inl ⟨by omega, by omega⟩) | exact (show CMul _ _ from .inr ⟨by omega, by omega⟩))
local macro_rules | `(tactic| walk_at "g1") => `(tactic| first
  | refine ⟨_, rfl, ?_⟩
  | refine ⟨_, _, rfl, rfl, ?_⟩
  | refine .inl ⟨_, _, rfl, rfl, ?_⟩
  | refine .inl ⟨rfl, ?_⟩
  | refine .inl (.inl ⟨_, rfl, ?_⟩)
  | (refine ⟨_, _, rfl, ⟨?_, rfl⟩, ?_⟩; (walk_at "sz"))
  | refine ⟨(by walk_at "sd"), ?_⟩)
local macro_rules | `(tactic| walk_at "go") => `(tactic| repeat walk_at "g1")
local macro_rules | `(tactic| walk_at "st") => `(tactic| dsimp only [gName])
local macro_rules | `(tactic| walk_at "ln") => `(tactic| first | exact (show 0 < 1000 from by decide) | exact (show 1 < 1000 from by decide) | exact (show 2 < 1000 from by decide) | exact (show 3 < 1000 from by decide) | exact (show 4 < 1000 from by decide) | exact (show 5 < 1000 from by decide) | exact (show 6 < 1000 from by decide) | exact (show 7 < 1000 from by decide))
local macro_rules | `(tactic| walk_at "le") => `(tactic| first | exact (show 0 ≤ sizeLine from by decide) | exact (show 1 ≤ sizeLine from by decide) | exact (show 2 ≤ sizeLine from by decide) | exact (show 3 ≤ sizeLine from by decide) | exact (show 4 ≤ sizeLine from by decide) | exact (show 5 ≤ sizeLine from by decide) | exact (show 6 ≤ sizeLine from by decide) | exact (show 7 ≤ sizeLine from by decide) | exact (show 8 ≤ sizeLine from by decide))
local macro_rules | `(tactic| walk_at "nt") => `(tactic| first | exact nt_ins | exact nt_lst | exact nt_dK)
local macro_rules | `(tactic| walk_at "fr") => `(tactic| first | assumption | exact Fr.refl | exact Fr.ex (by assumption) | (refine Fr.put ?_ (by walk_at "hp") (by walk_at "nt") (by simp); walk_at "fr") | (refine Fr.new ?_ (by assumption); walk_at "fr"))
def spLedInit (K : PySem.W.Frag) : Sp := fun vs H Q E => ∃ (l : Addr) (c : Int) (dx : Addr), vs = [.ref l, .int c] ∧ H l = some (.ins (cL K) dx []) ∧ ((c < 0 ∨ c > 1000000000000) → Moot K H E) ∧
  (¬ (c < 0 ∨ c > 1000000000000) → ∀ H' w, H w = none → LedAt K H' l c [] w → Fr [l] H H' → Q .non H')
def spBal (K : PySem.W.Frag) : Sp := fun vs H Q _ => ∃ (l : Addr) (c : Int) (es : List Ent) (w : Addr), vs = [.ref l] ∧ LedAt K H l c es w ∧ Q (.int c) H
def spPay (K : PySem.W.Frag) : Sp := fun vs H Q E => ∃ (l : Addr) (n : Str) (b : Int) (m : Str) (p c : Int) (es : List Ent) (w : Addr), vs = [.ref l, .str n, .int b, .str m, .int p] ∧ LedAt K H l c es w ∧ es.length ≤ 90000 ∧ (p > c → Moot K H E) ∧
  (¬ p > c → ∀ H', LedAt K H' l (c - p) (es ++ [.paid n b m p]) w → Fr [l, w] H H' → Q .non H')
def spPayIn (K : PySem.W.Frag) : Sp := fun vs H Q E => ∃ (l : Addr) (a c : Int) (es : List Ent) (w : Addr), vs = [.ref l, .int a] ∧ LedAt K H l c es w ∧ es.length ≤ 90000 ∧ ((a < 1 ∨ a > 1000000000 ∨ c + a > 1000000000000) → Moot K H E) ∧
  (¬ (a < 1 ∨ a > 1000000000 ∨ c + a > 1000000000000) → ∀ H', LedAt K H' l (c + a) (es ++ [.inn a]) w → Fr [l, w] H H' → Q .non H')
def Ent.sum (c : Int) : Ent → Int
  | .paid _ _ _ p => c + p
  | .inn a => c - a
def spBack (K : PySem.W.Frag) : Sp := fun vs H Q _ => ∃ (l : Addr) (c : Int) (es : List Ent) (e : Ent) (w : Addr), vs = [.ref l] ∧ LedAt K H l c (es ++ [e]) w ∧ es.length ≤ 90000 ∧
  ∀ v H', LedAt K H' l (e.sum c) es w → Fr [l, w] H H' → Q v H'
section
variable {P : Program} {w : World} {K : PySem.W.Frag} {mg : Str → Option Value} {base : Heap}
theorem sc_Ledger_init : FnScope ["self", "coins"] ["self", "coins"] xLedger_init.scope := ⟨rfl, rfl, rfl, by decide +kernel, rfl, by decide +kernel, by decide +kernel⟩
theorem w_Ledger_init (T : Wx P K mg) : FnR P w K mg base (L2N.CX P w) 3 (He.ma K (He.ga K "Ledger") "__init__") (spLedInit K) :=
  mkR 2 T T.toTx.d_Ledger_init sc_Ledger_init (by rintro vs H Q E ⟨_, _, _, rfl, _⟩; rfl) (fun _ _ _ _ _ _ us hl => match us, hl with | [_, _], _ => rfl) (fun cdv A outer s H vs Q E B hsp => by
  obtain ⟨l, c, dx, rfl, hl, hm, hq⟩ := hsp
  refine ⟨_, (pss_cons (ps_if (PW.pt (pw_or (pt_cmpR op_lt (pv 1) pe_int (nomark _)) (pw_or1 (pt_cmpR op_gt (pv 1) (gi_MOST_COINS B) (nomark _))))) (pss_one (r_BadCoins B.rs (by rfl) (pa_cons (pv 1) pa_nil))) pss_nil)
    (pss_cons (ps_fld (pv 0) (pv 1) rfl)
    (pss_one (ps_fld (pv 0) (pe_lst pa_nil) rfl)))), ?_⟩
  refine qwh (b := decide (c < 0) || decide (1000000000000 < c)) ?_ (fun h => ?_) (fun h => ?_)
  · refine a_or (a_test fun Q q => by walk_at "go"; exact q) fun _ => a_test fun Q q => by walk_at "go"; exact q
  · refine ⟨_, rfl, rfl, fun d hd => hm ?_ _ _ _ T.toTx.e_BadCoins (Ex.new hd)⟩
    simpa using h
  · refine ⟨_, rfl, _, rfl, l, _, _, _, rfl, hl, T.toTx.c_Ledger, T.toTx.n_Ledger_coins, by walk_at "ln", ?_⟩
    refine ⟨by decide, fun w hw => ⟨_, rfl, l, _, _, _, rfl, by walk_at "hp", T.toTx.c_Ledger, T.toTx.n_Ledger_written, by walk_at "ln", ?_⟩⟩
    have hn : ¬ (c < 0 ∨ c > 1000000000000) := by simpa using h
    have hw0 := un_upd hw
    have hwl : w ≠ l := fun z => by rw [z, hl] at hw0; cases hw0
    refine hq hn _ w hw0 ⟨⟨dx, upd_same⟩, [], by rw [upd_ne hwl, upd_same], .nil⟩ ?_
    exact ((Fr.upd hl nt_ins (by simp)).new hw0).same (Fr.upd (by walk_at "hp") nt_ins (by simp)))
theorem sc_Ledger_balance : FnScope ["self"] ["self"] xLedger_balance.scope := ⟨rfl, rfl, rfl, by decide +kernel, rfl, by decide +kernel, by decide +kernel⟩
theorem w_Ledger_balance (T : Wx P K mg) : FnR P w K mg base (L2N.CX P w) 1 (He.ma K (He.ga K "Ledger") "balance") (spBal K) :=
  mkR 0 T T.toTx.d_Ledger_balance sc_Ledger_balance (by rintro vs H Q E ⟨_, _, _, _, rfl, _⟩; rfl) (fun _ _ _ _ _ _ us hl => match us, hl with | [_], _ => rfl) (fun cdv A outer s H vs Q E B hsp => by
  obtain ⟨l, c, es, w, rfl, h, hq⟩ := hsp
  refine ⟨_, (pss_one (ps_ret (pe_fldK K (pv 0) rfl))), ?_⟩
  obtain ⟨dx, hl⟩ := h.ins
  exact ⟨_, rfl, l, _, _, _, _, rfl, hl, T.toTx.c_Ledger, T.toTx.n_Ledger_coins, rfl, hq⟩)
theorem sc_Ledger_pay : FnScope ["self", "name", "bead", "mark", "price"] ["self", "name", "bead", "mark", "price"] xLedger_pay.scope := ⟨rfl, rfl, rfl, by decide +kernel, rfl, by decide +kernel, by decide +kernel⟩
theorem w_Ledger_pay (T : Wx P K mg) : FnR P w K mg base (L2N.CX P w) 3 (He.ma K (He.ga K "Ledger") "pay") (spPay K) :=
  mkR 2 T T.toTx.d_Ledger_pay sc_Ledger_pay (by rintro vs H Q E ⟨_, _, _, _, _, _, _, _, rfl, _⟩; rfl) (fun _ _ _ _ _ _ us hl => match us, hl with | [_, _, _, _, _], _ => rfl) (fun cdv A outer s H vs Q E B hsp => by
  obtain ⟨l, n, b, m, p, c, es, w, rfl, h, hz, hm, hq⟩ := hsp
  refine ⟨_, (pss_cons (ps_if (pt_cmpR op_gt (pv 4) (pe_fldK K (pv 0) rfl) (nomark _)) (pss_one (r_NoCoins B.rs (by rfl) (pa_cons (pv 4) (pa_cons (pe_fldK K (pv 0) rfl) pa_nil)))) pss_nil)
    (pss_cons (ps_fldaug (pv 0) (pv 4) in_sub)
    (pss_one (ps_expr (pe_bmK K PySem.F.plainAttrs_list PySem.F.slot_list_append PySem.F.type_list_append mt_append (pe_fldK K (pv 0) rfl) (pa_cons (pe_tup (pa_cons (pv 1) (pa_cons (pv 2) (pa_cons (pv 3) (pa_cons (pv 4) pa_nil))))) pa_nil)))))), ?_⟩
  obtain ⟨⟨dx, hl⟩, vs, hw, hp⟩ := id h
  have hzv : vs.length ≤ 90000 := by rw [Paired.length hp]; exact hz
  refine qwh (b := decide (c < p)) (a_test fun Q q => ?_) (fun h1 => ?_) (fun h1 => ?_)
  · refine ⟨_, rfl, _, rfl, l, _, _, _, _, rfl, hl, T.toTx.c_Ledger, T.toTx.n_Ledger_coins, rfl, _, _, rfl, rfl, q⟩
  · refine ⟨_, rfl, _, rfl, l, _, _, _, _, rfl, hl, T.toTx.c_Ledger, T.toTx.n_Ledger_coins, rfl, rfl, fun d hd => hm (of_decide_eq_true h1) _ _ _ T.toTx.e_NoCoins (Ex.new hd)⟩
  · refine ⟨_, rfl, l, _, _, _, _, rfl, hl, T.toTx.c_Ledger, T.toTx.n_Ledger_coins, rfl, _, rfl, _, _, rfl, rfl, dx, _, hl, by walk_at "ln", ?_⟩
    have nlw : w ≠ l := fun z => by rw [z, hl] at hw; cases hw
    have hl1 : upd H l (.ins (cL K) dx (ledF (c - p) w)) l = some (.ins (cL K) dx (ledF (c - p) w)) := upd_same
    have hw1 : upd H l (.ins (cL K) dx (ledF (c - p) w)) w = some (.lst vs) := by rw [upd_ne nlw]; exact hw
    refine ⟨_, rfl, l, _, _, _, _, rfl, hl1, T.toTx.c_Ledger, T.toTx.n_Ledger_written, rfl, .inl ⟨rfl, _, sq_of hw1⟩, _, rfl, _, rfl, _, rfl, _, rfl, by walk_at "le", fun t ht => ⟨w, vs, _, rfl, rfl, by walk_at "hp", sz_lt (by omega), ?_⟩⟩
    have ht0 := un_upd ht
    have f : Fr [l, w] H (upd (upd (upd H l (.ins (cL K) dx (ledF (c - p) w))) t (.tup [.str n, .int b, .str m, .int p])) w (.lst (vs ++ [.ref t]))) :=
      ((Fr.upd hl nt_ins (by simp)).new ht0).same (Fr.upd (o := .lst vs) (by walk_at "hp") nt_lst (by simp))
    have ntw : t ≠ w := fun z => by rw [z, hw] at ht0; cases ht0
    have ntl : l ≠ t := fun z => by rw [← z, hl] at ht0; cases ht0
    refine hq (of_decide_eq_false h1) _ ⟨⟨dx, by rw [upd_ne nlw.symm, upd_ne ntl]; exact hl1⟩, vs ++ [.ref t], upd_same, pr_app (Paired.mapP hp fun _ _ q => q.fr f) (pr_one ⟨t, rfl, by rw [upd_ne ntw, upd_same]⟩)⟩ f)
theorem sc_Ledger_pay_in : FnScope ["self", "amount"] ["self", "amount"] xLedger_pay_in.scope := ⟨rfl, rfl, rfl, by decide +kernel, rfl, by decide +kernel, by decide +kernel⟩
theorem w_Ledger_pay_in (T : Wx P K mg) : FnR P w K mg base (L2N.CX P w) 3 (He.ma K (He.ga K "Ledger") "pay_in") (spPayIn K) :=
  mkR 2 T T.toTx.d_Ledger_pay_in sc_Ledger_pay_in (by rintro vs H Q E ⟨_, _, _, _, _, rfl, _⟩; rfl) (fun _ _ _ _ _ _ us hl => match us, hl with | [_, _], _ => rfl) (fun cdv A outer s H vs Q E B hsp => by
  obtain ⟨l, a, c, es, w, rfl, h, hz, hm, hq⟩ := hsp
  refine ⟨_, (pss_cons (ps_if (PW.pt (pw_or (pt_cmpR op_lt (pv 1) pe_int (nomark _)) (pw_or (pt_cmpR op_gt (pv 1) (gi_MOST_PAID_IN B) (nomark _)) (pw_or1 (pt_cmpR op_gt (pe_op (o_addK K) (pe_fldK K (pv 0) rfl) (pv 1)) (gi_MOST_COINS B) (nomark _)))))) (pss_one (r_BadCoins B.rs (by rfl) (pa_cons (pv 1) pa_nil))) pss_nil)
    (pss_cons (ps_fldaug (pv 0) (pv 1) in_add)
    (pss_one (ps_expr (pe_bmK K PySem.F.plainAttrs_list PySem.F.slot_list_append PySem.F.type_list_append mt_append (pe_fldK K (pv 0) rfl) (pa_cons (pv 1) pa_nil)))))), ?_⟩
  obtain ⟨⟨dx, hl⟩, vs, hw, hp⟩ := id h
  have hzv : vs.length ≤ 90000 := by rw [Paired.length hp]; exact hz
  refine qwh (b := decide (a < 1) || (decide (1000000000 < a) || decide (1000000000000 < c + a))) ?_ (fun h1 => ?_) (fun h1 => ?_)
  · refine a_or (a_test fun Q q => by walk_at "go"; exact q) fun _ => a_or (a_test fun Q q => by walk_at "go"; exact q) fun _ => a_test fun Q q => ?_
    exact ⟨_, rfl, l, _, _, _, _, rfl, hl, T.toTx.c_Ledger, T.toTx.n_Ledger_coins, rfl, _, rfl, .inl ⟨_, _, rfl, rfl, _, _, rfl, rfl, q⟩⟩
  · refine ⟨_, rfl, rfl, fun d hd => hm ?_ _ _ _ T.toTx.e_BadCoins (Ex.new hd)⟩
    simpa using h1
  · refine ⟨_, rfl, l, _, _, _, _, rfl, hl, T.toTx.c_Ledger, T.toTx.n_Ledger_coins, rfl, _, rfl, _, _, rfl, rfl, dx, _, hl, by walk_at "ln", ?_⟩
    have nlw : w ≠ l := fun z => by rw [z, hl] at hw; cases hw
    have hl1 : upd H l (.ins (cL K) dx (ledF (c + a) w)) l = some (.ins (cL K) dx (ledF (c + a) w)) := upd_same
    have hw1 : upd H l (.ins (cL K) dx (ledF (c + a) w)) w = some (.lst vs) := by rw [upd_ne nlw]; exact hw
    refine ⟨_, rfl, l, _, _, _, _, rfl, hl1, T.toTx.c_Ledger, T.toTx.n_Ledger_written, rfl, .inl ⟨rfl, _, sq_of hw1⟩, _, rfl, w, vs, _, rfl, rfl, hw1, sz_lt (by omega), ?_⟩
    have f : Fr [l, w] H (upd (upd H l (.ins (cL K) dx (ledF (c + a) w))) w (.lst (vs ++ [.int a]))) :=
      (Fr.upd hl nt_ins (by simp)).same (Fr.upd (o := .lst vs) hw1 nt_lst (by simp))
    have h2 : ¬ (a < 1 ∨ a > 1000000000 ∨ c + a > 1000000000000) := by simpa using h1
    exact hq h2 _ ⟨⟨dx, by rw [upd_ne nlw.symm]; exact hl1⟩, vs ++ [.int a], upd_same, pr_app (Paired.mapP hp fun _ _ q => q.fr f) (pr_one (x := V.int a) (show EntV _ (.int a) (.inn a) from rfl))⟩ f)
theorem sc_Ledger_take_back : FnScope ["self", "last"] ["self"] xLedger_take_back.scope := ⟨rfl, rfl, rfl, by decide +kernel, rfl, by decide +kernel, by decide +kernel⟩
theorem w_Ledger_take_back (T : Wx P K mg) : FnR P w K mg base (L2N.CX P w) 3 (He.ma K (He.ga K "Ledger") "take_back") (spBack K) :=
  mkR 2 T T.toTx.d_Ledger_take_back sc_Ledger_take_back (by rintro vs H Q E ⟨_, _, _, _, _, rfl, _⟩; rfl) (fun _ _ _ _ _ _ us hl => match us, hl with | [_], _ => rfl) (fun cdv A outer s H vs Q E B hsp => by
  obtain ⟨l, c, es, e, w, rfl, h, hz, hq⟩ := hsp
  refine ⟨_, (pss_cons (ps_if (pt_not (pt_truthK K (pe_fldK K (pv 0) rfl) (fun _ => rfl))) (pss_one (r_NothingToUndo B.rs (by rfl))) pss_nil)
    (pss_cons (st_set (i := 1) sc_Ledger_take_back.nd (pe_bm0 PySem.F.plainAttrs_list PySem.F.slot_list_pop PySem.F.type_list_pop mt_pop (pe_fldK K (pv 0) rfl)))
    (pss_cons (ps_if (pt_truthK K (pe_callB (call_isiK K) (by rfl) B.wx.toTx.f_isinstance b_isinstance (pa_cons (pv 1) (pa_cons (gy_tuple B) pa_nil))) (fun _ => rfl)) (pss_one (ps_fldaug (pv 0) (pe_ix (ix_seqK K) (pv 1) pe_int (fun _ _ => rfl)) in_add)) (pss_one (ps_fldaug (pv 0) (pv 1) in_sub)))
    (pss_one (ps_ret (pv 1)))))), ?_⟩
  obtain ⟨⟨dx, hl⟩, vs0, hw, hp0⟩ := id h
  obtain ⟨vs, v, rfl, hp, hv⟩ := pr_snoc hp0
  have hzv : vs.length ≤ 90000 := by rw [Paired.length hp]; exact hz
  have nlw : w ≠ l := fun z => by rw [z, hl] at hw; cases hw
  refine qwh (b := false) (a_not (b := true) (a_tr (v := .ref w) (fun Q q => ⟨_, rfl, l, _, _, _, _, rfl, hl, T.toTx.c_Ledger, T.toTx.n_Ledger_written, rfl, q⟩) (.inl ⟨_, sq_of hw, by simp⟩))) (fun z => by cases z) (fun _ => ?_)
  refine ⟨_, rfl, l, _, _, _, _, rfl, hl, T.toTx.c_Ledger, T.toTx.n_Ledger_written, rfl, .inl ⟨rfl, _, sq_of hw⟩, w, _, v, rfl, rfl, hw, by simp, ?_⟩
  walk_at "st"
  rw [List.dropLast_concat]
  have f1 : Fr [l, w] H (upd H w (.lst vs)) := Fr.upd hw nt_lst (by simp)
  have hl1 : upd H w (.lst vs) l = some (.ins (cL K) dx (ledF c w)) := by rw [upd_ne nlw.symm]; exact hl
  have fin : ∀ c', (c' = e.sum c) → ∀ Q' : Prop, (∀ v H', LedAt K H' l (e.sum c) es w → Fr [l, w] H H' → Q v H') → True := fun _ _ _ _ => True.intro
  have done : ∀ c', c' = e.sum c → Q v (upd (upd H w (.lst vs)) l (.ins (cL K) dx (ledF c' w))) := fun c' ec => by
    subst ec
    have f : Fr [l, w] H (upd (upd H w (.lst vs)) l (.ins (cL K) dx (ledF (e.sum c) w))) := f1.same (Fr.upd hl1 nt_ins (by simp))
    exact hq v _ ⟨⟨dx, upd_same⟩, vs, by rw [upd_ne nlw, upd_same], Paired.mapP hp fun _ _ q => q.fr f⟩ f
  cases e with
  | paid n b m p =>
    obtain ⟨t, rfl, ht⟩ := hv
    have ht1 := f1.2 _ _ ht
    refine qif (b := true) (a_tr (v := .bl true) (fun Q q => ⟨_, rfl, _, _, _, _, true, rfl, .ty "tuple", .base (.tup ht1), kit_ty (by decide +kernel), q⟩) rfl) (fun _ => ?_) (fun z => by cases z)
    refine ⟨_, rfl, l, _, _, _, _, rfl, hl1, T.toTx.c_Ledger, T.toTx.n_Ledger_coins, rfl, _, rfl, .inr (.inl ⟨t, _, 3, .int p, rfl, rfl, st_of ht1, rfl, _, _, rfl, rfl, dx, _, hl1, by walk_at "ln", ?_⟩)⟩
    exact ⟨_, rfl, done _ rfl⟩
  | inn a =>
    obtain rfl := hv
    refine qif (b := false) (a_tr (v := .bl false) (fun Q q => ⟨_, rfl, _, _, _, _, false, rfl, .ty "tuple", .base (.int a), kit_ty (by decide +kernel), q⟩) rfl) (fun z => by cases z) (fun _ => ?_)
    refine ⟨_, rfl, l, _, _, _, _, rfl, hl1, T.toTx.c_Ledger, T.toTx.n_Ledger_coins, rfl, _, rfl, _, _, rfl, rfl, dx, _, hl1, by walk_at "ln", ?_⟩
    exact ⟨_, rfl, done _ rfl⟩)
end
section
variable {X : Cx} {W : WX} {k : Nat} {e o : Expr} {es : List Expr} {ta : TA} {to : TE} {p pos apos : Pos} {pl : Sem Bool}
theorem cn_Ledger {K : PySem.W.Frag} (B : Bx X W k) (ha : PA X (e :: es) ta) (hK : X.K = K := by rfl) (hl : 3 + 1 ≤ k := by decide) (hg : Gl X "Ledger" := by rfl) (hst : starEach (e :: es) X.env = (false, eval e X.env) :: starEach es X.env := by rfl) (hpl : (backTo pos (starEach es X.env)).any (·.1) = false := by rfl) : PE X (.Call (.Name "Ledger" p) (e :: es) [] pos) (tNew (He.ga K "Ledger") (spLedInit K) W ta) := by
  subst hK
  exact k_new B.wx.toTx.k_Ledger (w_Ledger_init B.wx) (B.rm.mono hl) B.wx.toTx.g_Ledger B.hx ha hg (by decide) hst hpl
theorem c_Ledger_balance {K : PySem.W.Frag} (B : Bx X W k) (ho : PE X o to) (hK : X.K = K := by rfl) (hl : 1 ≤ k := by decide)
    (ht : eval (.Call (.Attribute o "balance" apos) [] [] pos) X.env = (do
      let ov ← eval o X.env
      standAt apos.atName
      let (f, first) ← holding [ov] (getMethod ov "balance" pl)
      callWith pos f first (backTo pos (starEach [] X.env)) (backToKw pos (keywordEach [] X.env))) := by rfl) : PE X (.Call (.Attribute o "balance" apos) [] [] pos) (tMth (He.ga K "Ledger") "balance" (spBal K) W to tNil) := by
  subst hK
  exact k_mth0 B.wx.toTx.c_Ledger B.wx.toTx.m_Ledger_balance (w_Ledger_balance B.wx) (B.rm.mono hl) B.hx ho ht
theorem c_Ledger_pay {K : PySem.W.Frag} (B : Bx X W k) (ho : PE X o to) (ha : PA X (e :: es) ta) (hK : X.K = K := by rfl) (hl : 3 ≤ k := by decide) (hst : starEach (e :: es) X.env = (false, eval e X.env) :: starEach es X.env := by rfl) (hpl : (backTo pos (starEach es X.env)).any (·.1) = false := by rfl)
    (ht : eval (.Call (.Attribute o "pay" apos) (e :: es) [] pos) X.env = (do
      let ov ← eval o X.env
      standAt apos.atName
      let (f, first) ← holding [ov] (getMethod ov "pay" pl)
      callWith pos f first (backTo pos (starEach (e :: es) X.env)) (backToKw pos (keywordEach [] X.env))) := by rfl) : PE X (.Call (.Attribute o "pay" apos) (e :: es) [] pos) (tMth (He.ga K "Ledger") "pay" (spPay K) W to ta) := by
  subst hK
  exact k_mth B.wx.toTx.c_Ledger B.wx.toTx.m_Ledger_pay (w_Ledger_pay B.wx) (B.rm.mono hl) B.hx ho ha hst hpl ht
theorem c_Ledger_pay_in {K : PySem.W.Frag} (B : Bx X W k) (ho : PE X o to) (ha : PA X (e :: es) ta) (hK : X.K = K := by rfl) (hl : 3 ≤ k := by decide) (hst : starEach (e :: es) X.env = (false, eval e X.env) :: starEach es X.env := by rfl) (hpl : (backTo pos (starEach es X.env)).any (·.1) = false := by rfl)
    (ht : eval (.Call (.Attribute o "pay_in" apos) (e :: es) [] pos) X.env = (do
      let ov ← eval o X.env
      standAt apos.atName
      let (f, first) ← holding [ov] (getMethod ov "pay_in" pl)
      callWith pos f first (backTo pos (starEach (e :: es) X.env)) (backToKw pos (keywordEach [] X.env))) := by rfl) : PE X (.Call (.Attribute o "pay_in" apos) (e :: es) [] pos) (tMth (He.ga K "Ledger") "pay_in" (spPayIn K) W to ta) := by
  subst hK
  exact k_mth B.wx.toTx.c_Ledger B.wx.toTx.m_Ledger_pay_in (w_Ledger_pay_in B.wx) (B.rm.mono hl) B.hx ho ha hst hpl ht
theorem c_Ledger_take_back {K : PySem.W.Frag} (B : Bx X W k) (ho : PE X o to) (hK : X.K = K := by rfl) (hl : 3 ≤ k := by decide)
    (ht : eval (.Call (.Attribute o "take_back" apos) [] [] pos) X.env = (do
      let ov ← eval o X.env
      standAt apos.atName
      let (f, first) ← holding [ov] (getMethod ov "take_back" pl)
      callWith pos f first (backTo pos (starEach [] X.env)) (backToKw pos (keywordEach [] X.env))) := by rfl) : PE X (.Call (.Attribute o "take_back" apos) [] [] pos) (tMth (He.ga K "Ledger") "take_back" (spBack K) W to tNil) := by
  subst hK
  exact k_mth0 B.wx.toTx.c_Ledger B.wx.toTx.m_Ledger_take_back (w_Ledger_take_back B.wx) (B.rm.mono hl) B.hx ho ht
end
end Bm
set_option Elab.async false
set_option linter.all false
set_option maxRecDepth 10000
set_option maxHeartbeats 400000
set_option pp.deepTerms false
set_option pp.maxSteps 1500
set_option maxErrors 6
/-! Walks: payments, prices, tallies. -/
namespace Bm
open PySem PySem.Spec PyProof.Rows L2 Evl TL
local macro_rules | `(tactic| walk_at "sz") => `(tactic| first | assumption | (refine sz_of ?_; omega) | (refine sz_lt ?_; omega))
local macro_rules | `(tactic| walk_at "ne") => `(tactic| first | assumption | (refine Ne.symm ?_; assumption) | exact ne_new (by assumption) (by walk_at "hp") | exact Ne.symm (ne_new (by assumption) (by walk_at "hp")))
local macro_rules | `(tactic| walk_at "hp") => `(tactic| first | assumption | exact upd_same | (refine (upd_ne (by walk_at "ne")).trans ?_; walk_at "hp") | (refine Ex.at_ (by assumption) ?_; walk_at "hp"))
local macro_rules | `(tactic| walk_at "sq") => `(tactic| first | assumption | (refine sq_of ?_; walk_at "hp") | (refine st_of ?_; walk_at "hp") | (refine ex_l (by assumption) ?_; walk_at "sq") | (refine ex_t (by assumption) ?_; walk_at "sq"))
local macro_rules | `(tactic| walk_at "sd") => `(tactic| first | exact (show (0 : Int) < _ from by omega) | exact (show (0 : Int) < _ ∧ _ < (1073741824 : Int) from ⟨by omega, by omega⟩) | exact (show CPow _ _ from ⟨by decide, by decide, by decide⟩) | exact (show CMul _ _ from .inl ⟨by omega, by omega⟩) | exact (show CMul _ _ from .inr ⟨by omega, by omega⟩))
local macro_rules | `(tactic| walk_at "g1") => `(tactic| first
  | refine ⟨_, rfl, ?_⟩
  | refine ⟨_, _, rfl, rfl, ?_⟩
  | refine .inl ⟨_, _, rfl, rfl, ?_⟩
  | refine .inl ⟨rfl, ?_⟩
  | refine .inl (.inl ⟨_, rfl, ?_⟩)
  | (refine ⟨_, _, rfl, ⟨?_, rfl⟩, ?_⟩; (walk_at "sz"))
  | refine ⟨(by walk_at "sd"), ?_⟩)
local macro_rules | `(tactic| walk_at "go") => `(tactic| repeat walk_at "g1")
local macro_rules | `(tactic| walk_at "st") => `(tactic| dsimp only [gName])
local macro_rules | `(tactic| walk_at "ln") => `(tactic| first | exact (show 0 < 1000 from by decide) | exact (show 1 < 1000 from by decide) | exact (show 2 < 1000 from by decide) | exact (show 3 < 1000 from by decide) | exact (show 4 < 1000 from by decide) | exact (show 5 < 1000 from by decide) | exact (show 6 < 1000 from by decide) | exact (show 7 < 1000 from by decide))
local macro_rules | `(tactic| walk_at "le") => `(tactic| first | exact (show 0 ≤ sizeLine from by decide) | exact (show 1 ≤ sizeLine from by decide) | exact (show 2 ≤ sizeLine from by decide) | exact (show 3 ≤ sizeLine from by decide) | exact (show 4 ≤ sizeLine from by decide) | exact (show 5 ≤ sizeLine from by decide) | exact (show 6 ≤ sizeLine from by decide) | exact (show 7 ≤ sizeLine from by decide) | exact (show 8 ≤ sizeLine from by decide))
local macro_rules | `(tactic| walk_at "nt") => `(tactic| first | exact nt_ins | exact nt_lst | exact nt_dK)
local macro_rules | `(tactic| walk_at "fr") => `(tactic| first | assumption | exact Fr.refl | exact Fr.ex (by assumption) | (refine Fr.put ?_ (by walk_at "hp") (by walk_at "nt") (by simp); walk_at "fr") | (refine Fr.new ?_ (by assumption); walk_at "fr"))
def isPaid : Ent → Bool
  | .paid _ _ _ _ => true
  | .inn _ => false
def isRef : V → Bool
  | .ref _ => true
  | _ => false
def Ent.own (n : Str) : Ent → Bool
  | .paid m _ _ _ => decide (m = n)
  | .inn _ => false
def Ent.amt : Ent → Int
  | .paid _ _ _ p => p
  | .inn a => a
def spentOf (es : List Ent) (n : Str) : Int := (((es.filter isPaid).filter (Ent.own n)).map Ent.amt).sum
def spPayments (K : PySem.W.Frag) : Sp := fun vs H Q _ => ∃ (l : Addr) (c : Int) (es : List Ent) (w : Addr), vs = [.ref l] ∧ LedAt K H l c es w ∧ es.length ≤ 90000 ∧
  ∀ p H' ps, H p = none → Ex H H' → H' p = some (.lst ps) → Paired (EntV H) ps (es.filter isPaid) → Q (.ref p) H'
def spSpent (K : PySem.W.Frag) : Sp := fun vs H Q _ => ∃ (l : Addr) (n : Str) (c : Int) (es : List Ent) (w : Addr), vs = [.ref l, .str n] ∧ LedAt K H l c es w ∧ es.length ≤ 90000 ∧
  ∀ H', Ex H H' → Q (.int (spentOf es n)) H'
theorem pr_ref {H : Hp} {v : V} {e : Ent} (h : EntV H v e) : isRef v = isPaid e := by
  cases e with
  | paid n b m p =>
    obtain ⟨t, rfl, _⟩ := h
    rfl
  | inn a =>
    obtain rfl := h
    rfl
section
variable {P : Program} {w : World} {K : PySem.W.Frag} {mg : Str → Option Value} {base : Heap}
theorem sc_Ledger_payments : FnScope ["self", "entry"] ["self"] xLedger_payments.scope := ⟨rfl, rfl, rfl, by decide +kernel, rfl, by decide +kernel, by decide +kernel⟩
theorem w_Ledger_payments (T : Wx P K mg) : FnR P w K mg base (L2N.CX P w) 1 (He.ma K (He.ga K "Ledger") "payments") (spPayments K) :=
  mkR 0 T T.toTx.d_Ledger_payments sc_Ledger_payments (by rintro vs H Q E ⟨_, _, _, _, rfl, _⟩; rfl) (fun _ _ _ _ _ _ us hl => match us, hl with | [_], _ => rfl) (fun cdv A outer s H vs Q E B hsp => by
  obtain ⟨l, c, es, w, rfl, h, hz, hq⟩ := hsp
  refine ⟨_, (pss_one (ps_ret (pe_lcB (own := [("entry", 1)]) B sc_Ledger_payments.nd (pi_list (pe_fldK K (pv 0) rfl)) (blkOk_by (N := ["self", "entry"]) (sc := xLedger_payments.scope) (by decide +kernel)) (fun _ _ _ _ _ => pg_name (i := 1) sc_Ledger_payments.nd rfl (by first | exact .inl rfl | exact .inr rfl)) (fun _ _ _ _ _ B => (pts_one (pt_truthK K (pe_callB (call_isiK K) (by rfl) B.wx.toTx.f_isinstance b_isinstance (pa_cons (pv 1) (pa_cons (gy_tuple B) pa_nil))) (fun _ => rfl)))) (fun _ _ _ _ _ B => (pv 1))))), ?_⟩
  obtain ⟨⟨dx, hl⟩, vs, hw, hp⟩ := id h
  have hzv : vs.length = es.length := Paired.length hp
  refine ⟨_, rfl, l, _, _, _, _, rfl, hl, T.toTx.c_Ledger, T.toTx.n_Ledger_written, rfl, w, rfl, ⟨_, sq_of hw⟩, fun D hD => ?_⟩
  refine lcX walk_list _ yAt (by omega) hD (fun H' e => ex_l e (sq_of hw)) (fun _ x => isRef x) (fun i acc => Paired (EntV H) acc ((es.take i).filter isPaid)) .nil ?_ (fun i x acc H1 hi hx r e Q q => ?_) (fun i x acc H1 hi hx r e hf Q q => ?_) (fun i x acc hi hx r hf => ?_) (fun H2 ys e hD2 r hl2 => ?_)
  · exact fun _ => rfl
  · obtain ⟨en, he, hv⟩ := pr_get hp hx
    cases en with
    | paid n b m p =>
      obtain ⟨t, rfl, ht⟩ := hv
      exact ⟨_, rfl, _, _, _, _, true, rfl, .ty "tuple", .base (.tup (e _ _ ht)), kit_ty (by decide +kernel), _, rfl, q H1 (Ex.refl H1)⟩
    | inn a =>
      obtain rfl := hv
      exact ⟨_, rfl, _, _, _, _, false, rfl, .ty "tuple", .base (.int a), kit_ty (by decide +kernel), _, rfl, q H1 (Ex.refl H1)⟩
  · obtain ⟨en, he, hv⟩ := pr_get hp hx
    refine ⟨_, rfl, q _ _ (Ex.refl H1) ?_⟩
    rw [take_snoc he, List.filter_append]
    refine pr_app r ?_
    have e1 : isPaid en = true := by rw [← pr_ref hv]; exact hf
    rw [List.filter_cons_of_pos e1]
    exact pr_one hv
  · obtain ⟨en, he, hv⟩ := pr_get hp hx
    rw [take_snoc he, List.filter_append]
    have e1 : ¬ isPaid en = true := by rw [← pr_ref hv, hf]; exact Bool.noConfusion
    rw [List.filter_cons_of_neg e1, List.filter_nil, List.append_nil]
    exact r
  · rw [hzv, take_all] at r
    exact hq D H2 ys hD e hD2 r)
end
section
variable {X : Cx} {W : WX} {k : Nat} {e o : Expr} {es : List Expr} {ta : TA} {to : TE} {p pos apos : Pos} {pl : Sem Bool}
theorem c_Ledger_payments {K : PySem.W.Frag} (B : Bx X W k) (ho : PE X o to) (hK : X.K = K := by rfl) (hl : 1 ≤ k := by decide)
    (ht : eval (.Call (.Attribute o "payments" apos) [] [] pos) X.env = (do
      let ov ← eval o X.env
      standAt apos.atName
      let (f, first) ← holding [ov] (getMethod ov "payments" pl)
      callWith pos f first (backTo pos (starEach [] X.env)) (backToKw pos (keywordEach [] X.env))) := by rfl) : PE X (.Call (.Attribute o "payments" apos) [] [] pos) (tMth (He.ga K "Ledger") "payments" (spPayments K) W to tNil) := by
  subst hK
  exact k_mth0 B.wx.toTx.c_Ledger B.wx.toTx.m_Ledger_payments (w_Ledger_payments B.wx) (B.rm.mono hl) B.hx ho ht
end
section
variable {P : Program} {w : World} {K : PySem.W.Frag} {mg : Str → Option Value} {base : Heap}
theorem sc_Ledger_spent : FnScope ["self", "name", "entry"] ["self", "name"] xLedger_spent.scope := ⟨rfl, rfl, rfl, by decide +kernel, rfl, by decide +kernel, by decide +kernel⟩
theorem w_Ledger_spent (T : Wx P K mg) : FnR P w K mg base (L2N.CX P w) 2 (He.ma K (He.ga K "Ledger") "spent") (spSpent K) :=
  mkR 1 T T.toTx.d_Ledger_spent sc_Ledger_spent (by rintro vs H Q E ⟨_, _, _, _, _, rfl, _⟩; rfl) (fun _ _ _ _ _ _ us hl => match us, hl with | [_, _], _ => rfl) (fun cdv A outer s H vs Q E B hsp => by
  obtain ⟨l, n, c, es, w, rfl, h, hz, hq⟩ := hsp
  refine ⟨_, (pss_one (ps_ret (pe_callB (cr_sum B.calm) (by rfl) B.wx.toTx.f_sum b_sum (pa_cons (pe_lcB (own := [("entry", 2)]) B sc_Ledger_spent.nd (pi_list (c_Ledger_payments (K := K) B (pv 0))) (blkOk_by (N := ["self", "name", "entry"]) (sc := xLedger_spent.scope) (by decide +kernel)) (fun _ _ _ _ _ => pg_name (i := 2) sc_Ledger_spent.nd rfl (by first | exact .inl rfl | exact .inr rfl)) (fun _ _ _ _ _ B => (pts_one (pt_cmpR (o_eqK K B.hu64) (pe_ix (ix_seqK K) (pv 2) pe_int (fun _ _ => rfl)) (pv 1) (nomark _)))) (fun _ _ _ _ _ B => (pe_ix (ix_seqK K) (pv 2) pe_int (fun _ _ => rfl)))) pa_nil)))), ?_⟩
  obtain ⟨⟨dx, hl⟩, vs, hw, hp⟩ := id h
  refine ⟨_, rfl, l, _, _, rfl, hl, rfl, l, c, es, w, rfl, h, hz, fun p H1 ps np e1 h1 hps => ?_⟩
  have hlen : ps.length ≤ 90000 := by
    rw [Paired.length hps]
    exact Nat.le_trans (List.length_filter_le _ _) hz
  refine ⟨_, rfl, ⟨_, sq_of h1⟩, fun D hD => ?_⟩
  refine lcX walk_list _ yAt (by omega) hD (fun H' e => ex_l e (sq_of h1)) (fun i x => (((es.filter isPaid)[i]?).map (Ent.own n)).getD false) (fun i acc => acc = ((((es.filter isPaid).take i).filter (Ent.own n)).map fun e => V.int e.amt)) rfl ?_ (fun i x acc H2 hi hx r e Q q => ?_) (fun i x acc H2 hi hx r e hf Q q => ?_) (fun i x acc hi hx r hf => ?_) (fun H2 ys e hD2 r hl2 => ?_)
  · exact fun _ => rfl
  · obtain ⟨en, he, hv⟩ := pr_get hps hx
    have hpd : isPaid en = true := (List.mem_filter.mp (List.mem_of_getElem? he)).2
    cases en with
    | inn a => cases hpd
    | paid m b k p =>
      obtain ⟨t, rfl, ht⟩ := hv
      have ht2 := e _ _ (e1 _ _ ht)
      refine ⟨_, rfl, .inr (.inl ⟨t, _, 0, _, rfl, rfl, st_of ht2, rfl, _, rfl, .inl ⟨rfl, _, rfl, ?_⟩⟩)⟩
      rw [he] at q
      have e3 : decide (V.str m = V.str n) = ((some (Ent.paid m b k p)).map (Ent.own n)).getD false := dcS
      rw [e3]
      exact q H2 (Ex.refl H2)
  · obtain ⟨en, he, hv⟩ := pr_get hps hx
    have hpd : isPaid en = true := (List.mem_filter.mp (List.mem_of_getElem? he)).2
    rw [he] at hf
    cases en with
    | inn a => cases hpd
    | paid m b k p =>
      obtain ⟨t, rfl, ht⟩ := hv
      have ht2 := e _ _ (e1 _ _ ht)
      refine ⟨_, rfl, .inr (.inl ⟨t, _, 3, _, rfl, rfl, st_of ht2, rfl, q _ _ (Ex.refl H2) ?_⟩)⟩
      rw [take_snoc he, List.filter_append, List.map_append, r]
      have hf2 : Ent.own n (.paid m b k p) = true := hf
      rw [List.filter_cons_of_pos hf2]
      rfl
  · obtain ⟨en, he, hv⟩ := pr_get hps hx
    rw [he] at hf
    have hf2 : ¬ Ent.own n en = true := by
      have h3 : Ent.own n en = false := hf
      rw [h3]
      exact Bool.noConfusion
    rw [take_snoc he, List.filter_append, List.filter_cons_of_neg hf2, List.filter_nil, List.append_nil]
    exact r
  · rw [Paired.length hps, take_all] at r
    refine ⟨D, _, rfl, sq_of (hD2.trans ?_), hq H2 (e1.trans e)⟩
    rw [r, List.map_map]
    rfl)
end
end Bm
set_option Elab.async false
set_option linter.all false
set_option maxRecDepth 10000
set_option maxHeartbeats 400000
set_option pp.deepTerms false
set_option pp.maxSteps 1500
set_option maxErrors 6
/-! Walks: prices, tallies, strands. -/
namespace Bm
open PySem PySem.Spec PyProof.Rows L2 Evl TL RZ
local macro_rules | `(tactic| walk_at "sz") => `(tactic| first | assumption | (refine sz_of ?_; omega) | (refine sz_lt ?_; omega))
local macro_rules | `(tactic| walk_at "ne") => `(tactic| first | assumption | (refine Ne.symm ?_; assumption) | exact ne_new (by assumption) (by walk_at "hp") | exact Ne.symm (ne_new (by assumption) (by walk_at "hp")))
local macro_rules | `(tactic| walk_at "hp") => `(tactic| first | assumption | exact upd_same | (refine (upd_ne (by walk_at "ne")).trans ?_; walk_at "hp") | (refine Ex.at_ (by assumption) ?_; walk_at "hp"))
local macro_rules | `(tactic| walk_at "sq") => `(tactic| first | assumption | (refine sq_of ?_; walk_at "hp") | (refine st_of ?_; walk_at "hp") | (refine ex_l (by assumption) ?_; walk_at "sq") | (refine ex_t (by assumption) ?_; walk_at "sq"))
local macro_rules | `(tactic| walk_at "sd") => `(tactic| first | exact (show (0 : Int) < _ from by omega) | exact (show (0 : Int) < _ ∧ _ < (1073741824 : Int) from ⟨by omega, by omega⟩) | exact (show CPow _ _ from ⟨by decide, by decide, by decide⟩) | exact (show CMul _ _ from .inl ⟨by omega, by omega⟩) | exact (show CMul _ _ from .inr ⟨by omega, by omega⟩))
local macro_rules | `(tactic| walk_at "g1") => `(tactic| first
  | refine ⟨_, rfl, ?_⟩
  | refine ⟨_, _, rfl, rfl, ?_⟩
  | refine .inl ⟨_, _, rfl, rfl, ?_⟩
  | refine .inl ⟨rfl, ?_⟩
  | refine .inl (.inl ⟨_, rfl, ?_⟩)
  | (refine ⟨_, _, rfl, ⟨?_, rfl⟩, ?_⟩; (walk_at "sz"))
  | refine ⟨(by walk_at "sd"), ?_⟩)
local macro_rules | `(tactic| walk_at "go") => `(tactic| repeat walk_at "g1")
local macro_rules | `(tactic| walk_at "st") => `(tactic| dsimp only [gName])
local macro_rules | `(tactic| walk_at "ln") => `(tactic| first | exact (show 0 < 1000 from by decide) | exact (show 1 < 1000 from by decide) | exact (show 2 < 1000 from by decide) | exact (show 3 < 1000 from by decide) | exact (show 4 < 1000 from by decide) | exact (show 5 < 1000 from by decide) | exact (show 6 < 1000 from by decide) | exact (show 7 < 1000 from by decide))
local macro_rules | `(tactic| walk_at "le") => `(tactic| first | exact (show 0 ≤ sizeLine from by decide) | exact (show 1 ≤ sizeLine from by decide) | exact (show 2 ≤ sizeLine from by decide) | exact (show 3 ≤ sizeLine from by decide) | exact (show 4 ≤ sizeLine from by decide) | exact (show 5 ≤ sizeLine from by decide) | exact (show 6 ≤ sizeLine from by decide) | exact (show 7 ≤ sizeLine from by decide) | exact (show 8 ≤ sizeLine from by decide))
local macro_rules | `(tactic| walk_at "nt") => `(tactic| first | exact nt_ins | exact nt_lst | exact nt_dK)
local macro_rules | `(tactic| walk_at "fr") => `(tactic| first | assumption | exact Fr.refl | exact Fr.ex (by assumption) | (refine Fr.put ?_ (by walk_at "hp") (by walk_at "nt") (by simp); walk_at "fr") | (refine Fr.new ?_ (by assumption); walk_at "fr"))
/-- the frame of a def with defaults, where all is written -/
theorem mkRd {P : Program} {w : World} {K : PySem.W.Frag} {mg : Str → Option Value} {base : Heap} {x qual : Str} {params : Arguments} {body : List Stmt} {scope : Scope} {dvs : List V} {kws : List (Str × V)} {f : Addr} {fd : FuncData} {N ps : List Str} {sp : Sp} (k n j : Nat)
    (T : Wx P K mg) (F : FunD K x qual params body scope dvs kws f fd) (S : FnScope N ps scope) (hd : dvs ≠ []) (hj : dvs.drop j = []) (hn : n + (dvs.length - j) = ps.length) (len : ∀ vs H Q E, sp vs H Q E → vs.length = ps.length)
    (hb : ∀ (T : Addr) (kV doc pm : Value) (an : Option Addr) (cdv ct : Value) (us its : List Value), us.length = n → its.length = dvs.length →
      ∃ k, bindArgs (PySem.W.fnOf x qual params body scope (.ref T) kV doc pm an cdv ct) ⟨us, []⟩ = seqItems? (.ref T) >>= k ∧ k (some its.toArray) = pure (ps.zip (us ++ its.drop j)))
    (hbody : ∀ (cdv : Value) (A : Around) (outer : List Env) (s : Shared) (H : Hp) (vs : List V) (Q : VK) (E : XK), Bx (cxOf (L2N.CX P w) P w K mg base N qual scope f cdv A outer s H E) (fun c d _ H => E c d H) k → sp vs H Q E →
      ∃ t, PSs (cxOf (L2N.CX P w) P w K mg base N qual scope f cdv A outer s H E) body t ∧ t { nx := fun _ H' => Q .non H', rt := Q } (start N vs) H) : FnR P w K mg base (L2N.CX P w) (k + 1) f sp := by
  have G := FunD.ok (P := P) (w := w) (mg := mg) (base := base) (CX := L2N.CX P w) (k := k) (sp := sp) F S len fun cdv A outer s H vs Q E hr h => hbody cdv A outer s H vs Q E ⟨T, L2N.takes_of rfl rfl rfl rfl, rfl, hr⟩ h
  obtain ⟨ds, rd, bd⟩ := F.binds1 n j hd hn hb
  rw [hj] at rd
  cases rd
  have R := G.raw bd .nil
  exact R.imp fun vs H Q E h => by rw [List.append_nil]; exact h
theorem flatS {ms : List Str} : (ms.map V.str).all flatV = true := by
  rw [List.all_map]
  exact List.all_eq_true.mpr fun _ _ => rfl
theorem flatI {ms : List Int} : (ms.map V.int).all flatV = true := by
  rw [List.all_map]
  exact List.all_eq_true.mpr fun _ _ => rfl
def marks4 : List Str := ["quiet", "odd", "edge", "strife"]
abbrev Cost := Int × Int × Int × Int × Int
def spPrcInit (K : PySem.W.Frag) : Sp := fun vs H Q _ => ∃ (p dx : Addr) (oc oq oo oe os : Int), vs = [.ref p, .int oq, .int oo, .int oe, .int os] ∧ H p = some (.ins (cP K) dx []) ∧ (∀ x ∈ [oq, oo, oe, os], 0 ≤ x ∧ x ≤ 1000000000) ∧
  ∀ H', H' p = some (.ins (cP K) dx (prcF (oc, oq, oo, oe, os))) → Fr [p] H H' → Q .non H'
def spPrice (K : PySem.W.Frag) : Sp := fun vs H Q _ => ∃ (p dx : Addr) (m : Str) (oc oq oo oe os : Int), vs = [.ref p, .str m] ∧ H p = some (.ins (cP K) dx (prcF (oc, oq, oo, oe, os))) ∧ m ∈ marks4 ∧
  Q (.int (if m = ("quiet" : Str) then oq else if m = ("odd" : Str) then oo else if m = ("edge" : Str) then oe else os)) H
def tlyF (a b c d : Int) (t : Addr) : List (Str × V) := [("quiet", .int a), ("odd", .int b), ("edge", .int c), ("strife", .int d), ("counts", .ref t)]
def spTlyInit (K : PySem.W.Frag) : Sp := fun vs H Q _ => ∃ (p dx : Addr) (a b c d : Int), vs = [.ref p, .int a, .int b, .int c, .int d] ∧ H p = some (.ins (cT K) dx []) ∧
  ∀ H' t, H t = none → H' p = some (.ins (cT K) dx (tlyF a b c d t)) → H' t = some (.tup [.int a, .int b, .int c, .int d]) → Fr [p] H H' → Q .non H'
def cntM (ms : List Str) (m : Str) : Int := (ms.countP fun z => eqV (.str z) (.str m) : Nat)
/-- the tally of marks: its counts -/
def spCount (K : PySem.W.Frag) : Sp := fun vs H Q _ => ∃ (l : Addr) (ms : List Str), vs = [.ref l] ∧ SqL K H l (ms.map V.str) ∧ ms.length ≤ 90000 ∧
  ∀ p H' dx t, H p = none → Ex H H' → H' p = some (.ins (cT K) dx (tlyF (cntM ms "quiet") (cntM ms "odd") (cntM ms "edge") (cntM ms "strife") t)) → H' t = some (.tup [.int (cntM ms "quiet"), .int (cntM ms "odd"), .int (cntM ms "edge"), .int (cntM ms "strife")]) → Q (.ref p) H'
def strF (k : Addr) (n u e v : Int) : List (Str × V) := [("kinds", .ref k), ("size", .int n), ("unlike_pairs", .int u), ("ends_unlike", .int e), ("variety", .int v)]
/-- a strand of these kinds -/
def StrandAt (K : PySem.W.Frag) (H : Hp) (p : Addr) (ks : List Int) : Prop := ∃ dx k u e v, H p = some (.ins (cS K) dx (strF k ks.length u e v)) ∧ H k = some (.tup (ks.map V.int))
def spStrInit (K : PySem.W.Frag) : Sp := fun vs H Q E => ∃ (p dx l : Addr) (ks : List Int), vs = [.ref p, .ref l] ∧ H p = some (.ins (cS K) dx []) ∧ (H l = some (.lst (ks.map V.int)) ∨ H l = some (.tup (ks.map V.int))) ∧ ks.length ≤ 90000 ∧ (badStrand ks = true → Moot K H E) ∧
  (badStrand ks = false → ∀ H', StrandAt K H' p ks → Fr [p] H H' → Q .non H')
section
variable {P : Program} {w : World} {K : PySem.W.Frag} {mg : Str → Option Value} {base : Heap}
theorem sc_Prices_init : FnScope ["self", "quiet", "odd", "edge", "strife", "mark", "price"] ["self", "quiet", "odd", "edge", "strife"] xPrices_init.scope := ⟨rfl, rfl, rfl, by decide +kernel, rfl, by decide +kernel, by decide +kernel⟩
theorem w_Prices_init (T : Wx P K mg) : FnOk P w K mg base (L2N.CX P w) 3 (He.ma K (He.ga K "Prices") "__init__") (fdOf K (He.ma K (He.ga K "Prices") "__init__")) ["self", "quiet", "odd", "edge", "strife"] (spPrcInit K) :=
  mkOk 2 T T.toTx.d_Prices_init sc_Prices_init (by rintro vs H Q E ⟨_, _, _, _, _, _, _, rfl, _⟩; rfl) (fun cdv A outer s H vs Q E B hsp => by
  obtain ⟨p, dx, oc, oq, oo, oe, os, rfl, hp, hr, hq⟩ := hsp
  refine ⟨_, (pss_cons (ps_for (L2.passes_of rfl) B.calm (pi_zipA (by rfl) B.wx.toTx.f_zip (pa_cons (g_MARKS B) (pa_cons (pe_tup (pa_cons (pv 1) (pa_cons (pv 2) (pa_cons (pv 3) (pa_cons (pv 4) pa_nil))))) pa_nil))) (pg_tup B.calm (pgs_cons (pg_name (i := 5) sc_Prices_init.nd rfl (by first | exact .inl rfl | exact .inr rfl)) (pgs_cons (pg_name (i := 6) sc_Prices_init.nd rfl (by first | exact .inl rfl | exact .inr rfl)) pgs_nil))) (pss_one (ps_if (PW.pt (pw_or (pt_cmpR op_lt (pv 6) (pe_un un_neg (gi_TOP_PRICE B)) (nomark _)) (pw_or1 (pt_cmpR op_gt (pv 6) (gi_TOP_PRICE B) (nomark _))))) (pss_one (r_BadPrice B.rs (by rfl) (pa_cons (pv 5) pa_nil))) pss_nil)))
    (pss_cons (ps_fld (pv 0) (pv 1) rfl)
    (pss_cons (ps_fld (pv 0) (pv 2) rfl)
    (pss_cons (ps_fld (pv 0) (pv 3) rfl)
    (pss_one (ps_fld (pv 0) (pv 4) rfl)))))), ?_⟩
  refine ⟨_, rfl, _, rfl, _, rfl, _, rfl, by walk_at "le", fun t ht => ⟨_, t, _, _, rfl, .inr ⟨T.toTx.u_MARKS _, st_of upd_same, ?_⟩⟩⟩
  refine for_zipT (xs := [.str "quiet", .str "odd", .str "edge", .str "strife"]) (ys := [.int oq, .int oo, .int oe, .int os]) rfl (fun _ σ' H' => Ex H H' ∧ (∃ a b, σ' = [some (.ref p), some (.int oq), some (.int oo), some (.int oe), some (.int os), a, b]) ∧ H' t = some (.tup [.int oq, .int oo, .int oe, .int os])) ⟨Ex.new ht, ⟨none, none, rfl⟩, upd_same⟩ (fun i σ' H' h => ⟨T.toTx.u_MARKS _, st_of h.2.2⟩) ?_ ?_
  · rintro i x y U σ' H' hx hy ⟨e, ⟨a, b, rfl⟩, ht2⟩ hU
    obtain ⟨z, rfl, hz⟩ : ∃ z, y = V.int z ∧ 0 ≤ z ∧ z ≤ 1000000000 := by
      have hm : y ∈ ([oq, oo, oe, os].map V.int) := List.mem_of_getElem? hy
      obtain ⟨z, h1, rfl⟩ := List.mem_map.mp hm
      exact ⟨z, rfl, hr z h1⟩
    refine ⟨U, _, rfl, st_of upd_same, rfl, _, _, rfl, _, _, rfl, rfl, ?_⟩
    walk_at "st"
    refine swh (b := decide (z < -1000000000) || decide (1000000000 < z)) ?_ (fun h => ?_) (fun h => ?_)
    · refine a_or (a_test fun Q q => ⟨_, rfl, _, rfl, _, _, rfl, rfl, q⟩) fun _ => a_test fun Q q => ⟨_, rfl, _, _, rfl, rfl, q⟩
    · have h1 : z < -1000000000 ∨ 1000000000 < z := by simpa using h
      omega
    · exact ⟨Ex.trans e (Ex.new hU), ⟨_, _, rfl⟩, by rw [upd_ne (ne_of_none ht2 hU)]; exact ht2⟩
  · rintro σ' H' ⟨e, ⟨a, b, rfl⟩, ht2⟩
    walk_at "st"
    have hp1 := e _ _ hp
    refine ⟨_, rfl, _, rfl, p, _, _, _, rfl, hp1, T.toTx.c_Prices, T.toTx.n_Prices_quiet, by walk_at "ln", _, rfl, _, rfl, p, _, _, _, rfl, upd_same, T.toTx.c_Prices, T.toTx.n_Prices_odd, by walk_at "ln", _, rfl, _, rfl, p, _, _, _, rfl, upd_same, T.toTx.c_Prices, T.toTx.n_Prices_edge, by walk_at "ln", _, rfl, _, rfl, p, _, _, _, rfl, upd_same, T.toTx.c_Prices, T.toTx.n_Prices_strife, by walk_at "ln", hq _ ?_ ?_⟩
    · rw [upd_same]
      rfl
    · have f : Fr [p] H H' := Fr.ex e
      exact (((f.same (Fr.upd hp1 nt_ins (by simp))).same (Fr.upd upd_same nt_ins (by simp))).same (Fr.upd upd_same nt_ins (by simp))).same (Fr.upd upd_same nt_ins (by simp)))
theorem sc_Prices_call : FnScope ["self", "mark"] ["self", "mark"] xPrices_call.scope := ⟨rfl, rfl, rfl, by decide +kernel, rfl, by decide +kernel, by decide +kernel⟩
theorem w_Prices_call (T : Wx P K mg) : FnR P w K mg base (L2N.CX P w) 2 (He.ma K (He.ga K "Prices") "__call__") (spPrice K) :=
  mkR 1 T T.toTx.d_Prices_call sc_Prices_call (by rintro vs H Q E ⟨_, _, _, _, _, _, _, _, rfl, _⟩; rfl) (fun _ _ _ _ _ _ us hl => match us, hl with | [_, _], _ => rfl) (fun cdv A outer s H vs Q E B hsp => by
  obtain ⟨p, dx, m, oc, oq, oo, oe, os, rfl, hp, hm, hq⟩ := hsp
  refine ⟨_, (pss_cons (ps_if (pt_cmpR (o_eqK K B.hu64) (pv 1) pe_str (nomark _)) (pss_one (ps_ret (pe_fldK K (pv 0) rfl))) pss_nil)
    (pss_cons (ps_if (pt_cmpR (o_eqK K B.hu64) (pv 1) pe_str (nomark _)) (pss_one (ps_ret (pe_fldK K (pv 0) rfl))) pss_nil)
    (pss_cons (ps_if (pt_cmpR (o_eqK K B.hu64) (pv 1) pe_str (nomark _)) (pss_one (ps_ret (pe_fldK K (pv 0) rfl))) pss_nil)
    (pss_cons (ps_if (pt_cmpR (o_eqK K B.hu64) (pv 1) pe_str (nomark _)) (pss_one (ps_ret (pe_fldK K (pv 0) rfl))) pss_nil)
    (pss_one ps_never))))), ?_⟩
  refine qwh (b := decide (m = ("quiet" : Str))) (a_test fun Q q => by walk_at "go"; rw [dcS]; exact q) (fun h => ?_) (fun h => ?_)
  · rw [if_pos (of_decide_eq_true h)] at hq
    exact ⟨_, rfl, p, _, _, _, _, rfl, hp, T.toTx.c_Prices, T.toTx.n_Prices_quiet, rfl, hq⟩
  rw [if_neg (of_decide_eq_false h)] at hq
  refine qwh (b := decide (m = ("odd" : Str))) (a_test fun Q q => by walk_at "go"; rw [dcS]; exact q) (fun h2 => ?_) (fun h2 => ?_)
  · rw [if_pos (of_decide_eq_true h2)] at hq
    exact ⟨_, rfl, p, _, _, _, _, rfl, hp, T.toTx.c_Prices, T.toTx.n_Prices_odd, rfl, hq⟩
  rw [if_neg (of_decide_eq_false h2)] at hq
  refine qwh (b := decide (m = ("edge" : Str))) (a_test fun Q q => by walk_at "go"; rw [dcS]; exact q) (fun h3 => ?_) (fun h3 => ?_)
  · rw [if_pos (of_decide_eq_true h3)] at hq
    exact ⟨_, rfl, p, _, _, _, _, rfl, hp, T.toTx.c_Prices, T.toTx.n_Prices_edge, rfl, hq⟩
  rw [if_neg (of_decide_eq_false h3)] at hq
  refine qwh (b := decide (m = ("strife" : Str))) (a_test fun Q q => by walk_at "go"; rw [dcS]; exact q) (fun h4 => ?_) (fun h4 => ?_)
  · exact ⟨_, rfl, p, _, _, _, _, rfl, hp, T.toTx.c_Prices, T.toTx.n_Prices_strife, rfl, hq⟩
  · have h1 := of_decide_eq_false h
    have h2 := of_decide_eq_false h2
    have h3 := of_decide_eq_false h3
    have h4 := of_decide_eq_false h4
    simp [marks4, h1, h2, h3, h4] at hm)
theorem sc_Tally_init : FnScope ["self", "quiet", "odd", "edge", "strife"] ["self", "quiet", "odd", "edge", "strife"] xTally_init.scope := ⟨rfl, rfl, rfl, by decide +kernel, rfl, by decide +kernel, by decide +kernel⟩
theorem w_Tally_init (T : Wx P K mg) : FnR P w K mg base (L2N.CX P w) 2 (He.ma K (He.ga K "Tally") "__init__") (spTlyInit K) :=
  mkRd 1 5 4 T T.toTx.d_Tally_init sc_Tally_init (fun z => by cases z) rfl rfl (by rintro vs H Q E ⟨_, _, _, _, _, _, rfl, _⟩; rfl) (fun _ _ _ _ _ _ _ us its hl h2 => match us, hl, its, h2 with | [_, _, _, _, _], _, [_, _, _, _], _ => ⟨_, rfl, rfl⟩) (fun cdv A outer s H vs Q E B hsp => by
  obtain ⟨p, dx, a, b, c, d, rfl, hp, hq⟩ := hsp
  refine ⟨_, (pss_cons (ps_fld (pv 0) (pv 1) rfl)
    (pss_cons (ps_fld (pv 0) (pv 2) rfl)
    (pss_cons (ps_fld (pv 0) (pv 3) rfl)
    (pss_cons (ps_fld (pv 0) (pv 4) rfl)
    (pss_one (ps_fld (pv 0) (pe_tup (pa_cons (pv 1) (pa_cons (pv 2) (pa_cons (pv 3) (pa_cons (pv 4) pa_nil))))) rfl)))))), ?_⟩
  refine ⟨_, rfl, _, rfl, p, _, _, _, rfl, hp, T.toTx.c_Tally, T.toTx.n_Tally_quiet, by walk_at "ln", _, rfl, _, rfl, p, _, _, _, rfl, upd_same, T.toTx.c_Tally, T.toTx.n_Tally_odd, by walk_at "ln", _, rfl, _, rfl, p, _, _, _, rfl, upd_same, T.toTx.c_Tally, T.toTx.n_Tally_edge, by walk_at "ln", _, rfl, _, rfl, p, _, _, _, rfl, upd_same, T.toTx.c_Tally, T.toTx.n_Tally_strife, by walk_at "ln", ?_⟩
  refine ⟨_, rfl, _, rfl, _, rfl, _, rfl, by walk_at "le", fun t ht => ?_⟩
  have htp : t ≠ p := fun z => by rw [z, upd_same] at ht; cases ht
  have hn : H t = none := un_upd (un_upd (un_upd (un_upd ht)))
  refine ⟨_, rfl, p, _, _, _, rfl, (upd_ne htp.symm).trans upd_same, T.toTx.c_Tally, T.toTx.n_Tally_counts, by walk_at "ln", hq _ t hn upd_same ((upd_ne htp).trans upd_same) ?_⟩
  walk_at "fr")
end
section
variable {X : Cx} {W : WX} {k : Nat} {e o : Expr} {te : TE} {p pos apos : Pos} {pl : Sem Bool}
theorem cn_Tally {K : PySem.W.Frag} {q : Pos} (B : Bx X W k) (he : PE X e te) (hK : X.K = K := by rfl) (hl : 3 ≤ k := by decide) (hg : Gl X "Tally" := by rfl) (hst : starEach [.Starred e q] X.env = [(true, eval e X.env)] := by rfl) : PE X (.Call (.Name "Tally" p) [.Starred e q] [] pos) (tNewS K (He.ga K "Tally") (spTlyInit K) W te) := by
  subst hK
  exact k_newS B.wx.toTx.k_Tally (w_Tally_init B.wx) (B.rm.mono hl) B.wx.toTx.g_Tally B.hx he hg (by decide) hst
end
section
variable {P : Program} {w : World} {K : PySem.W.Frag} {mg : Str → Option Value} {base : Heap}
theorem sc_count_marks : FnScope ["marks", "counts", "mark"] ["marks"] xcount_marks.scope := ⟨rfl, rfl, rfl, by decide +kernel, rfl, by decide +kernel, by decide +kernel⟩
theorem w_count_marks (T : Wx P K mg) : FnR P w K mg base (L2N.CX P w) 4 (He.ga K "count_marks") (spCount K) :=
  mkR 3 T T.toTx.d_count_marks sc_count_marks (by rintro vs H Q E ⟨_, _, rfl, _⟩; rfl) (fun _ _ _ _ _ _ us hl => match us, hl with | [_], _ => rfl) (fun cdv A outer s H vs Q E B hsp => by
  obtain ⟨l, ms, rfl, hl, hz, hq⟩ := hsp
  refine ⟨_, (pss_cons (ps_setLcB (i := 1) (own := [("mark", 2)]) B sc_count_marks.nd rfl rfl (sw_true rfl rfl rfl (by decide +kernel)) (pi_tup (g_MARKS B)) (blkOk_by (N := ["marks", "counts", "mark"]) (sc := xcount_marks.scope) (by decide +kernel)) (fun _ _ _ _ _ => pg_name (i := 2) sc_count_marks.nd rfl (by first | exact .inl rfl | exact .inr rfl)) (fun _ _ _ _ _ B => pts_nil) (fun _ _ _ _ _ B => (pe_bmK K PySem.F.plainAttrs_list PySem.F.slot_list_count PySem.F.type_list_count (mt_cntVK K) (pv 0) (pa_cons (pv 2) pa_nil))))
    (pss_one (ps_ret (cn_Tally (K := K) B (pv 1))))), ?_⟩
  refine ⟨_, rfl, ⟨_, T.toTx.u_MARKS _⟩, fun D hD => ?_⟩
  refine lcX walk_tup _ yAt (by decide) hD (fun H' e => T.toTx.u_MARKS _) (fun _ _ => true) (fun i acc => acc = (([.int (cntM ms "quiet"), .int (cntM ms "odd"), .int (cntM ms "edge"), .int (cntM ms "strife")] : List V).take i)) rfl ?_ (fun i x acc H1 hi hx r e Q q => q H1 (Ex.refl H1)) (fun i x acc H1 hi hx r e hf Q q => ?_) (fun i x acc hi hx r hf => by cases hf) (fun H2 ys e hD2 r hl2 => ?_)
  · exact fun _ => rfl
  · have go : ∀ (m : Str), x = .str m → acc ++ [.int (cntM ms m)] = ([.int (cntM ms "quiet"), .int (cntM ms "odd"), .int (cntM ms "edge"), .int (cntM ms "strife")] : List V).take (i + 1) → (tBM K "list" (rCntV K) (tVar 0) (tCons (tVar 2) tNil)) ((wipe (L2.start ["marks", "counts", "mark"] [V.ref l]) [2]).set 2 (some x)) H1 Q := by
      rintro m rfl h
      have hl1 : SqL K H1 l (ms.map V.str) := ex_l e hl
      refine ⟨_, rfl, .inl ⟨rfl, _, hl1⟩, _, rfl, l, _, _, rfl, rfl, hl1, rfl, flatS, q _ _ (Ex.refl H1) ?_⟩
      rw [List.countP_map]
      exact h
    subst r
    rcases i with _ | _ | _ | _ | i
    · exact go "quiet" (Option.some.inj hx).symm rfl
    · exact go "odd" (Option.some.inj hx).symm rfl
    · exact go "edge" (Option.some.inj hx).symm rfl
    · exact go "strife" (Option.some.inj hx).symm rfl
    · exact absurd hi (by simp)
  · have r2 : ys = [.int (cntM ms "quiet"), .int (cntM ms "odd"), .int (cntM ms "edge"), .int (cntM ms "strife")] := r
    subst r2
    walk_at "st"
    refine ⟨_, rfl, D, _, rfl, .inr (sq_of hD2), fun a d ha hd nda => ?_⟩
    refine ⟨a, d, _, _, _, _, rfl, upd_same, fun H' t ht hp2 ht2 f => ⟨rfl, ?_⟩⟩
    have ha0 := fresh_back e ha
    have e2 : Ex H2 H' := ?_
    refine hq a H' d t ha0 (e.trans e2) hp2 ht2
    · intro b o hb
      refine f.1 b o ?_ ?_
      · rw [upd_ne (ne_of_none hb ha), upd_ne (ne_of_none hb hd)]
        exact hb
      · simp
        exact ne_of_none hb ha)
end
section
variable {X : Cx} {W : WX} {k : Nat} {e o : Expr} {es : List Expr} {ta : TA} {to : TE} {p pos apos : Pos} {pl : Sem Bool}
theorem c_Prices_call {K : PySem.W.Frag} (B : Bx X W k) (ho : PE X o to) (ha : PA X (e :: es) ta) (hK : X.K = K := by rfl) (hl : 2 ≤ k := by decide) (hst : starEach (e :: es) X.env = (false, eval e X.env) :: starEach es X.env := by rfl) (hpl : (backTo pos (starEach es X.env)).any (·.1) = false := by rfl)
    (ht : eval (.Call (.Attribute o "__call__" apos) (e :: es) [] pos) X.env = (do
      let ov ← eval o X.env
      standAt apos.atName
      let (f, first) ← holding [ov] (getMethod ov "__call__" pl)
      callWith pos f first (backTo pos (starEach (e :: es) X.env)) (backToKw pos (keywordEach [] X.env))) := by rfl) : PE X (.Call (.Attribute o "__call__" apos) (e :: es) [] pos) (tMth (He.ga K "Prices") "__call__" (spPrice K) W to ta) := by
  subst hK
  exact k_mth B.wx.toTx.c_Prices B.wx.toTx.m_Prices_call (w_Prices_call B.wx) (B.rm.mono hl) B.hx ho ha hst hpl ht
theorem c_count_marks {K : PySem.W.Frag} (B : Bx X W k) (ha : PA X (e :: es) ta) (hK : X.K = K := by rfl) (hl : 4 ≤ k := by decide) (hg : Gl X "count_marks" := by rfl) (hst : starEach (e :: es) X.env = (false, eval e X.env) :: starEach es X.env := by rfl) (hpl : (backTo pos (starEach es X.env)).any (·.1) = false := by rfl) : PE X (.Call (.Name "count_marks" p) (e :: es) [] pos) (tFn (spCount K) W ta) := by
  subst hK
  exact k_fun (w_count_marks B.wx) (B.rm.mono hl) B.wx.toTx.d_count_marks.kp B.wx.toTx.g_count_marks B.hx ha hg (by decide) hst hpl
end
section
variable {P : Program} {w : World} {K : PySem.W.Frag} {mg : Str → Option Value} {base : Heap}
theorem sc_Strand_init : FnScope ["self", "kinds", "size", "bead"] ["self", "kinds"] xStrand_init.scope := ⟨rfl, rfl, rfl, by decide +kernel, rfl, by decide +kernel, by decide +kernel⟩
theorem w_Strand_init (T : Wx P K mg) : FnR P w K mg base (L2N.CX P w) 3 (He.ma K (He.ga K "Strand") "__init__") (spStrInit K) :=
  mkR 2 T T.toTx.d_Strand_init sc_Strand_init (by rintro vs H Q E ⟨_, _, _, _, rfl, _⟩; rfl) (fun _ _ _ _ _ _ us hl => match us, hl with | [_, _], _ => rfl) (fun cdv A outer s H vs Q E B hsp => by
  obtain ⟨p, dx, l, ks, rfl, hp, hl, hz, hbad, hq⟩ := hsp
  refine ⟨_, (pss_cons (st_set (i := 1) sc_Strand_init.nd (pe_callTy call_tuple_of (by rfl) B.wx.toTx.f_tuple b_tuple (pa_cons (pv 1) pa_nil)))
    (pss_cons (st_set (i := 2) sc_Strand_init.nd (pe_callB (call_lenK K) (by rfl) B.wx.toTx.f_len b_len (pa_cons (pv 1) pa_nil)))
    (pss_cons (ps_if (PW.pt (pw_or (pt_cmpR op_lt (pv 2) pe_int (nomark _)) (pw_or1 (pt_cmpR op_gt (pv 2) (gv_MOST B) (nomark _))))) (pss_one (r_BadStrand B.rs (by rfl) (pa_cons pe_non pa_nil))) pss_nil)
    (pss_cons (ps_for (L2.passes_of rfl) B.calm (pi_range1 (by rfl) B.wx.toTx.f_range (pa_cons (pv 2) pa_nil)) (pg_name (i := 3) sc_Strand_init.nd rfl (by first | exact .inl rfl | exact .inr rfl)) (pss_one (ps_if (PW.pt (pw_or (pt_cmpR op_lt (pe_ix (ix_seqK K) (pv 1) (pv 3) (fun _ _ => rfl)) pe_int (nomark _)) (pw_or1 (pt_cmpR op_gt (pe_ix (ix_seqK K) (pv 1) (pv 3) (fun _ _ => rfl)) (gv_TOP_KIND B) (nomark _))))) (pss_one (r_BadStrand B.rs (by rfl) (pa_cons (pv 3) pa_nil))) pss_nil)))
    (pss_cons (ps_fld (pv 0) (pv 1) rfl)
    (pss_cons (ps_fld (pv 0) (pv 2) rfl)
    (pss_cons (ps_fld (pv 0) (pe_callB (call_lenK K) (by rfl) B.wx.toTx.f_len b_len (pa_cons (pe_lcB (own := [("bead", 3)]) B sc_Strand_init.nd (pi_range1 (by rfl) B.wx.toTx.f_range (pa_cons (pv 2) pa_nil)) (blkOk_by (N := ["self", "kinds", "size", "bead"]) (sc := xStrand_init.scope) (by decide +kernel)) (fun _ _ _ _ _ => pg_name (i := 3) sc_Strand_init.nd rfl (by first | exact .inl rfl | exact .inr rfl)) (fun _ _ _ _ _ B => (pts_one (pt_cmpR (o_neK K B.hu64) (pe_ix (ix_seqK K) (pv 1) (pv 3) (fun _ _ => rfl)) (pe_ix (ix_seqK K) (pv 1) (pe_op op_sub (pv 3) pe_int) (fun _ _ => rfl)) (nomark _)))) (fun _ _ _ _ _ B => (pv 3))) pa_nil)) rfl)
    (pss_cons (ps_fld (pv 0) (pe_callTy call_int (by rfl) B.wx.toTx.f_int b_int (pa_cons (pe_cmpR (o_neK K B.hu64) (pe_ix (ix_seqK K) (pv 1) pe_int (fun _ _ => rfl)) (pe_ix (ix_seqK K) (pv 1) (pe_un un_neg pe_int) (fun _ _ => rfl)) (nomark _)) pa_nil)) rfl)
    (pss_one (ps_fld (pv 0) (pe_lenSetT B.calm B.wx.toTx.f_len B.wx.toTx.f_set (pv 1)) rfl)))))))))), ?_⟩
  refine qasg (fun x H1 => ∃ t, x = .ref t ∧ Ex H H1 ∧ H1 t = some (.tup (ks.map V.int))) (fun Q q => ?_) ?_
  · rcases hl with hl | hl
    · exact ⟨_, rfl, l, _, rfl, .inl ⟨sq_of hl, fun t ht => q _ _ ⟨t, rfl, Ex.new ht, upd_same⟩⟩⟩
    · exact ⟨_, rfl, l, _, rfl, .inr ⟨st_of hl, q _ _ ⟨l, rfl, Ex.refl H, hl⟩⟩⟩
  rintro _ H1 ⟨t, rfl, e1, ht⟩
  refine ⟨_, rfl, _, _, rfl, .inr ⟨_, st_of ht, rfl⟩, ?_⟩
  have hlm : (ks.map V.int).length = ks.length := List.length_map ..
  rw [hlm]
  walk_at "st"
  have hp1 := e1 _ _ hp
  have hbd : badStrand ks = (decide ((ks.length : Int) < 2 ∨ (ks.length : Int) > 24) || ks.any fun k => decide (k < 0 ∨ k > 999)) := rfl
  refine qwh (b := decide ((ks.length : Int) < 2) || decide (24 < (ks.length : Int))) (a_or (a_test fun Q q => by walk_at "go"; exact q) fun _ => a_test fun Q q => by walk_at "go"; exact q) (fun h => ?_) (fun h => ?_)
  · have h1 : (ks.length : Int) < 2 ∨ (ks.length : Int) > 24 := by simpa using h
    exact ⟨rfl, fun d hd => hbad (by rw [hbd, decide_eq_true h1]; rfl) _ _ _ T.toTx.e_BadStrand (e1.trans (Ex.new hd))⟩
  have h1 : ¬ ((ks.length : Int) < 2 ∨ (ks.length : Int) > 24) := by simpa using h
  have hb2 : badStrand ks = ks.any fun k => decide (k < 0 ∨ k > 999) := by rw [hbd, decide_eq_false h1]; rfl
  refine ⟨_, rfl, _, rfl, by omega, by omega, for_it walk_range (fun i σ' H' => H' = H1 ∧ (∃ b, σ' = [some (.ref p), some (.ref t), some (.int ks.length), b]) ∧ ((ks.take i).any fun k => decide (k < 0 ∨ k > 999)) = false) ⟨rfl, ⟨none, rfl⟩, rfl⟩ (fun _ _ _ _ _ => True.intro) ?_ ?_⟩
  · rintro i x σ' H' H'' hi ⟨rfl, ⟨b, rfl⟩, hd⟩ ⟨rfl, rfl⟩
    walk_at "st"
    have hi2 : i < ks.length := by omega
    have hk : ks[i]? = some ks[i] := List.getElem?_eq_getElem hi2
    have hat : atI (ks.map V.int) (0 + ((i : Nat) : Int)) = some (.int ks[i]) := by
      rw [Int.zero_add]
      exact atI_nat (by rw [List.getElem?_map, hk] <;> rfl)
    refine swh (b := decide (ks[i] < 0) || decide (999 < ks[i])) (a_or (a_test fun Q q => ⟨_, rfl, _, rfl, .inr (.inl ⟨t, _, _, _, rfl, rfl, st_of ht, hat, _, _, rfl, rfl, q⟩)⟩) fun _ => a_test fun Q q => ⟨_, rfl, _, rfl, .inr (.inl ⟨t, _, _, _, rfl, rfl, st_of ht, hat, _, _, rfl, rfl, q⟩)⟩) (fun h => ?_) (fun h => ?_)
    · have h2 : ks[i] < 0 ∨ ks[i] > 999 := by simpa using h
      refine ⟨_, rfl, rfl, fun d hd => hbad ?_ _ _ _ T.toTx.e_BadStrand (e1.trans (Ex.new hd))⟩
      rw [hb2, List.any_eq_true]
      exact ⟨ks[i], List.getElem_mem hi2, decide_eq_true h2⟩
    · have h2 : ¬ (ks[i] < 0 ∨ ks[i] > 999) := by simpa using h
      refine ⟨rfl, ⟨_, rfl⟩, ?_⟩
      rw [take_snoc hk, List.any_append, hd]
      simpa using h2
  · rintro σ' H' ⟨rfl, ⟨b, rfl⟩, hd⟩
    have hbf : badStrand ks = false := by
      rw [hb2]
      have e : ks.take ((ks.length : Int)).toNat = ks := List.take_of_length_le (by omega)
      rw [e] at hd
      exact hd
    have htp : t ≠ p := fun z => by rw [z, hp1] at ht; cases ht
    refine ⟨_, rfl, _, rfl, p, _, _, _, rfl, hp1, T.toTx.c_Strand, T.toTx.n_Strand_kinds, by walk_at "ln", _, rfl, _, rfl, p, _, _, _, rfl, upd_same, T.toTx.c_Strand, T.toTx.n_Strand_size, by walk_at "ln", _, rfl, _, rfl, by omega, by omega, fun D hD => ?_⟩
    have htt : ∀ o o', (upd (upd H' p o) p o') t = some (.tup (ks.map V.int)) := fun o o' => by rw [upd_ne htp, upd_ne htp]; exact ht
    refine lcX walk_range _ yRg (by omega) hD (fun _ _ => True.intro) (fun i _ => !decide (V.int (kAt ks (0 + ((i : Nat) : Int))) = V.int (kAt ks (0 + ((i : Nat) : Int) - 1)))) (fun _ _ => True) True.intro ?_ (fun i x acc H1 hi hx r e Q q => ?_) (fun i x acc H1 hi hx r e hf Q q => ⟨_, rfl, q _ _ (Ex.refl H1) True.intro⟩) (fun i x acc hi hx r hf => True.intro) (fun H2 ys e hD2 r hl2 => ?_)
    · exact fun _ => rfl
    · subst hx
      have ht1 := e _ _ (htt _ _)
      refine ⟨_, rfl, _, rfl, .inr (.inl ⟨t, _, _, _, rfl, rfl, st_of ht1, atI_any (by omega) (by omega), _, rfl, _, rfl, _, _, rfl, rfl, .inr (.inl ⟨t, _, _, _, rfl, rfl, st_of ht1, atI_any (by omega) (by omega), .inl ⟨rfl, _, rfl, q H1 (Ex.refl H1)⟩⟩)⟩)⟩
    · have hp2 := e _ _ (upd_same (a := p))
      have ht2 := e _ _ (htt _ _)
      have hzp : ks.length < 64 := by omega
      refine ⟨_, _, rfl, .inl ⟨_, sq_of hD2, rfl⟩, _, rfl, p, _, _, _, rfl, hp2, T.toTx.c_Strand, T.toTx.n_Strand_unlike_pairs, by walk_at "ln", ?_⟩
      have ht3 : ∀ o, (upd H2 p o) t = some (.tup (ks.map V.int)) := fun o => by rw [upd_ne htp]; exact ht2
      refine ⟨_, rfl, .inr (.inl ⟨t, _, _, _, rfl, rfl, st_of (ht3 _), atI_any (by omega) (by omega), _, rfl, _, rfl, .inr (.inl ⟨t, _, _, _, rfl, rfl, st_of (ht3 _), atI_any (by omega) (by omega), .inl ⟨rfl, .inl (.inr ⟨_, rfl, ?_⟩)⟩⟩)⟩)⟩
      refine ⟨_, rfl, p, _, _, _, rfl, upd_same, T.toTx.c_Strand, T.toTx.n_Strand_ends_unlike, by walk_at "ln", ?_⟩
      have ht4 : ∀ o o', (upd (upd H2 p o) p o') t = some (.tup (ks.map V.int)) := fun o o' => by rw [upd_ne htp]; exact ht3 _
      refine ⟨_, rfl, t, ks, rfl, st_of (ht4 _ _), hzp, fun v => ⟨_, rfl, p, _, _, _, rfl, upd_same, T.toTx.c_Strand, T.toTx.n_Strand_variety, by walk_at "ln", ?_⟩⟩
      refine hq hbf _ ⟨dx, t, _, _, v, upd_same, by rw [upd_ne htp]; exact ht4 _ _⟩ ?_
      have f0 : Fr [p] H H' := Fr.ex e1
      have f1 : Fr [p] H H2 := Fr.same (by walk_at "fr") (Fr.ex e)
      walk_at "fr")
end
end Bm
set_option Elab.async false
set_option linter.all false
set_option maxRecDepth 10000
set_option maxHeartbeats 400000
set_option pp.deepTerms false
set_option pp.maxSteps 1500
set_option maxErrors 6
/-! Walks: rows. -/
namespace Bm
open PySem PySem.Spec PyProof.Rows L2 Evl TL RZ
local macro_rules | `(tactic| walk_at "sz") => `(tactic| first | assumption | (refine sz_of ?_; omega) | (refine sz_lt ?_; omega))
local macro_rules | `(tactic| walk_at "ne") => `(tactic| first | assumption | (refine Ne.symm ?_; assumption) | exact ne_new (by assumption) (by walk_at "hp") | exact Ne.symm (ne_new (by assumption) (by walk_at "hp")))
local macro_rules | `(tactic| walk_at "hp") => `(tactic| first | assumption | exact upd_same | (refine (upd_ne (by walk_at "ne")).trans ?_; walk_at "hp") | (refine Ex.at_ (by assumption) ?_; walk_at "hp"))
local macro_rules | `(tactic| walk_at "sq") => `(tactic| first | assumption | (refine sq_of ?_; walk_at "hp") | (refine st_of ?_; walk_at "hp") | (refine ex_l (by assumption) ?_; walk_at "sq") | (refine ex_t (by assumption) ?_; walk_at "sq"))
local macro_rules | `(tactic| walk_at "sd") => `(tactic| first | exact (show (0 : Int) < _ from by omega) | exact (show (0 : Int) < _ ∧ _ < (1073741824 : Int) from ⟨by omega, by omega⟩) | exact (show CPow _ _ from ⟨by decide, by decide, by decide⟩) | exact (show CMul _ _ from .inl ⟨by omega, by omega⟩) | exact (show CMul _ _ from .inr ⟨by omega, by omega⟩))
local macro_rules | `(tactic| walk_at "g1") => `(tactic| first
  | refine ⟨_, rfl, ?_⟩
  | refine ⟨_, _, rfl, rfl, ?_⟩
  | refine .inl ⟨_, _, rfl, rfl, ?_⟩
  | refine .inl ⟨rfl, ?_⟩
  | refine .inl (.inl ⟨_, rfl, ?_⟩)
  | (refine ⟨_, _, rfl, ⟨?_, rfl⟩, ?_⟩; (walk_at "sz"))
  | refine ⟨(by walk_at "sd"), ?_⟩)
local macro_rules | `(tactic| walk_at "go") => `(tactic| repeat walk_at "g1")
local macro_rules | `(tactic| walk_at "st") => `(tactic| dsimp only [gName])
local macro_rules | `(tactic| walk_at "ln") => `(tactic| first | exact (show 0 < 1000 from by decide) | exact (show 1 < 1000 from by decide) | exact (show 2 < 1000 from by decide) | exact (show 3 < 1000 from by decide) | exact (show 4 < 1000 from by decide) | exact (show 5 < 1000 from by decide) | exact (show 6 < 1000 from by decide) | exact (show 7 < 1000 from by decide))
local macro_rules | `(tactic| walk_at "le") => `(tactic| first | exact (show 0 ≤ sizeLine from by decide) | exact (show 1 ≤ sizeLine from by decide) | exact (show 2 ≤ sizeLine from by decide) | exact (show 3 ≤ sizeLine from by decide) | exact (show 4 ≤ sizeLine from by decide) | exact (show 5 ≤ sizeLine from by decide) | exact (show 6 ≤ sizeLine from by decide) | exact (show 7 ≤ sizeLine from by decide) | exact (show 8 ≤ sizeLine from by decide))
local macro_rules | `(tactic| walk_at "nt") => `(tactic| first | exact nt_ins | exact nt_lst | exact nt_dK)
local macro_rules | `(tactic| walk_at "fr") => `(tactic| first | assumption | exact Fr.refl | exact Fr.ex (by assumption) | (refine Fr.put ?_ (by walk_at "hp") (by walk_at "nt") (by simp); walk_at "fr") | (refine Fr.new ?_ (by assumption); walk_at "fr"))
theorem nd6 {r s t m g d : Addr} (h : [r, s, t, m, g, d].Nodup) : r ≠ s ∧ r ≠ t ∧ r ≠ m ∧ r ≠ g ∧ r ≠ d ∧ s ≠ t ∧ s ≠ m ∧ s ≠ g ∧ s ≠ d ∧ t ≠ m ∧ t ≠ g ∧ t ≠ d ∧ m ≠ g ∧ m ≠ d ∧ g ≠ d := by
  simp only [List.nodup_cons, List.mem_cons, List.not_mem_nil, or_false, not_or, not_false_eq_true, List.nodup_nil, and_true] at h
  obtain ⟨⟨a1, a2, a3, a4, a5⟩, ⟨b1, b2, b3, b4⟩, ⟨c1, c2, c3⟩, ⟨d1, d2⟩, e1⟩ := h
  exact ⟨a1, a2, a3, a4, a5, b1, b2, b3, b4, c1, c2, c3, d1, d2, e1⟩
def spRowInit (K : PySem.W.Frag) : Sp := fun vs H Q _ => ∃ (r dx st : Addr) (ks : List Int), vs = [.ref r, .ref st] ∧ H r = some (.ins (cR K) dx []) ∧ StrandAt K H st ks ∧ 2 ≤ ks.length ∧ ks.length ≤ 24 ∧
  ∀ H' k s t m g d, RowAt K H' r (RowD.new ks) k s t m g d → Fr [r] H H' → (∀ b ∈ [s, t, m, g, d], H b = none) → Q .non H'
def spList (K : PySem.W.Frag) (f : RowD → List V) : Sp := fun vs H Q _ => ∃ (r : Addr) (R : RowD) (X : List Addr), vs = [.ref r] ∧ RowX K H r R X ∧ ∀ p H', H p = none → Ex H H' → H' p = some (.lst (f R)) → Q (.ref p) H'
def spChk (K : PySem.W.Frag) : Sp := fun vs H Q E => ∃ (r : Addr) (R : RowD) (X : List Addr) (N : Nat) (b : Int), vs = [.ref r, .int b] ∧ RowX K H r R X ∧ RowOk R N ∧ ((b < 0 ∨ b ≥ R.kinds.length ∨ b ∉ R.stand) → Moot K H E) ∧ (¬ (b < 0 ∨ b ≥ R.kinds.length ∨ b ∉ R.stand) → Q .non H)
def spInner (K : PySem.W.Frag) : Sp := fun vs H Q E => ∃ (r : Addr) (R : RowD) (X : List Addr) (N : Nat) (b : Int), vs = [.ref r, .int b] ∧ RowX K H r R X ∧ RowOk R N ∧ (R.mark b = none → Moot K H E) ∧ ((R.mark b).isSome = true → Q .non H)
def spNbr (K : PySem.W.Frag) : Sp := fun vs H Q _ => ∃ (r : Addr) (R : RowD) (X : List Addr) (N : Nat) (b : Int), vs = [.ref r, .int b] ∧ RowX K H r R X ∧ RowOk R N ∧ (R.mark b).isSome = true ∧ ∀ p H', H p = none → Ex H H' → H' p = some (.tup [.int (nbr R.stand b).1, .int (nbr R.stand b).2]) → Q (.ref p) H'
def spMark (K : PySem.W.Frag) : Sp := fun vs H Q E => ∃ (r : Addr) (R : RowD) (X : List Addr) (N : Nat) (b : Int), vs = [.ref r, .int b] ∧ RowX K H r R X ∧ RowOk R N ∧ (R.mark b = none → Moot K H E) ∧ ∀ m, R.mark b = some m → ∀ H', Ex H H' → Q (.str m) H'
theorem mem_ints {b : Int} {l : List Int} : inV (.int b) (l.map V.int) = decide (b ∈ l) := by
  unfold inV
  rw [List.any_map, Bool.eq_iff_iff, List.any_eq_true, decide_eq_true_eq]
  constructor
  · rintro ⟨x, hx, e⟩
    have : x = b := by simpa [eqV] using e
    rw [← this]
    exact hx
  · intro h
    exact ⟨b, h, by simp [eqV]⟩
section
variable {P : Program} {w : World} {K : PySem.W.Frag} {mg : Str → Option Value} {base : Heap}
theorem sc_Row_standing : FnScope ["self"] ["self"] xRow_standing.scope := ⟨rfl, rfl, rfl, by decide +kernel, rfl, by decide +kernel, by decide +kernel⟩
theorem w_Row_standing (T : Wx P K mg) : FnOk P w K mg base (L2N.CX P w) 2 (wfn K "Row" "standing" "property") (fdOf K (wfn K "Row" "standing" "property")) ["self"] ((spList K (fun R => R.stand.map V.int))) :=
  mkOk 1 T T.toTx.d_Row_standing sc_Row_standing (by rintro vs H Q E ⟨_, _, _, rfl, _⟩; rfl) (fun cdv A outer s H vs Q E B hsp => by
  obtain ⟨r, R, X, rfl, ⟨k, s, t, m, g, d, rfl, ⟨dx, hi⟩, hk, hs, ht, hm, ⟨vg, hg, pg⟩, ⟨vd, hd, pd⟩, nd⟩, hq⟩ := hsp
  refine ⟨_, (pss_one (ps_ret (pe_callTy call_list_of (by rfl) B.wx.toTx.f_list b_list (pa_cons (pe_fldK K (pv 0) rfl) pa_nil)))), ?_⟩
  refine ⟨_, rfl, r, _, _, _, _, rfl, hi, T.toTx.c_Row, T.toTx.n_Row_standing, rfl, s, _, rfl, .inl (sq_of hs), fun p hp => hq p _ hp (Ex.new hp) upd_same⟩)
theorem sc_Row_taken : FnScope ["self"] ["self"] xRow_taken.scope := ⟨rfl, rfl, rfl, by decide +kernel, rfl, by decide +kernel, by decide +kernel⟩
theorem w_Row_taken (T : Wx P K mg) : FnOk P w K mg base (L2N.CX P w) 2 (wfn K "Row" "taken" "property") (fdOf K (wfn K "Row" "taken" "property")) ["self"] ((spList K (fun R => R.taken.map V.int))) :=
  mkOk 1 T T.toTx.d_Row_taken sc_Row_taken (by rintro vs H Q E ⟨_, _, _, rfl, _⟩; rfl) (fun cdv A outer s H vs Q E B hsp => by
  obtain ⟨r, R, X, rfl, ⟨k, s, t, m, g, d, rfl, ⟨dx, hi⟩, hk, hs, ht, hm, ⟨vg, hg, pg⟩, ⟨vd, hd, pd⟩, nd⟩, hq⟩ := hsp
  refine ⟨_, (pss_one (ps_ret (pe_callTy call_list_of (by rfl) B.wx.toTx.f_list b_list (pa_cons (pe_fldK K (pv 0) rfl) pa_nil)))), ?_⟩
  refine ⟨_, rfl, r, _, _, _, _, rfl, hi, T.toTx.c_Row, T.toTx.n_Row_taken, rfl, t, _, rfl, .inl (sq_of ht), fun p hp => hq p _ hp (Ex.new hp) upd_same⟩)
theorem sc_Row_check_standing : FnScope ["self", "bead"] ["self", "bead"] xRow_check_standing.scope := ⟨rfl, rfl, rfl, by decide +kernel, rfl, by decide +kernel, by decide +kernel⟩
theorem w_Row_check_standing (T : Wx P K mg) : FnR P w K mg base (L2N.CX P w) 3 (He.ma K (He.ga K "Row") "_check_standing") (spChk K) :=
  mkR 2 T T.toTx.d_Row_check_standing sc_Row_check_standing (by rintro vs H Q E ⟨_, _, _, _, _, rfl, _⟩; rfl) (fun _ _ _ _ _ _ us hl => match us, hl with | [_, _], _ => rfl) (fun cdv A outer s H vs Q E B hsp => by
  obtain ⟨r, R, X, N, b, rfl, ⟨k, s, t, m, g, d, rfl, ⟨dx, hi⟩, hk, hs, ht, hm, ⟨vg, hg, pg⟩, ⟨vd, hd, pd⟩, nd⟩, ok, hm, hq⟩ := hsp
  refine ⟨_, (pss_cons (ps_if (PW.pt (pw_or (pt_cmpR op_lt (pv 1) pe_int (nomark _)) (pw_or1 (pt_cmpR op_ge (pv 1) (pe_callB (call_lenK K) (by rfl) B.wx.toTx.f_len b_len (pa_cons (pe_fldK K (pv 0) rfl) pa_nil)) (nomark _))))) (pss_one (r_NoSuchBead B.rs (by rfl) (pa_cons (pv 1) pa_nil))) pss_nil)
    (pss_one (ps_if (pt_cmpR (o_niK K) (pv 1) (pe_fldK K (pv 0) rfl) (by with_unfolding_all rfl)) (pss_one (r_GoneBead B.rs (by rfl) (pa_cons (pv 1) pa_nil))) pss_nil))), ?_⟩
  have h24 := ok.k24
  refine qwh (b := decide (b < 0) || decide ((R.kinds.length : Int) ≤ b)) (a_or (a_test fun Q q => by walk_at "go"; exact q) fun _ => a_test fun Q q => ?_) (fun h => ?_) (fun h => ?_)
  · refine ⟨_, rfl, _, rfl, r, _, _, _, _, rfl, hi, T.toTx.c_Row, T.toTx.n_Row_kinds, rfl, _, _, rfl, .inr ⟨_, st_of hk, rfl⟩, _, _, rfl, rfl, ?_⟩
    rw [List.length_map]
    exact q
  · have h1 : b < 0 ∨ (R.kinds.length : Int) ≤ b := by simpa using h
    exact ⟨_, rfl, rfl, fun d hd => hm (by omega) _ _ _ T.toTx.e_NoSuchBead (Ex.new hd)⟩
  · have h1 : ¬ (b < 0 ∨ (R.kinds.length : Int) ≤ b) := by simpa using h
    refine swh (b := !decide (b ∈ R.stand)) (a_test fun Q q => ?_) (fun h => ?_) (fun h => ?_)
    · refine ⟨_, rfl, _, rfl, r, _, _, _, _, rfl, hi, T.toTx.c_Row, T.toTx.n_Row_standing, rfl, .inl ⟨_, _, rfl, .inl (sq_of hs), rfl, flatI, ?_⟩⟩
      rw [if_pos rfl, mem_ints]
      exact q
    · have h2 : b ∉ R.stand := by simpa using h
      exact ⟨_, rfl, rfl, fun d hd => hm (.inr (.inr h2)) _ _ _ T.toTx.e_GoneBead (Ex.new hd)⟩
    · have h2 : b ∈ R.stand := by simpa using h
      refine hq ?_
      rintro (z | z | z)
      · omega
      · omega
      · exact z h2)
end
section
variable {X : Cx} {W : WX} {k : Nat} {e o : Expr} {es : List Expr} {ta : TA} {to : TE} {p pos apos : Pos} {pl : Sem Bool}
theorem c_Row_check_standing {K : PySem.W.Frag} (B : Bx X W k) (ho : PE X o to) (ha : PA X (e :: es) ta) (hK : X.K = K := by rfl) (hl : 3 ≤ k := by decide) (hst : starEach (e :: es) X.env = (false, eval e X.env) :: starEach es X.env := by rfl) (hpl : (backTo pos (starEach es X.env)).any (·.1) = false := by rfl)
    (ht : eval (.Call (.Attribute o "_check_standing" apos) (e :: es) [] pos) X.env = (do
      let ov ← eval o X.env
      standAt apos.atName
      let (f, first) ← holding [ov] (getMethod ov "_check_standing" pl)
      callWith pos f first (backTo pos (starEach (e :: es) X.env)) (backToKw pos (keywordEach [] X.env))) := by rfl) : PE X (.Call (.Attribute o "_check_standing" apos) (e :: es) [] pos) (tMth (He.ga K "Row") "_check_standing" (spChk K) W to ta) := by
  subst hK
  exact k_mth B.wx.toTx.c_Row B.wx.toTx.m_Row_check_standing (w_Row_check_standing B.wx) (B.rm.mono hl) B.hx ho ha hst hpl ht
end
section
variable {P : Program} {w : World} {K : PySem.W.Frag} {mg : Str → Option Value} {base : Heap}
theorem sc_Row_check_inner : FnScope ["self", "bead"] ["self", "bead"] xRow_check_inner.scope := ⟨rfl, rfl, rfl, by decide +kernel, rfl, by decide +kernel, by decide +kernel⟩
theorem w_Row_check_inner (T : Wx P K mg) : FnR P w K mg base (L2N.CX P w) 4 (He.ma K (He.ga K "Row") "_check_inner") (spInner K) :=
  mkR 3 T T.toTx.d_Row_check_inner sc_Row_check_inner (by rintro vs H Q E ⟨_, _, _, _, _, rfl, _⟩; rfl) (fun _ _ _ _ _ _ us hl => match us, hl with | [_, _], _ => rfl) (fun cdv A outer s H vs Q E B hsp => by
  obtain ⟨r, R, X, N, b, rfl, hR, ok, hm, hq⟩ := hsp
  refine ⟨_, (pss_cons (ps_expr (c_Row_check_standing (K := K) B (pv 0) (pa_cons (pv 1) pa_nil)))
    (pss_one (ps_if (PW.pt (pw_or (pt_cmpR (o_eqK K B.hu64) (pv 1) pe_int (nomark _)) (pw_or1 (pt_cmpR (o_eqK K B.hu64) (pv 1) (pe_op op_sub (pe_callB (call_lenK K) (by rfl) B.wx.toTx.f_len b_len (pa_cons (pe_fldK K (pv 0) rfl) pa_nil)) pe_int) (nomark _))))) (pss_one (r_EndBead B.rs (by rfl) (pa_cons (pv 1) pa_nil))) pss_nil))), ?_⟩
  obtain ⟨k, s, t, m, g, d, rfl, ⟨dx, hi⟩, hk, hs, ht, hm2, ⟨vg, hg, pg⟩, ⟨vd, hd, pd⟩, nd⟩ := id hR
  have h24 := ok.k24
  unfold RowD.mark at hm hq
  refine ⟨_, rfl, r, _, _, rfl, hi, rfl, _, rfl, r, R, _, N, b, rfl, hR, ok, fun h => hm ?_, fun h => ?_⟩
  · by_cases h1 : b < 0 ∨ b ≥ R.kinds.length
    · rw [if_pos h1]
    · have h2 : b ∉ R.stand := (h.resolve_left fun z => h1 (.inl z)).resolve_left fun z => h1 (.inr z)
      rw [if_neg h1, if_pos h2]
  have h1 : ¬ (b < 0 ∨ b ≥ R.kinds.length) := fun z => h (by omega)
  have h2 : ¬ (b ∉ R.stand) := fun z => h (.inr (.inr z))
  rw [if_neg h1, if_neg h2] at hm hq
  walk_at "st"
  refine swh (b := decide (b = 0) || decide (b = (R.kinds.length : Int) - 1)) (a_or (a_test fun Q q => by walk_at "go"; rw [dcI]; exact q) fun _ => a_test fun Q q => ?_) (fun h => ?_) (fun h => ?_)
  · refine ⟨_, rfl, _, rfl, r, _, _, _, _, rfl, hi, T.toTx.c_Row, T.toTx.n_Row_kinds, rfl, _, _, rfl, .inr ⟨_, st_of hk, rfl⟩, _, _, rfl, rfl, .inl ⟨rfl, ?_⟩⟩
    rw [List.length_map, dcI]
    exact q
  · have h3 : b = 0 ∨ b = (R.kinds.length : Int) - 1 := by simpa using h
    rw [if_pos h3] at hm
    exact ⟨_, rfl, rfl, fun d hd => hm rfl _ _ _ T.toTx.e_EndBead (Ex.new hd)⟩
  · have h3 : ¬ (b = 0 ∨ b = (R.kinds.length : Int) - 1) := by simpa using h
    rw [if_neg h3] at hq
    exact hq rfl)
end
section
variable {X : Cx} {W : WX} {k : Nat} {e o : Expr} {es : List Expr} {ta : TA} {to : TE} {p pos apos : Pos} {pl : Sem Bool}
theorem c_Row_check_inner {K : PySem.W.Frag} (B : Bx X W k) (ho : PE X o to) (ha : PA X (e :: es) ta) (hK : X.K = K := by rfl) (hl : 4 ≤ k := by decide) (hst : starEach (e :: es) X.env = (false, eval e X.env) :: starEach es X.env := by rfl) (hpl : (backTo pos (starEach es X.env)).any (·.1) = false := by rfl)
    (ht : eval (.Call (.Attribute o "_check_inner" apos) (e :: es) [] pos) X.env = (do
      let ov ← eval o X.env
      standAt apos.atName
      let (f, first) ← holding [ov] (getMethod ov "_check_inner" pl)
      callWith pos f first (backTo pos (starEach (e :: es) X.env)) (backToKw pos (keywordEach [] X.env))) := by rfl) : PE X (.Call (.Attribute o "_check_inner" apos) (e :: es) [] pos) (tMth (He.ga K "Row") "_check_inner" (spInner K) W to ta) := by
  subst hK
  exact k_mth B.wx.toTx.c_Row B.wx.toTx.m_Row_check_inner (w_Row_check_inner B.wx) (B.rm.mono hl) B.hx ho ha hst hpl ht
end
theorem kd_at {R : RowD} {i : Int} (h0 : 0 ≤ i) (h1 : i < R.kinds.length) : atI (R.kinds.map V.int) i = some (.int (R.kd i)) := by
  have hn : i.toNat < R.kinds.length := by omega
  refine (congrArg (atI _) (show i = ((i.toNat : Nat) : Int) by omega)).trans (atI_nat ?_)
  unfold RowD.kd
  rw [List.getElem?_map, List.getElem?_eq_getElem hn, List.getD_eq_getElem?_getD, List.getElem?_eq_getElem hn]
  rfl
/-- the neighbours of an inner bead: where they stand -/
theorem nbr_at {R : RowD} {N : Nat} {b : Int} (ok : RowOk R N) (h : (R.mark b).isSome = true) : ∃ j, 1 ≤ j ∧ j + 1 < R.stand.length ∧ R.stand[j]? = some b ∧ (∀ m, m < j → ∀ z, R.stand[m]? = some z → z ≠ b) ∧
    R.stand[j - 1]? = some (nbr R.stand b).1 ∧ R.stand[j + 1]? = some (nbr R.stand b).2 ∧ (0 ≤ (nbr R.stand b).1 ∧ (nbr R.stand b).1 < R.kinds.length) ∧ (0 ≤ (nbr R.stand b).2 ∧ (nbr R.stand b).2 < R.kinds.length) ∧ 0 ≤ b ∧ b < R.kinds.length ∧ b ∈ R.stand := by
  obtain ⟨mk, hmk⟩ := Option.isSome_iff_exists.mp h
  obtain ⟨h0, h1, hb, _⟩ := mark_some hmk
  obtain ⟨j, j1, j2, j3, j4⟩ := inner_at ok hb h0 h1
  have e1 : R.stand[j - 1]? = some (nbr R.stand b).1 := by
    show R.stand[j - 1]? = some (R.stand.getD (R.stand.idxOf b - 1) 0)
    rw [j3, List.getD_eq_getElem?_getD, List.getElem?_eq_getElem (show j - 1 < R.stand.length by omega)]
    rfl
  have e2 : R.stand[j + 1]? = some (nbr R.stand b).2 := by
    show R.stand[j + 1]? = some (R.stand.getD (R.stand.idxOf b + 1) 0)
    rw [j3, List.getD_eq_getElem?_getD, List.getElem?_eq_getElem j2]
    rfl
  have hsr := ok.sr b hb
  refine ⟨j, j1, j2, j4, fun m hm z hz e => ?_, e1, e2, ok.sr _ (List.mem_of_getElem? e1), ok.sr _ (List.mem_of_getElem? e2), hsr.1, hsr.2, hb⟩
  subst e
  have h2 : m < R.stand.length := by omega
  have h3 : R.stand[m] = z := by
    rw [List.getElem?_eq_getElem h2] at hz
    exact Option.some.inj hz
  have h4 : R.stand[j]'(by omega) = z := by
    rw [List.getElem?_eq_getElem (by omega)] at j4
    exact Option.some.inj j4
  have h5 := List.pairwise_iff_getElem.mp ok.st m j h2 (by omega) hm
  omega
section
variable {P : Program} {w : World} {K : PySem.W.Frag} {mg : Str → Option Value} {base : Heap}
theorem sc_Row_neighbours : FnScope ["self", "bead", "at", "left", "right"] ["self", "bead"] xRow_neighbours.scope := ⟨rfl, rfl, rfl, by decide +kernel, rfl, by decide +kernel, by decide +kernel⟩
theorem w_Row_neighbours (T : Wx P K mg) : FnR P w K mg base (L2N.CX P w) 4 (He.ma K (He.ga K "Row") "neighbours") (spNbr K) :=
  mkR 3 T T.toTx.d_Row_neighbours sc_Row_neighbours (by rintro vs H Q E ⟨_, _, _, _, _, rfl, _⟩; rfl) (fun _ _ _ _ _ _ us hl => match us, hl with | [_, _], _ => rfl) (fun cdv A outer s H vs Q E B hsp => by
  obtain ⟨r, R, X, N, b, rfl, hR, ok, hin, hq⟩ := hsp
  refine ⟨_, (pss_cons (ps_expr (c_Row_check_standing (K := K) B (pv 0) (pa_cons (pv 1) pa_nil)))
    (pss_cons (st_set (i := 2) sc_Row_neighbours.nd (pe_bmK K PySem.F.plainAttrs_list PySem.F.slot_list_index PySem.F.type_list_index mt_index (pe_fldK K (pv 0) rfl) (pa_cons (pv 1) pa_nil)))
    (pss_cons (st_set (i := 3) sc_Row_neighbours.nd pe_non)
    (pss_cons (st_set (i := 4) sc_Row_neighbours.nd pe_non)
    (pss_cons (ps_if (pt_cmpR op_gt (pv 2) pe_int (nomark _)) (pss_one (st_set (i := 3) sc_Row_neighbours.nd (pe_ix (ix_seqK K) (pe_fldK K (pv 0) rfl) (pe_op op_sub (pv 2) pe_int) (fun _ _ => rfl)))) pss_nil)
    (pss_cons (ps_if (pt_cmpR op_lt (pe_op (o_addK K) (pv 2) pe_int) (pe_callB (call_lenK K) (by rfl) B.wx.toTx.f_len b_len (pa_cons (pe_fldK K (pv 0) rfl) pa_nil)) (nomark _)) (pss_one (st_set (i := 4) sc_Row_neighbours.nd (pe_ix (ix_seqK K) (pe_fldK K (pv 0) rfl) (pe_op (o_addK K) (pv 2) pe_int) (fun _ _ => rfl)))) pss_nil)
    (pss_one (ps_ret (pe_tup (pa_cons (pv 3) (pa_cons (pv 4) pa_nil))))))))))), ?_⟩
  obtain ⟨k, s, t, m, g, d, rfl, ⟨dx, hi⟩, hk, hs, ht, hm2, ⟨vg, hg, pg⟩, ⟨vd, hd, pd⟩, nd⟩ := id hR
  obtain ⟨j, j1, j2, j3, j4, e1, e2, _, _, b0, b1, hb⟩ := nbr_at ok hin
  have lenS := ok.lenS
  have k24 := ok.k24
  have at3 : (R.stand.map V.int)[j]? = some (V.int b) := by rw [List.getElem?_map, j3] <;> rfl
  refine ⟨_, rfl, r, _, _, rfl, hi, rfl, _, rfl, r, R, _, N, b, rfl, hR, ok, fun h => ?_, fun _ => ?_⟩
  · rcases h with z | z | z
    · omega
    · omega
    · exact absurd hb z
  refine ⟨_, rfl, r, _, _, _, _, rfl, hi, T.toTx.c_Row, T.toTx.n_Row_standing, rfl, .inl ⟨rfl, _, sq_of hs⟩, _, rfl, s, _, _, j, _, rfl, rfl, sq_of hs, rfl, flatI, at3, by simp [eqV], fun n z hn hz => ?_, ?_⟩
  · rw [List.getElem?_map] at hz
    obtain ⟨y, hy, rfl⟩ := Option.map_eq_some_iff.mp hz
    have := j4 n hn y hy
    simpa [eqV] using this
  walk_at "st"
  refine qc (qc ?_)
  refine qwh (b := true) (a_test fun Q q => ?_) (fun _ => ?_) (fun z => by cases z)
  · refine ⟨_, rfl, _, _, rfl, rfl, ?_⟩
    have e : decide ((0 : Int) < (j : Int)) = true := decide_eq_true (by omega)
    walk_at "st"
    rw [e]
    exact q
  refine ⟨_, rfl, r, _, _, _, _, rfl, hi, T.toTx.c_Row, T.toTx.n_Row_standing, rfl, _, rfl, _, _, rfl, rfl, .inl ⟨_, _, _, .int (nbr R.stand b).1, rfl, rfl, sq_of hs, ?_, ?_⟩⟩
  · refine (congrArg (atI _) (show ((j : Int) - 1) = ((j - 1 : Nat) : Int) by omega)).trans (atI_nat ?_)
    rw [List.getElem?_map, e1]
    rfl
  walk_at "st"
  refine qwh (b := true) (a_test fun Q q => ?_) (fun _ => ?_) (fun z => by cases z)
  · refine ⟨_, rfl, .inl ⟨_, _, rfl, rfl, _, rfl, r, _, _, _, _, rfl, hi, T.toTx.c_Row, T.toTx.n_Row_standing, rfl, _, _, rfl, .inl ⟨_, sq_of hs, rfl⟩, _, _, rfl, rfl, ?_⟩⟩
    rw [List.length_map]
    have e : decide ((j : Int) + 1 < (R.stand.length : Int)) = true := decide_eq_true (by omega)
    walk_at "st"
    rw [e]
    exact q
  refine ⟨_, rfl, r, _, _, _, _, rfl, hi, T.toTx.c_Row, T.toTx.n_Row_standing, rfl, _, rfl, .inl ⟨_, _, rfl, rfl, .inl ⟨_, _, _, .int (nbr R.stand b).2, rfl, rfl, sq_of hs, ?_, ?_⟩⟩⟩
  · refine (congrArg (atI _) (show ((j : Int) + 1) = ((j + 1 : Nat) : Int) by omega)).trans (atI_nat ?_)
    rw [List.getElem?_map, e2]
    rfl
  walk_at "st"
  exact ⟨_, rfl, _, rfl, by walk_at "le", fun p hp => hq p _ hp (Ex.new hp) upd_same⟩)
end
section
variable {X : Cx} {W : WX} {k : Nat} {e o : Expr} {es : List Expr} {ta : TA} {to : TE} {p pos apos : Pos} {pl : Sem Bool}
theorem c_Row_neighbours {K : PySem.W.Frag} (B : Bx X W k) (ho : PE X o to) (ha : PA X (e :: es) ta) (hK : X.K = K := by rfl) (hl : 4 ≤ k := by decide) (hst : starEach (e :: es) X.env = (false, eval e X.env) :: starEach es X.env := by rfl) (hpl : (backTo pos (starEach es X.env)).any (·.1) = false := by rfl)
    (ht : eval (.Call (.Attribute o "neighbours" apos) (e :: es) [] pos) X.env = (do
      let ov ← eval o X.env
      standAt apos.atName
      let (f, first) ← holding [ov] (getMethod ov "neighbours" pl)
      callWith pos f first (backTo pos (starEach (e :: es) X.env)) (backToKw pos (keywordEach [] X.env))) := by rfl) : PE X (.Call (.Attribute o "neighbours" apos) (e :: es) [] pos) (tMth (He.ga K "Row") "neighbours" (spNbr K) W to ta) := by
  subst hK
  exact k_mth B.wx.toTx.c_Row B.wx.toTx.m_Row_neighbours (w_Row_neighbours B.wx) (B.rm.mono hl) B.hx ho ha hst hpl ht
end
section
variable {P : Program} {w : World} {K : PySem.W.Frag} {mg : Str → Option Value} {base : Heap}
theorem sc_Row_mark : FnScope ["self", "bead", "left", "right"] ["self", "bead"] xRow_mark.scope := ⟨rfl, rfl, rfl, by decide +kernel, rfl, by decide +kernel, by decide +kernel⟩
theorem w_Row_mark (T : Wx P K mg) : FnR P w K mg base (L2N.CX P w) 5 (He.ma K (He.ga K "Row") "mark") (spMark K) :=
  mkR 4 T T.toTx.d_Row_mark sc_Row_mark (by rintro vs H Q E ⟨_, _, _, _, _, rfl, _⟩; rfl) (fun _ _ _ _ _ _ us hl => match us, hl with | [_, _], _ => rfl) (fun cdv A outer s H vs Q E B hsp => by
  obtain ⟨r, R, X, N, b, rfl, hR, ok, hm, hq⟩ := hsp
  refine ⟨_, (pss_cons (ps_expr (c_Row_check_inner (K := K) B (pv 0) (pa_cons (pv 1) pa_nil)))
    (pss_cons (ps_asg (c_Row_neighbours (K := K) B (pv 0) (pa_cons (pv 1) pa_nil)) (pg_tup B.calm (pgs_cons (pg_name (i := 2) sc_Row_mark.nd rfl (by first | exact .inl rfl | exact .inr rfl)) (pgs_cons (pg_name (i := 3) sc_Row_mark.nd rfl (by first | exact .inl rfl | exact .inr rfl)) pgs_nil))))
    (pss_one (ps_ret (c_mark_of (K := K) B (pa_cons (pe_ix (ix_seqK K) (pe_fldK K (pv 0) rfl) (pv 2) (fun _ _ => rfl)) (pa_cons (pe_ix (ix_seqK K) (pe_fldK K (pv 0) rfl) (pv 1) (fun _ _ => rfl)) (pa_cons (pe_ix (ix_seqK K) (pe_fldK K (pv 0) rfl) (pv 3) (fun _ _ => rfl)) pa_nil)))))))), ?_⟩
  obtain ⟨k, s, t, m, g, d, rfl, ⟨dx, hi⟩, hk, hs, ht, hm2, ⟨vg, hg, pg⟩, ⟨vd, hd, pd⟩, nd⟩ := id hR
  refine ⟨_, rfl, r, _, _, rfl, hi, rfl, _, rfl, r, R, _, N, b, rfl, hR, ok, hm, fun hin => ?_⟩
  obtain ⟨mk, hmk⟩ := Option.isSome_iff_exists.mp hin
  obtain ⟨_, _, _, rfl⟩ := mark_some hmk
  obtain ⟨j, j1, j2, j3, j4, e1, e2, n1, n2, b0, b1, hb⟩ := nbr_at ok hin
  refine ⟨_, rfl, r, _, _, rfl, hi, rfl, _, rfl, r, R, _, N, b, rfl, hR, ok, hin, fun p H1 hp e hp1 => ?_⟩
  refine ⟨p, _, rfl, st_of hp1, rfl, _, _, rfl, _, _, rfl, rfl, ?_⟩
  walk_at "st"
  have hi1 := e _ _ hi
  have hk1 := e _ _ hk
  refine ⟨_, rfl, r, _, _, _, _, rfl, hi1, T.toTx.c_Row, T.toTx.n_Row_kinds, rfl, _, rfl, .inr (.inl ⟨_, _, _, _, rfl, rfl, st_of hk1, kd_at n1.1 n1.2, _, rfl, r, _, _, _, _, rfl, hi1, T.toTx.c_Row, T.toTx.n_Row_kinds, rfl, _, rfl, .inr (.inl ⟨_, _, _, _, rfl, rfl, st_of hk1, kd_at b0 b1, _, rfl, r, _, _, _, _, rfl, hi1, T.toTx.c_Row, T.toTx.n_Row_kinds, rfl, _, rfl, .inr (.inl ⟨_, _, _, _, rfl, rfl, st_of hk1, kd_at n2.1 n2.2, ?_⟩)⟩)⟩)⟩
  exact ⟨_, _, _, rfl, hq _ hmk H1 e⟩)
end
section
variable {X : Cx} {W : WX} {k : Nat} {e o : Expr} {es : List Expr} {ta : TA} {to : TE} {p pos apos : Pos} {pl : Sem Bool}
theorem c_Row_mark {K : PySem.W.Frag} (B : Bx X W k) (ho : PE X o to) (ha : PA X (e :: es) ta) (hK : X.K = K := by rfl) (hl : 5 ≤ k := by decide) (hst : starEach (e :: es) X.env = (false, eval e X.env) :: starEach es X.env := by rfl) (hpl : (backTo pos (starEach es X.env)).any (·.1) = false := by rfl)
    (ht : eval (.Call (.Attribute o "mark" apos) (e :: es) [] pos) X.env = (do
      let ov ← eval o X.env
      standAt apos.atName
      let (f, first) ← holding [ov] (getMethod ov "mark" pl)
      callWith pos f first (backTo pos (starEach (e :: es) X.env)) (backToKw pos (keywordEach [] X.env))) := by rfl) : PE X (.Call (.Attribute o "mark" apos) (e :: es) [] pos) (tMth (He.ga K "Row") "mark" (spMark K) W to ta) := by
  subst hK
  exact k_mth B.wx.toTx.c_Row B.wx.toTx.m_Row_mark (w_Row_mark B.wx) (B.rm.mono hl) B.hx ho ha hst hpl ht
end
theorem ne_of_none' {H : Hp} {a b : Addr} {o : HO} (h' : H a = none) (h : H b = some o) : a ≠ b := (ne_of_none h h').symm
theorem rgV_upto (n : Nat) : rgV 0 ((n : Nat) : Int) = (upto n).map V.int := by
  unfold rgV upto
  rw [List.map_map, Int.sub_zero, Int.toNat_natCast]
  refine List.map_congr_left fun i _ => ?_
  show V.int (0 + ((i : Nat) : Int)) = V.int ((i : Nat) : Int)
  rw [Int.zero_add]
section
variable {X : Cx} {W : WX} {k : Nat} {e o : Expr} {es : List Expr} {ta : TA} {to : TE} {p pos apos : Pos} {pl : Sem Bool}
theorem cn_Strand {K : PySem.W.Frag} (B : Bx X W k) (ha : PA X (e :: es) ta) (hK : X.K = K := by rfl) (hl : 3 + 1 ≤ k := by decide) (hg : Gl X "Strand" := by rfl) (hst : starEach (e :: es) X.env = (false, eval e X.env) :: starEach es X.env := by rfl) (hpl : (backTo pos (starEach es X.env)).any (·.1) = false := by rfl) : PE X (.Call (.Name "Strand" p) (e :: es) [] pos) (tNew (He.ga K "Strand") (spStrInit K) W ta) := by
  subst hK
  exact k_new B.wx.toTx.k_Strand (w_Strand_init B.wx) (B.rm.mono hl) B.wx.toTx.g_Strand B.hx ha hg (by decide) hst hpl
end
section
variable {P : Program} {w : World} {K : PySem.W.Frag} {mg : Str → Option Value} {base : Heap}
theorem sc_Row_init : FnScope ["self", "strand", "bead"] ["self", "strand"] xRow_init.scope := ⟨rfl, rfl, rfl, by decide +kernel, rfl, by decide +kernel, by decide +kernel⟩
theorem w_Row_init (T : Wx P K mg) : FnR P w K mg base (L2N.CX P w) 4 (He.ma K (He.ga K "Row") "__init__") (spRowInit K) :=
  mkR 3 T T.toTx.d_Row_init sc_Row_init (by rintro vs H Q E ⟨_, _, _, _, rfl, _⟩; rfl) (fun _ _ _ _ _ _ us hl => match us, hl with | [_, _], _ => rfl) (fun cdv A outer s H vs Q E B hsp => by
  obtain ⟨r, dx, st, ks, rfl, hr, ⟨sdx, k, u, e, v, hst, hk⟩, h2, h24, hq⟩ := hsp
  refine ⟨_, (pss_cons (ps_fld (pv 0) (pe_fldK K (pv 1) rfl) rfl)
    (pss_cons (ps_fld (pv 0) (pe_listRg B.calm (by rfl) B.wx.toTx.f_list (prg_1 (by rfl) B.wx.toTx.f_range (pe_fldK K (pv 1) rfl))) rfl)
    (pss_cons (ps_fld (pv 0) (pe_lst pa_nil) rfl)
    (pss_cons (ps_fld (pv 0) (pe_lst pa_nil) rfl)
    (pss_cons (ps_fld (pv 0) (pe_lcB (own := [("bead", 2)]) B sc_Row_init.nd (pi_range1 (by rfl) B.wx.toTx.f_range (pa_cons (pe_op op_sub (pe_fldK K (pv 1) rfl) pe_int) pa_nil)) (blkOk_by (N := ["self", "strand", "bead"]) (sc := xRow_init.scope) (by decide +kernel)) (fun _ _ _ _ _ => pg_name (i := 2) sc_Row_init.nd rfl (by first | exact .inl rfl | exact .inr rfl)) (fun _ _ _ _ _ B => pts_nil) (fun _ _ _ _ _ B => (pe_tup (pa_cons (pv 2) (pa_cons (pe_op (o_addK K) (pv 2) pe_int) pa_nil))))) rfl)
    (pss_one (ps_fld (pv 0) (pe_lst pa_nil) rfl))))))), ?_⟩
  have nst : st ≠ r := fun z => by
    rw [z, hr] at hst
    have h := Option.some.inj hst
    injection h with _ _ e3
    cases e3
  have nkr : k ≠ r := fun z => by rw [z, hr] at hk; cases hk
  refine qsf rfl hr T.toTx.c_Row T.toTx.n_Row_kinds (by walk_at "ln") (fun x _ => x = .ref k) (fun Q q => ⟨_, rfl, st, _, _, _, _, rfl, hst, T.toTx.c_Strand, T.toTx.n_Strand_kinds, rfl, q _ _ (Ex.refl H) rfl⟩) ?_
  rintro _ H1' H1 e1 rfl hr1 f1 nb1
  have hst1 := f1.1 _ _ (e1 _ _ hst) (by simpa using nst)
  refine qsf rfl hr1 T.toTx.c_Row T.toTx.n_Row_standing (by walk_at "ln") (NewL H1 ((upto ks.length).map V.int)) (fun Q q => ⟨_, rfl, st, _, _, _, _, rfl, hst1, T.toTx.c_Strand, T.toTx.n_Strand_size, rfl, _, rfl, RgOk.of_le (by omega) (by omega) (by omega) (by omega), fun s hs => ?_⟩) ?_
  · rw [rgV_upto]
    exact q _ _ (Ex.new hs) ⟨s, rfl, hs, upd_same⟩
  rintro _ H2' H2 e2 ⟨s, rfl, hs, hs1⟩ hr2 f2 nb2
  have hs0 := nb1 s hs
  have nsr : s ≠ r := ne_of_none' hs0 hr
  have hs2 := f2.1 _ _ hs1 (by simpa using nsr)
  have hst2 := f2.1 _ _ (e2 _ _ hst1) (by simpa using nst)
  refine qsf rfl hr2 T.toTx.c_Row T.toTx.n_Row_taken (by walk_at "ln") (NewL H2 []) (fun Q q => ⟨by decide, fun t ht => q _ _ (Ex.new ht) ⟨t, rfl, ht, upd_same⟩⟩) ?_
  rintro _ H3' H3 e3 ⟨t, rfl, ht, ht1⟩ hr3 f3 nb3
  have ht0 := nb1 t (nb2 t ht)
  have ntr : t ≠ r := ne_of_none' ht0 hr
  have nts : s ≠ t := ne_of_none hs2 ht
  have ht3 := f3.1 _ _ ht1 (by simpa using ntr)
  have hs3 := f3.1 _ _ (e3 _ _ hs2) (by simpa using nsr)
  have hst3 := f3.1 _ _ (e3 _ _ hst2) (by simpa using nst)
  refine qsf rfl hr3 T.toTx.c_Row T.toTx.n_Row_marks (by walk_at "ln") (NewL H3 []) (fun Q q => ⟨by decide, fun t ht => q _ _ (Ex.new ht) ⟨t, rfl, ht, upd_same⟩⟩) ?_
  rintro _ H4' H4 e4 ⟨m, rfl, hm, hm1⟩ hr4 f4 nb4
  have hm0 := nb1 m (nb2 m (nb3 m hm))
  have nmr : m ≠ r := ne_of_none' hm0 hr
  have nms : s ≠ m := ne_of_none hs3 hm
  have nmt : t ≠ m := ne_of_none ht3 hm
  have hm4 := f4.1 _ _ hm1 (by simpa using nmr)
  have ht4 := f4.1 _ _ (e4 _ _ ht3) (by simpa using ntr)
  have hs4 := f4.1 _ _ (e4 _ _ hs3) (by simpa using nsr)
  have hst4 := f4.1 _ _ (e4 _ _ hst3) (by simpa using nst)
  refine qsf rfl hr4 T.toTx.c_Row T.toTx.n_Row_meetings (by walk_at "ln") (fun x H' => ∃ vs, NewL H4 vs x H' ∧ Paired (MeetV H') vs (RowD.new ks).meets) (fun Q q => ?_) ?_
  · refine ⟨_, rfl, st, _, _, _, _, rfl, hst4, T.toTx.c_Strand, T.toTx.n_Strand_size, rfl, _, _, rfl, rfl, _, rfl, by omega, by omega, fun D hD => ?_⟩
    refine lcXH walk_range _ yRg (by omega) hD (fun _ _ => True.intro) (fun _ _ => true) (fun i acc H' => Paired (MeetV H') acc ((RowD.new ks).meets.take i)) .nil (fun i acc H1 H2 f p => Paired.mapP p fun _ _ q => q.fr f) ?_ (fun i x acc H1 hi hx r e Q q => q H1 (Ex.refl H1)) (fun i x acc H1 hi hx r e hf Q q => ?_) (fun i x acc H1 hi hx r hf => by cases hf) (fun H2 ys e hD2 r hl2 => ?_)
    · exact fun _ => rfl
    · subst hx
      refine ⟨_, rfl, _, rfl, .inl ⟨_, _, rfl, rfl, by walk_at "le", fun p hp => q _ _ (Ex.new hp) ?_⟩⟩
      have hi2 : i < ks.length - 1 := by omega
      have he : (RowD.new ks).meets[i]? = some ((i : Int), (i : Int) + 1) := by
        show ((List.range (ks.length - 1)).map fun (i : Nat) => ((i : Int), (i : Int) + 1))[i]? = _
        rw [List.getElem?_map, List.getElem?_range hi2]
        rfl
      rw [take_snoc he]
      refine pr_app (Paired.mapP r fun _ _ q => q.fr (X := []) (Fr.ex (Ex.new hp))) (pr_one ⟨p, rfl, ?_⟩)
      rw [upd_same, Int.zero_add]
    · have hlen : (RowD.new ks).meets.length = ((ks.length : Int) - 1).toNat := by
        show ((List.range (ks.length - 1)).map fun (i : Nat) => ((i : Int), (i : Int) + 1)).length = _
        rw [List.length_map, List.length_range]
        omega
      rw [← hlen, take_all] at r
      exact q _ _ e ⟨ys, ⟨D, rfl, hD, hD2⟩, r⟩
  rintro _ H5' H5 e5 ⟨vg, ⟨g, rfl, hg, hg1⟩, pg⟩ hr5 f5 nb5
  have hg0 := nb1 g (nb2 g (nb3 g (nb4 g hg)))
  have ngr : g ≠ r := ne_of_none' hg0 hr
  have ngs : s ≠ g := ne_of_none hs4 hg
  have ngt : t ≠ g := ne_of_none ht4 hg
  have ngm : m ≠ g := ne_of_none hm4 hg
  have hg5 := f5.1 _ _ hg1 (by simpa using ngr)
  have hm5 := f5.1 _ _ (e5 _ _ hm4) (by simpa using nmr)
  have ht5 := f5.1 _ _ (e5 _ _ ht4) (by simpa using ntr)
  have hs5 := f5.1 _ _ (e5 _ _ hs4) (by simpa using nsr)
  refine qsfE rfl hr5 T.toTx.c_Row T.toTx.n_Row_deeds (by walk_at "ln") (NewL H5 []) (fun Q q => ⟨by decide, fun t ht => q _ _ (Ex.new ht) ⟨t, rfl, ht, upd_same⟩⟩) ?_
  rintro _ H6' H6 e6 ⟨d, rfl, hd, hd1⟩ hr6 f6 nb6
  have hd0 := nb1 d (nb2 d (nb3 d (nb4 d (nb5 d hd))))
  have ndr : d ≠ r := ne_of_none' hd0 hr
  have hs6 := f6.1 _ _ (e6 _ _ hs5) (by simpa using nsr)
  have ht6 := f6.1 _ _ (e6 _ _ ht5) (by simpa using ntr)
  have hm6 := f6.1 _ _ (e6 _ _ hm5) (by simpa using nmr)
  have hg6 := f6.1 _ _ (e6 _ _ hg5) (by simpa using ngr)
  have hd6 := f6.1 _ _ hd1 (by simpa using ndr)
  have fa : Fr [r] H H6 := Fr.same (Fr.ex e1) <| Fr.same f1 <| Fr.same (Fr.ex e2) <| Fr.same f2 <| Fr.same (Fr.ex e3) <| Fr.same f3 <| Fr.same (Fr.ex e4) <| Fr.same f4 <| Fr.same (Fr.ex e5) <| Fr.same f5 <| Fr.same (Fr.ex e6) f6
  refine hq H6 k s t m g d ⟨⟨dx, hr6⟩, fa.2 _ _ hk, hs6, ht6, hm6, ⟨vg, hg6, Paired.mapP pg fun _ _ q => (q.fr f5).fr (Fr.same (Fr.ex e6) f6)⟩, ⟨[], hd6, .nil⟩, ?_⟩ fa ?_
  · have n1 := ne_of_none hs5 hd
    have n2 := ne_of_none ht5 hd
    have n3 := ne_of_none hm5 hd
    have n4 := ne_of_none hg5 hd
    simp [nsr.symm, ntr.symm, nmr.symm, ngr.symm, ndr.symm, nts, nms, nmt, ngs, ngt, ngm, n1, n2, n3, n4]
  · intro b hb
    simp only [List.mem_cons, List.not_mem_nil, or_false] at hb
    rcases hb with rfl | rfl | rfl | rfl | rfl
    · exact hs0
    · exact ht0
    · exact hm0
    · exact hg0
    · exact hd0)
end
end Bm
set_option Elab.async false
set_option linter.all false
set_option maxRecDepth 10000
set_option maxHeartbeats 400000
set_option pp.deepTerms false
set_option pp.maxSteps 1500
set_option maxErrors 6
/-! Walks: rows, what changes them. -/
namespace Bm
open PySem PySem.Spec PyProof.Rows L2 Evl TL RZ
local macro_rules | `(tactic| walk_at "sz") => `(tactic| first | assumption | (refine sz_of ?_; omega) | (refine sz_lt ?_; omega))
local macro_rules | `(tactic| walk_at "ne") => `(tactic| first | assumption | (refine Ne.symm ?_; assumption) | exact ne_new (by assumption) (by walk_at "hp") | exact Ne.symm (ne_new (by assumption) (by walk_at "hp")))
local macro_rules | `(tactic| walk_at "hp") => `(tactic| first | assumption | exact upd_same | (refine (upd_ne (by walk_at "ne")).trans ?_; walk_at "hp") | (refine Ex.at_ (by assumption) ?_; walk_at "hp"))
local macro_rules | `(tactic| walk_at "sq") => `(tactic| first | assumption | (refine sq_of ?_; walk_at "hp") | (refine st_of ?_; walk_at "hp") | (refine ex_l (by assumption) ?_; walk_at "sq") | (refine ex_t (by assumption) ?_; walk_at "sq"))
local macro_rules | `(tactic| walk_at "sd") => `(tactic| first | exact (show (0 : Int) < _ from by omega) | exact (show (0 : Int) < _ ∧ _ < (1073741824 : Int) from ⟨by omega, by omega⟩) | exact (show CPow _ _ from ⟨by decide, by decide, by decide⟩) | exact (show CMul _ _ from .inl ⟨by omega, by omega⟩) | exact (show CMul _ _ from .inr ⟨by omega, by omega⟩))
local macro_rules | `(tactic| walk_at "g1") => `(tactic| first
  | refine ⟨_, rfl, ?_⟩
  | refine ⟨_, _, rfl, rfl, ?_⟩
  | refine .inl ⟨_, _, rfl, rfl, ?_⟩
  | refine .inl ⟨rfl, ?_⟩
  | refine .inl (.inl ⟨_, rfl, ?_⟩)
  | (refine ⟨_, _, rfl, ⟨?_, rfl⟩, ?_⟩; (walk_at "sz"))
  | refine ⟨(by walk_at "sd"), ?_⟩)
local macro_rules | `(tactic| walk_at "go") => `(tactic| repeat walk_at "g1")
local macro_rules | `(tactic| walk_at "st") => `(tactic| dsimp only [gName])
local macro_rules | `(tactic| walk_at "ln") => `(tactic| first | exact (show 0 < 1000 from by decide) | exact (show 1 < 1000 from by decide) | exact (show 2 < 1000 from by decide) | exact (show 3 < 1000 from by decide) | exact (show 4 < 1000 from by decide) | exact (show 5 < 1000 from by decide) | exact (show 6 < 1000 from by decide) | exact (show 7 < 1000 from by decide))
local macro_rules | `(tactic| walk_at "le") => `(tactic| first | exact (show 0 ≤ sizeLine from by decide) | exact (show 1 ≤ sizeLine from by decide) | exact (show 2 ≤ sizeLine from by decide) | exact (show 3 ≤ sizeLine from by decide) | exact (show 4 ≤ sizeLine from by decide) | exact (show 5 ≤ sizeLine from by decide) | exact (show 6 ≤ sizeLine from by decide) | exact (show 7 ≤ sizeLine from by decide) | exact (show 8 ≤ sizeLine from by decide))
local macro_rules | `(tactic| walk_at "nt") => `(tactic| first | exact nt_ins | exact nt_lst | exact nt_dK)
local macro_rules | `(tactic| walk_at "fr") => `(tactic| first | assumption | exact Fr.refl | exact Fr.ex (by assumption) | (refine Fr.put ?_ (by walk_at "hp") (by walk_at "nt") (by simp); walk_at "fr") | (refine Fr.new ?_ (by assumption); walk_at "fr"))
/-- a row's change to R' -/
def MutR (K : PySem.W.Frag) (H : Hp) (r : Addr) (X : List Addr) (R' : RowD) (q : Hp → Prop) : Prop := ∀ H' X', RowX K H' r R' X' → Fr X H H' → Nw X X' H → q H'
def outD (R : RowD) (b : Int) : RowD := ⟨R.kinds, R.stand.filter fun o => decide (o ≠ b), R.taken ++ [b], R.marks ++ [R.mk1 b], R.meets ++ [nbr R.stand b], R.deeds⟩
def spOut (K : PySem.W.Frag) : Sp := fun vs H Q _ => ∃ (r : Addr) (R : RowD) (X : List Addr) (N : Nat) (b : Int), vs = [.ref r, .int b] ∧ RowX K H r R X ∧ RowOk R N ∧ N ≤ 90000 ∧ (R.mark b).isSome = true ∧ MutR K H r X (outD R b) (Q (.str (R.mk1 b)))
def spTake (K : PySem.W.Frag) : Sp := fun vs H Q _ => ∃ (r : Addr) (R : RowD) (X : List Addr) (N : Nat) (b : Int), vs = [.ref r, .int b] ∧ RowX K H r R X ∧ RowOk R N ∧ N ≤ 90000 ∧ (R.mark b).isSome = true ∧ MutR K H r X (R.take b) (Q (.str (R.mk1 b)))
def spGrow (K : PySem.W.Frag) : Sp := fun vs H Q E => ∃ (r : Addr) (R : RowD) (X : List Addr) (N : Nat) (k : Int), vs = [.ref r, .int k] ∧ RowX K H r R X ∧ RowOk R N ∧ N ≤ 90000 ∧ ((k < 0 ∨ k > 999 ∨ R.kinds.length ≥ 24) → Moot K H E) ∧
  (¬ (k < 0 ∨ k > 999 ∨ R.kinds.length ≥ 24) → MutR K H r X (R.grow k) (Q (.int R.kinds.length)))
/-- back from R.take b -/
def spPut (K : PySem.W.Frag) : Sp := fun vs H Q _ => ∃ (r : Addr) (R : RowD) (X : List Addr) (N : Nat) (b : Int) (ds : List (Bool × Int)), vs = [.ref r] ∧ RowX K H r { R.take b with deeds := ds } X ∧ RowOk R N ∧ N ≤ 90000 ∧ ds.length ≤ 90000 ∧ b ∈ R.stand ∧ MutR K H r X { R with deeds := ds } (Q .non)
/-- back from R.take b or R.grow k -/
def spUndoR (K : PySem.W.Frag) : Sp := fun vs H Q _ => ∃ (r : Addr) (R R1 : RowD) (X : List Addr) (N : Nat), vs = [.ref r] ∧ RowX K H r R1 X ∧ RowOk R N ∧ N ≤ 90000 ∧ ((∃ b, b ∈ R.stand ∧ R1 = R.take b) ∨ ∃ k, R1 = R.grow k) ∧ MutR K H r X R (fun H' => ∀ v, Q v H')
section
variable {P : Program} {w : World} {K : PySem.W.Frag} {mg : Str → Option Value} {base : Heap}
theorem sc_Row_take_out : FnScope ["self", "bead", "mark", "other"] ["self", "bead"] xRow_take_out.scope := ⟨rfl, rfl, rfl, by decide +kernel, rfl, by decide +kernel, by decide +kernel⟩
theorem w_Row_take_out (T : Wx P K mg) : FnR P w K mg base (L2N.CX P w) 6 (He.ma K (He.ga K "Row") "_take_out") (spOut K) :=
  mkR 5 T T.toTx.d_Row_take_out sc_Row_take_out (by rintro vs H Q E ⟨_, _, _, _, _, rfl, _⟩; rfl) (fun _ _ _ _ _ _ us hl => match us, hl with | [_, _], _ => rfl) (fun cdv A outer s H vs Q E B hsp => by
  obtain ⟨r, R, X, N, b, rfl, hR, ok, hz, hin, hq⟩ := hsp
  refine ⟨_, (pss_cons (st_set (i := 2) sc_Row_take_out.nd (c_Row_mark (K := K) B (pv 0) (pa_cons (pv 1) pa_nil)))
    (pss_cons (ps_expr (pe_bmK K PySem.F.plainAttrs_list PySem.F.slot_list_append PySem.F.type_list_append mt_append (pe_fldK K (pv 0) rfl) (pa_cons (c_Row_neighbours (K := K) B (pv 0) (pa_cons (pv 1) pa_nil)) pa_nil)))
    (pss_cons (ps_expr (pe_bmK K PySem.F.plainAttrs_list PySem.F.slot_list_append PySem.F.type_list_append mt_append (pe_fldK K (pv 0) rfl) (pa_cons (pv 2) pa_nil)))
    (pss_cons (ps_expr (pe_bmK K PySem.F.plainAttrs_list PySem.F.slot_list_append PySem.F.type_list_append mt_append (pe_fldK K (pv 0) rfl) (pa_cons (pv 1) pa_nil)))
    (pss_cons (ps_fld (pv 0) (pe_lcB (own := [("other", 3)]) B sc_Row_take_out.nd (pi_list (pe_fldK K (pv 0) rfl)) (blkOk_by (N := ["self", "bead", "mark", "other"]) (sc := xRow_take_out.scope) (by decide +kernel)) (fun _ _ _ _ _ => pg_name (i := 3) sc_Row_take_out.nd rfl (by first | exact .inl rfl | exact .inr rfl)) (fun _ _ _ _ _ B => (pts_one (pt_cmpR (o_neK K B.hu64) (pv 3) (pv 1) (nomark _)))) (fun _ _ _ _ _ B => (pv 3))) rfl)
    (pss_one (ps_ret (pv 2)))))))), ?_⟩
  obtain ⟨k, s, t, m, g, d, rfl, ⟨dx, hi⟩, hk, hs, ht, hm, ⟨vg, hg, pg⟩, ⟨vd, hd, pd⟩, nd⟩ := id hR
  obtain ⟨nrs, nrt, nrm, nrg, nrd, nst, nsm, nsg, nsd, ntm, ntg, ntd, nmg, nmd, ngd⟩ := nd6 nd
  obtain ⟨mk, hmk⟩ := Option.isSome_iff_exists.mp hin
  obtain ⟨_, _, _, rfl⟩ := mark_some hmk
  have lT := ok.lenT
  have lM := ok.lenM
  have lG := ok.lenG
  have lS := ok.lenS
  have k24 := ok.k24
  have lg : vg.length = R.meets.length := Paired.length pg
  refine ⟨_, rfl, r, _, _, rfl, hi, rfl, _, rfl, r, R, _, N, b, rfl, hR, ok, (fun h => by rw [hmk] at h; cases h), fun mk2 hmk2 H1 e1 => ?_⟩
  rw [hmk] at hmk2
  cases hmk2
  walk_at "st"
  have hR1 : RowX K H1 r R [r, s, t, m, g, d] := hR.fr (Fr.ex (X := []) e1) (by simp)
  refine qapp rfl (e1 _ _ hi) T.toTx.c_Row T.toTx.n_Row_meetings rfl (e1 _ _ hg) (by omega) (NewT H1 [.int (nbr R.stand b).1, .int (nbr R.stand b).2]) (fun Q q => ⟨_, rfl, r, _, _, rfl, e1 _ _ hi, rfl, _, rfl, r, R, _, N, b, rfl, hR1, ok, hin, fun p H2 hp e2 hp2 => q _ _ e2 ⟨p, rfl, hp, hp2⟩⟩) ?_
  rintro _ H2' H2 e2 ⟨p, rfl, hp, hp2⟩ hg2 f2 nb2
  have hi2 := f2.1 _ _ (e2 _ _ (e1 _ _ hi)) (by simpa using nrg)
  have hm2 := f2.1 _ _ (e2 _ _ (e1 _ _ hm)) (by simpa using nmg)
  refine qapp rfl hi2 T.toTx.c_Row T.toTx.n_Row_marks rfl hm2 (by rw [List.length_map]; omega) (fun x _ => x = .str (R.mk1 b)) (fun Q q => ⟨_, rfl, q _ _ (Ex.refl _) rfl⟩) ?_
  rintro _ H3' H3 e3 rfl hm3 f3 nb3
  have hi3 := f3.1 _ _ (e3 _ _ hi2) (by simpa using nrm)
  have ht3 := f3.1 _ _ (e3 _ _ (f2.1 _ _ (e2 _ _ (e1 _ _ ht)) (by simpa using ntg))) (by simpa using ntm)
  refine qapp rfl hi3 T.toTx.c_Row T.toTx.n_Row_taken rfl ht3 (by rw [List.length_map]; omega) (fun x _ => x = .int b) (fun Q q => ⟨_, rfl, q _ _ (Ex.refl _) rfl⟩) ?_
  rintro _ H4' H4 e4 rfl ht4 f4 nb4
  have hi4 := f4.1 _ _ (e4 _ _ hi3) (by simpa using nrt)
  have fa : Fr [r, s, t, m, g, d] H H4 := Fr.same (Fr.ex e1) <| Fr.same (Fr.ex e2) <| Fr.same (f2.mono (by simp)) <| Fr.same (Fr.ex e3) <| Fr.same (f3.mono (by simp)) <| Fr.same (Fr.ex e4) (f4.mono (by simp))
  have hs4 := f4.1 _ _ (e4 _ _ (f3.1 _ _ (e3 _ _ (f2.1 _ _ (e2 _ _ (e1 _ _ hs)) (by simpa using nsg))) (by simpa using nsm))) (by simpa using nst)
  have nb : ∀ b, H4 b = none → H b = none := fun b h => fresh_back e1 (nb2 _ (nb3 _ (nb4 _ h)))
  have hg4 := f4.1 _ _ (e4 _ _ (f3.1 _ _ (e3 _ _ hg2) (by simpa using nmg.symm))) (by simpa using ntg.symm)
  have hm4 := f4.1 _ _ (e4 _ _ hm3) (by simpa using ntm.symm)
  have hd4 := f4.1 _ _ (e4 _ _ (f3.1 _ _ (e3 _ _ (f2.1 _ _ (e2 _ _ (e1 _ _ hd)) (by simpa using ngd.symm))) (by simpa using nmd.symm))) (by simpa using ntd.symm)
  refine qsf rfl hi4 T.toTx.c_Row T.toTx.n_Row_standing (by walk_at "ln") (NewL H4 ((R.stand.filter fun o => decide (o ≠ b)).map V.int)) (fun Q q => ?_) ?_
  · refine ⟨_, rfl, r, _, _, _, _, rfl, hi4, T.toTx.c_Row, T.toTx.n_Row_standing, rfl, s, rfl, ⟨_, sq_of hs4⟩, fun D hD => ?_⟩
    refine lcX walk_list _ yAt (by rw [List.length_map]; omega) hD (fun H' e => ex_l e (sq_of hs4)) (fun i x => !decide (x = V.int b)) (fun i acc => acc = (((R.stand.take i).filter fun o => decide (o ≠ b)).map V.int)) rfl ?_ (fun i x acc H2 hi hx r e Q q => ?_) (fun i x acc H2 hi hx r e hf Q q => ?_) (fun i x acc hi hx r hf => ?_) (fun H2 ys e hD2 r hl2 => ?_)
    · exact fun _ => rfl
    · rw [List.getElem?_map] at hx
      obtain ⟨y, hy, rfl⟩ := Option.map_eq_some_iff.mp hx
      exact ⟨_, rfl, _, rfl, .inl ⟨rfl, _, rfl, q _ (Ex.refl _)⟩⟩
    · rw [List.getElem?_map] at hx
      obtain ⟨y, hy, rfl⟩ := Option.map_eq_some_iff.mp hx
      rw [dcI] at hf
      have hf2 : decide (y ≠ b) = true := by simpa using hf
      refine ⟨_, rfl, q _ _ (Ex.refl _) ?_⟩
      rw [take_snoc hy, List.filter_append, List.filter_cons_of_pos (p := fun o => decide (o ≠ b)) hf2, List.map_append, r]
      rfl
    · rw [List.getElem?_map] at hx
      obtain ⟨y, hy, rfl⟩ := Option.map_eq_some_iff.mp hx
      rw [dcI] at hf
      have hf2 : ¬ decide (y ≠ b) = true := by simpa using hf
      rw [take_snoc hy, List.filter_append, List.filter_cons_of_neg (p := fun o => decide (o ≠ b)) hf2, List.filter_nil, List.append_nil]
      exact r
    · rw [List.length_map, take_all] at r
      subst r
      exact q _ _ e ⟨D, rfl, hD, hD2⟩
  rintro _ H5' H5 e5 ⟨s5, rfl, hs5, hs51⟩ hi5 f5 nb5
  have n0 := nb _ hs5
  have nsr : s5 ≠ r := ne_of_none' n0 hi
  have hX : RowX K H5 r (outD R b) [r, s5, t, m, g, d] := by
    refine ⟨k, s5, t, m, g, d, rfl, ⟨dx, hi5⟩, f5.2 _ _ (e5 _ _ (fa.2 _ _ hk)), f5.1 _ _ hs51 (by simpa using nsr), ?_, ?_, ⟨vg ++ [.ref p], f5.1 _ _ (e5 _ _ hg4) (by simpa using nrg.symm), ?_⟩, ⟨vd, f5.1 _ _ (e5 _ _ hd4) (by simpa using nrd.symm), ?_⟩, ?_⟩
    · refine (f5.1 _ _ (e5 _ _ ht4) (by simpa using nrt.symm)).trans ?_
      show _ = some (HO.lst ((R.taken ++ [b]).map V.int))
      rw [List.map_append]
      rfl
    · refine (f5.1 _ _ (e5 _ _ hm4) (by simpa using nrm.symm)).trans ?_
      show _ = some (HO.lst ((R.marks ++ [R.mk1 b]).map V.str))
      rw [List.map_append]
      rfl
    · refine pr_app (Paired.mapP pg fun _ _ q => q.fr (Fr.same fa <| Fr.same (Fr.ex e5) (f5.mono (by simp)))) (pr_one ⟨p, rfl, ?_⟩)
      exact f5.2 _ _ (e5 _ _ (f4.2 _ _ (e4 _ _ (f3.2 _ _ (e3 _ _ (f2.2 _ _ hp2))))))
    · exact Paired.mapP pd fun _ _ q => q.fr (Fr.same fa <| Fr.same (Fr.ex e5) (f5.mono (by simp)))
    · have a1 := ne_of_none' n0 ht
      have a2 := ne_of_none' n0 hm
      have a3 := ne_of_none' n0 hg
      have a4 := ne_of_none' n0 hd
      simp [nsr.symm, a1, a2, a3, a4, nrt, nrm, nrg, nrd, ntm, ntg, ntd, nmg, nmd, ngd]
  refine ⟨_, rfl, hq H5 _ hX (Fr.same fa <| Fr.same (Fr.ex e5) (f5.mono (by simp))) ?_⟩
  intro c hc
  simp only [List.mem_cons, List.not_mem_nil, or_false] at hc
  rcases hc with rfl | rfl | rfl | rfl | rfl | rfl
  · exact .inl (by simp)
  · exact .inr n0
  · exact .inl (by simp)
  · exact .inl (by simp)
  · exact .inl (by simp)
  · exact .inl (by simp))
end
section
variable {X : Cx} {W : WX} {k : Nat} {e o : Expr} {es : List Expr} {ta : TA} {to : TE} {p pos apos : Pos} {pl : Sem Bool}
theorem c_Row_take_out {K : PySem.W.Frag} (B : Bx X W k) (ho : PE X o to) (ha : PA X (e :: es) ta) (hK : X.K = K := by rfl) (hl : 6 ≤ k := by decide) (hst : starEach (e :: es) X.env = (false, eval e X.env) :: starEach es X.env := by rfl) (hpl : (backTo pos (starEach es X.env)).any (·.1) = false := by rfl)
    (ht : eval (.Call (.Attribute o "_take_out" apos) (e :: es) [] pos) X.env = (do
      let ov ← eval o X.env
      standAt apos.atName
      let (f, first) ← holding [ov] (getMethod ov "_take_out" pl)
      callWith pos f first (backTo pos (starEach (e :: es) X.env)) (backToKw pos (keywordEach [] X.env))) := by rfl) : PE X (.Call (.Attribute o "_take_out" apos) (e :: es) [] pos) (tMth (He.ga K "Row") "_take_out" (spOut K) W to ta) := by
  subst hK
  exact k_mth B.wx.toTx.c_Row B.wx.toTx.m_Row_take_out (w_Row_take_out B.wx) (B.rm.mono hl) B.hx ho ha hst hpl ht
end
section
variable {P : Program} {w : World} {K : PySem.W.Frag} {mg : Str → Option Value} {base : Heap}
theorem sc_Row_take : FnScope ["self", "bead", "mark"] ["self", "bead"] xRow_take.scope := ⟨rfl, rfl, rfl, by decide +kernel, rfl, by decide +kernel, by decide +kernel⟩
theorem w_Row_take (T : Wx P K mg) : FnR P w K mg base (L2N.CX P w) 7 (He.ma K (He.ga K "Row") "take") (spTake K) :=
  mkR 6 T T.toTx.d_Row_take sc_Row_take (by rintro vs H Q E ⟨_, _, _, _, _, rfl, _⟩; rfl) (fun _ _ _ _ _ _ us hl => match us, hl with | [_, _], _ => rfl) (fun cdv A outer s H vs Q E B hsp => by
  obtain ⟨r, R, X, N, b, rfl, hR, ok, hz, hin, hq⟩ := hsp
  refine ⟨_, (pss_cons (st_set (i := 2) sc_Row_take.nd (c_Row_take_out (K := K) B (pv 0) (pa_cons (pv 1) pa_nil)))
    (pss_cons (ps_expr (pe_bmK K PySem.F.plainAttrs_list PySem.F.slot_list_append PySem.F.type_list_append mt_append (pe_fldK K (pv 0) rfl) (pa_cons (pe_tup (pa_cons pe_str (pa_cons (pv 1) pa_nil))) pa_nil)))
    (pss_one (ps_ret (pv 2))))), ?_⟩
  obtain ⟨k, s, t, m, g, d, rfl, ⟨dx, hi⟩, hk, hs, ht, hm, ⟨vg, hg, pg⟩, ⟨vd, hd, pd⟩, nd⟩ := id hR
  have lD := ok.lenD
  refine ⟨_, rfl, r, _, _, rfl, hi, rfl, _, rfl, r, R, _, N, b, rfl, hR, ok, hz, hin, fun H1 X1 hR1 f1 nw1 => ?_⟩
  walk_at "st"
  obtain ⟨k1, s1, t1, m1, g1, d1, rfl, ⟨dx1, hi1⟩, hk1, hs1, ht1, hm1, ⟨vg1, hg1, pg1⟩, ⟨vd1, hd1, pd1⟩, nd1⟩ := id hR1
  obtain ⟨nrs, nrt, nrm, nrg, nrd, nst, nsm, nsg, nsd, ntm, ntg, ntd, nmg, nmd, ngd⟩ := nd6 nd1
  have ld : vd1.length = R.deeds.length := Paired.length pd1
  refine qapp rfl hi1 T.toTx.c_Row T.toTx.n_Row_deeds rfl hd1 (by omega) (NewT H1 [.str "take", .int b]) (fun Q q => ⟨_, rfl, by walk_at "le", fun p hp => q _ _ (Ex.new hp) ⟨p, rfl, hp, upd_same⟩⟩) ?_
  rintro _ H2' H2 e2 ⟨p, rfl, hp, hp2⟩ hd2 f2 nb2
  have fa : Fr [r, s1, t1, m1, g1, d1] H1 H2 := Fr.same (Fr.ex e2) (f2.mono (by simp))
  refine ⟨_, rfl, hq H2 _ ⟨k1, s1, t1, m1, g1, d1, rfl, ⟨dx1, f2.1 _ _ (e2 _ _ hi1) (by simpa using nrd)⟩, f2.2 _ _ (e2 _ _ hk1), f2.1 _ _ (e2 _ _ hs1) (by simpa using nsd), f2.1 _ _ (e2 _ _ ht1) (by simpa using ntd), f2.1 _ _ (e2 _ _ hm1) (by simpa using nmd), ⟨vg1, f2.1 _ _ (e2 _ _ hg1) (by simpa using ngd), Paired.mapP pg1 fun _ _ q => q.fr fa⟩,
    ⟨vd1 ++ [.ref p], hd2, pr_app (Paired.mapP pd1 fun _ _ q => q.fr fa) (pr_one ⟨p, rfl, f2.2 _ _ hp2⟩)⟩, nd1⟩ (f1.trans fa nw1) nw1⟩)
theorem sc_Row_put_back : FnScope ["self", "bead"] ["self"] xRow_put_back.scope := ⟨rfl, rfl, rfl, by decide +kernel, rfl, by decide +kernel, by decide +kernel⟩
theorem w_Row_put_back (T : Wx P K mg) : FnR P w K mg base (L2N.CX P w) 3 (He.ma K (He.ga K "Row") "_put_back") (spPut K) :=
  mkR 2 T T.toTx.d_Row_put_back sc_Row_put_back (by rintro vs H Q E ⟨_, _, _, _, _, _, rfl, _⟩; rfl) (fun _ _ _ _ _ _ us hl => match us, hl with | [_], _ => rfl) (fun cdv A outer s H vs Q E B hsp => by
  obtain ⟨r, R, X, N, b, ds, rfl, hR, ok, hz, hds, hb, hq⟩ := hsp
  refine ⟨_, (pss_cons (st_set (i := 1) sc_Row_put_back.nd (pe_bm0 PySem.F.plainAttrs_list PySem.F.slot_list_pop PySem.F.type_list_pop mt_pop (pe_fldK K (pv 0) rfl)))
    (pss_cons (ps_expr (pe_bm0 PySem.F.plainAttrs_list PySem.F.slot_list_pop PySem.F.type_list_pop mt_pop (pe_fldK K (pv 0) rfl)))
    (pss_cons (ps_expr (pe_bm0 PySem.F.plainAttrs_list PySem.F.slot_list_pop PySem.F.type_list_pop mt_pop (pe_fldK K (pv 0) rfl)))
    (pss_one (ps_fld (pv 0) (pe_callB cr_sortedI (by rfl) B.wx.toTx.f_sorted b_sorted (pa_cons (pe_op (o_addK K) (pe_fldK K (pv 0) rfl) (pe_lst (pa_cons (pv 1) pa_nil))) pa_nil)) rfl))))), ?_⟩
  obtain ⟨k, s, t, m, g, d, rfl, ⟨dx, hi⟩, hk, hs, ht, hm, ⟨vg0, hg, pg0⟩, ⟨vd, hd, pd⟩, nd⟩ := id hR
  obtain ⟨nrs, nrt, nrm, nrg, nrd, nst, nsm, nsg, nsd, ntm, ntg, ntd, nmg, nmd, ngd⟩ := nd6 nd
  obtain ⟨vg, v, rfl, pg, hv⟩ := pr_snoc (show Paired (MeetV H) vg0 (R.meets ++ [nbr R.stand b]) from pg0)
  have ht' : H t = some (.lst (R.taken.map V.int ++ [.int b])) := by
    refine ht.trans ?_
    show some (HO.lst ((R.taken ++ [b]).map V.int)) = _
    rw [List.map_append]
    rfl
  have hm' : H m = some (.lst (R.marks.map V.str ++ [.str (R.mk1 b)])) := by
    refine hm.trans ?_
    show some (HO.lst ((R.marks ++ [R.mk1 b]).map V.str)) = _
    rw [List.map_append]
    rfl
  refine qpop rfl hi T.toTx.c_Row T.toTx.n_Row_taken rfl ht' fun H1 ht1 f1 nb1 => ?_
  walk_at "st"
  have hi1 := f1.1 _ _ hi (by simpa using nrt)
  have hm1 := f1.1 _ _ hm' (by simpa using ntm.symm)
  refine qpopD rfl hi1 T.toTx.c_Row T.toTx.n_Row_marks rfl hm1 fun H2 hm2 f2 nb2 => ?_
  have hi2 := f2.1 _ _ hi1 (by simpa using nrm)
  have hg2 := f2.1 _ _ (f1.1 _ _ hg (by simpa using ntg.symm)) (by simpa using nmg.symm)
  refine qpopD rfl hi2 T.toTx.c_Row T.toTx.n_Row_meetings rfl hg2 fun H3 hg3 f3 nb3 => ?_
  have hi3 := f3.1 _ _ hi2 (by simpa using nrg)
  have hs3 := f3.1 _ _ (f2.1 _ _ (f1.1 _ _ hs (by simpa using nst)) (by simpa using nsm)) (by simpa using nsg)
  have k24 := ok.k24
  have lS := ok.lenS
  have lF : ((R.stand.filter fun o => decide (o ≠ b)).map V.int).length ≤ 24 := by
    rw [List.length_map]
    exact Nat.le_trans (List.length_filter_le _ _) (by omega)
  refine qsfE rfl hi3 T.toTx.c_Row T.toTx.n_Row_standing (by walk_at "ln") (NewL H3 (R.stand.map V.int)) (fun Q q => ?_) ?_
  · have hs3' : H3 s = some (.lst ((R.stand.filter fun o => decide (o ≠ b)).map V.int)) := hs3
    refine ⟨_, rfl, r, _, _, _, _, rfl, hi3, T.toTx.c_Row, T.toTx.n_Row_standing, rfl, _, rfl, by walk_at "le", fun p hp => ?_⟩
    have nsp : s ≠ p := ne_of_none hs3 hp
    refine .inr (.inr (.inl ⟨s, p, _, _, rfl, rfl, (upd_ne nsp).trans hs3', upd_same, ?_, fun p2 hp2 => ?_⟩))
    · show (_ : Nat) + 1 ≤ sizeLine
      exact sz_of (by omega)
    have e1 : (R.stand.filter fun o => decide (o ≠ b)).map V.int ++ [V.int b] = ((R.stand.filter fun o => decide (o ≠ b)) ++ [b]).map V.int := by rw [List.map_append] <;> rfl
    rw [e1]
    refine ⟨p2, _, rfl, sq_of upd_same, fun ns p3 hp3 so np => ?_⟩
    have e2 := sorted_back ok hb hp3 so
    subst e2
    have q1 := un_upd np
    exact q _ _ ((Ex.new hp).trans ((Ex.new hp2).trans (Ex.new np))) ⟨p3, rfl, un_upd q1, upd_same⟩
  rintro _ H4' H4 e4 ⟨s4, rfl, n4, hs4⟩ hi4 f4 nb4
  have n0 := nb1 _ (nb2 _ (nb3 _ n4))
  have nsr : s4 ≠ r := ne_of_none' n0 hi
  have fa : Fr [r, s, t, m, g, d] H H4 := Fr.same (f1.mono (by simp)) <| Fr.same (f2.mono (by simp)) <| Fr.same (f3.mono (by simp)) <| Fr.same (Fr.ex e4) (f4.mono (by simp))
  have ht4 := f4.1 _ _ (e4 _ _ (f3.1 _ _ (f2.1 _ _ ht1 (by simpa using ntm)) (by simpa using ntg))) (by simpa using nrt.symm)
  have hm4 := f4.1 _ _ (e4 _ _ (f3.1 _ _ hm2 (by simpa using nmg))) (by simpa using nrm.symm)
  have hg4 := f4.1 _ _ (e4 _ _ hg3) (by simpa using nrg.symm)
  have hd4 := f4.1 _ _ (e4 _ _ (f3.1 _ _ (f2.1 _ _ (f1.1 _ _ hd (by simpa using ntd.symm)) (by simpa using nmd.symm)) (by simpa using ngd.symm))) (by simpa using nrd.symm)
  refine hq H4 [r, s4, t, m, g, d] ⟨k, s4, t, m, g, d, rfl, ⟨dx, hi4⟩, fa.2 _ _ hk, f4.1 _ _ hs4 (by simpa using nsr), ht4, hm4, ⟨vg, hg4, Paired.mapP pg fun _ _ q => q.fr fa⟩, ⟨vd, hd4, Paired.mapP pd fun _ _ q => q.fr fa⟩, ?_⟩ fa ?_
  · have a1 := ne_of_none' n0 ht
    have a2 := ne_of_none' n0 hm
    have a3 := ne_of_none' n0 hg
    have a4 := ne_of_none' n0 hd
    simp [nsr.symm, a1, a2, a3, a4, nrt, nrm, nrg, nrd, ntm, ntg, ntd, nmg, nmd, ngd]
  · intro c hc
    simp only [List.mem_cons, List.not_mem_nil, or_false] at hc
    rcases hc with rfl | rfl | rfl | rfl | rfl | rfl
    · exact .inl (by simp)
    · exact .inr n0
    · exact .inl (by simp)
    · exact .inl (by simp)
    · exact .inl (by simp)
    · exact .inl (by simp))
end
section
variable {X : Cx} {W : WX} {k : Nat} {e o : Expr} {es : List Expr} {ta : TA} {to : TE} {p pos apos : Pos} {pl : Sem Bool}
theorem c_Row_take {K : PySem.W.Frag} (B : Bx X W k) (ho : PE X o to) (ha : PA X (e :: es) ta) (hK : X.K = K := by rfl) (hl : 7 ≤ k := by decide) (hst : starEach (e :: es) X.env = (false, eval e X.env) :: starEach es X.env := by rfl) (hpl : (backTo pos (starEach es X.env)).any (·.1) = false := by rfl)
    (ht : eval (.Call (.Attribute o "take" apos) (e :: es) [] pos) X.env = (do
      let ov ← eval o X.env
      standAt apos.atName
      let (f, first) ← holding [ov] (getMethod ov "take" pl)
      callWith pos f first (backTo pos (starEach (e :: es) X.env)) (backToKw pos (keywordEach [] X.env))) := by rfl) : PE X (.Call (.Attribute o "take" apos) (e :: es) [] pos) (tMth (He.ga K "Row") "take" (spTake K) W to ta) := by
  subst hK
  exact k_mth B.wx.toTx.c_Row B.wx.toTx.m_Row_take (w_Row_take B.wx) (B.rm.mono hl) B.hx ho ha hst hpl ht
theorem c_Row_put_back {K : PySem.W.Frag} (B : Bx X W k) (ho : PE X o to) (hK : X.K = K := by rfl) (hl : 3 ≤ k := by decide)
    (ht : eval (.Call (.Attribute o "_put_back" apos) [] [] pos) X.env = (do
      let ov ← eval o X.env
      standAt apos.atName
      let (f, first) ← holding [ov] (getMethod ov "_put_back" pl)
      callWith pos f first (backTo pos (starEach [] X.env)) (backToKw pos (keywordEach [] X.env))) := by rfl) : PE X (.Call (.Attribute o "_put_back" apos) [] [] pos) (tMth (He.ga K "Row") "_put_back" (spPut K) W to tNil) := by
  subst hK
  exact k_mth0 B.wx.toTx.c_Row B.wx.toTx.m_Row_put_back (w_Row_put_back B.wx) (B.rm.mono hl) B.hx ho ht
end
section
variable {P : Program} {w : World} {K : PySem.W.Frag} {mg : Str → Option Value} {base : Heap}
theorem sc_Row_grow : FnScope ["self", "kind", "bead"] ["self", "kind"] xRow_grow.scope := ⟨rfl, rfl, rfl, by decide +kernel, rfl, by decide +kernel, by decide +kernel⟩
theorem w_Row_grow (T : Wx P K mg) : FnR P w K mg base (L2N.CX P w) 3 (He.ma K (He.ga K "Row") "grow") (spGrow K) :=
  mkR 2 T T.toTx.d_Row_grow sc_Row_grow (by rintro vs H Q E ⟨_, _, _, _, _, rfl, _⟩; rfl) (fun _ _ _ _ _ _ us hl => match us, hl with | [_, _], _ => rfl) (fun cdv A outer s H vs Q E B hsp => by
  obtain ⟨r, R, X, N, kd, rfl, hR, ok, hz, hmo, hq⟩ := hsp
  refine ⟨_, (pss_cons (ps_if (PW.pt (pw_or (pt_cmpR op_lt (pv 1) pe_int (nomark _)) (pw_or1 (pt_cmpR op_gt (pv 1) (gv_TOP_KIND B) (nomark _))))) (pss_one (r_BadKind B.rs (by rfl) (pa_cons (pv 1) pa_nil))) pss_nil)
    (pss_cons (ps_if (pt_cmpR op_ge (pe_callB (call_lenK K) (by rfl) B.wx.toTx.f_len b_len (pa_cons (pe_fldK K (pv 0) rfl) pa_nil)) (gv_MOST B) (nomark _)) (pss_one (r_RowFull B.rs (by rfl))) pss_nil)
    (pss_cons (st_set (i := 2) sc_Row_grow.nd (pe_callB (call_lenK K) (by rfl) B.wx.toTx.f_len b_len (pa_cons (pe_fldK K (pv 0) rfl) pa_nil)))
    (pss_cons (ps_expr (pe_bmK K PySem.F.plainAttrs_list PySem.F.slot_list_append PySem.F.type_list_append mt_append (pe_fldK K (pv 0) rfl) (pa_cons (pe_tup (pa_cons (pe_op op_sub (pv 2) pe_int) (pa_cons (pv 2) pa_nil))) pa_nil)))
    (pss_cons (ps_fld (pv 0) (pe_op (o_addK K) (pe_fldK K (pv 0) rfl) (pe_tup (pa_cons (pv 1) pa_nil))) rfl)
    (pss_cons (ps_fld (pv 0) (pe_op (o_addK K) (pe_fldK K (pv 0) rfl) (pe_lst (pa_cons (pv 2) pa_nil))) rfl)
    (pss_cons (ps_expr (pe_bmK K PySem.F.plainAttrs_list PySem.F.slot_list_append PySem.F.type_list_append mt_append (pe_fldK K (pv 0) rfl) (pa_cons (pe_tup (pa_cons pe_str (pa_cons (pv 2) pa_nil))) pa_nil)))
    (pss_one (ps_ret (pv 2)))))))))), ?_⟩
  obtain ⟨k, s, t, m, g, d, rfl, ⟨dx, hi⟩, hk, hs, ht, hm, ⟨vg, hg, pg⟩, ⟨vd, hd, pd⟩, nd⟩ := id hR
  obtain ⟨nrs, nrt, nrm, nrg, nrd, nst, nsm, nsg, nsd, ntm, ntg, ntd, nmg, nmd, ngd⟩ := nd6 nd
  have lG := ok.lenG
  have lS := ok.lenS
  have lD := ok.lenD
  have k24 := ok.k24
  have k2 := ok.k2
  have lg : vg.length = R.meets.length := Paired.length pg
  have ld : vd.length = R.deeds.length := Paired.length pd
  have lkm : (R.kinds.map V.int).length = R.kinds.length := List.length_map ..
  refine qwh (b := decide (kd < 0) || decide (999 < kd)) (a_or (a_test fun Q q => by walk_at "go"; exact q) fun _ => a_test fun Q q => by walk_at "go"; exact q) (fun h => ?_) (fun h => ?_)
  · have h1 : kd < 0 ∨ 999 < kd := by simpa using h
    exact ⟨_, rfl, rfl, fun d hd => hmo (by omega) _ _ _ T.toTx.e_BadKind (Ex.new hd)⟩
  have h1 : ¬ (kd < 0 ∨ 999 < kd) := by simpa using h
  refine qwh (b := decide (24 ≤ (R.kinds.length : Int))) (a_test fun Q q => ?_) (fun h => ?_) (fun h => ?_)
  · refine ⟨_, rfl, r, _, _, _, _, rfl, hi, T.toTx.c_Row, T.toTx.n_Row_kinds, rfl, _, _, rfl, .inr ⟨_, st_of hk, rfl⟩, _, _, rfl, rfl, ?_⟩
    rw [lkm]
    exact q
  · exact hmo (by have := of_decide_eq_true h; omega) _ _ _ T.toTx.e_RowFull (Ex.refl H)
  have h2 : ¬ 24 ≤ (R.kinds.length : Int) := of_decide_eq_false h
  refine ⟨_, rfl, r, _, _, _, _, rfl, hi, T.toTx.c_Row, T.toTx.n_Row_kinds, rfl, _, _, rfl, .inr ⟨_, st_of hk, rfl⟩, ?_⟩
  rw [lkm]
  walk_at "st"
  refine qapp rfl hi T.toTx.c_Row T.toTx.n_Row_meetings rfl hg (by omega) (NewT H [.int ((R.kinds.length : Int) - 1), .int R.kinds.length]) (fun Q q => ⟨_, rfl, _, _, rfl, rfl, _, rfl, by walk_at "le", fun p hp => q _ _ (Ex.new hp) ⟨p, rfl, hp, upd_same⟩⟩) ?_
  rintro _ H1' H1 e1 ⟨p1, rfl, hp1, hp11⟩ hg1 f1 nb1
  have hi1 := f1.1 _ _ (e1 _ _ hi) (by simpa using nrg)
  have hk1 := f1.2 _ _ (e1 _ _ hk)
  have hs1 := f1.1 _ _ (e1 _ _ hs) (by simpa using nsg)
  refine qsf rfl hi1 T.toTx.c_Row T.toTx.n_Row_kinds (by walk_at "ln") (NewT H1 ((R.kinds ++ [kd]).map V.int)) (fun Q q => ?_) ?_
  · refine ⟨_, rfl, r, _, _, _, _, rfl, hi1, T.toTx.c_Row, T.toTx.n_Row_kinds, rfl, _, rfl, by walk_at "le", fun p hp => ?_⟩
    have nkp : k ≠ p := ne_of_none hk1 hp
    refine .inr (.inr (.inr ⟨k, p, _, _, rfl, rfl, st_of ((upd_ne nkp).trans hk1), st_of upd_same, ?_, ?_, fun z => (by cases z), fun _ p2 hp2 => q _ _ ((Ex.new hp).trans (Ex.new hp2)) ⟨p2, rfl, un_upd hp2, ?_⟩⟩))
    · intro z
      have := congrArg List.length z
      rw [lkm] at this
      have z2 : R.kinds.length = 0 := this
      omega
    · rw [lkm]
      show R.kinds.length + 1 ≤ sizeLine
      exact sz_of (by omega)
    · rw [upd_same, List.map_append]
      rfl
  rintro _ H2' H2 e2 ⟨k2a, rfl, hk2, hk22⟩ hi2 f2 nb2
  have hs2 := f2.1 _ _ (e2 _ _ hs1) (by simpa using nrs.symm)
  refine qsf rfl hi2 T.toTx.c_Row T.toTx.n_Row_standing (by walk_at "ln") (NewL H2 ((R.stand ++ [(R.kinds.length : Int)]).map V.int)) (fun Q q => ?_) ?_
  · refine ⟨_, rfl, r, _, _, _, _, rfl, hi2, T.toTx.c_Row, T.toTx.n_Row_standing, rfl, _, rfl, by walk_at "le", fun p hp => ?_⟩
    have nsp : s ≠ p := ne_of_none hs2 hp
    refine .inr (.inr (.inl ⟨s, p, _, _, rfl, rfl, (upd_ne nsp).trans hs2, upd_same, ?_, fun p2 hp2 => q _ _ ((Ex.new hp).trans (Ex.new hp2)) ⟨p2, rfl, un_upd hp2, ?_⟩⟩))
    · rw [List.length_map]
      show R.stand.length + 1 ≤ sizeLine
      exact sz_of (by omega)
    · rw [upd_same, List.map_append]
      rfl
  rintro _ H3' H3 e3 ⟨s3, rfl, hs3, hs33⟩ hi3 f3 nb3
  have n0 : H s3 = none := nb1 _ (nb2 _ hs3)
  have nsr : s3 ≠ r := ne_of_none' n0 hi
  have hd3 := f3.1 _ _ (e3 _ _ (f2.1 _ _ (e2 _ _ (f1.1 _ _ (e1 _ _ hd) (by simpa using ngd.symm))) (by simpa using nrd.symm))) (by simpa using nrd.symm)
  have hs3b := f3.1 _ _ hs33 (by simpa using nsr)
  have hk3 := f3.2 _ _ (e3 _ _ (f2.2 _ _ hk22))
  have hg3 := f3.1 _ _ (e3 _ _ (f2.1 _ _ (e2 _ _ hg1) (by simpa using nrg.symm))) (by simpa using nrg.symm)
  have ht3 := f3.1 _ _ (e3 _ _ (f2.1 _ _ (e2 _ _ (f1.1 _ _ (e1 _ _ ht) (by simpa using ntg))) (by simpa using nrt.symm))) (by simpa using nrt.symm)
  have hm3 := f3.1 _ _ (e3 _ _ (f2.1 _ _ (e2 _ _ (f1.1 _ _ (e1 _ _ hm) (by simpa using nmg))) (by simpa using nrm.symm))) (by simpa using nrm.symm)
  have hp3 := f3.2 _ _ (e3 _ _ (f2.2 _ _ (e2 _ _ (f1.2 _ _ hp11))))
  have a1 := ne_of_none' n0 ht
  have a2 := ne_of_none' n0 hm
  have a3 := ne_of_none' n0 hg
  have a4 := ne_of_none' n0 hd
  refine qapp rfl hi3 T.toTx.c_Row T.toTx.n_Row_deeds rfl hd3 (by omega) (NewT H3 [.str "grow", .int R.kinds.length]) (fun Q q => ⟨_, rfl, by walk_at "le", fun p hp => q _ _ (Ex.new hp) ⟨p, rfl, hp, upd_same⟩⟩) ?_
  rintro _ H4' H4 e4 ⟨p4, rfl, hp4, hp44⟩ hd4 f4 nb4
  have f3a : Fr [r, s, t, m, g, d] H H3 := Fr.same (Fr.ex e1) <| Fr.same (f1.mono (by simp)) <| Fr.same (Fr.ex e2) <| Fr.same (f2.mono (by simp)) <| Fr.same (Fr.ex e3) (f3.mono (by simp))
  have fa : Fr [r, s, t, m, g, d] H H4 := Fr.same f3a <| Fr.same (Fr.ex e4) (f4.mono (by simp))
  have hX : RowX K H4 r (R.grow kd) [r, s3, t, m, g, d] := by
    refine ⟨k2a, s3, t, m, g, d, rfl, ⟨dx, f4.1 _ _ (e4 _ _ hi3) (by simpa using nrd)⟩, f4.2 _ _ (e4 _ _ hk3), f4.1 _ _ (e4 _ _ hs3b) (by simpa using a4), f4.1 _ _ (e4 _ _ ht3) (by simpa using ntd), f4.1 _ _ (e4 _ _ hm3) (by simpa using nmd), ⟨vg ++ [.ref p1], f4.1 _ _ (e4 _ _ hg3) (by simpa using ngd), ?_⟩, ⟨vd ++ [.ref p4], hd4, ?_⟩, ?_⟩
    · exact pr_app (Paired.mapP pg fun _ _ q => q.fr fa) (pr_one ⟨p1, rfl, f4.2 _ _ (e4 _ _ hp3)⟩)
    · exact pr_app (Paired.mapP pd fun _ _ q => q.fr fa) (pr_one ⟨p4, rfl, f4.2 _ _ hp44⟩)
    · simp [nsr.symm, a1, a2, a3, a4, nrt, nrm, nrg, nrd, ntm, ntg, ntd, nmg, nmd, ngd]
  refine ⟨_, rfl, hq (by omega) H4 _ hX fa ?_⟩
  intro c hc
  simp only [List.mem_cons, List.not_mem_nil, or_false] at hc
  rcases hc with rfl | rfl | rfl | rfl | rfl | rfl
  · exact .inl (by simp)
  · exact .inr n0
  · exact .inl (by simp)
  · exact .inl (by simp)
  · exact .inl (by simp)
  · exact .inl (by simp))
end
theorem cut_init {xs : List V} {v : V} : cutV (xs ++ [v]) none (some (-1)) = xs := by
  unfold cutV
  have e : HT.sIx (xs ++ [v]).length (xs ++ [v]).length (some (-1)) = xs.length := by
    unfold HT.sIx
    rw [List.length_append]
    show (if (-1 : Int) < 0 then ((-1 : Int) + ((xs.length + 1 : Nat) : Int)).toNat else _) = _
    rw [if_pos (by decide)]
    omega
  rw [e]
  show ((xs ++ [v]).drop 0).take (xs.length - 0) = xs
  rw [List.drop_zero, Nat.sub_zero, List.take_left']
  rfl
theorem RowX.ex {K : PySem.W.Frag} {H H' : Hp} {r : Addr} {R : RowD} {X : List Addr} (h : RowX K H r R X) (e : Ex H H') : RowX K H' r R X := h.fr (Fr.ex (X := []) e) (by simp)
section
variable {X : Cx} {W : WX} {k : Nat} {e o : Expr} {es : List Expr} {ta : TA} {to : TE} {p pos apos : Pos} {pl : Sem Bool}
theorem c_Row_grow {K : PySem.W.Frag} (B : Bx X W k) (ho : PE X o to) (ha : PA X (e :: es) ta) (hK : X.K = K := by rfl) (hl : 3 ≤ k := by decide) (hst : starEach (e :: es) X.env = (false, eval e X.env) :: starEach es X.env := by rfl) (hpl : (backTo pos (starEach es X.env)).any (·.1) = false := by rfl)
    (ht : eval (.Call (.Attribute o "grow" apos) (e :: es) [] pos) X.env = (do
      let ov ← eval o X.env
      standAt apos.atName
      let (f, first) ← holding [ov] (getMethod ov "grow" pl)
      callWith pos f first (backTo pos (starEach (e :: es) X.env)) (backToKw pos (keywordEach [] X.env))) := by rfl) : PE X (.Call (.Attribute o "grow" apos) (e :: es) [] pos) (tMth (He.ga K "Row") "grow" (spGrow K) W to ta) := by
  subst hK
  exact k_mth B.wx.toTx.c_Row B.wx.toTx.m_Row_grow (w_Row_grow B.wx) (B.rm.mono hl) B.hx ho ha hst hpl ht
end
section
variable {P : Program} {w : World} {K : PySem.W.Frag} {mg : Str → Option Value} {base : Heap}
theorem sc_Row_undo : FnScope ["self", "word", "what", "_"] ["self"] xRow_undo.scope := ⟨rfl, rfl, rfl, by decide +kernel, rfl, by decide +kernel, by decide +kernel⟩
theorem w_Row_undo (T : Wx P K mg) : FnR P w K mg base (L2N.CX P w) 4 (He.ma K (He.ga K "Row") "undo") (spUndoR K) :=
  mkR 3 T T.toTx.d_Row_undo sc_Row_undo (by rintro vs H Q E ⟨_, _, _, _, _, rfl, _⟩; rfl) (fun _ _ _ _ _ _ us hl => match us, hl with | [_], _ => rfl) (fun cdv A outer s H vs Q E B hsp => by
  obtain ⟨r, R, R1, X, N, rfl, hR, ok, hz, hc, hq⟩ := hsp
  refine ⟨_, (pss_cons (ps_if (pt_cmpR (o_eqK K B.hu64) (pe_callB (call_lenK K) (by rfl) B.wx.toTx.f_len b_len (pa_cons (pe_fldK K (pv 0) rfl) pa_nil)) pe_int (nomark _)) (pss_one (r_NothingToUndo B.rs (by rfl))) pss_nil)
    (pss_cons (ps_asg (pe_bm0 PySem.F.plainAttrs_list PySem.F.slot_list_pop PySem.F.type_list_pop mt_pop (pe_fldK K (pv 0) rfl)) (pg_tup B.calm (pgs_cons (pg_name (i := 1) sc_Row_undo.nd rfl (by first | exact .inl rfl | exact .inr rfl)) (pgs_cons (pg_name (i := 2) sc_Row_undo.nd rfl (by first | exact .inl rfl | exact .inr rfl)) pgs_nil))))
    (pss_cons (ps_if (pt_cmpR (o_eqK K B.hu64) (pv 1) pe_str (nomark _)) (pss_cons (ps_expr (pe_bm0 PySem.F.plainAttrs_list PySem.F.slot_list_pop PySem.F.type_list_pop mt_pop (pe_fldK K (pv 0) rfl)))
    (pss_cons (ps_fld (pv 0) (pe_slice sl_any (pe_fldK K (pv 0) rfl) po_none (po_some (pe_un un_neg pe_int))) rfl)
    (pss_cons (ps_fld (pv 0) (pe_slice sl_any (pe_fldK K (pv 0) rfl) po_none (po_some (pe_un un_neg pe_int))) rfl)
    (pss_one (ps_ret (pe_tup (pa_cons (pv 1) (pa_cons (pv 2) pa_nil)))))))) pss_nil)
    (pss_cons (ps_if (pt_cmpR (o_eqK K B.hu64) (pv 1) pe_str (nomark _)) (pss_cons (ps_expr (c_Row_put_back (K := K) B (pv 0)))
    (pss_one (ps_ret (pe_tup (pa_cons (pv 1) (pa_cons (pv 2) pa_nil)))))) pss_nil)
    (pss_cons (ps_for (L2.passes_of rfl) B.calm (pi_list (pv 2)) (pg_name (i := 3) sc_Row_undo.nd rfl (by first | exact .inl rfl | exact .inr rfl)) (pss_one (ps_expr (c_Row_put_back (K := K) B (pv 0)))))
    (pss_one (ps_ret (pe_tup (pa_cons (pv 1) (pa_cons (pe_callTy call_list_of (by rfl) B.wx.toTx.f_list b_list (pa_cons (pv 2) pa_nil)) pa_nil)))))))))), ?_⟩
  have k24 := ok.k24
  have k2 := ok.k2
  have lD := ok.lenD
  rcases hc with ⟨b, hb, rfl⟩ | ⟨kd, rfl⟩
  · obtain ⟨k, s, t, m, g, d, rfl, ⟨dx, hi⟩, hk, hs, ht, hm, ⟨vg0, hg, pg0⟩, ⟨vd0, hd, pd0⟩, nd⟩ := id hR
    obtain ⟨nrs, nrt, nrm, nrg, nrd, nst, nsm, nsg, nsd, ntm, ntg, ntd, nmg, nmd, ngd⟩ := nd6 nd
    obtain ⟨vd, v, rfl, pd, t0, rfl, ht0⟩ := pr_snoc (show Paired (DeedV H) vd0 (R.deeds ++ [(true, b)]) from pd0)
    refine qwh (b := false) (a_test fun Q q => ?_) (fun z => by cases z) (fun _ => ?_)
    · refine ⟨_, rfl, r, _, _, _, _, rfl, hi, T.toTx.c_Row, T.toTx.n_Row_deeds, rfl, _, _, rfl, .inl ⟨_, sq_of hd, rfl⟩, .inl ⟨rfl, ?_⟩⟩
      have e : decide (V.int ((vd ++ [V.ref t0]).length : Nat) = V.int 0) = false := by
        rw [dcI, List.length_append]
        exact decide_eq_false (by simp; omega)
      rw [e]
      exact q
    refine qpop rfl hi T.toTx.c_Row T.toTx.n_Row_deeds rfl hd fun H1 hd1 f1 nb1 => ?_
    refine ⟨t0, _, rfl, st_of (f1.2 _ _ ht0), rfl, _, _, rfl, _, _, rfl, rfl, ?_⟩
    walk_at "st"
    refine qwh (b := false) (a_test fun Q q => by walk_at "go"; exact q) (fun z => by cases z) (fun _ => ?_)
    refine qwh (b := true) (a_test fun Q q => by walk_at "go"; exact q) (fun _ => ?_) (fun z => by cases z)
    have f1a : Fr [r, s, t, m, g, d] H H1 := f1.mono (by simp)
    have hR1 : RowX K H1 r { R.take b with deeds := R.deeds } [r, s, t, m, g, d] :=
      ⟨k, s, t, m, g, d, rfl, ⟨dx, f1.1 _ _ hi (by simpa using nrd)⟩, f1.2 _ _ hk, f1.1 _ _ hs (by simpa using nsd), f1.1 _ _ ht (by simpa using ntd), f1.1 _ _ hm (by simpa using nmd), ⟨vg0, f1.1 _ _ hg (by simpa using ngd), Paired.mapP pg0 fun _ _ q => q.fr f1⟩, ⟨vd, hd1, Paired.mapP pd fun _ _ q => q.fr f1⟩, nd⟩
    have hi1 := f1.1 _ _ hi (by simpa using nrd)
    refine ⟨_, rfl, r, _, _, rfl, hi1, rfl, r, R, _, N, b, R.deeds, rfl, hR1, ok, hz, by omega, hb, fun H2 X2 hR2 f2 nw2 => ?_⟩
    refine ⟨_, rfl, _, rfl, by walk_at "le", fun p hp => ?_⟩
    refine hq _ X2 (hR2.ex (Ex.new hp)) ((f1a.same f2).same (Fr.ex (Ex.new hp))) (Nw.trans Nw.refl (fun b hb => ?_) nb1) _
    exact nw2 b hb
  · obtain ⟨k, s, t, m, g, d, rfl, ⟨dx, hi⟩, hk, hs, ht, hm, ⟨vg0, hg, pg0⟩, ⟨vd0, hd, pd0⟩, nd⟩ := id hR
    obtain ⟨nrs, nrt, nrm, nrg, nrd, nst, nsm, nsg, nsd, ntm, ntg, ntd, nmg, nmd, ngd⟩ := nd6 nd
    obtain ⟨vd, v, rfl, pd, t0, rfl, ht0⟩ := pr_snoc (show Paired (DeedV H) vd0 (R.deeds ++ [(false, (R.kinds.length : Int))]) from pd0)
    obtain ⟨vg, vm, rfl, pg, hvm⟩ := pr_snoc (show Paired (MeetV H) vg0 (R.meets ++ [((R.kinds.length : Int) - 1, (R.kinds.length : Int))]) from pg0)
    refine qwh (b := false) (a_test fun Q q => ?_) (fun z => by cases z) (fun _ => ?_)
    · refine ⟨_, rfl, r, _, _, _, _, rfl, hi, T.toTx.c_Row, T.toTx.n_Row_deeds, rfl, _, _, rfl, .inl ⟨_, sq_of hd, rfl⟩, .inl ⟨rfl, ?_⟩⟩
      have e : decide (V.int ((vd ++ [V.ref t0]).length : Nat) = V.int 0) = false := by
        rw [dcI, List.length_append]
        exact decide_eq_false (by simp; omega)
      rw [e]
      exact q
    refine qpop rfl hi T.toTx.c_Row T.toTx.n_Row_deeds rfl hd fun H1 hd1 f1 nb1 => ?_
    refine ⟨t0, _, rfl, st_of (f1.2 _ _ ht0), rfl, _, _, rfl, _, _, rfl, rfl, ?_⟩
    walk_at "st"
    refine qwh (b := true) (a_test fun Q q => by walk_at "go"; exact q) (fun _ => ?_) (fun z => by cases z)
    have hi1 := f1.1 _ _ hi (by simpa using nrd)
    have hg1 := f1.1 _ _ hg (by simpa using ngd)
    refine qpopD rfl hi1 T.toTx.c_Row T.toTx.n_Row_meetings rfl hg1 fun H2 hg2 f2 nb2 => ?_
    have hi2 := f2.1 _ _ hi1 (by simpa using nrg)
    have hk2 : H2 k = some (.tup (R.kinds.map V.int ++ [.int kd])) := by
      refine (f2.2 _ _ (f1.2 _ _ hk)).trans ?_
      show some (HO.tup ((R.kinds ++ [kd]).map V.int)) = _
      rw [List.map_append]
      rfl
    have hs2 : H2 s = some (.lst (R.stand.map V.int ++ [.int R.kinds.length])) := by
      refine (f2.1 _ _ (f1.1 _ _ hs (by simpa using nsd)) (by simpa using nsg)).trans ?_
      show some (HO.lst ((R.stand ++ [(R.kinds.length : Int)]).map V.int)) = _
      rw [List.map_append]
      rfl
    refine qsf rfl hi2 T.toTx.c_Row T.toTx.n_Row_kinds (by walk_at "ln") (NewT H2 (R.kinds.map V.int)) (fun Q q => ?_) ?_
    · refine ⟨_, rfl, r, _, _, _, _, rfl, hi2, T.toTx.c_Row, T.toTx.n_Row_kinds, rfl, _, rfl, _, rfl, .inr (.inl ⟨k, _, rfl, st_of hk2, ?_, fun p hp => ?_⟩)⟩
      · rintro ⟨_, z⟩
        have z2 : ((-1 : Int) + (((R.kinds.map V.int ++ [V.int kd]).length : Nat) : Int)).toNat = (R.kinds.map V.int ++ [V.int kd]).length := z
        rw [List.length_append] at z2
        have z3 : ([V.int kd]).length = 1 := rfl
        omega
      · have e : cutV (R.kinds.map V.int ++ [V.int kd]) none (some (-1)) = R.kinds.map V.int := cut_init
        refine q _ _ (Ex.new hp) ⟨p, rfl, hp, ?_⟩
        rw [upd_same]
        exact congrArg (fun z => some (HO.tup z)) e
    rintro _ H3' H3 e3 ⟨k3, rfl, hk3, hk33⟩ hi3 f3 nb3
    have hs3 := f3.1 _ _ (e3 _ _ hs2) (by simpa using nrs.symm)
    refine qsf rfl hi3 T.toTx.c_Row T.toTx.n_Row_standing (by walk_at "ln") (NewL H3 (R.stand.map V.int)) (fun Q q => ?_) ?_
    · refine ⟨_, rfl, r, _, _, _, _, rfl, hi3, T.toTx.c_Row, T.toTx.n_Row_standing, rfl, _, rfl, _, rfl, .inl ⟨s, _, rfl, sq_of hs3, fun p hp => ?_⟩⟩
      have e : cutV (R.stand.map V.int ++ [V.int R.kinds.length]) none (some (-1)) = R.stand.map V.int := cut_init
      refine q _ _ (Ex.new hp) ⟨p, rfl, hp, ?_⟩
      rw [upd_same]
      exact congrArg (fun z => some (HO.lst z)) e
    rintro _ H4' H4 e4 ⟨s4, rfl, hs4, hs44⟩ hi4 f4 nb4
    have n0 : H s4 = none := nb1 _ (nb2 _ (nb3 _ hs4))
    have nsr : s4 ≠ r := ne_of_none' n0 hi
    have a1 := ne_of_none' n0 ht
    have a2 := ne_of_none' n0 hm
    have a3 := ne_of_none' n0 hg
    have a4 := ne_of_none' n0 hd
    have ht4 := f4.1 _ _ (e4 _ _ (f3.1 _ _ (e3 _ _ (f2.1 _ _ (f1.1 _ _ ht (by simpa using ntd)) (by simpa using ntg))) (by simpa using nrt.symm))) (by simpa using nrt.symm)
    have hm4 := f4.1 _ _ (e4 _ _ (f3.1 _ _ (e3 _ _ (f2.1 _ _ (f1.1 _ _ hm (by simpa using nmd)) (by simpa using nmg))) (by simpa using nrm.symm))) (by simpa using nrm.symm)
    have hg4 := f4.1 _ _ (e4 _ _ (f3.1 _ _ (e3 _ _ hg2) (by simpa using nrg.symm))) (by simpa using nrg.symm)
    have hd4 := f4.1 _ _ (e4 _ _ (f3.1 _ _ (e3 _ _ (f2.1 _ _ hd1 (by simpa using ngd.symm))) (by simpa using nrd.symm))) (by simpa using nrd.symm)
    have fa : Fr [r, s, t, m, g, d] H H4 := Fr.same (f1.mono (by simp)) <| Fr.same (f2.mono (by simp)) <| Fr.same (Fr.ex e3) <| Fr.same (f3.mono (by simp)) <| Fr.same (Fr.ex e4) (f4.mono (by simp))
    have hX : RowX K H4 r R [r, s4, t, m, g, d] := by
      refine ⟨k3, s4, t, m, g, d, rfl, ⟨dx, hi4⟩, f4.2 _ _ (e4 _ _ (f3.2 _ _ hk33)), f4.1 _ _ hs44 (by simpa using nsr), ht4, hm4, ⟨vg, hg4, Paired.mapP pg fun _ _ q => q.fr fa⟩, ⟨vd, hd4, Paired.mapP pd fun _ _ q => q.fr fa⟩, ?_⟩
      simp [nsr.symm, a1, a2, a3, a4, nrt, nrm, nrg, nrd, ntm, ntg, ntd, nmg, nmd, ngd]
    refine ⟨_, rfl, _, rfl, by walk_at "le", fun p hp => ?_⟩
    refine hq _ _ (hX.ex (Ex.new hp)) (fa.same (Fr.ex (Ex.new hp))) ?_ _
    intro c hc
    simp only [List.mem_cons, List.not_mem_nil, or_false] at hc
    rcases hc with rfl | rfl | rfl | rfl | rfl | rfl
    · exact .inl (by simp)
    · exact .inr n0
    · exact .inl (by simp)
    · exact .inl (by simp)
    · exact .inl (by simp)
    · exact .inl (by simp))
end
end Bm
set_option Elab.async false
set_option linter.all false
set_option maxRecDepth 10000
set_option maxHeartbeats 400000
set_option pp.deepTerms false
set_option pp.maxSteps 1500
set_option maxErrors 6
/-! Walks: rows told, desks told. -/
namespace Bm
open PySem PySem.Spec PyProof.Rows L2 Evl TL RZ
local macro_rules | `(tactic| walk_at "sz") => `(tactic| first | assumption | (refine sz_of ?_; omega) | (refine sz_lt ?_; omega))
local macro_rules | `(tactic| walk_at "ne") => `(tactic| first | assumption | (refine Ne.symm ?_; assumption) | exact ne_new (by assumption) (by walk_at "hp") | exact Ne.symm (ne_new (by assumption) (by walk_at "hp")))
local macro_rules | `(tactic| walk_at "hp") => `(tactic| first | assumption | exact upd_same | (refine (upd_ne (by walk_at "ne")).trans ?_; walk_at "hp") | (refine Ex.at_ (by assumption) ?_; walk_at "hp"))
local macro_rules | `(tactic| walk_at "sq") => `(tactic| first | assumption | (refine sq_of ?_; walk_at "hp") | (refine st_of ?_; walk_at "hp") | (refine ex_l (by assumption) ?_; walk_at "sq") | (refine ex_t (by assumption) ?_; walk_at "sq"))
local macro_rules | `(tactic| walk_at "sd") => `(tactic| first | exact (show (0 : Int) < _ from by omega) | exact (show (0 : Int) < _ ∧ _ < (1073741824 : Int) from ⟨by omega, by omega⟩) | exact (show CPow _ _ from ⟨by decide, by decide, by decide⟩) | exact (show CMul _ _ from .inl ⟨by omega, by omega⟩) | exact (show CMul _ _ from .inr ⟨by omega, by omega⟩))
local macro_rules | `(tactic| walk_at "g1") => `(tactic| first
  | refine ⟨_, rfl, ?_⟩
  | refine ⟨_, _, rfl, rfl, ?_⟩
  | refine .inl ⟨_, _, rfl, rfl, ?_⟩
  | refine .inl ⟨rfl, ?_⟩
  | refine .inl (.inl ⟨_, rfl, ?_⟩)
  | (refine ⟨_, _, rfl, ⟨?_, rfl⟩, ?_⟩; (walk_at "sz"))
  | refine ⟨(by walk_at "sd"), ?_⟩)
local macro_rules | `(tactic| walk_at "go") => `(tactic| repeat walk_at "g1")
local macro_rules | `(tactic| walk_at "st") => `(tactic| dsimp only [gName])
local macro_rules | `(tactic| walk_at "ln") => `(tactic| first | exact (show 0 < 1000 from by decide) | exact (show 1 < 1000 from by decide) | exact (show 2 < 1000 from by decide) | exact (show 3 < 1000 from by decide) | exact (show 4 < 1000 from by decide) | exact (show 5 < 1000 from by decide) | exact (show 6 < 1000 from by decide) | exact (show 7 < 1000 from by decide))
local macro_rules | `(tactic| walk_at "le") => `(tactic| first | exact (show 0 ≤ sizeLine from by decide) | exact (show 1 ≤ sizeLine from by decide) | exact (show 2 ≤ sizeLine from by decide) | exact (show 3 ≤ sizeLine from by decide) | exact (show 4 ≤ sizeLine from by decide) | exact (show 5 ≤ sizeLine from by decide) | exact (show 6 ≤ sizeLine from by decide) | exact (show 7 ≤ sizeLine from by decide) | exact (show 8 ≤ sizeLine from by decide))
local macro_rules | `(tactic| walk_at "nt") => `(tactic| first | exact nt_ins | exact nt_lst | exact nt_dK)
local macro_rules | `(tactic| walk_at "fr") => `(tactic| first | assumption | exact Fr.refl | exact Fr.ex (by assumption) | (refine Fr.put ?_ (by walk_at "hp") (by walk_at "nt") (by simp); walk_at "fr") | (refine Fr.new ?_ (by assumption); walk_at "fr"))
theorem badStrand_of {R : RowD} {N : Nat} (ok : RowOk R N) : badStrand R.kinds = false := by
  unfold badStrand
  have h1 := ok.k2
  have h2 := ok.k24
  rw [decide_eq_false (by omega), Bool.false_or, List.any_eq_false]
  intro k hk
  have := ok.kr k hk
  simp
  omega
theorem StrandAt.ex {K : PySem.W.Frag} {H H' : Hp} {p : Addr} {ks : List Int} (h : StrandAt K H p ks) (e : Ex H H') : StrandAt K H' p ks := by
  obtain ⟨dx, k, u, e1, v, h1, h2⟩ := h
  exact ⟨dx, k, u, e1, v, e _ _ h1, e _ _ h2⟩
def spGrown (K : PySem.W.Frag) : Sp := fun vs H Q _ => ∃ (r : Addr) (R : RowD) (X : List Addr) (N : Nat), vs = [.ref r] ∧ RowX K H r R X ∧ RowOk R N ∧ ∀ p H', H p = none → Ex H H' → StrandAt K H' p R.kinds → Q (.ref p) H'
def spTwin (K : PySem.W.Frag) : Sp := fun vs H Q _ => ∃ (r : Addr) (R : RowD) (X : List Addr) (N : Nat), vs = [.ref r] ∧ RowX K H r R X ∧ RowOk R N ∧ ∀ p H' X', H p = none → Ex H H' → RowX K H' p R X' → Q (.ref p) H'
def spMeets (K : PySem.W.Frag) : Sp := fun vs H Q _ => ∃ (r : Addr) (R : RowD) (X : List Addr), vs = [.ref r] ∧ RowX K H r R X ∧ ∀ p H' ps, H p = none → Ex H H' → H' p = some (.lst ps) → Paired (MeetV H') ps R.meets → Q (.ref p) H'
def spTally (K : PySem.W.Frag) : Sp := fun vs H Q _ => ∃ (r : Addr) (R : RowD) (X : List Addr) (N : Nat), vs = [.ref r] ∧ RowX K H r R X ∧ RowOk R N ∧ N ≤ 90000 ∧
  ∀ p H' dx t, H p = none → Ex H H' → H' p = some (.ins (cT K) dx (tlyF (cntM R.marks "quiet") (cntM R.marks "odd") (cntM R.marks "edge") (cntM R.marks "strife") t)) → H' t = some (.tup [.int (cntM R.marks "quiet"), .int (cntM R.marks "odd"), .int (cntM R.marks "edge"), .int (cntM R.marks "strife")]) → Q (.ref p) H'
section
variable {X : Cx} {W : WX} {k : Nat} {e o : Expr} {es : List Expr} {ta : TA} {to : TE} {p pos apos : Pos} {pl : Sem Bool}
theorem c_Row_undo {K : PySem.W.Frag} (B : Bx X W k) (ho : PE X o to) (hK : X.K = K := by rfl) (hl : 4 ≤ k := by decide)
    (ht : eval (.Call (.Attribute o "undo" apos) [] [] pos) X.env = (do
      let ov ← eval o X.env
      standAt apos.atName
      let (f, first) ← holding [ov] (getMethod ov "undo" pl)
      callWith pos f first (backTo pos (starEach [] X.env)) (backToKw pos (keywordEach [] X.env))) := by rfl) : PE X (.Call (.Attribute o "undo" apos) [] [] pos) (tMth (He.ga K "Row") "undo" (spUndoR K) W to tNil) := by
  subst hK
  exact k_mth0 B.wx.toTx.c_Row B.wx.toTx.m_Row_undo (w_Row_undo B.wx) (B.rm.mono hl) B.hx ho ht
theorem cn_Row {K : PySem.W.Frag} (B : Bx X W k) (ha : PA X (e :: es) ta) (hK : X.K = K := by rfl) (hl : 4 + 1 ≤ k := by decide) (hg : Gl X "Row" := by rfl) (hst : starEach (e :: es) X.env = (false, eval e X.env) :: starEach es X.env := by rfl) (hpl : (backTo pos (starEach es X.env)).any (·.1) = false := by rfl) : PE X (.Call (.Name "Row" p) (e :: es) [] pos) (tNew (He.ga K "Row") (spRowInit K) W ta) := by
  subst hK
  exact k_new B.wx.toTx.k_Row (w_Row_init B.wx) (B.rm.mono hl) B.wx.toTx.g_Row B.hx ha hg (by decide) hst hpl
end
section
variable {X : Cx} {W : WX} {k : Nat} {o : Expr} {to : TE} {pos : Pos}
theorem cp_standing {K : PySem.W.Frag} (B : Bx X W k) (ho : PE X o to) (hK : X.K = K := by rfl) (hl : 3 ≤ k := by decide) (hab : attributeBase o "standing" X.env (eval o X.env) = eval o X.env := by rfl) : PE X (.Attribute o "standing" pos) (tPrp (He.ga K "Row") (spList K (fun R => R.stand.map V.int)) to) := by
  subst hK
  exact k_prp B.wx.toTx.c_Row B.wx.toTx.p_Row_standing (w_Row_standing B.wx) (B.rm.mono hl) ((B.wx.toTx.d_Row_standing).bindsN fun _ _ _ _ _ _ us hl => match us, hl with | [_], _ => rfl) ho hab
theorem cp_taken {K : PySem.W.Frag} (B : Bx X W k) (ho : PE X o to) (hK : X.K = K := by rfl) (hl : 3 ≤ k := by decide) (hab : attributeBase o "taken" X.env (eval o X.env) = eval o X.env := by rfl) : PE X (.Attribute o "taken" pos) (tPrp (He.ga K "Row") (spList K (fun R => R.taken.map V.int)) to) := by
  subst hK
  exact k_prp B.wx.toTx.c_Row B.wx.toTx.p_Row_taken (w_Row_taken B.wx) (B.rm.mono hl) ((B.wx.toTx.d_Row_taken).bindsN fun _ _ _ _ _ _ us hl => match us, hl with | [_], _ => rfl) ho hab
end
section
variable {P : Program} {w : World} {K : PySem.W.Frag} {mg : Str → Option Value} {base : Heap}
theorem sc_Row_grown : FnScope ["self"] ["self"] xRow_grown.scope := ⟨rfl, rfl, rfl, by decide +kernel, rfl, by decide +kernel, by decide +kernel⟩
theorem w_Row_grown (T : Wx P K mg) : FnR P w K mg base (L2N.CX P w) 5 (He.ma K (He.ga K "Row") "grown") (spGrown K) :=
  mkR 4 T T.toTx.d_Row_grown sc_Row_grown (by rintro vs H Q E ⟨_, _, _, _, rfl, _⟩; rfl) (fun _ _ _ _ _ _ us hl => match us, hl with | [_], _ => rfl) (fun cdv A outer s H vs Q E B hsp => by
  obtain ⟨r, R, X, N, rfl, hR, ok, hq⟩ := hsp
  refine ⟨_, (pss_one (ps_ret (cn_Strand (K := K) B (pa_cons (pe_fldK K (pv 0) rfl) pa_nil)))), ?_⟩
  obtain ⟨k, s, t, m, g, d, rfl, ⟨dx, hi⟩, hk, hs, ht, hm, ⟨vg, hg, pg⟩, ⟨vd, hd, pd⟩, nd⟩ := id hR
  have k24 := ok.k24
  refine ⟨_, rfl, r, _, _, _, _, rfl, hi, T.toTx.c_Row, T.toTx.n_Row_kinds, rfl, fun a d ha hd n => ⟨a, d, k, R.kinds, rfl, upd_same, .inr (ex_two ha hd n _ _ hk), by omega, (fun z => by rw [badStrand_of ok] at z; cases z), fun _ H' hS f => ⟨rfl, hq a H' ha (ex_made ha hd f) hS⟩⟩⟩)
theorem sc_Row_meetings : FnScope ["self"] ["self"] xRow_meetings.scope := ⟨rfl, rfl, rfl, by decide +kernel, rfl, by decide +kernel, by decide +kernel⟩
theorem w_Row_meetings (T : Wx P K mg) : FnR P w K mg base (L2N.CX P w) 2 (He.ma K (He.ga K "Row") "meetings") (spMeets K) :=
  mkR 1 T T.toTx.d_Row_meetings sc_Row_meetings (by rintro vs H Q E ⟨_, _, _, rfl, _⟩; rfl) (fun _ _ _ _ _ _ us hl => match us, hl with | [_], _ => rfl) (fun cdv A outer s H vs Q E B hsp => by
  obtain ⟨r, R, X, rfl, hR, hq⟩ := hsp
  refine ⟨_, (pss_one (ps_ret (pe_callTy call_list_of (by rfl) B.wx.toTx.f_list b_list (pa_cons (pe_fldK K (pv 0) rfl) pa_nil)))), ?_⟩
  obtain ⟨k, s, t, m, g, d, rfl, ⟨dx, hi⟩, hk, hs, ht, hm, ⟨vg, hg, pg⟩, ⟨vd, hd, pd⟩, nd⟩ := id hR
  refine ⟨_, rfl, r, _, _, _, _, rfl, hi, T.toTx.c_Row, T.toTx.n_Row_meetings, rfl, g, _, rfl, .inl (sq_of hg), fun p hp => hq p _ _ hp (Ex.new hp) upd_same (Paired.mapP pg fun _ _ q => q.fr (X := []) (Fr.ex (Ex.new hp)))⟩)
theorem sc_Row_tally : FnScope ["self"] ["self"] xRow_tally.scope := ⟨rfl, rfl, rfl, by decide +kernel, rfl, by decide +kernel, by decide +kernel⟩
theorem w_Row_tally (T : Wx P K mg) : FnR P w K mg base (L2N.CX P w) 5 (He.ma K (He.ga K "Row") "tally") (spTally K) :=
  mkR 4 T T.toTx.d_Row_tally sc_Row_tally (by rintro vs H Q E ⟨_, _, _, _, rfl, _⟩; rfl) (fun _ _ _ _ _ _ us hl => match us, hl with | [_], _ => rfl) (fun cdv A outer s H vs Q E B hsp => by
  obtain ⟨r, R, X, N, rfl, hR, ok, hz, hq⟩ := hsp
  refine ⟨_, (pss_one (ps_ret (c_count_marks (K := K) B (pa_cons (pe_fldK K (pv 0) rfl) pa_nil)))), ?_⟩
  obtain ⟨k, s, t, m, g, d, rfl, ⟨dx, hi⟩, hk, hs, ht, hm, ⟨vg, hg, pg⟩, ⟨vd, hd, pd⟩, nd⟩ := id hR
  have lM := ok.lenM
  exact ⟨_, rfl, r, _, _, _, _, rfl, hi, T.toTx.c_Row, T.toTx.n_Row_marks, rfl, m, R.marks, rfl, sq_of hm, by omega, hq⟩)
theorem sc_Row_twin : FnScope ["self", "other"] ["self"] xRow_twin.scope := ⟨rfl, rfl, rfl, by decide +kernel, rfl, by decide +kernel, by decide +kernel⟩
theorem w_Row_twin (T : Wx P K mg) : FnR P w K mg base (L2N.CX P w) 6 (He.ma K (He.ga K "Row") "twin") (spTwin K) :=
  mkR 5 T T.toTx.d_Row_twin sc_Row_twin (by rintro vs H Q E ⟨_, _, _, _, rfl, _⟩; rfl) (fun _ _ _ _ _ _ us hl => match us, hl with | [_], _ => rfl) (fun cdv A outer s H vs Q E B hsp => by
  obtain ⟨r, R, X, N, rfl, hR, ok, hq⟩ := hsp
  refine ⟨_, (pss_cons (st_set (i := 1) sc_Row_twin.nd (cn_Row (K := K) B (pa_cons (cn_Strand (K := K) B (pa_cons (pe_fldK K (pv 0) rfl) pa_nil)) pa_nil)))
    (pss_cons (ps_fld (pv 1) (pe_callTy call_list_of (by rfl) B.wx.toTx.f_list b_list (pa_cons (pe_fldK K (pv 0) rfl) pa_nil)) rfl)
    (pss_cons (ps_fld (pv 1) (pe_callTy call_list_of (by rfl) B.wx.toTx.f_list b_list (pa_cons (pe_fldK K (pv 0) rfl) pa_nil)) rfl)
    (pss_cons (ps_fld (pv 1) (pe_callTy call_list_of (by rfl) B.wx.toTx.f_list b_list (pa_cons (pe_fldK K (pv 0) rfl) pa_nil)) rfl)
    (pss_cons (ps_fld (pv 1) (pe_callTy call_list_of (by rfl) B.wx.toTx.f_list b_list (pa_cons (pe_fldK K (pv 0) rfl) pa_nil)) rfl)
    (pss_cons (ps_fld (pv 1) (pe_callTy call_list_of (by rfl) B.wx.toTx.f_list b_list (pa_cons (pe_fldK K (pv 0) rfl) pa_nil)) rfl)
    (pss_one (ps_ret (pv 1))))))))), ?_⟩
  obtain ⟨k, s, t, m, g, d, rfl, ⟨dx, hi⟩, hk, hs, ht, hm, ⟨vg, hg, pg⟩, ⟨vd, hd, pd⟩, nd⟩ := id hR
  have k24 := ok.k24
  refine ⟨_, rfl, r, _, _, _, _, rfl, hi, T.toTx.c_Row, T.toTx.n_Row_kinds, rfl, fun a da ha hda n => ⟨a, da, k, R.kinds, rfl, upd_same, .inr (ex_two ha hda n _ _ hk), by omega, (fun z => by rw [badStrand_of ok] at z; cases z), fun _ H1 hS f => ⟨rfl, ?_⟩⟩⟩
  have e1 := ex_made ha hda f
  refine fun b c hb hc n2 => ⟨b, c, a, R.kinds, rfl, upd_same, hS.ex (ex_two hb hc n2), ok.k2, ok.k24, fun H2 k2 s2 t2 m2 g2 d2 hR2 f2 nn => ⟨rfl, ?_⟩⟩
  have e2 : Ex H H2 := e1.trans (ex_made hb hc f2)
  have hb0 := fresh_back e1 hb
  obtain ⟨⟨dx2, i2⟩, hk2, _⟩ := hR2
  walk_at "st"
  have i0 := e2 _ _ hi
  have nbr := ne_of_none' hb0 hi
  have nbs := ne_of_none' hb0 hs
  have nbt := ne_of_none' hb0 ht
  have nbm := ne_of_none' hb0 hm
  have nbg := ne_of_none' hb0 hg
  have nbd := ne_of_none' hb0 hd
  refine qsf (j := 1) rfl i2 T.toTx.c_Row T.toTx.n_Row_standing (by walk_at "ln") (NewL H2 (R.stand.map V.int)) (fun Q q => ⟨_, rfl, r, _, _, _, _, rfl, i0, T.toTx.c_Row, T.toTx.n_Row_standing, rfl, s, _, rfl, .inl (sq_of (e2 _ _ hs)), fun p hp => q _ _ (Ex.new hp) ⟨p, rfl, hp, upd_same⟩⟩) ?_
  rintro _ H3' H3 e3 ⟨s3, rfl, hs3, hs33⟩ i3 f3 nb3
  have g3 : Fr [b] H H3 := Fr.same (Fr.ex e2) <| Fr.same (Fr.ex e3) f3
  have ns3 : s3 ≠ b := ne_of_none' hs3 i2
  refine qsf (j := 1) rfl i3 T.toTx.c_Row T.toTx.n_Row_taken (by walk_at "ln") (NewL H3 (R.taken.map V.int)) (fun Q q => ⟨_, rfl, r, _, _, _, _, rfl, (g3.1 _ _ hi (by simpa using nbr.symm)), T.toTx.c_Row, T.toTx.n_Row_taken, rfl, t, _, rfl, .inl (sq_of (g3.1 _ _ ht (by simpa using nbt.symm))), fun p hp => q _ _ (Ex.new hp) ⟨p, rfl, hp, upd_same⟩⟩) ?_
  rintro _ H4' H4 e4 ⟨t4, rfl, ht4, ht44⟩ i4 f4 nb4
  have g4 : Fr [b] H H4 := Fr.same g3 <| Fr.same (Fr.ex e4) f4
  have nt4 : t4 ≠ b := ne_of_none' ht4 i3
  have s34 := f4.1 _ _ (e4 _ _ (f3.1 _ _ hs33 (by simpa using ns3))) (by simpa using ns3)
  have nst := ne_of_none (f3.1 _ _ hs33 (by simpa using ns3)) ht4
  refine qsf (j := 1) rfl i4 T.toTx.c_Row T.toTx.n_Row_marks (by walk_at "ln") (NewL H4 (R.marks.map V.str)) (fun Q q => ⟨_, rfl, r, _, _, _, _, rfl, (g4.1 _ _ hi (by simpa using nbr.symm)), T.toTx.c_Row, T.toTx.n_Row_marks, rfl, m, _, rfl, .inl (sq_of (g4.1 _ _ hm (by simpa using nbm.symm))), fun p hp => q _ _ (Ex.new hp) ⟨p, rfl, hp, upd_same⟩⟩) ?_
  rintro _ H5' H5 e5 ⟨m5, rfl, hm5, hm55⟩ i5 f5 nb5
  have g5 : Fr [b] H H5 := Fr.same g4 <| Fr.same (Fr.ex e5) f5
  have nm5 : m5 ≠ b := ne_of_none' hm5 i4
  have t44 := f4.1 _ _ ht44 (by simpa using nt4)
  have s35 := f5.1 _ _ (e5 _ _ s34) (by simpa using ns3)
  have t45 := f5.1 _ _ (e5 _ _ t44) (by simpa using nt4)
  have nsm := ne_of_none s34 hm5
  have ntm := ne_of_none t44 hm5
  have m55 := f5.1 _ _ hm55 (by simpa using nm5)
  refine qsf (j := 1) rfl i5 T.toTx.c_Row T.toTx.n_Row_meetings (by walk_at "ln") (NewL H5 vg) (fun Q q => ⟨_, rfl, r, _, _, _, _, rfl, (g5.1 _ _ hi (by simpa using nbr.symm)), T.toTx.c_Row, T.toTx.n_Row_meetings, rfl, g, _, rfl, .inl (sq_of (g5.1 _ _ hg (by simpa using nbg.symm))), fun p hp => q _ _ (Ex.new hp) ⟨p, rfl, hp, upd_same⟩⟩) ?_
  rintro _ H6' H6 e6 ⟨g6, rfl, hg6, hg66⟩ i6 f6 nb6
  have g6f : Fr [b] H H6 := Fr.same g5 <| Fr.same (Fr.ex e6) f6
  have ng6 : g6 ≠ b := ne_of_none' hg6 i5
  have nsg := ne_of_none s35 hg6
  have ntg := ne_of_none t45 hg6
  have nmg := ne_of_none m55 hg6
  have s36 := f6.1 _ _ (e6 _ _ s35) (by simpa using ns3)
  have t46 := f6.1 _ _ (e6 _ _ t45) (by simpa using nt4)
  have m56 := f6.1 _ _ (e6 _ _ m55) (by simpa using nm5)
  have g66 := f6.1 _ _ hg66 (by simpa using ng6)
  refine qsf (j := 1) rfl i6 T.toTx.c_Row T.toTx.n_Row_deeds (by walk_at "ln") (NewL H6 vd) (fun Q q => ⟨_, rfl, r, _, _, _, _, rfl, (g6f.1 _ _ hi (by simpa using nbr.symm)), T.toTx.c_Row, T.toTx.n_Row_deeds, rfl, d, _, rfl, .inl (sq_of (g6f.1 _ _ hd (by simpa using nbd.symm))), fun p hp => q _ _ (Ex.new hp) ⟨p, rfl, hp, upd_same⟩⟩) ?_
  rintro _ H7' H7 e7 ⟨d7, rfl, hd7, hd77⟩ i7 f7 nb7
  have g7 : Fr [b] H H7 := Fr.same g6f <| Fr.same (Fr.ex e7) f7
  have nd7 : d7 ≠ b := ne_of_none' hd7 i6
  have nsd := ne_of_none s36 hd7
  have ntd := ne_of_none t46 hd7
  have nmd := ne_of_none m56 hd7
  have ngd := ne_of_none g66 hd7
  refine ⟨_, rfl, hq b H7 [b, s3, t4, m5, g6, d7] hb0 ?_ ?_⟩
  · intro c o hc
    exact g7.1 c o hc (by simpa using ne_of_none hc hb0)
  refine ⟨k2, s3, t4, m5, g6, d7, rfl, ⟨dx2, i7⟩, ?_, f7.1 _ _ (e7 _ _ s36) (by simpa using ns3), f7.1 _ _ (e7 _ _ t46) (by simpa using nt4), f7.1 _ _ (e7 _ _ m56) (by simpa using nm5), ⟨vg, f7.1 _ _ (e7 _ _ g66) (by simpa using ng6), Paired.mapP pg fun _ _ q => q.fr g7⟩, ⟨vd, f7.1 _ _ hd77 (by simpa using nd7), Paired.mapP pd fun _ _ q => q.fr g7⟩, ?_⟩
  · have h2 : Fr [b] H2 H7 := Fr.same (Fr.ex e3) <| Fr.same f3 <| Fr.same (Fr.ex e4) <| Fr.same f4 <| Fr.same (Fr.ex e5) <| Fr.same f5 <| Fr.same (Fr.ex e6) <| Fr.same f6 <| Fr.same (Fr.ex e7) f7
    exact h2.2 _ _ hk2
  · simp [ns3.symm, nt4.symm, nm5.symm, ng6.symm, nd7.symm, nst, nsm, nsg, nsd, ntm, ntg, ntd, nmg, nmd, ngd])
end
end Bm
set_option Elab.async false
set_option linter.all false
set_option maxRecDepth 10000
set_option maxHeartbeats 400000
set_option pp.deepTerms false
set_option pp.maxSteps 1500
set_option maxErrors 6
/-! Walks: desks told. -/
namespace Bm
open PySem PySem.Spec PyProof.Rows L2 Evl TL RZ
local macro_rules | `(tactic| walk_at "sz") => `(tactic| first | assumption | (refine sz_of ?_; omega) | (refine sz_lt ?_; omega))
local macro_rules | `(tactic| walk_at "ne") => `(tactic| first | assumption | (refine Ne.symm ?_; assumption) | exact ne_new (by assumption) (by walk_at "hp") | exact Ne.symm (ne_new (by assumption) (by walk_at "hp")))
local macro_rules | `(tactic| walk_at "hp") => `(tactic| first | assumption | exact upd_same | (refine (upd_ne (by walk_at "ne")).trans ?_; walk_at "hp") | (refine Ex.at_ (by assumption) ?_; walk_at "hp"))
local macro_rules | `(tactic| walk_at "sq") => `(tactic| first | assumption | (refine sq_of ?_; walk_at "hp") | (refine st_of ?_; walk_at "hp") | (refine ex_l (by assumption) ?_; walk_at "sq") | (refine ex_t (by assumption) ?_; walk_at "sq"))
local macro_rules | `(tactic| walk_at "sd") => `(tactic| first | exact (show (0 : Int) < _ from by omega) | exact (show (0 : Int) < _ ∧ _ < (1073741824 : Int) from ⟨by omega, by omega⟩) | exact (show CPow _ _ from ⟨by decide, by decide, by decide⟩) | exact (show CMul _ _ from .inl ⟨by omega, by omega⟩) | exact (show CMul _ _ from .inr ⟨by omega, by omega⟩))
local macro_rules | `(tactic| walk_at "g1") => `(tactic| first
  | refine ⟨_, rfl, ?_⟩
  | refine ⟨_, _, rfl, rfl, ?_⟩
  | refine .inl ⟨_, _, rfl, rfl, ?_⟩
  | refine .inl ⟨rfl, ?_⟩
  | refine .inl (.inl ⟨_, rfl, ?_⟩)
  | (refine ⟨_, _, rfl, ⟨?_, rfl⟩, ?_⟩; (walk_at "sz"))
  | refine ⟨(by walk_at "sd"), ?_⟩)
local macro_rules | `(tactic| walk_at "go") => `(tactic| repeat walk_at "g1")
local macro_rules | `(tactic| walk_at "st") => `(tactic| dsimp only [gName])
local macro_rules | `(tactic| walk_at "ln") => `(tactic| first | exact (show 0 < 1000 from by decide) | exact (show 1 < 1000 from by decide) | exact (show 2 < 1000 from by decide) | exact (show 3 < 1000 from by decide) | exact (show 4 < 1000 from by decide) | exact (show 5 < 1000 from by decide) | exact (show 6 < 1000 from by decide) | exact (show 7 < 1000 from by decide))
local macro_rules | `(tactic| walk_at "le") => `(tactic| first | exact (show 0 ≤ sizeLine from by decide) | exact (show 1 ≤ sizeLine from by decide) | exact (show 2 ≤ sizeLine from by decide) | exact (show 3 ≤ sizeLine from by decide) | exact (show 4 ≤ sizeLine from by decide) | exact (show 5 ≤ sizeLine from by decide) | exact (show 6 ≤ sizeLine from by decide) | exact (show 7 ≤ sizeLine from by decide) | exact (show 8 ≤ sizeLine from by decide))
local macro_rules | `(tactic| walk_at "nt") => `(tactic| first | exact nt_ins | exact nt_lst | exact nt_dK)
local macro_rules | `(tactic| walk_at "fr") => `(tactic| first | assumption | exact Fr.refl | exact Fr.ex (by assumption) | (refine Fr.put ?_ (by walk_at "hp") (by walk_at "nt") (by simp); walk_at "fr") | (refine Fr.new ?_ (by assumption); walk_at "fr"))
def spIsName : Sp := fun vs H Q _ => ∃ n : Str, vs = [.str n] ∧ n.length ≤ 100000 ∧ ∀ H', Ex H H' → Q (.bl (isName n)) H'
def spOpening (K : PySem.W.Frag) : Sp := fun vs H Q _ => ∃ (a : Addr) (c : Core) (un : List Str) (X : List Addr), vs = [.ref a] ∧ DeskAt K H a c un X ∧ ∀ o, H o = some (.tup (opnV c.opn)) → Q (.ref o) H
def spBalD (K : PySem.W.Frag) : Sp := fun vs H Q _ => ∃ (a : Addr) (c : Core) (un : List Str) (X : List Addr), vs = [.ref a] ∧ DeskAt K H a c un X ∧ Q (.int c.coins) H
def spNames (K : PySem.W.Frag) : Sp := fun vs H Q _ => ∃ (a : Addr) (c : Core) (un : List Str) (X : List Addr), vs = [.ref a] ∧ DeskAt K H a c un X ∧ ∀ p H', H p = none → Ex H H' → H' p = some (.lst ((c.rows.map (·.1)).map V.str)) → Q (.ref p) H'
def spLaid (K : PySem.W.Frag) : Sp := fun vs H Q E => ∃ (a dx rw : Addr) (n : Str) (fs : List (Str × V)) (kvs : List (Key × V)), vs = [.ref a, .str n] ∧ H a = some (.ins (cD K) dx fs) ∧ fs.lookup ("_rows" : Str) = some (V.ref rw) ∧ H rw = some (.dK kvs) ∧ (valV kvs (.inr n) = none → Moot K H E) ∧ ∀ v, valV kvs (.inr n) = some v → Q v H
def spStand (K : PySem.W.Frag) : Sp := fun vs H Q _ => ∃ (a : Addr) (c : Core) (un : List Str) (X : List Addr) (l : Str), vs = [.ref a, .str l] ∧ DeskAt K H a c un X ∧ c.done.length ≤ 90000 ∧ ∀ H' X', DeskAt K H' a (c.stood l) [] X' → Fr X H H' → Nw X X' H → Left K H a X' H' → Q .non H'
def spDeeds (K : PySem.W.Frag) : Sp := fun vs H Q _ => ∃ (a : Addr) (c : Core) (un : List Str) (X : List Addr), vs = [.ref a] ∧ DeskAt K H a c un X ∧ ∀ p H', H p = none → Ex H H' → H' p = some (.lst (c.done.map V.str)) → Q (.ref p) H'
def spRowOf (K : PySem.W.Frag) : Sp := fun vs H Q _ => ∃ (a : Addr) (c : Core) (un : List Str) (X : List Addr) (n : Str) (R : RowD), vs = [.ref a, .str n] ∧ DeskAt K H a c un X ∧ CoreOk c ∧ rowOf c.rows n = some R ∧ ∀ p H' X', Ex H H' → RowX K H' p R X' → Q (.ref p) H'
def spLedger (K : PySem.W.Frag) : Sp := fun vs H Q _ => ∃ (a : Addr) (c : Core) (un : List Str) (X : List Addr), vs = [.ref a] ∧ DeskAt K H a c un X ∧ c.writ.length ≤ 90000 ∧ ∀ p H' ps, H p = none → Ex H H' → H' p = some (.lst ps) → Paired (EntV H) ps (c.writ.filter isPaid) → Q (.ref p) H'
def spSpentD (K : PySem.W.Frag) : Sp := fun vs H Q _ => ∃ (a : Addr) (c : Core) (un : List Str) (X : List Addr) (n : Str), vs = [.ref a, .str n] ∧ DeskAt K H a c un X ∧ c.writ.length ≤ 90000 ∧ (rowOf c.rows n).isSome = true ∧ ∀ H', Ex H H' → Q (.int (spentOf c.writ n)) H'
section
variable {X : Cx} {W : WX} {k : Nat} {e o : Expr} {es : List Expr} {ta : TA} {to : TE} {p pos apos : Pos} {pl : Sem Bool}
theorem c_Row_grown {K : PySem.W.Frag} (B : Bx X W k) (ho : PE X o to) (hK : X.K = K := by rfl) (hl : 5 ≤ k := by decide)
    (ht : eval (.Call (.Attribute o "grown" apos) [] [] pos) X.env = (do
      let ov ← eval o X.env
      standAt apos.atName
      let (f, first) ← holding [ov] (getMethod ov "grown" pl)
      callWith pos f first (backTo pos (starEach [] X.env)) (backToKw pos (keywordEach [] X.env))) := by rfl) : PE X (.Call (.Attribute o "grown" apos) [] [] pos) (tMth (He.ga K "Row") "grown" (spGrown K) W to tNil) := by
  subst hK
  exact k_mth0 B.wx.toTx.c_Row B.wx.toTx.m_Row_grown (w_Row_grown B.wx) (B.rm.mono hl) B.hx ho ht
theorem c_Row_meetings {K : PySem.W.Frag} (B : Bx X W k) (ho : PE X o to) (hK : X.K = K := by rfl) (hl : 2 ≤ k := by decide)
    (ht : eval (.Call (.Attribute o "meetings" apos) [] [] pos) X.env = (do
      let ov ← eval o X.env
      standAt apos.atName
      let (f, first) ← holding [ov] (getMethod ov "meetings" pl)
      callWith pos f first (backTo pos (starEach [] X.env)) (backToKw pos (keywordEach [] X.env))) := by rfl) : PE X (.Call (.Attribute o "meetings" apos) [] [] pos) (tMth (He.ga K "Row") "meetings" (spMeets K) W to tNil) := by
  subst hK
  exact k_mth0 B.wx.toTx.c_Row B.wx.toTx.m_Row_meetings (w_Row_meetings B.wx) (B.rm.mono hl) B.hx ho ht
theorem c_Row_tally {K : PySem.W.Frag} (B : Bx X W k) (ho : PE X o to) (hK : X.K = K := by rfl) (hl : 5 ≤ k := by decide)
    (ht : eval (.Call (.Attribute o "tally" apos) [] [] pos) X.env = (do
      let ov ← eval o X.env
      standAt apos.atName
      let (f, first) ← holding [ov] (getMethod ov "tally" pl)
      callWith pos f first (backTo pos (starEach [] X.env)) (backToKw pos (keywordEach [] X.env))) := by rfl) : PE X (.Call (.Attribute o "tally" apos) [] [] pos) (tMth (He.ga K "Row") "tally" (spTally K) W to tNil) := by
  subst hK
  exact k_mth0 B.wx.toTx.c_Row B.wx.toTx.m_Row_tally (w_Row_tally B.wx) (B.rm.mono hl) B.hx ho ht
theorem c_Row_twin {K : PySem.W.Frag} (B : Bx X W k) (ho : PE X o to) (hK : X.K = K := by rfl) (hl : 6 ≤ k := by decide)
    (ht : eval (.Call (.Attribute o "twin" apos) [] [] pos) X.env = (do
      let ov ← eval o X.env
      standAt apos.atName
      let (f, first) ← holding [ov] (getMethod ov "twin" pl)
      callWith pos f first (backTo pos (starEach [] X.env)) (backToKw pos (keywordEach [] X.env))) := by rfl) : PE X (.Call (.Attribute o "twin" apos) [] [] pos) (tMth (He.ga K "Row") "twin" (spTwin K) W to tNil) := by
  subst hK
  exact k_mth0 B.wx.toTx.c_Row B.wx.toTx.m_Row_twin (w_Row_twin B.wx) (B.rm.mono hl) B.hx ho ht
theorem c_Ledger_spent {K : PySem.W.Frag} (B : Bx X W k) (ho : PE X o to) (ha : PA X (e :: es) ta) (hK : X.K = K := by rfl) (hl : 2 ≤ k := by decide) (hst : starEach (e :: es) X.env = (false, eval e X.env) :: starEach es X.env := by rfl) (hpl : (backTo pos (starEach es X.env)).any (·.1) = false := by rfl)
    (ht : eval (.Call (.Attribute o "spent" apos) (e :: es) [] pos) X.env = (do
      let ov ← eval o X.env
      standAt apos.atName
      let (f, first) ← holding [ov] (getMethod ov "spent" pl)
      callWith pos f first (backTo pos (starEach (e :: es) X.env)) (backToKw pos (keywordEach [] X.env))) := by rfl) : PE X (.Call (.Attribute o "spent" apos) (e :: es) [] pos) (tMth (He.ga K "Ledger") "spent" (spSpent K) W to ta) := by
  subst hK
  exact k_mth B.wx.toTx.c_Ledger B.wx.toTx.m_Ledger_spent (w_Ledger_spent B.wx) (B.rm.mono hl) B.hx ho ha hst hpl ht
end
section
variable {P : Program} {w : World} {K : PySem.W.Frag} {mg : Str → Option Value} {base : Heap}
theorem sc_Desk_is_name : FnScope ["name", "char"] ["name"] xDesk_is_name.scope := ⟨rfl, rfl, rfl, by decide +kernel, rfl, by decide +kernel, by decide +kernel⟩
theorem w_Desk_is_name (T : Wx P K mg) : FnR P w K mg base (L2N.CX P w) 2 (wfn K "Desk" "is_name" "staticmethod") (spIsName) :=
  mkR 1 T T.toTx.d_Desk_is_name sc_Desk_is_name (by rintro vs H Q E ⟨_, rfl, _⟩; rfl) (fun _ _ _ _ _ _ us hl => match us, hl with | [_], _ => rfl) (fun cdv A outer s H vs Q E B hsp => by
  obtain ⟨n, rfl, hz, hq⟩ := hsp
  refine ⟨_, (pss_cons (ps_if (PW.pt (pw_or (pt_cmpR (o_eqK K B.hu64) (pv 0) pe_str (nomark _)) (pw_or1 (pt_cmpR op_gt (pe_callB (call_lenK K) (by rfl) B.wx.toTx.f_len b_len (pa_cons (pv 0) pa_nil)) (gi_MOST_LETTERS B) (nomark _))))) (pss_one (ps_ret pe_bl)) pss_nil)
    (pss_one (ps_ret (pe_callB (cr_all B.calm) (by rfl) B.wx.toTx.f_all b_all (pa_cons (pe_lcB (own := [("char", 1)]) B sc_Desk_is_name.nd (pi_str (pv 0)) (blkOk_by (N := ["name", "char"]) (sc := xDesk_is_name.scope) (by decide +kernel)) (fun _ _ _ _ _ => pg_name (i := 1) sc_Desk_is_name.nd rfl (by first | exact .inl rfl | exact .inr rfl)) (fun _ _ _ _ _ B => pts_nil) (fun _ _ _ _ _ B => (pe_cmpR (o_inK K) (pv 1) (gt_LETTERS B) (by with_unfolding_all rfl)))) pa_nil))))), ?_⟩
  unfold isName at hq
  refine qwh (b := decide (n = ("" : Str)) || decide (12 < (n.length : Int))) (a_or (a_test fun Q q => by walk_at "go"; rw [dcS]; exact q) fun _ => a_test fun Q q => by walk_at "go"; exact q) (fun h => ?_) (fun h => ?_)
  · have h1 : n = ("" : Str) ∨ (n.length : Int) > 12 := by simpa using h
    rw [if_pos h1] at hq
    exact hq H (Ex.refl H)
  have h1 : ¬ (n = ("" : Str) ∨ (n.length : Int) > 12) := by simpa using h
  rw [if_neg h1] at hq
  have hl := len_tl n
  refine ⟨_, rfl, n, rfl, fun D hD => ?_⟩
  refine lcX walk_str _ yStr (show n.length < 100000 from by omega) hD (fun _ _ => True.intro) (fun _ _ => true) (fun i acc => acc = (((tl n).take i).map fun c => V.bl (decide (c ∈ letters.cps.toList)))) rfl ?_ (fun i x acc H1 hi hx r e Q q => q H1 (Ex.refl H1)) (fun i x acc H1 hi hx r e hf Q q => ?_) (fun i x acc hi hx r hf => by cases hf) (fun H2 ys e hD2 r hl2 => ?_)
  · exact fun _ => rfl
  · obtain ⟨c, hc, rfl⟩ := hx
    have hc' : (tl n)[i]? = some c := by rw [← hc, ← Array.getElem?_toList]
    refine ⟨_, rfl, .inr ⟨c, letters, rfl, rfl, q _ _ (Ex.refl H1) ?_⟩⟩
    rw [take_snoc hc', List.map_append, r]
    rfl
  · have e1 : (tl n).take n.cps.size = tl n := List.take_of_length_le (by simp)
    rw [e1] at r
    refine ⟨D, (tl n).map fun c => decide (c ∈ letters.cps.toList), rfl, sq_of (hD2.trans ?_), ?_⟩
    · rw [r, List.map_map]
      rfl
    · rw [List.all_map]
      exact hq H2 e)
theorem sc_Desk_opening : FnScope ["self"] ["self"] xDesk_opening.scope := ⟨rfl, rfl, rfl, by decide +kernel, rfl, by decide +kernel, by decide +kernel⟩
theorem w_Desk_opening (T : Wx P K mg) : FnR P w K mg base (L2N.CX P w) 2 (He.ma K (He.ga K "Desk") "opening") (spOpening K) :=
  mkR 1 T T.toTx.d_Desk_opening sc_Desk_opening (by rintro vs H Q E ⟨_, _, _, _, rfl, _⟩; rfl) (fun _ _ _ _ _ _ us hl => match us, hl with | [_], _ => rfl) (fun cdv A outer s H vs Q E B hsp => by
  obtain ⟨a, c, un, X, rfl, ⟨l, w, p, o, rw, dn, ud, kvs, Y, rfl, ⟨dx, hi⟩, hl, hp, ho, hr, hrs, hdn, hud, nd⟩, hq⟩ := hsp
  refine ⟨_, (pss_one (ps_ret (pe_fldK K (pv 0) rfl))), ?_⟩
  exact ⟨_, rfl, a, _, _, _, _, rfl, hi, T.toTx.c_Desk, T.toTx.n_Desk_opening, rfl, hq o ho⟩)
theorem sc_Desk_balance : FnScope ["self"] ["self"] xDesk_balance.scope := ⟨rfl, rfl, rfl, by decide +kernel, rfl, by decide +kernel, by decide +kernel⟩
theorem w_Desk_balance (T : Wx P K mg) : FnR P w K mg base (L2N.CX P w) 3 (He.ma K (He.ga K "Desk") "balance") (spBalD K) :=
  mkR 2 T T.toTx.d_Desk_balance sc_Desk_balance (by rintro vs H Q E ⟨_, _, _, _, rfl, _⟩; rfl) (fun _ _ _ _ _ _ us hl => match us, hl with | [_], _ => rfl) (fun cdv A outer s H vs Q E B hsp => by
  obtain ⟨a, c, un, X, rfl, ⟨l, w, p, o, rw, dn, ud, kvs, Y, rfl, ⟨dx, hi⟩, hl, hp, ho, hr, hrs, hdn, hud, nd⟩, hq⟩ := hsp
  refine ⟨_, (pss_one (ps_ret (c_Ledger_balance (K := K) B (pe_fldK K (pv 0) rfl)))), ?_⟩
  obtain ⟨dl, hl1⟩ := hl.ins
  exact ⟨_, rfl, a, _, _, _, _, rfl, hi, T.toTx.c_Desk, T.toTx.n_Desk_purse, rfl, l, _, _, rfl, hl1, rfl, l, _, _, w, rfl, hl, hq⟩)
theorem sc_Desk_names : FnScope ["self"] ["self"] xDesk_names.scope := ⟨rfl, rfl, rfl, by decide +kernel, rfl, by decide +kernel, by decide +kernel⟩
theorem w_Desk_names (T : Wx P K mg) : FnR P w K mg base (L2N.CX P w) 3 (He.ma K (He.ga K "Desk") "names") (spNames K) :=
  mkR 2 T T.toTx.d_Desk_names sc_Desk_names (by rintro vs H Q E ⟨_, _, _, _, rfl, _⟩; rfl) (fun _ _ _ _ _ _ us hl => match us, hl with | [_], _ => rfl) (fun cdv A outer s H vs Q E B hsp => by
  obtain ⟨a, c, un, X, rfl, ⟨l, w, p, o, rw, dn, ud, kvs, Y, rfl, ⟨dx, hi⟩, hl, hp, ho, hr, hrs, hdn, hud, nd⟩, hq⟩ := hsp
  refine ⟨_, (pss_one (ps_ret (pe_callTy (call_listD B.calm) (by rfl) B.wx.toTx.f_list b_list (pa_cons (pe_fldK K (pv 0) rfl) pa_nil)))), ?_⟩
  refine ⟨_, rfl, a, _, _, _, _, rfl, hi, T.toTx.c_Desk, T.toTx.n_Desk_rows, rfl, rw, kvs, rfl, .inl hr, fun p hp => hq p _ hp (Ex.new hp) ?_⟩
  rw [upd_same, hrs.keys])
theorem sc_Desk_deeds : FnScope ["self"] ["self"] xDesk_deeds.scope := ⟨rfl, rfl, rfl, by decide +kernel, rfl, by decide +kernel, by decide +kernel⟩
theorem w_Desk_deeds (T : Wx P K mg) : FnR P w K mg base (L2N.CX P w) 3 (He.ma K (He.ga K "Desk") "deeds") (spDeeds K) :=
  mkR 2 T T.toTx.d_Desk_deeds sc_Desk_deeds (by rintro vs H Q E ⟨_, _, _, _, rfl, _⟩; rfl) (fun _ _ _ _ _ _ us hl => match us, hl with | [_], _ => rfl) (fun cdv A outer s H vs Q E B hsp => by
  obtain ⟨a, c, un, X, rfl, ⟨l, w, p, o, rw, dn, ud, kvs, Y, rfl, ⟨dx, hi⟩, hl, hp, ho, hr, hrs, hdn, hud, nd⟩, hq⟩ := hsp
  refine ⟨_, (pss_one (ps_ret (pe_callTy call_list_of (by rfl) B.wx.toTx.f_list b_list (pa_cons (pe_fldK K (pv 0) rfl) pa_nil)))), ?_⟩
  refine ⟨_, rfl, a, _, _, _, _, rfl, hi, T.toTx.c_Desk, T.toTx.n_Desk_done, rfl, dn, _, rfl, .inl (sq_of hdn), fun p hp => hq p _ hp (Ex.new hp) upd_same⟩)
theorem sc_Desk_laid : FnScope ["self", "name"] ["self", "name"] xDesk_laid.scope := ⟨rfl, rfl, rfl, by decide +kernel, rfl, by decide +kernel, by decide +kernel⟩
theorem w_Desk_laid (T : Wx P K mg) : FnR P w K mg base (L2N.CX P w) 3 (He.ma K (He.ga K "Desk") "_laid") (spLaid K) :=
  mkR 2 T T.toTx.d_Desk_laid sc_Desk_laid (by rintro vs H Q E ⟨_, _, _, _, _, _, rfl, _⟩; rfl) (fun _ _ _ _ _ _ us hl => match us, hl with | [_, _], _ => rfl) (fun cdv A outer s H vs Q E B hsp => by
  obtain ⟨a, dx, rw, n, fs, kvs, rfl, hi, hf, hr, hm, hq⟩ := hsp
  refine ⟨_, (pss_cons (ps_if (pt_cmp (pc_dnotin B.hu (pv 1) (pe_fldK K (pv 0) rfl)) (by with_unfolding_all rfl)) (pss_one (r_NoSuchRow B.rs (by rfl) (pa_cons (pv 1) pa_nil))) pss_nil)
    (pss_one (ps_ret (pe_dget B.hu (pe_fldK K (pv 0) rfl) (pv 1) (fun _ _ => rfl))))), ?_⟩
  refine qwh (b := !(valV kvs (.inr n)).isSome) (a_test fun Q q => ?_) (fun h => ?_) (fun h => ?_)
  · exact ⟨_, rfl, _, rfl, a, _, _, _, _, rfl, hi, T.toTx.c_Desk, T.toTx.n_Desk_rows, hf, rw, _, rfl, DGet.k (k := .inr n) hr, q⟩
  · have h1 : valV kvs (.inr n) = none := by
      cases e : valV kvs (.inr n) with
      | none => rfl
      | some v => rw [e] at h; cases h
    exact ⟨_, rfl, rfl, fun d hd => hm h1 _ _ _ T.toTx.e_NoSuchRow (Ex.new hd)⟩
  · cases e : valV kvs (.inr n) with
    | none => rw [e] at h; cases h
    | some v =>
      refine ⟨_, rfl, a, _, _, _, _, rfl, hi, T.toTx.c_Desk, T.toTx.n_Desk_rows, hf, _, rfl, rw, v, rfl, ?_, hq v e⟩
      rw [← e]
      exact DGet.k (k := .inr n) hr)
theorem sc_Desk_stand : FnScope ["self", "line"] ["self", "line"] xDesk_stand.scope := ⟨rfl, rfl, rfl, by decide +kernel, rfl, by decide +kernel, by decide +kernel⟩
theorem w_Desk_stand (T : Wx P K mg) : FnR P w K mg base (L2N.CX P w) 3 (He.ma K (He.ga K "Desk") "_stand") (spStand K) :=
  mkR 2 T T.toTx.d_Desk_stand sc_Desk_stand (by rintro vs H Q E ⟨_, _, _, _, _, rfl, _⟩; rfl) (fun _ _ _ _ _ _ us hl => match us, hl with | [_, _], _ => rfl) (fun cdv A outer s H vs Q E B hsp => by
  obtain ⟨a, c, un, X, ln, rfl, ⟨l, w, p, o, rw, dn, ud, kvs, Y, rfl, ⟨dx, hi⟩, hl, ⟨dp, hp⟩, ho, hr, hrs, hdn, hud, nd⟩, hz, hq⟩ := hsp
  refine ⟨_, (pss_cons (ps_expr (pe_bmK K PySem.F.plainAttrs_list PySem.F.slot_list_append PySem.F.type_list_append mt_append (pe_fldK K (pv 0) rfl) (pa_cons (pv 1) pa_nil)))
    (pss_one (ps_fld (pv 0) (pe_lst pa_nil) rfl))), ?_⟩
  obtain ⟨⟨dl, hl1⟩, vs, hw, pv⟩ := id hl
  have nd0 := nd
  simp only [List.nodup_cons, List.mem_cons, not_or] at nd
  obtain ⟨⟨al, aw, ap, arw, adn, aud, aY⟩, ⟨lw, lp, lrw, ldn, lud, lY⟩, ⟨wp, wrw, wdn, wud, wY⟩, ⟨prw, pdn, pud, pY⟩, ⟨rdn, rud, rY⟩, ⟨dnud, dnY⟩, udY, ndY⟩ := nd
  refine qapp rfl hi T.toTx.c_Desk T.toTx.n_Desk_done rfl hdn (by rw [List.length_map]; omega) (fun x _ => x = .str ln) (fun Q q => ⟨_, rfl, q _ _ (Ex.refl _) rfl⟩) ?_
  rintro _ H1' H1 e1 rfl hdn1 f1 nb1
  have hi1 := f1.1 _ _ (e1 _ _ hi) (by simpa using adn)
  refine qsfE rfl hi1 T.toTx.c_Desk T.toTx.n_Desk_undone (by walk_at "ln") (NewL H1 []) (fun Q q => ⟨by decide, fun t ht => q _ _ (Ex.new ht) ⟨t, rfl, ht, upd_same⟩⟩) ?_
  rintro _ H2' H2 e2 ⟨u, rfl, hu, hu2⟩ hi2 f2 nb2
  have n0 := nb1 _ hu
  have nua : u ≠ a := ne_of_none' n0 hi
  have fa : Fr [a, dn] H H2 := Fr.same (Fr.ex e1) <| Fr.same (f1.mono (by simp)) <| Fr.same (Fr.ex e2) (f2.mono (by simp))
  have hX : DeskAt K H2 a (c.stood ln) [] (a :: l :: w :: p :: rw :: dn :: u :: Y) := by
    refine ⟨l, w, p, o, rw, dn, u, kvs, Y, rfl, ⟨dx, hi2⟩, hl.fr fa (by simp [al, ldn, Ne.symm al]) (by simp [wdn, Ne.symm aw]), ⟨dp, fa.1 _ _ hp (by simp [pdn, Ne.symm ap])⟩, fa.2 _ _ ho, fa.1 _ _ hr (by simp [rdn, Ne.symm arw]), hrs.fr fa ?_, ?_, ?_, ?_⟩
    · intro b hb
      simp only [List.mem_cons, List.not_mem_nil, or_false, not_or]
      exact ⟨fun z => aY (z ▸ hb), fun z => dnY (z ▸ hb)⟩
    · refine (f2.1 _ _ (e2 _ _ hdn1) (by simpa using Ne.symm adn)).trans ?_
      show _ = some (HO.lst ((c.done ++ [ln]).map V.str))
      rw [List.map_append]
      rfl
    · exact f2.1 _ _ hu2 (by simpa using nua)
    · have b1 := ne_of_none' n0 hl1
      have b2 := ne_of_none' n0 hw
      have b3 := ne_of_none' n0 hp
      have b4 := ne_of_none' n0 hr
      have b5 := ne_of_none' n0 hdn
      have b6 : u ∉ Y := fun z => by
        obtain ⟨o, ho⟩ := hrs.tr u z
        rw [n0] at ho
        cases ho
      simp only [List.nodup_cons, List.mem_cons, not_or]
      exact ⟨⟨al, aw, ap, arw, adn, Ne.symm nua, aY⟩, ⟨lw, lp, lrw, ldn, Ne.symm b1, lY⟩, ⟨wp, wrw, wdn, Ne.symm b2, wY⟩, ⟨prw, pdn, Ne.symm b3, pY⟩, ⟨rdn, Ne.symm b4, rY⟩, ⟨Ne.symm b5, dnY⟩, b6, ndY⟩
  refine hq H2 _ hX (fa.mono (by simp)) ?_ (fun dx' l' p' o' rw' dn' ud' h => ?_)
  rotate_left
  · obtain ⟨_, e2⟩ := dsk_inj hi h
    subst e2
    refine ⟨(fa.1 _ _ hud (by simp [Ne.symm aud, Ne.symm dnud])).trans hud.symm, ?_⟩
    simp only [List.mem_cons, not_or]
    exact ⟨Ne.symm aud, Ne.symm lud, Ne.symm wud, Ne.symm pud, Ne.symm rud, Ne.symm dnud, ne_of_none hud n0, udY⟩
  intro b hb
  simp only [List.mem_cons] at hb ⊢
  rcases hb with h | h | h | h | h | h | h | h
  · exact .inl (by simp [h])
  · exact .inl (by simp [h])
  · exact .inl (by simp [h])
  · exact .inl (by simp [h])
  · exact .inl (by simp [h])
  · exact .inl (by simp [h])
  · exact .inr (h ▸ n0)
  · exact .inl (by simp [h]))
theorem sc_Desk_ledger : FnScope ["self"] ["self"] xDesk_ledger.scope := ⟨rfl, rfl, rfl, by decide +kernel, rfl, by decide +kernel, by decide +kernel⟩
theorem w_Desk_ledger (T : Wx P K mg) : FnR P w K mg base (L2N.CX P w) 5 (He.ma K (He.ga K "Desk") "ledger") (spLedger K) :=
  mkR 4 T T.toTx.d_Desk_ledger sc_Desk_ledger (by rintro vs H Q E ⟨_, _, _, _, rfl, _⟩; rfl) (fun _ _ _ _ _ _ us hl => match us, hl with | [_], _ => rfl) (fun cdv A outer s H vs Q E B hsp => by
  obtain ⟨a, c, un, X, rfl, ⟨l, w, p, o, rw, dn, ud, kvs, Y, rfl, ⟨dx, hi⟩, hl, hp, ho, hr, hrs, hdn, hud, nd⟩, hz, hq⟩ := hsp
  refine ⟨_, (pss_one (ps_ret (c_Ledger_payments (K := K) B (pe_fldK K (pv 0) rfl)))), ?_⟩
  obtain ⟨dl, hl1⟩ := hl.ins
  exact ⟨_, rfl, a, _, _, _, _, rfl, hi, T.toTx.c_Desk, T.toTx.n_Desk_purse, rfl, l, _, _, rfl, hl1, rfl, l, _, _, w, rfl, hl, hz, hq⟩)
end
section
variable {X : Cx} {W : WX} {k : Nat} {e o : Expr} {es : List Expr} {ta : TA} {to : TE} {p pos apos : Pos} {pl : Sem Bool}
theorem c_Desk_opening {K : PySem.W.Frag} (B : Bx X W k) (ho : PE X o to) (hK : X.K = K := by rfl) (hl : 2 ≤ k := by decide)
    (ht : eval (.Call (.Attribute o "opening" apos) [] [] pos) X.env = (do
      let ov ← eval o X.env
      standAt apos.atName
      let (f, first) ← holding [ov] (getMethod ov "opening" pl)
      callWith pos f first (backTo pos (starEach [] X.env)) (backToKw pos (keywordEach [] X.env))) := by rfl) : PE X (.Call (.Attribute o "opening" apos) [] [] pos) (tMth (He.ga K "Desk") "opening" (spOpening K) W to tNil) := by
  subst hK
  exact k_mth0 B.wx.toTx.c_Desk B.wx.toTx.m_Desk_opening (w_Desk_opening B.wx) (B.rm.mono hl) B.hx ho ht
theorem c_Desk_balance {K : PySem.W.Frag} (B : Bx X W k) (ho : PE X o to) (hK : X.K = K := by rfl) (hl : 3 ≤ k := by decide)
    (ht : eval (.Call (.Attribute o "balance" apos) [] [] pos) X.env = (do
      let ov ← eval o X.env
      standAt apos.atName
      let (f, first) ← holding [ov] (getMethod ov "balance" pl)
      callWith pos f first (backTo pos (starEach [] X.env)) (backToKw pos (keywordEach [] X.env))) := by rfl) : PE X (.Call (.Attribute o "balance" apos) [] [] pos) (tMth (He.ga K "Desk") "balance" (spBalD K) W to tNil) := by
  subst hK
  exact k_mth0 B.wx.toTx.c_Desk B.wx.toTx.m_Desk_balance (w_Desk_balance B.wx) (B.rm.mono hl) B.hx ho ht
theorem c_Desk_names {K : PySem.W.Frag} (B : Bx X W k) (ho : PE X o to) (hK : X.K = K := by rfl) (hl : 3 ≤ k := by decide)
    (ht : eval (.Call (.Attribute o "names" apos) [] [] pos) X.env = (do
      let ov ← eval o X.env
      standAt apos.atName
      let (f, first) ← holding [ov] (getMethod ov "names" pl)
      callWith pos f first (backTo pos (starEach [] X.env)) (backToKw pos (keywordEach [] X.env))) := by rfl) : PE X (.Call (.Attribute o "names" apos) [] [] pos) (tMth (He.ga K "Desk") "names" (spNames K) W to tNil) := by
  subst hK
  exact k_mth0 B.wx.toTx.c_Desk B.wx.toTx.m_Desk_names (w_Desk_names B.wx) (B.rm.mono hl) B.hx ho ht
theorem c_Desk_deeds {K : PySem.W.Frag} (B : Bx X W k) (ho : PE X o to) (hK : X.K = K := by rfl) (hl : 3 ≤ k := by decide)
    (ht : eval (.Call (.Attribute o "deeds" apos) [] [] pos) X.env = (do
      let ov ← eval o X.env
      standAt apos.atName
      let (f, first) ← holding [ov] (getMethod ov "deeds" pl)
      callWith pos f first (backTo pos (starEach [] X.env)) (backToKw pos (keywordEach [] X.env))) := by rfl) : PE X (.Call (.Attribute o "deeds" apos) [] [] pos) (tMth (He.ga K "Desk") "deeds" (spDeeds K) W to tNil) := by
  subst hK
  exact k_mth0 B.wx.toTx.c_Desk B.wx.toTx.m_Desk_deeds (w_Desk_deeds B.wx) (B.rm.mono hl) B.hx ho ht
theorem c_Desk_laid {K : PySem.W.Frag} (B : Bx X W k) (ho : PE X o to) (ha : PA X (e :: es) ta) (hK : X.K = K := by rfl) (hl : 3 ≤ k := by decide) (hst : starEach (e :: es) X.env = (false, eval e X.env) :: starEach es X.env := by rfl) (hpl : (backTo pos (starEach es X.env)).any (·.1) = false := by rfl)
    (ht : eval (.Call (.Attribute o "_laid" apos) (e :: es) [] pos) X.env = (do
      let ov ← eval o X.env
      standAt apos.atName
      let (f, first) ← holding [ov] (getMethod ov "_laid" pl)
      callWith pos f first (backTo pos (starEach (e :: es) X.env)) (backToKw pos (keywordEach [] X.env))) := by rfl) : PE X (.Call (.Attribute o "_laid" apos) (e :: es) [] pos) (tMth (He.ga K "Desk") "_laid" (spLaid K) W to ta) := by
  subst hK
  exact k_mth B.wx.toTx.c_Desk B.wx.toTx.m_Desk_laid (w_Desk_laid B.wx) (B.rm.mono hl) B.hx ho ha hst hpl ht
theorem c_Desk_stand {K : PySem.W.Frag} (B : Bx X W k) (ho : PE X o to) (ha : PA X (e :: es) ta) (hK : X.K = K := by rfl) (hl : 3 ≤ k := by decide) (hst : starEach (e :: es) X.env = (false, eval e X.env) :: starEach es X.env := by rfl) (hpl : (backTo pos (starEach es X.env)).any (·.1) = false := by rfl)
    (ht : eval (.Call (.Attribute o "_stand" apos) (e :: es) [] pos) X.env = (do
      let ov ← eval o X.env
      standAt apos.atName
      let (f, first) ← holding [ov] (getMethod ov "_stand" pl)
      callWith pos f first (backTo pos (starEach (e :: es) X.env)) (backToKw pos (keywordEach [] X.env))) := by rfl) : PE X (.Call (.Attribute o "_stand" apos) (e :: es) [] pos) (tMth (He.ga K "Desk") "_stand" (spStand K) W to ta) := by
  subst hK
  exact k_mth B.wx.toTx.c_Desk B.wx.toTx.m_Desk_stand (w_Desk_stand B.wx) (B.rm.mono hl) B.hx ho ha hst hpl ht
theorem c_Desk_ledger {K : PySem.W.Frag} (B : Bx X W k) (ho : PE X o to) (hK : X.K = K := by rfl) (hl : 5 ≤ k := by decide)
    (ht : eval (.Call (.Attribute o "ledger" apos) [] [] pos) X.env = (do
      let ov ← eval o X.env
      standAt apos.atName
      let (f, first) ← holding [ov] (getMethod ov "ledger" pl)
      callWith pos f first (backTo pos (starEach [] X.env)) (backToKw pos (keywordEach [] X.env))) := by rfl) : PE X (.Call (.Attribute o "ledger" apos) [] [] pos) (tMth (He.ga K "Desk") "ledger" (spLedger K) W to tNil) := by
  subst hK
  exact k_mth0 B.wx.toTx.c_Desk B.wx.toTx.m_Desk_ledger (w_Desk_ledger B.wx) (B.rm.mono hl) B.hx ho ht
end
section
variable {P : Program} {w : World} {K : PySem.W.Frag} {mg : Str → Option Value} {base : Heap}
theorem sc_Desk_spent : FnScope ["self", "name"] ["self", "name"] xDesk_spent.scope := ⟨rfl, rfl, rfl, by decide +kernel, rfl, by decide +kernel, by decide +kernel⟩
theorem w_Desk_spent (T : Wx P K mg) : FnR P w K mg base (L2N.CX P w) 6 (He.ma K (He.ga K "Desk") "spent") (spSpentD K) :=
  mkR 5 T T.toTx.d_Desk_spent sc_Desk_spent (by rintro vs H Q E ⟨_, _, _, _, _, rfl, _⟩; rfl) (fun _ _ _ _ _ _ us hl => match us, hl with | [_, _], _ => rfl) (fun cdv A outer s H vs Q E B hsp => by
  obtain ⟨a, c, un, X, n, rfl, ⟨l, w, p, o, rw, dn, ud, kvs, Y, rfl, ⟨dx, hi⟩, hl, hp, ho, hr, hrs, hdn, hud, nd⟩, hz, hs, hq⟩ := hsp
  refine ⟨_, (pss_cons (ps_expr (c_Desk_laid (K := K) B (pv 0) (pa_cons (pv 1) pa_nil)))
    (pss_one (ps_ret (c_Ledger_spent (K := K) B (pe_fldK K (pv 0) rfl) (pa_cons (pv 1) pa_nil))))), ?_⟩
  obtain ⟨dl, hl1⟩ := hl.ins
  obtain ⟨R, hR⟩ := Option.isSome_iff_exists.mp hs
  obtain ⟨r, Z, hv, _⟩ := hrs.at_ hR
  refine ⟨_, rfl, a, _, _, rfl, hi, rfl, _, rfl, a, dx, rw, n, _, kvs, rfl, hi, rfl, hr, (fun z => by rw [hv] at z; cases z), fun v _ => ?_⟩
  exact ⟨_, rfl, a, _, _, _, _, rfl, hi, T.toTx.c_Desk, T.toTx.n_Desk_purse, rfl, l, _, _, rfl, hl1, rfl, _, rfl, l, n, _, _, w, rfl, hl, hz, hq⟩)
theorem sc_Desk_row : FnScope ["self", "name"] ["self", "name"] xDesk_row.scope := ⟨rfl, rfl, rfl, by decide +kernel, rfl, by decide +kernel, by decide +kernel⟩
theorem w_Desk_row (T : Wx P K mg) : FnR P w K mg base (L2N.CX P w) 7 (He.ma K (He.ga K "Desk") "row") (spRowOf K) :=
  mkR 6 T T.toTx.d_Desk_row sc_Desk_row (by rintro vs H Q E ⟨_, _, _, _, _, _, rfl, _⟩; rfl) (fun _ _ _ _ _ _ us hl => match us, hl with | [_, _], _ => rfl) (fun cdv A outer s H vs Q E B hsp => by
  obtain ⟨a, c, un, X, n, R, rfl, ⟨l, w, p, o, rw, dn, ud, kvs, Y, rfl, ⟨dx, hi⟩, hl, hp, ho, hr, hrs, hdn, hud, nd⟩, ok, hR, hq⟩ := hsp
  refine ⟨_, (pss_one (ps_ret (c_Row_twin (K := K) B (c_Desk_laid (K := K) B (pv 0) (pa_cons (pv 1) pa_nil))))), ?_⟩
  obtain ⟨r, Z, hv, hX, _⟩ := hrs.at_ hR
  refine ⟨_, rfl, a, _, _, rfl, hi, rfl, _, rfl, a, dx, rw, n, _, kvs, rfl, hi, rfl, hr, (fun z => by rw [hv] at z; cases z), fun v hv2 => ?_⟩
  rw [hv] at hv2
  cases hv2
  obtain ⟨k, s, t, m, g, d, rfl, ⟨dxr, hir⟩, _⟩ := id hX
  exact ⟨r, _, _, rfl, hir, rfl, r, R, _, _, rfl, hX, ok.rows _ (rowOf_mem hR), fun p H' X' _ e hX' => hq p H' X' e hX'⟩)
end
section
variable {X : Cx} {W : WX} {k : Nat} {e o : Expr} {es : List Expr} {ta : TA} {to : TE} {p pos apos : Pos} {pl : Sem Bool}
theorem c_Desk_spent {K : PySem.W.Frag} (B : Bx X W k) (ho : PE X o to) (ha : PA X (e :: es) ta) (hK : X.K = K := by rfl) (hl : 6 ≤ k := by decide) (hst : starEach (e :: es) X.env = (false, eval e X.env) :: starEach es X.env := by rfl) (hpl : (backTo pos (starEach es X.env)).any (·.1) = false := by rfl)
    (ht : eval (.Call (.Attribute o "spent" apos) (e :: es) [] pos) X.env = (do
      let ov ← eval o X.env
      standAt apos.atName
      let (f, first) ← holding [ov] (getMethod ov "spent" pl)
      callWith pos f first (backTo pos (starEach (e :: es) X.env)) (backToKw pos (keywordEach [] X.env))) := by rfl) : PE X (.Call (.Attribute o "spent" apos) (e :: es) [] pos) (tMth (He.ga K "Desk") "spent" (spSpentD K) W to ta) := by
  subst hK
  exact k_mth B.wx.toTx.c_Desk B.wx.toTx.m_Desk_spent (w_Desk_spent B.wx) (B.rm.mono hl) B.hx ho ha hst hpl ht
theorem c_Desk_row {K : PySem.W.Frag} (B : Bx X W k) (ho : PE X o to) (ha : PA X (e :: es) ta) (hK : X.K = K := by rfl) (hl : 7 ≤ k := by decide) (hst : starEach (e :: es) X.env = (false, eval e X.env) :: starEach es X.env := by rfl) (hpl : (backTo pos (starEach es X.env)).any (·.1) = false := by rfl)
    (ht : eval (.Call (.Attribute o "row" apos) (e :: es) [] pos) X.env = (do
      let ov ← eval o X.env
      standAt apos.atName
      let (f, first) ← holding [ov] (getMethod ov "row" pl)
      callWith pos f first (backTo pos (starEach (e :: es) X.env)) (backToKw pos (keywordEach [] X.env))) := by rfl) : PE X (.Call (.Attribute o "row" apos) (e :: es) [] pos) (tMth (He.ga K "Desk") "row" (spRowOf K) W to ta) := by
  subst hK
  exact k_mth B.wx.toTx.c_Desk B.wx.toTx.m_Desk_row (w_Desk_row B.wx) (B.rm.mono hl) B.hx ho ha hst hpl ht
theorem c_Desk_is_name {K : PySem.W.Frag} (B : Bx X W k) (ho : PE X o to) (ha : PA X (e :: es) ta) (hK : X.K = K := by rfl) (hl : 2 ≤ k := by decide) (hst : starEach (e :: es) X.env = (false, eval e X.env) :: starEach es X.env := by rfl) (hpl : (backTo pos (starEach es X.env)).any (·.1) = false := by rfl)
    (ht : eval (.Call (.Attribute o "is_name" apos) (e :: es) [] pos) X.env = (do
      let ov ← eval o X.env
      standAt apos.atName
      let (f, first) ← holding [ov] (getMethod ov "is_name" pl)
      callWith pos f first (backTo pos (starEach (e :: es) X.env)) (backToKw pos (keywordEach [] X.env))) := by rfl) : PE X (.Call (.Attribute o "is_name" apos) (e :: es) [] pos) (tSta (He.ga K "Desk") "is_name" spIsName W to ta) := by
  subst hK
  exact k_sta B.wx.toTx.c_Desk B.wx.toTx.s_is_name (by decide) B.wx.toTx.d_Desk_is_name.kp (w_Desk_is_name B.wx) (B.rm.mono hl) B.hx ho ha hst hpl ht
theorem c_Desk_price {K : PySem.W.Frag} (B : Bx X W k) (ho : PE X o to) (ha : PA X (e :: es) ta) (hK : X.K = K := by rfl) (hl : 2 ≤ k := by decide) (hst : starEach (e :: es) X.env = (false, eval e X.env) :: starEach es X.env := by rfl) (hpl : (backTo pos (starEach es X.env)).any (·.1) = false := by rfl)
    (ht : eval (.Call (.Attribute o "_prices" apos) (e :: es) [] pos) X.env = (do
      let ov ← eval o X.env
      standAt apos.atName
      let (f, first) ← holding [ov] (getMethod ov "_prices" pl)
      callWith pos f first (backTo pos (starEach (e :: es) X.env)) (backToKw pos (keywordEach [] X.env))) := by rfl) : PE X (.Call (.Attribute o "_prices" apos) (e :: es) [] pos) (tIns X (He.ga K "Desk") (He.ga K "Prices") "_prices" (spPrice K) W to ta) := by
  subst hK
  exact k_ins B.wx.toTx.c_Desk B.wx.toTx.n_Desk_prices B.wx.toTx.o_Prices (w_Prices_call B.wx) (B.rm.mono hl) B.hx ho ha hst hpl ht
end
end Bm
set_option Elab.async false
set_option linter.all false
set_option maxRecDepth 10000
set_option maxHeartbeats 400000
set_option pp.deepTerms false
set_option pp.maxSteps 1500
set_option maxErrors 6
/-! Walks: a new desk. -/
namespace Bm
open PySem PySem.Spec PyProof.Rows L2 Evl TL RZ
local macro_rules | `(tactic| walk_at "sz") => `(tactic| first | assumption | (refine sz_of ?_; omega) | (refine sz_lt ?_; omega))
local macro_rules | `(tactic| walk_at "ne") => `(tactic| first | assumption | (refine Ne.symm ?_; assumption) | exact ne_new (by assumption) (by walk_at "hp") | exact Ne.symm (ne_new (by assumption) (by walk_at "hp")))
local macro_rules | `(tactic| walk_at "hp") => `(tactic| first | assumption | exact upd_same | (refine (upd_ne (by walk_at "ne")).trans ?_; walk_at "hp") | (refine Ex.at_ (by assumption) ?_; walk_at "hp"))
local macro_rules | `(tactic| walk_at "sq") => `(tactic| first | assumption | (refine sq_of ?_; walk_at "hp") | (refine st_of ?_; walk_at "hp") | (refine ex_l (by assumption) ?_; walk_at "sq") | (refine ex_t (by assumption) ?_; walk_at "sq"))
local macro_rules | `(tactic| walk_at "sd") => `(tactic| first | exact (show (0 : Int) < _ from by omega) | exact (show (0 : Int) < _ ∧ _ < (1073741824 : Int) from ⟨by omega, by omega⟩) | exact (show CPow _ _ from ⟨by decide, by decide, by decide⟩) | exact (show CMul _ _ from .inl ⟨by omega, by omega⟩) | exact (show CMul _ _ from .inr ⟨by omega, by omega⟩))
local macro_rules | `(tactic| walk_at "g1") => `(tactic| first
  | refine ⟨_, rfl, ?_⟩
  | refine ⟨_, _, rfl, rfl, ?_⟩
  | refine .inl ⟨_, _, rfl, rfl, ?_⟩
  | refine .inl ⟨rfl, ?_⟩
  | refine .inl (.inl ⟨_, rfl, ?_⟩)
  | (refine ⟨_, _, rfl, ⟨?_, rfl⟩, ?_⟩; (walk_at "sz"))
  | refine ⟨(by walk_at "sd"), ?_⟩)
local macro_rules | `(tactic| walk_at "go") => `(tactic| repeat walk_at "g1")
local macro_rules | `(tactic| walk_at "st") => `(tactic| dsimp only [gName])
local macro_rules | `(tactic| walk_at "ln") => `(tactic| first | exact (show 0 < 1000 from by decide) | exact (show 1 < 1000 from by decide) | exact (show 2 < 1000 from by decide) | exact (show 3 < 1000 from by decide) | exact (show 4 < 1000 from by decide) | exact (show 5 < 1000 from by decide) | exact (show 6 < 1000 from by decide) | exact (show 7 < 1000 from by decide))
local macro_rules | `(tactic| walk_at "le") => `(tactic| first | exact (show 0 ≤ sizeLine from by decide) | exact (show 1 ≤ sizeLine from by decide) | exact (show 2 ≤ sizeLine from by decide) | exact (show 3 ≤ sizeLine from by decide) | exact (show 4 ≤ sizeLine from by decide) | exact (show 5 ≤ sizeLine from by decide) | exact (show 6 ≤ sizeLine from by decide) | exact (show 7 ≤ sizeLine from by decide) | exact (show 8 ≤ sizeLine from by decide))
local macro_rules | `(tactic| walk_at "nt") => `(tactic| first | exact nt_ins | exact nt_lst | exact nt_dK)
local macro_rules | `(tactic| walk_at "fr") => `(tactic| first | assumption | exact Fr.refl | exact Fr.ex (by assumption) | (refine Fr.put ?_ (by walk_at "hp") (by walk_at "nt") (by simp); walk_at "fr") | (refine Fr.new ?_ (by assumption); walk_at "fr"))
/-- any of the program's errors; only X may have changed -/
def MootF (K : PySem.W.Frag) (X : List Addr) (H : Hp) (E : XK) : Prop := ∀ (C : Addr) (d : Option Addr) (H' : Hp), Mo K C → Fr X H H' → E (.ref C) d H'
def okCosts (co oq oo oe os : Int) : Bool := !(decide (co < 0 ∨ co > 1000000000000)) && [oq, oo, oe, os].all fun p => !(decide (p < 0 ∨ p > 1000000000))
def spDeskInit (K : PySem.W.Frag) : Sp := fun vs H Q E => ∃ (a dx : Addr) (co oq oo oe os : Int), vs = [.ref a, .int co, .int oq, .int oo, .int oe, .int os] ∧ H a = some (.ins (cD K) dx []) ∧ (okCosts co oq oo oe os = false → MootF K [a] H E) ∧
  (okCosts co oq oo oe os = true → ∀ H' X', DeskAt K H' a (Core.new (co, oq, oo, oe, os)) [] X' → Fr [a] H H' → (∀ b ∈ X', b = a ∨ H b = none) → Q .non H')
section
variable {X : Cx} {W : WX} {k : Nat} {p pos : Pos} {tk : TA} {kws : List Keyword}
theorem cn_Prices {K : PySem.W.Frag} (B : Bx X W k) (hkw : PK X kws tk) (hK : X.K = K := by rfl) (hl : 4 ≤ k := by decide) (hg : Gl X "Prices" := by rfl)
    (hall : (backToKw pos (keywordEach kws X.env)).all (·.1.isSome) = true := by rfl) (hks : (backToKw pos (keywordEach kws X.env)).filterMap (·.1) = [("quiet" : Str), "odd", "edge", "strife"] := by rfl)
    (hpl : ((backTo pos (starEach [] X.env)).any (·.1) || (backToKw pos (keywordEach kws X.env)).any (·.1.isNone)) = false := by rfl) : PE X (.Call (.Name "Prices" p) [] kws pos) (tNewK (He.ga K "Prices") 4 (spPrcInit K) (fun vs zs => vs ++ zs) W tk) := by
  subst hK
  obtain ⟨mv, hb⟩ := (B.wx.toTx.d_Prices_init).kbinds0 (ps := ["self", "quiet", "odd", "edge", "strife"]) 1 ["quiet", "odd", "edge", "strife"] [] (fun us mv ws => us ++ ws) (fun z => by cases z) (fun q hq => by cases hq) (fun a b c => a.append c)
    (fun _ _ _ _ _ _ us mv ws l1 l2 l3 => match us, l1, mv, l2, ws, l3 with | [_], _, [], _, [_, _, _, _], _ => rfl)
  exact k_newK B.wx.toTx.k_Prices (w_Prices_init B.wx) (B.rm.mono hl) B.wx.toTx.g_Prices hb B.hx hkw hg hall hks (by decide) hpl
end
section
variable {P : Program} {w : World} {K : PySem.W.Frag} {mg : Str → Option Value} {base : Heap}
theorem sc_Desk_init : FnScope ["self", "coins", "quiet", "odd", "edge", "strife", "mark", "price"] ["self", "coins", "quiet", "odd", "edge", "strife"] xDesk_init.scope := ⟨rfl, rfl, rfl, by decide +kernel, rfl, by decide +kernel, by decide +kernel⟩
theorem w_Desk_init (T : Wx P K mg) : FnOk P w K mg base (L2N.CX P w) 6 (He.ma K (He.ga K "Desk") "__init__") (fdOf K (He.ma K (He.ga K "Desk") "__init__")) ["self", "coins", "quiet", "odd", "edge", "strife"] (spDeskInit K) :=
  mkOk 5 T T.toTx.d_Desk_init sc_Desk_init (by rintro vs H Q E ⟨_, _, _, _, _, _, _, rfl, _⟩; rfl) (fun cdv A outer s H vs Q E B hsp => by
  obtain ⟨a, dx, co, oq, oo, oe, os, rfl, ha, hbad, hq⟩ := hsp
  refine ⟨_, (pss_cons (ps_fld (pv 0) (cn_Ledger (K := K) B (pa_cons (pv 1) pa_nil)) rfl)
    (pss_cons (ps_for (L2.passes_of rfl) B.calm (pi_zipA (by rfl) B.wx.toTx.f_zip (pa_cons (g_MARKS B) (pa_cons (pe_tup (pa_cons (pv 2) (pa_cons (pv 3) (pa_cons (pv 4) (pa_cons (pv 5) pa_nil))))) pa_nil))) (pg_tup B.calm (pgs_cons (pg_name (i := 6) sc_Desk_init.nd rfl (by first | exact .inl rfl | exact .inr rfl)) (pgs_cons (pg_name (i := 7) sc_Desk_init.nd rfl (by first | exact .inl rfl | exact .inr rfl)) pgs_nil))) (pss_one (ps_if (PW.pt (pw_or (pt_cmpR op_lt (pv 7) pe_int (nomark _)) (pw_or1 (pt_cmpR op_gt (pv 7) (gi_MOST_PRICE B) (nomark _))))) (pss_one (r_BadPrice B.rs (by rfl) (pa_cons (pv 6) pa_nil))) pss_nil)))
    (pss_cons (ps_fld (pv 0) (cn_Prices (K := K) B (pk_cons (pv 2) (pk_cons (pv 3) (pk_cons (pv 4) (pk_cons (pv 5) pk_nil))))) rfl)
    (pss_cons (ps_fld (pv 0) (pe_tup (pa_cons (pv 1) (pa_cons (pv 2) (pa_cons (pv 3) (pa_cons (pv 4) (pa_cons (pv 5) pa_nil)))))) rfl)
    (pss_cons (ps_fld (pv 0) pe_dnewK rfl)
    (pss_cons (ps_fld (pv 0) (pe_lst pa_nil) rfl)
    (pss_one (ps_fld (pv 0) (pe_lst pa_nil) rfl)))))))), ?_⟩
  by_cases hco : co < 0 ∨ co > 1000000000000
  · refine ⟨_, rfl, fun l d hl hd n => ⟨l, co, d, rfl, upd_same, fun _ C dd H' mo e => hbad ?_ C dd H' mo (Fr.ex ((ex_two hl hd n).trans e)), fun h => absurd hco h⟩⟩
    unfold okCosts
    rw [decide_eq_true hco]
    rfl
  refine qsf rfl ha T.toTx.c_Desk T.toTx.n_Desk_purse (by walk_at "ln") (fun x H1 => ∃ l w, x = .ref l ∧ H l = none ∧ H w = none ∧ w ≠ l ∧ LedAt K H1 l co [] w) (fun Q q => ?_) ?_
  · refine ⟨_, rfl, fun l d hl hd n => ⟨l, co, d, rfl, upd_same, fun h => absurd h hco, fun _ H' w hw hL f => ⟨rfl, q _ _ (ex_made hl hd f) ⟨l, w, rfl, hl, un_upd (un_upd hw), ?_, hL⟩⟩⟩⟩
    intro z
    rw [z, upd_same] at hw
    cases hw
  rintro _ H1' H1 e1 ⟨l, w, rfl, hl, hw, nwl, hL⟩ i1 f1 nb1
  have nla := ne_of_none' hl ha
  have nwa := ne_of_none' hw ha
  have hL1 := hL.fr f1 (by simpa using nla) (by simpa using nwa)
  have g1 : Fr [a] H H1 := Fr.same (Fr.ex e1) f1
  have hoks : okCosts co oq oo oe os = [oq, oo, oe, os].all fun p => !(decide (p < 0 ∨ p > 1000000000)) := by
    unfold okCosts
    rw [decide_eq_false hco]
    rfl
  refine ⟨_, rfl, _, rfl, _, rfl, _, rfl, by walk_at "le", fun t ht => ⟨_, t, _, _, rfl, .inr ⟨T.toTx.u_MARKS _, st_of upd_same, ?_⟩⟩⟩
  refine for_zipT (xs := [.str "quiet", .str "odd", .str "edge", .str "strife"]) (ys := [.int oq, .int oo, .int oe, .int os]) rfl (fun i σ' H' => Ex H1 H' ∧ (∃ u v, σ' = [some (.ref a), some (.int co), some (.int oq), some (.int oo), some (.int oe), some (.int os), u, v]) ∧ H' t = some (.tup [.int oq, .int oo, .int oe, .int os]) ∧ (([oq, oo, oe, os].take i).all fun p => !(decide (p < 0 ∨ p > 1000000000))) = true) ⟨Ex.new ht, ⟨none, none, rfl⟩, upd_same, rfl⟩ (fun i σ' H' h => ⟨T.toTx.u_MARKS _, st_of h.2.2.1⟩) ?_ ?_
  · rintro i x y U σ' H' hx hy ⟨e, ⟨u, v, rfl⟩, ht2, hall⟩ hU
    have hy2 : ([oq, oo, oe, os].map V.int)[i]? = some y := hy
    rw [List.getElem?_map] at hy2
    obtain ⟨z, hz, rfl⟩ := Option.map_eq_some_iff.mp hy2
    refine ⟨U, _, rfl, st_of upd_same, rfl, _, _, rfl, _, _, rfl, rfl, ?_⟩
    walk_at "st"
    refine swh (b := decide (z < 0) || decide (1000000000 < z)) (a_or (a_test fun Q q => ⟨_, rfl, _, _, rfl, rfl, q⟩) fun _ => a_test fun Q q => ⟨_, rfl, _, _, rfl, rfl, q⟩) (fun h => ?_) (fun h => ?_)
    · have h1 : z < 0 ∨ z > 1000000000 := by simpa using h
      refine ⟨_, rfl, rfl, fun d hd => hbad ?_ _ _ _ T.toTx.e_BadPrice (g1.same (Fr.ex (e.trans ((Ex.new hU).trans (Ex.new hd)))))⟩
      rw [hoks, List.all_eq_false]
      exact ⟨z, List.mem_of_getElem? hz, by rw [decide_eq_true h1]; exact Bool.noConfusion⟩
    · have h1 : ¬ (z < 0 ∨ z > 1000000000) := by simpa using h
      refine ⟨e.trans (Ex.new hU), ⟨_, _, rfl⟩, by rw [upd_ne (ne_of_none ht2 hU)]; exact ht2, ?_⟩
      rw [take_snoc hz, List.all_append, hall]
      simpa using h1
  rintro σ' H2 ⟨e2, ⟨u, v, rfl⟩, ht2, hall⟩
  have hall : ([oq, oo, oe, os].all fun p => !(decide (p < 0 ∨ p > 1000000000))) = true := hall
  have hrng : ∀ x ∈ [oq, oo, oe, os], 0 ≤ x ∧ x ≤ 1000000000 := fun x hx => by
    have := List.all_eq_true.mp hall x hx
    have h2 : ¬ (x < 0 ∨ x > 1000000000) := by simpa using this
    omega
  walk_at "st"
  have i2 := e2 _ _ i1
  refine qsf rfl i2 T.toTx.c_Desk T.toTx.n_Desk_prices (by walk_at "ln") (fun x H' => ∃ p dp, x = .ref p ∧ H2 p = none ∧ H' p = some (.ins (cP K) dp (prcF (co, oq, oo, oe, os)))) (fun Q q => ?_) ?_
  · refine ⟨_, rfl, _, rfl, _, rfl, _, rfl, rfl, fun p d hp hd n => ⟨p, d, co, oq, oo, oe, os, rfl, upd_same, hrng, fun H' hp2 f => ⟨rfl, q _ _ (ex_made hp hd f) ⟨p, d, rfl, hp, hp2⟩⟩⟩⟩
  rintro _ H3' H3 e3 ⟨p, dp, rfl, hp, hp3⟩ i3 f3 nb3
  have npa := ne_of_none' hp i2
  have p3 := f3.1 _ _ hp3 (by simpa using npa)
  refine qsf rfl i3 T.toTx.c_Desk T.toTx.n_Desk_opening (by walk_at "ln") (NewT H3 (opnV (co, oq, oo, oe, os))) (fun Q q => ⟨_, rfl, _, rfl, _, rfl, _, rfl, _, rfl, by walk_at "le", fun p hp => q _ _ (Ex.new hp) ⟨p, rfl, hp, upd_same⟩⟩) ?_
  rintro _ H4' H4 e4 ⟨o, rfl, ho, ho4⟩ i4 f4 nb4
  have p4 := f4.1 _ _ (e4 _ _ p3) (by simpa using npa)
  refine qsf rfl i4 T.toTx.c_Desk T.toTx.n_Desk_rows (by walk_at "ln") (fun x H' => ∃ r, x = .ref r ∧ H4 r = none ∧ H' r = some (.dK [])) (fun Q q => fun p hp => q _ _ (Ex.new hp) ⟨p, rfl, hp, upd_same⟩) ?_
  rintro _ H5' H5 e5 ⟨rw, rfl, hr, hr5⟩ i5 f5 nb5
  have nra := ne_of_none' hr i4
  have r5 := f5.1 _ _ hr5 (by simpa using nra)
  have p5 := f5.1 _ _ (e5 _ _ p4) (by simpa using npa)
  refine qsf rfl i5 T.toTx.c_Desk T.toTx.n_Desk_done (by walk_at "ln") (NewL H5 []) (fun Q q => ⟨by decide, fun p hp => q _ _ (Ex.new hp) ⟨p, rfl, hp, upd_same⟩⟩) ?_
  rintro _ H6' H6 e6 ⟨dn, rfl, hdn, hdn6⟩ i6 f6 nb6
  have nda := ne_of_none' hdn i5
  have d6 := f6.1 _ _ hdn6 (by simpa using nda)
  have r6 := f6.1 _ _ (e6 _ _ r5) (by simpa using nra)
  have p6 := f6.1 _ _ (e6 _ _ p5) (by simpa using npa)
  have nrd := ne_of_none r5 hdn
  have npd := ne_of_none p5 hdn
  have npr := ne_of_none p4 hr
  refine qsfE rfl i6 T.toTx.c_Desk T.toTx.n_Desk_undone (by walk_at "ln") (NewL H6 []) (fun Q q => ⟨by decide, fun p hp => q _ _ (Ex.new hp) ⟨p, rfl, hp, upd_same⟩⟩) ?_
  rintro _ H7' H7 e7 ⟨ud, rfl, hud, hud7⟩ i7 f7 nb7
  have nua := ne_of_none' hud i6
  have nru := ne_of_none r6 hud
  have npu := ne_of_none p6 hud
  have ndu := ne_of_none d6 hud
  have g26 : Fr [a] H1 H6 := Fr.same (Fr.ex e2) <| Fr.same (Fr.ex e3) <| Fr.same f3 <| Fr.same (Fr.ex e4) <| Fr.same f4 <| Fr.same (Fr.ex e5) <| Fr.same f5 <| Fr.same (Fr.ex e6) f6
  have g27 : Fr [a] H1 H7 := Fr.same g26 <| Fr.same (Fr.ex e7) f7
  obtain ⟨⟨dl, l1⟩, vs, w1, pv⟩ := id hL1
  have b7 : ∀ b, H6 b = none → H1 b = none := fun b h => fresh_back e2 (nb3 _ (nb4 _ (nb5 _ (nb6 _ h))))
  have b6 : ∀ b, H5 b = none → H1 b = none := fun b h => fresh_back e2 (nb3 _ (nb4 _ (nb5 _ h)))
  have b5 : ∀ b, H4 b = none → H1 b = none := fun b h => fresh_back e2 (nb3 _ (nb4 _ h))
  have b3 : ∀ b, H2 b = none → H1 b = none := fun b h => fresh_back e2 h
  have hXd : DeskAt K H7 a (Core.new (co, oq, oo, oe, os)) [] (a :: l :: w :: p :: rw :: dn :: ud :: []) := by
    refine ⟨l, w, p, o, rw, dn, ud, [], [], rfl, ⟨dx, i7⟩, hL1.fr g27 (by simpa using nla) (by simpa using nwa), ⟨dp, f7.1 _ _ (e7 _ _ p6) (by simpa using npa)⟩, ?_, f7.1 _ _ (e7 _ _ r6) (by simpa using nra), .nil, f7.1 _ _ (e7 _ _ d6) (by simpa using nda), f7.1 _ _ hud7 (by simpa using nua), ?_⟩
    · exact f7.2 _ _ (e7 _ _ (f6.2 _ _ (e6 _ _ (f5.2 _ _ (e5 _ _ (f4.2 _ _ ho4))))))
    · have c1 := ne_of_none l1 (b3 _ hp)
      have c2 := ne_of_none w1 (b3 _ hp)
      have c3 := ne_of_none l1 (b5 _ hr)
      have c4 := ne_of_none w1 (b5 _ hr)
      have c5 := ne_of_none l1 (b6 _ hdn)
      have c6 := ne_of_none w1 (b6 _ hdn)
      have c7 := ne_of_none l1 (b7 _ hud)
      have c8 := ne_of_none w1 (b7 _ hud)
      simp [nla.symm, nwa.symm, npa.symm, nra.symm, nda.symm, nua.symm, nwl.symm, c1, c2, c3, c4, c5, c6, c7, c8, npr, npd, npu, nrd, nru, ndu]
  refine hq (by rw [hoks]; exact hall) H7 _ hXd (g1.same g27) ?_
  intro b hb
  simp only [List.mem_cons, List.not_mem_nil, or_false] at hb
  rcases hb with h | h | h | h | h | h | h
  · exact .inl h
  · exact .inr (h ▸ hl)
  · exact .inr (h ▸ hw)
  · exact .inr (h ▸ nb1 _ (b3 _ hp))
  · exact .inr (h ▸ nb1 _ (b5 _ hr))
  · exact .inr (h ▸ nb1 _ (b6 _ hdn))
  · exact .inr (h ▸ nb1 _ (b7 _ hud)))
end
section
variable {X : Cx} {W : WX} {k : Nat} {p pos : Pos} {tk : TA} {kws : List Keyword}
theorem cn_Desk {K : PySem.W.Frag} (B : Bx X W k) (hkw : PK X kws tk) (hK : X.K = K := by rfl) (hl : 7 ≤ k := by decide) (hg : Gl X "Desk" := by rfl)
    (hall : (backToKw pos (keywordEach kws X.env)).all (·.1.isSome) = true := by rfl) (hks : (backToKw pos (keywordEach kws X.env)).filterMap (·.1) = [("coins" : Str), "quiet", "odd", "edge", "strife"] := by rfl)
    (hpl : ((backTo pos (starEach [] X.env)).any (·.1) || (backToKw pos (keywordEach kws X.env)).any (·.1.isNone)) = false := by rfl) : PE X (.Call (.Name "Desk" p) [] kws pos) (tNewK (He.ga K "Desk") 5 (spDeskInit K) (fun vs zs => vs ++ zs) W tk) := by
  subst hK
  obtain ⟨mv, hb⟩ := (B.wx.toTx.d_Desk_init).kbinds0 (ps := ["self", "coins", "quiet", "odd", "edge", "strife"]) 1 ["coins", "quiet", "odd", "edge", "strife"] [] (fun us mv ws => us ++ ws) (fun z => by cases z) (fun q hq => by cases hq) (fun a b c => a.append c)
    (fun _ _ _ _ _ _ us mv ws l1 l2 l3 => match us, l1, mv, l2, ws, l3 with | [_], _, [], _, [_, _, _, _, _], _ => rfl)
  exact k_newK B.wx.toTx.k_Desk (w_Desk_init B.wx) (B.rm.mono hl) B.wx.toTx.g_Desk hb B.hx hkw hg hall hks (by decide) hpl
end
end Bm
set_option Elab.async false
set_option linter.all false
set_option maxRecDepth 10000
set_option maxHeartbeats 400000
set_option pp.deepTerms false
set_option pp.maxSteps 1500
set_option maxErrors 6
/-! Walks: what a desk does. -/
namespace Bm
open PySem PySem.Spec PyProof.Rows L2 Evl TL RZ
local macro_rules | `(tactic| walk_at "sz") => `(tactic| first | assumption | (refine sz_of ?_; omega) | (refine sz_lt ?_; omega))
local macro_rules | `(tactic| walk_at "ne") => `(tactic| first | assumption | (refine Ne.symm ?_; assumption) | exact ne_new (by assumption) (by walk_at "hp") | exact Ne.symm (ne_new (by assumption) (by walk_at "hp")))
local macro_rules | `(tactic| walk_at "hp") => `(tactic| first | assumption | exact upd_same | (refine (upd_ne (by walk_at "ne")).trans ?_; walk_at "hp") | (refine Ex.at_ (by assumption) ?_; walk_at "hp"))
local macro_rules | `(tactic| walk_at "sq") => `(tactic| first | assumption | (refine sq_of ?_; walk_at "hp") | (refine st_of ?_; walk_at "hp") | (refine ex_l (by assumption) ?_; walk_at "sq") | (refine ex_t (by assumption) ?_; walk_at "sq"))
local macro_rules | `(tactic| walk_at "sd") => `(tactic| first | exact (show (0 : Int) < _ from by omega) | exact (show (0 : Int) < _ ∧ _ < (1073741824 : Int) from ⟨by omega, by omega⟩) | exact (show CPow _ _ from ⟨by decide, by decide, by decide⟩) | exact (show CMul _ _ from .inl ⟨by omega, by omega⟩) | exact (show CMul _ _ from .inr ⟨by omega, by omega⟩))
local macro_rules | `(tactic| walk_at "g1") => `(tactic| first
  | refine ⟨_, rfl, ?_⟩
  | refine ⟨_, _, rfl, rfl, ?_⟩
  | refine .inl ⟨_, _, rfl, rfl, ?_⟩
  | refine .inl ⟨rfl, ?_⟩
  | refine .inl (.inl ⟨_, rfl, ?_⟩)
  | (refine ⟨_, _, rfl, ⟨?_, rfl⟩, ?_⟩; (walk_at "sz"))
  | refine ⟨(by walk_at "sd"), ?_⟩)
local macro_rules | `(tactic| walk_at "go") => `(tactic| repeat walk_at "g1")
local macro_rules | `(tactic| walk_at "st") => `(tactic| dsimp only [gName])
local macro_rules | `(tactic| walk_at "ln") => `(tactic| first | exact (show 0 < 1000 from by decide) | exact (show 1 < 1000 from by decide) | exact (show 2 < 1000 from by decide) | exact (show 3 < 1000 from by decide) | exact (show 4 < 1000 from by decide) | exact (show 5 < 1000 from by decide) | exact (show 6 < 1000 from by decide) | exact (show 7 < 1000 from by decide))
local macro_rules | `(tactic| walk_at "le") => `(tactic| first | exact (show 0 ≤ sizeLine from by decide) | exact (show 1 ≤ sizeLine from by decide) | exact (show 2 ≤ sizeLine from by decide) | exact (show 3 ≤ sizeLine from by decide) | exact (show 4 ≤ sizeLine from by decide) | exact (show 5 ≤ sizeLine from by decide) | exact (show 6 ≤ sizeLine from by decide) | exact (show 7 ≤ sizeLine from by decide) | exact (show 8 ≤ sizeLine from by decide))
local macro_rules | `(tactic| walk_at "nt") => `(tactic| first | exact nt_ins | exact nt_lst | exact nt_dK)
local macro_rules | `(tactic| walk_at "fr") => `(tactic| first | assumption | exact Fr.refl | exact Fr.ex (by assumption) | (refine Fr.put ?_ (by walk_at "hp") (by walk_at "nt") (by simp); walk_at "fr") | (refine Fr.new ?_ (by assumption); walk_at "fr"))
/-- a desk's change to c', un' -/
def MutD (K : PySem.W.Frag) (H : Hp) (a : Addr) (X : List Addr) (c' : Core) (un' : List Str) (q : Hp → Prop) : Prop := ∀ H' X', DeskAt K H' a c' un' X' → Fr X H H' → Nw X X' H → q H'
def MutS (K : PySem.W.Frag) (H : Hp) (a : Addr) (X : List Addr) (c' : Core) (q : Hp → Prop) : Prop := ∀ H' X', DeskAt K H' a c' [] X' → Fr X H H' → Nw X X' H → Left K H a X' H' → q H'
theorem lgs {i : Int} (h : i.natAbs < 2 ^ 64) : i.natAbs.log2 < 1920 := by
  by_cases z : i.natAbs = 0
  · rw [z]
    decide
  · exact (Nat.log2_lt z).mpr (Nat.lt_of_lt_of_le h (Nat.pow_le_pow_right (by decide) (by decide)))
def layW (n : Str) (ks : List Int) : List Str := "lay" :: n :: ks.map shw
def takeL (n : Str) (b : Int) : Str := Str.empty ++ "take " ++ n ++ " " ++ shw b
def growL (n : Str) (k : Int) : Str := Str.empty ++ "grow " ++ n ++ " " ++ shw k
def coinL (p : Int) : Str := Str.empty ++ "coins " ++ shw p
def spLay (K : PySem.W.Frag) : Sp := fun vs H Q E => ∃ (a kl : Addr) (c : Core) (un : List Str) (X : List Addr) (n : Str) (ks : List Int), vs = [.ref a, .str n, .ref kl] ∧ DeskAt K H a c un X ∧ H kl = some (.lst (ks.map V.int)) ∧ n.length ≤ 100000 ∧ ks.length ≤ 90000 ∧ c.done.length ≤ 90000 ∧ c.rows.length ≤ 90000 ∧
  ((layW n ks).map (·.length)).sum + (ks.length + 2) ≤ 1000000 ∧ (c.lay n ks = none → Moot K H E) ∧ ∀ d, c.lay n ks = some d → MutS K H a X (d.stood (Txt.join blank (layW n ks))) (Q .non)
def spTakeD (K : PySem.W.Frag) : Sp := fun vs H Q E => ∃ (a : Addr) (c : Core) (un : List Str) (X : List Addr) (n : Str) (b : Int), vs = [.ref a, .str n, .int b] ∧ DeskAt K H a c un X ∧ CoreOk c ∧ (shw b).length ≤ 100 ∧ n.length ≤ 90000 ∧ c.done.length ≤ 80000 ∧
  (c.take n b = none → Moot K H E) ∧ ∀ d, c.take n b = some d → MutS K H a X (d.stood (takeL n b)) (fun H' => ∀ v, Q v H')
def spGrowD (K : PySem.W.Frag) : Sp := fun vs H Q E => ∃ (a : Addr) (c : Core) (un : List Str) (X : List Addr) (n : Str) (k : Int), vs = [.ref a, .str n, .int k] ∧ DeskAt K H a c un X ∧ CoreOk c ∧ (shw k).length ≤ 100 ∧ n.length ≤ 90000 ∧ c.done.length ≤ 80000 ∧
  (c.grow n k = none → Moot K H E) ∧ ∀ d, c.grow n k = some d → MutS K H a X (d.stood (growL n k)) (fun H' => ∀ v, Q v H')
def spPayD (K : PySem.W.Frag) : Sp := fun vs H Q E => ∃ (a : Addr) (c : Core) (un : List Str) (X : List Addr) (p : Int), vs = [.ref a, .int p] ∧ DeskAt K H a c un X ∧ (shw p).length ≤ 100 ∧ c.done.length ≤ 80000 ∧ c.writ.length ≤ 80000 ∧
  (c.pay p = none → Moot K H E) ∧ ∀ d, c.pay p = some d → MutS K H a X (d.stood (coinL p)) (Q .non)
theorem Moot.ex {K : PySem.W.Frag} {H H' : Hp} {E : XK} (h : Moot K H E) (e : Ex H H') : Moot K H' E := fun C d H2 m e2 => h C d H2 m (e.trans e2)
/-- a row of a desk, and the desk with another in its place -/
theorem desk_row {K : PySem.W.Frag} {H : Hp} {a : Addr} {c : Core} {un : List Str} {X : List Addr} {n : Str} {R : RowD} (h : DeskAt K H a c un X) (hR : rowOf c.rows n = some R) :
    ∃ dx l p o rw dn ud kvs r Z, H a = some (.ins (cD K) dx (dskF l p o rw dn ud)) ∧ H rw = some (.dK kvs) ∧ valV kvs (.inr n) = some (.ref r) ∧ RowX K H r R Z ∧
      ∀ (H' : Hp) (R' : RowD) (Z' : List Addr), RowX K H' r R' Z' → Fr Z H H' → Nw Z Z' H → ∃ X', DeskAt K H' a { c with rows := setRow c.rows n R' } un X' ∧ Fr X H H' ∧ Nw X X' H ∧ KeepU K H a H' := by
  obtain ⟨l, w, p, o, rw, dn, ud, kvs, Y, rfl, ⟨dx, hi⟩, hl, ⟨dp, hp⟩, ho, hr, hrs, hdn, hud, nd⟩ := h
  obtain ⟨r, Z, hv, hX, hZ, rep⟩ := hrs.at_ hR
  refine ⟨dx, l, p, o, rw, dn, ud, kvs, r, Z, hi, hr, hv, hX, fun H' R' Z' hX' f nw => ?_⟩
  obtain ⟨⟨dl, hl1⟩, vs, hw, pv⟩ := id hl
  simp only [List.nodup_cons, List.mem_cons, not_or] at nd
  obtain ⟨⟨al, aw, ap, arw, adn, aud, aY⟩, ⟨lw, lp, lrw, ldn, lud, lY⟩, ⟨wp, wrw, wdn, wud, wY⟩, ⟨prw, pdn, pud, pY⟩, ⟨rdn, rud, rY⟩, ⟨dnud, dnY⟩, udY, ndY⟩ := nd
  obtain ⟨Y', hrs', ndY', hY'⟩ := rep H' R' Z' ndY hX' f nw
  have out : ∀ {b : Addr} {o : HO}, H b = some o → b ∉ Y → b ∉ Y' := fun hb nb hb' => (hY' _ hb').elim nb fun z => (nw _ z).elim (fun y => nb (hZ _ y)) fun y => by
    rw [hb] at y
    cases y
  refine ⟨a :: l :: w :: p :: rw :: dn :: ud :: Y', ⟨l, w, p, o, rw, dn, ud, kvs, Y', rfl, ⟨dx, f.1 _ _ hi fun z => aY (hZ _ z)⟩, hl.fr f (fun z => lY (hZ _ z)) (fun z => wY (hZ _ z)), ⟨dp, f.1 _ _ hp fun z => pY (hZ _ z)⟩, f.2 _ _ ho, f.1 _ _ hr fun z => rY (hZ _ z), hrs', f.1 _ _ hdn fun z => dnY (hZ _ z), f.1 _ _ hud fun z => udY (hZ _ z), ?_⟩, f.mono fun b hb => by simp [hZ _ hb], fun b hb => ?_, fun dx' l' p' o' rw' dn' ud' h => ?_⟩
  rotate_right
  · obtain ⟨_, e2⟩ := dsk_inj hi h
    subst e2
    exact ⟨(f.1 _ _ hi fun z => aY (hZ _ z)).trans hi.symm, (f.1 _ _ hud fun z => udY (hZ _ z)).trans hud.symm⟩
  · simp only [List.nodup_cons, List.mem_cons, not_or]
    exact ⟨⟨al, aw, ap, arw, adn, aud, out hi aY⟩, ⟨lw, lp, lrw, ldn, lud, out hl1 lY⟩, ⟨wp, wrw, wdn, wud, out hw wY⟩, ⟨prw, pdn, pud, out hp pY⟩, ⟨rdn, rud, out hr rY⟩, ⟨dnud, out hdn dnY⟩, out hud udY, ndY'⟩
  · simp only [List.mem_cons] at hb ⊢
    rcases hb with h | h | h | h | h | h | h | h
    · exact .inl (by simp [h])
    · exact .inl (by simp [h])
    · exact .inl (by simp [h])
    · exact .inl (by simp [h])
    · exact .inl (by simp [h])
    · exact .inl (by simp [h])
    · exact .inl (by simp [h])
    · rcases hY' b h with y | y
      · exact .inl (by simp [y])
      · rcases nw b y with x | x
        · exact .inl (by simp [hZ _ x])
        · exact .inr x
/-- the same, of a row already found -/
theorem desk_row_at {K : PySem.W.Frag} {H : Hp} {a dx l p o rw dn ud r : Addr} {c : Core} {un : List Str} {X : List Addr} {n : Str} {R : RowD} {kvs : List (Key × V)} (h : DeskAt K H a c un X) (hR : rowOf c.rows n = some R) (hi : H a = some (.ins (cD K) dx (dskF l p o rw dn ud))) (hr : H rw = some (.dK kvs)) (hv : valV kvs (.inr n) = some (.ref r)) :
    ∃ Z, RowX K H r R Z ∧ ∀ (H' : Hp) (R' : RowD) (Z' : List Addr), RowX K H' r R' Z' → Fr Z H H' → Nw Z Z' H → ∃ X', DeskAt K H' a { c with rows := setRow c.rows n R' } un X' ∧ Fr X H H' ∧ Nw X X' H ∧ KeepU K H a H' := by
  obtain ⟨dx', l', p', o', rw', dn', ud', kvs', r', Z, hi', hr', hv', hX, rep⟩ := desk_row h hR
  have e := Option.some.inj (hi'.symm.trans hi)
  simp only [HO.ins.injEq, dskF, List.cons.injEq, Prod.mk.injEq, V.ref.injEq, true_and, and_true] at e
  obtain ⟨_, _, _, _, e4, _⟩ := e
  subst e4
  have e2 := Option.some.inj (hr'.symm.trans hr)
  simp only [HO.dK.injEq] at e2
  subst e2
  have e3 := Option.some.inj (hv'.symm.trans hv)
  simp only [V.ref.injEq] at e3
  subst e3
  exact ⟨Z, hX, rep⟩
/-- a desk's purse, and the desk with another -/
theorem desk_led {K : PySem.W.Frag} {H : Hp} {a : Addr} {c : Core} {un : List Str} {X : List Addr} (h : DeskAt K H a c un X) :
    ∃ dx l w p o rw dn ud kvs dl dp, H a = some (.ins (cD K) dx (dskF l p o rw dn ud)) ∧ H rw = some (.dK kvs) ∧ LedAt K H l c.coins c.writ w ∧ H l = some (.ins (cL K) dl (ledF c.coins w)) ∧ H p = some (.ins (cP K) dp (prcF c.opn)) ∧
      a ∉ [l, w] ∧ rw ∉ [l, w] ∧ (∀ b ∈ [l, w], b ∈ X) ∧ ∀ (H' : Hp) (co : Int) (es : List Ent), LedAt K H' l co es w → Fr [l, w] H H' → DeskAt K H' a { c with coins := co, writ := es } un X ∧ KeepU K H a H' := by
  obtain ⟨l, w, p, o, rw, dn, ud, kvs, Y, rfl, ⟨dx, hi⟩, hl, ⟨dp, hp⟩, ho, hr, hrs, hdn, hud, nd⟩ := h
  obtain ⟨⟨dl, hl1⟩, vs, hw, pv⟩ := id hl
  have nd0 := nd
  simp only [List.nodup_cons, List.mem_cons, not_or] at nd
  obtain ⟨⟨al, aw, ap, arw, adn, aud, aY⟩, ⟨lw, lp, lrw, ldn, lud, lY⟩, ⟨wp, wrw, wdn, wud, wY⟩, ⟨prw, pdn, pud, pY⟩, ⟨rdn, rud, rY⟩, ⟨dnud, dnY⟩, udY, ndY⟩ := nd
  refine ⟨dx, l, w, p, o, rw, dn, ud, kvs, dl, dp, hi, hr, hl, hl1, hp, by simp [al, aw], by simp [Ne.symm lrw, Ne.symm wrw], by simp, fun H' co es hL f1 => ⟨?_, fun dx' l' p' o' rw' dn' ud' h => ?_⟩⟩
  rotate_left
  · obtain ⟨_, e2⟩ := dsk_inj hi h
    subst e2
    exact ⟨(f1.1 _ _ hi (by simp [al, aw])).trans hi.symm, (f1.1 _ _ hud (by simp [Ne.symm lud, Ne.symm wud])).trans hud.symm⟩
  refine ⟨l, w, p, o, rw, dn, ud, kvs, Y, rfl, ⟨dx, f1.1 _ _ hi (by simp [al, aw])⟩, hL, ⟨dp, f1.1 _ _ hp (by simp [Ne.symm lp, Ne.symm wp])⟩, f1.2 _ _ ho, f1.1 _ _ hr (by simp [Ne.symm lrw, Ne.symm wrw]), hrs.fr f1 ?_, f1.1 _ _ hdn (by simp [Ne.symm ldn, Ne.symm wdn]), f1.1 _ _ hud (by simp [Ne.symm lud, Ne.symm wud]), nd0⟩
  intro b hb
  simp only [List.mem_cons, List.not_mem_nil, or_false, not_or]
  exact ⟨fun z => lY (z ▸ hb), fun z => wY (z ▸ hb)⟩
/-- a desk's dict tells of no row -/
theorem desk_none {K : PySem.W.Frag} {H : Hp} {a : Addr} {c : Core} {un : List Str} {X : List Addr} {n : Str} (h : DeskAt K H a c un X) (hR : rowOf c.rows n = none) :
    ∃ dx l p o rw dn ud kvs, H a = some (.ins (cD K) dx (dskF l p o rw dn ud)) ∧ H rw = some (.dK kvs) ∧ valV kvs (.inr n) = none := by
  obtain ⟨l, w, p, o, rw, dn, ud, kvs, Y, rfl, ⟨dx, hi⟩, hl, ⟨dp, hp⟩, ho, hr, hrs, hdn, hud, nd⟩ := h
  exact ⟨dx, l, p, o, rw, dn, ud, kvs, hi, hr, hrs.none hR⟩
theorem len_app {x y : Str} : (x ++ y).length = x.length + y.length := by
  show (x.cps ++ y.cps).size = _
  rw [Array.size_append]
  rfl
section
variable {P : Program} {w : World} {K : PySem.W.Frag} {mg : Str → Option Value} {base : Heap}
theorem sc_Desk_pay_in : FnScope ["self", "amount"] ["self", "amount"] xDesk_pay_in.scope := ⟨rfl, rfl, rfl, by decide +kernel, rfl, by decide +kernel, by decide +kernel⟩
theorem w_Desk_pay_in (T : Wx P K mg) : FnR P w K mg base (L2N.CX P w) 4 (He.ma K (He.ga K "Desk") "pay_in") (spPayD K) :=
  mkR 3 T T.toTx.d_Desk_pay_in sc_Desk_pay_in (by rintro vs H Q E ⟨_, _, _, _, _, rfl, _⟩; rfl) (fun _ _ _ _ _ _ us hl => match us, hl with | [_, _], _ => rfl) (fun cdv A outer s H vs Q E B hsp => by
  obtain ⟨a, c, un, X, p, rfl, hD, hsl, hz, hzw, hm, hq⟩ := hsp
  refine ⟨_, (pss_cons (ps_expr (c_Ledger_pay_in (K := K) B (pe_fldK K (pv 0) rfl) (pa_cons (pv 1) pa_nil)))
    (pss_one (ps_expr (c_Desk_stand (K := K) B (pv 0) (pa_cons (pe_joined (.cons pe_str (.cons (pe_fmt (pv 1)) .nil))) pa_nil))))), ?_⟩
  obtain ⟨l, w, pp, o, rw, dn, ud, kvs, Y, rfl, ⟨dx, hi⟩, hl, ⟨dp, hp⟩, ho, hr, hrs, hdn, hud, nd⟩ := id hD
  have nd0 := nd
  simp only [List.nodup_cons, List.mem_cons, not_or] at nd
  obtain ⟨⟨al, aw, ap, arw, adn, aud, aY⟩, ⟨lw, lp, lrw, ldn, lud, lY⟩, ⟨wp, wrw, wdn, wud, wY⟩, ⟨prw, pdn, pud, pY⟩, ⟨rdn, rud, rY⟩, ⟨dnud, dnY⟩, udY, ndY⟩ := nd
  obtain ⟨dl, hl1⟩ := hl.ins
  unfold Core.pay at hm hq
  refine ⟨_, rfl, a, _, _, _, _, rfl, hi, T.toTx.c_Desk, T.toTx.n_Desk_purse, rfl, l, _, _, rfl, hl1, rfl, _, rfl, l, p, _, _, w, rfl, hl, by omega, fun h => hm (by rw [if_pos h]), fun h H1 hL f1 => ?_⟩
  rw [if_neg h] at hm hq
  have hD1 : DeskAt K H1 a { c with coins := c.coins + p, writ := c.writ ++ [.inn p] } un (a :: l :: w :: pp :: rw :: dn :: ud :: Y) := by
    refine ⟨l, w, pp, o, rw, dn, ud, kvs, Y, rfl, ⟨dx, f1.1 _ _ hi (by simp [al, aw])⟩, hL, ⟨dp, f1.1 _ _ hp (by simp [Ne.symm lp, Ne.symm wp])⟩, f1.2 _ _ ho, f1.1 _ _ hr (by simp [Ne.symm lrw, Ne.symm wrw]), hrs.fr f1 ?_, f1.1 _ _ hdn (by simp [Ne.symm ldn, Ne.symm wdn]), f1.1 _ _ hud (by simp [Ne.symm lud, Ne.symm wud]), nd0⟩
    intro b hb
    simp only [List.mem_cons, List.not_mem_nil, or_false, not_or]
    exact ⟨fun z => lY (z ▸ hb), fun z => wY (z ▸ hb)⟩
  have hrange : 1 ≤ p ∧ p ≤ 1000000000 := by omega
  walk_at "st"
  refine ⟨_, rfl, a, _, _, rfl, f1.1 _ _ hi (by simp [al, aw]), rfl, ?_⟩
  refine ⟨_, rfl, by decide, _, rfl, .inr ⟨p, rfl, lgs (by omega), _, rfl, ?_, ?_⟩⟩
  · rw [len_app, len_app]
    have e1 : (Str.empty).length = 0 := rfl
    have e2 : ("coins " : Str).length = 6 := rfl
    rw [e1, e2]
    exact sz_of (by show 0 + 6 + (shw p).length ≤ 100000; omega)
  refine ⟨a, _, _, _, _, rfl, hD1, by show c.done.length ≤ 90000; omega, fun H2 X2 hD2 f2 nw2 lf2 => ?_⟩
  refine hq _ rfl H2 X2 hD2 ((f1.mono (by simp)).trans f2 Nw.refl) (Nw.trans Nw.refl nw2 f1.3) ((KeepU.fr hD f1 fun dx' l' p' o' rw' dn' ud' h => ?_).left lf2)
  obtain ⟨_, e2⟩ := dsk_inj hi h
  subst e2
  exact ⟨by simp [al, aw], by simp [Ne.symm lud, Ne.symm wud]⟩)
theorem sc_Desk_grow : FnScope ["self", "name", "kind", "bead"] ["self", "name", "kind"] xDesk_grow.scope := ⟨rfl, rfl, rfl, by decide +kernel, rfl, by decide +kernel, by decide +kernel⟩
theorem w_Desk_grow (T : Wx P K mg) : FnR P w K mg base (L2N.CX P w) 6 (He.ma K (He.ga K "Desk") "grow") (spGrowD K) :=
  mkR 5 T T.toTx.d_Desk_grow sc_Desk_grow (by rintro vs H Q E ⟨_, _, _, _, _, _, rfl, _⟩; rfl) (fun _ _ _ _ _ _ us hl => match us, hl with | [_, _, _], _ => rfl) (fun cdv A outer s H vs Q E B hsp => by
  obtain ⟨a, c, un, X, n, kd, rfl, hD, ok, hsl, hzn, hz, hm, hq⟩ := hsp
  refine ⟨_, (pss_cons (st_set (i := 3) sc_Desk_grow.nd (c_Row_grow (K := K) B (c_Desk_laid (K := K) B (pv 0) (pa_cons (pv 1) pa_nil)) (pa_cons (pv 2) pa_nil)))
    (pss_cons (ps_expr (c_Desk_stand (K := K) B (pv 0) (pa_cons (pe_joined (.cons pe_str (.cons (pe_fmt (pv 1)) (.cons pe_str (.cons (pe_fmt (pv 2)) .nil))))) pa_nil)))
    (pss_one (ps_ret (pv 3))))), ?_⟩
  unfold Core.grow at hm hq
  cases hR : rowOf c.rows n with
  | none =>
    rw [hR] at hm
    obtain ⟨dx, l, p, o, rw, dn, ud, kvs, hi, hr, hv⟩ := desk_none hD hR
    exact ⟨_, rfl, a, _, _, rfl, hi, rfl, _, rfl, a, dx, rw, n, _, kvs, rfl, hi, rfl, hr, fun _ => hm rfl, fun v hv2 => by rw [hv] at hv2; cases hv2⟩
  | some R =>
    rw [hR] at hm hq
    dsimp only at hm hq
    obtain ⟨dx, l, p, o, rw, dn, ud, kvs, r, Z, hi, hr, hv, hX, rep⟩ := desk_row hD hR
    have okR : RowOk R c.done.length := ok.rows _ (rowOf_mem hR)
    refine ⟨_, rfl, a, _, _, rfl, hi, rfl, _, rfl, a, dx, rw, n, _, kvs, rfl, hi, rfl, hr, (fun z => by rw [hv] at z; cases z), fun v hv2 => ?_⟩
    rw [hv] at hv2
    cases hv2
    obtain ⟨k, s, t, m, g, d, rfl, ⟨dxr, hir⟩, _⟩ := id hX
    refine ⟨r, _, _, rfl, hir, rfl, _, rfl, r, R, _, _, kd, rfl, hX, okR, by omega, fun h => hm ?_, fun h H1 X1 hX1 f1 nw1 => ?_⟩
    · by_cases h1 : kd < 0 ∨ kd > 999
      · rw [if_pos h1]
      · rw [if_neg h1, if_pos (by omega)]
    have h1 : ¬ (kd < 0 ∨ kd > 999) := by omega
    have h2 : ¬ R.kinds.length ≥ 24 := by omega
    rw [if_neg h1, if_neg h2] at hq
    obtain ⟨X2, hD2, f2, nw2, ku2⟩ := rep H1 _ X1 hX1 f1 nw1
    obtain ⟨l', w', p', o', rw', dn', ud', kvs', Y', _, ⟨dx', hi'⟩, _⟩ := id hD2
    walk_at "st"
    refine ⟨_, rfl, a, _, _, rfl, hi', rfl, _, rfl, by decide, _, rfl, .inl ⟨n, rfl, sz_of (by omega), _, rfl, ?_, _, rfl, ?_, _, rfl, .inr ⟨kd, rfl, lgs (by omega), _, rfl, ?_, ?_⟩⟩⟩
    · rw [len_app, len_app]
      exact sz_of (by show 0 + 5 + n.length ≤ 100000; omega)
    · rw [len_app, len_app, len_app]
      exact sz_of (by show 0 + 5 + n.length + 1 ≤ 100000; omega)
    · rw [len_app, len_app, len_app, len_app]
      exact sz_of (by show 0 + 5 + n.length + 1 + (shw kd).length ≤ 100000; omega)
    refine ⟨a, _, _, _, _, rfl, hD2, by show c.done.length ≤ 90000; omega, fun H3 X3 hD3 f3 nw3 lf3 => ?_⟩
    exact ⟨_, rfl, hq _ rfl H3 X3 hD3 (f2.trans f3 nw2) (Nw.trans nw2 nw3 f2.3) (ku2.left lf3) _⟩)
theorem sc_Desk_take : FnScope ["self", "name", "bead", "row", "mark"] ["self", "name", "bead"] xDesk_take.scope := ⟨rfl, rfl, rfl, by decide +kernel, rfl, by decide +kernel, by decide +kernel⟩
theorem w_Desk_take (T : Wx P K mg) : FnR P w K mg base (L2N.CX P w) 8 (He.ma K (He.ga K "Desk") "take") (spTakeD K) :=
  mkR 7 T T.toTx.d_Desk_take sc_Desk_take (by rintro vs H Q E ⟨_, _, _, _, _, _, rfl, _⟩; rfl) (fun _ _ _ _ _ _ us hl => match us, hl with | [_, _, _], _ => rfl) (fun cdv A outer s H vs Q E B hsp => by
  obtain ⟨a, c, un, X, n, b, rfl, hD, ok, hsl, hzn, hz, hm, hq⟩ := hsp
  refine ⟨_, (pss_cons (st_set (i := 3) sc_Desk_take.nd (c_Desk_laid (K := K) B (pv 0) (pa_cons (pv 1) pa_nil)))
    (pss_cons (st_set (i := 4) sc_Desk_take.nd (c_Row_mark (K := K) B (pv 3) (pa_cons (pv 2) pa_nil)))
    (pss_cons (ps_expr (c_Ledger_pay (K := K) B (pe_fldK K (pv 0) rfl) (pa_cons (pv 1) (pa_cons (pv 2) (pa_cons (pv 4) (pa_cons (c_Desk_price B (pv 0) (pa_cons (pv 4) pa_nil)) pa_nil))))))
    (pss_cons (ps_expr (c_Row_take (K := K) B (pv 3) (pa_cons (pv 2) pa_nil)))
    (pss_cons (ps_expr (c_Desk_stand (K := K) B (pv 0) (pa_cons (pe_joined (.cons pe_str (.cons (pe_fmt (pv 1)) (.cons pe_str (.cons (pe_fmt (pv 2)) .nil))))) pa_nil)))
    (pss_one (ps_ret (pv 4)))))))), ?_⟩
  unfold Core.take at hm hq
  cases hR : rowOf c.rows n with
  | none =>
    rw [hR] at hm
    obtain ⟨dx, l, p, o, rw, dn, ud, kvs, hi, hr, hv⟩ := desk_none hD hR
    exact ⟨_, rfl, a, _, _, rfl, hi, rfl, _, rfl, a, dx, rw, n, _, kvs, rfl, hi, rfl, hr, fun _ => hm rfl, fun v hv2 => by rw [hv] at hv2; cases hv2⟩
  | some R =>
    rw [hR] at hm hq
    dsimp only at hm hq
    obtain ⟨dx, l, w, p, o, rw, dn, ud, kvs, dl, dp, hi, hr, hL, hl1, hp, naw, nrw, hsub, repL⟩ := desk_led hD
    obtain ⟨dx', l', p', o', rw', dn', ud', kvs', r, Z0, hi', hr', hv', hX0, _⟩ := desk_row hD hR
    have e := Option.some.inj (hi'.symm.trans hi)
    simp only [HO.ins.injEq, dskF, List.cons.injEq, Prod.mk.injEq, V.ref.injEq, true_and, and_true] at e
    obtain ⟨_, _, _, _, e4, _⟩ := e
    subst e4
    have e2 := Option.some.inj (hr'.symm.trans hr)
    simp only [HO.dK.injEq] at e2
    subst e2
    have okR : RowOk R c.done.length := ok.rows _ (rowOf_mem hR)
    obtain ⟨k, s, t, m, g, d, eZ, ⟨dxr, hir⟩, _⟩ := id hX0
    refine ⟨_, rfl, a, _, _, rfl, hi, rfl, _, rfl, a, dx, rw', n, _, kvs', rfl, hi, rfl, hr', (fun z => by rw [hv'] at z; cases z), fun v hv2 => ?_⟩
    rw [hv'] at hv2
    cases hv2
    walk_at "st"
    refine ⟨_, rfl, r, _, _, rfl, hir, rfl, _, rfl, r, R, _, _, b, rfl, hX0, okR, fun h => hm (by rw [h]), fun mk hmk H1 e1 => ?_⟩
    walk_at "st"
    rw [hmk] at hm hq
    dsimp only at hm hq
    have hi1 := e1 _ _ hi
    obtain ⟨_, _, _, emk⟩ := mark_some hmk
    have hmem : mk ∈ marks4 := by
      rw [emk]
      unfold RowD.mk1 markOf
      split
      · split <;> simp [marks4]
      · split <;> simp [marks4]
    refine ⟨_, rfl, a, _, _, _, _, rfl, hi1, T.toTx.c_Desk, T.toTx.n_Desk_purse, rfl, l, _, _, rfl, e1 _ _ hl1, rfl, _, rfl, _, rfl, _, rfl, _, rfl, a, _, _, p, rfl, hi1, rfl, _, rfl, .inr ⟨_, _, e1 _ _ hp⟩, p, dp, mk, c.opn.1, c.opn.2.1, c.opn.2.2.1, c.opn.2.2.2.1, c.opn.2.2.2.2, rfl, e1 _ _ hp, hmem, ?_⟩
    have hL1 : LedAt K H1 l c.coins c.writ w := hL.fr (Fr.ex (X := []) e1) (by simp) (by simp)
    have hwl := ok.wl
    refine ⟨l, n, b, mk, c.price mk, _, _, w, rfl, hL1, by omega, fun h => (hm (by rw [if_pos h])).ex e1, fun h H2 hL2 f2 => ?_⟩
    rw [if_neg h] at hq
    have f2a : Fr [l, w] H H2 := Fr.same (Fr.ex e1) f2
    obtain ⟨hD2, ku2⟩ := repL H2 _ _ hL2 f2a
    have hi2 := f2a.1 _ _ hi naw
    have hr2 := f2a.1 _ _ hr' nrw
    obtain ⟨Z, hX2, rep⟩ := desk_row_at hD2 hR hi2 hr2 hv'
    obtain ⟨k2, s2, t2, m2, g2, d2, eZ2, ⟨dxr2, hir2⟩, _⟩ := id hX2
    walk_at "st"
    refine ⟨_, rfl, r, _, _, rfl, hir2, rfl, _, rfl, r, R, Z, _, b, rfl, hX2, okR, by omega, by rw [hmk]; rfl, fun H3 X3 hX3 f3 nw3 => ?_⟩
    obtain ⟨X4, hD4, f4, nw4, ku4⟩ := rep H3 _ X3 hX3 f3 nw3
    obtain ⟨l5, w5, p5, o5, rw5, dn5, ud5, kvs5, Y5, _, ⟨dx5, hi5⟩, _⟩ := id hD4
    have hbr := okR.sr b
    obtain ⟨b0, b1, _, _⟩ := mark_some hmk
    have k24 := okR.k24
    walk_at "st"
    refine ⟨_, rfl, a, _, _, rfl, hi5, rfl, _, rfl, by decide, _, rfl, .inl ⟨n, rfl, sz_of (by omega), _, rfl, ?_, _, rfl, ?_, _, rfl, .inr ⟨b, rfl, lgs (by omega), _, rfl, ?_, ?_⟩⟩⟩
    · rw [len_app, len_app]
      exact sz_of (by show 0 + 5 + n.length ≤ 100000; omega)
    · rw [len_app, len_app, len_app]
      exact sz_of (by show 0 + 5 + n.length + 1 ≤ 100000; omega)
    · rw [len_app, len_app, len_app, len_app]
      exact sz_of (by show 0 + 5 + n.length + 1 + (shw b).length ≤ 100000; omega)
    refine ⟨a, _, _, _, _, rfl, hD4, by show c.done.length ≤ 90000; omega, fun H6 X6 hD6 f6 nw6 lf6 => ?_⟩
    have fa : Fr X H H2 := f2a.mono hsub
    exact ⟨_, rfl, hq _ rfl H6 X6 hD6 ((fa.same f4).trans f6 (Nw.trans Nw.refl nw4 fa.3)) (Nw.trans (Nw.trans Nw.refl nw4 fa.3) nw6 fun b hb => fa.3 _ (f4.3 _ hb)) ((ku2.trans ku4).left lf6) _⟩)
theorem sc_Desk_lay : FnScope ["self", "name", "kinds", "strand", "kind"] ["self", "name", "kinds"] xDesk_lay.scope := ⟨rfl, rfl, rfl, by decide +kernel, rfl, by decide +kernel, by decide +kernel⟩
theorem w_Desk_lay (T : Wx P K mg) : FnR P w K mg base (L2N.CX P w) 6 (He.ma K (He.ga K "Desk") "lay") (spLay K) :=
  mkR 5 T T.toTx.d_Desk_lay sc_Desk_lay (by rintro vs H Q E ⟨_, _, _, _, _, _, _, rfl, _⟩; rfl) (fun _ _ _ _ _ _ us hl => match us, hl with | [_, _, _], _ => rfl) (fun cdv A outer s H vs Q E B hsp => by
  obtain ⟨a, kl, c, un, X, n, ks, rfl, hD, hkl, hzn, hzk, hzd, hzr, hsum, hm, hq⟩ := hsp
  refine ⟨_, (pss_cons (ps_if (pt_not (pt_truthK K (c_Desk_is_name B (pv 0) (pa_cons (pv 1) pa_nil)) (fun _ => rfl))) (pss_one (r_BadName B.rs (by rfl) (pa_cons (pv 1) pa_nil))) pss_nil)
    (pss_cons (ps_if (pt_cmp (pc_din B.hu (pv 1) (pe_fldK K (pv 0) rfl)) (by with_unfolding_all rfl)) (pss_one (r_NameTaken B.rs (by rfl) (pa_cons (pv 1) pa_nil))) pss_nil)
    (pss_cons (ps_if (pt_cmpR (o_eqK K B.hu64) (pe_callB call_lenD (by rfl) B.wx.toTx.f_len b_len (pa_cons (pe_fldK K (pv 0) rfl) pa_nil)) (gi_MOST_ROWS B) (nomark _)) (pss_one (r_DeskFull B.rs (by rfl))) pss_nil)
    (pss_cons (st_set (i := 3) sc_Desk_lay.nd (cn_Strand (K := K) B (pa_cons (pv 2) pa_nil)))
    (pss_cons (ps_dput B.hu (pe_fldK K (pv 0) rfl) (pv 1) (cn_Row (K := K) B (pa_cons (pv 3) pa_nil)) rfl)
    (pss_one (ps_expr (c_Desk_stand (K := K) B (pv 0) (pa_cons (pe_join pe_str (pe_op (o_addK K) (pe_lst (pa_cons pe_str (pa_cons (pv 1) pa_nil))) (pe_lcB (own := [("kind", 4)]) B sc_Desk_lay.nd (pi_tup (pe_fldK K (pv 3) rfl)) (blkOk_by (N := ["self", "name", "kinds", "strand", "kind"]) (sc := xDesk_lay.scope) (by decide +kernel)) (fun _ _ _ _ _ => pg_name (i := 4) sc_Desk_lay.nd rfl (by first | exact .inl rfl | exact .inr rfl)) (fun _ _ _ _ _ B => pts_nil) (fun _ _ _ _ _ B => (pe_callTy call_str_int (by rfl) B.wx.toTx.f_str b_str (pa_cons (pv 4) pa_nil)))))) pa_nil))))))))), ?_⟩
  unfold Core.lay at hm hq
  obtain ⟨l, w, p, o, rw, dn, ud, kvs, Y, eX, ⟨dx, hi⟩, hl, ⟨dp, hp⟩, ho, hr, hrs, hdn, hud, nd⟩ := id hD
  refine qwhX (b := !isName n) (fun Q q => ⟨_, rfl, a, _, _, rfl, hi, rfl, _, rfl, n, rfl, hzn, fun H' e => ⟨isName n, rfl, q H' e⟩⟩) (fun h H1 e1 => ?_) (fun h H1 e1 => ?_)
  · have h1 : isName n = false := by simpa using h
    rw [if_pos h1] at hm
    exact ⟨_, rfl, rfl, fun d hd => hm rfl _ _ _ T.toTx.e_BadName (e1.trans (Ex.new hd))⟩
  have h1 : ¬ isName n = false := by simpa using h
  rw [if_neg h1] at hm hq
  have hi1 := e1 _ _ hi
  have hr1 := e1 _ _ hr
  refine qwh (b := (valV kvs (.inr n)).isSome) (a_test fun Q q => ?_) (fun h => ?_) (fun h => ?_)
  · exact ⟨_, rfl, _, rfl, a, _, _, _, _, rfl, hi1, T.toTx.c_Desk, T.toTx.n_Desk_rows, rfl, rw, _, rfl, DGet.k (k := .inr n) hr1, q⟩
  · have h2 : (rowOf c.rows n).isSome = true := by
      cases e : rowOf c.rows n with
      | none => rw [hrs.none e] at h; cases h
      | some R => rfl
    rw [if_pos h2] at hm
    exact ⟨_, rfl, rfl, fun d hd => hm rfl _ _ _ T.toTx.e_NameTaken (e1.trans (Ex.new hd))⟩
  have hv : valV kvs (.inr n) = none := by
    cases e : valV kvs (.inr n) with
    | none => rfl
    | some v => rw [e] at h; cases h
  have h2 : ¬ (rowOf c.rows n).isSome = true := by
    cases e : rowOf c.rows n with
    | none => exact Bool.noConfusion
    | some R =>
      obtain ⟨r, Z, hv2, _⟩ := hrs.at_ e
      rw [hv] at hv2
      cases hv2
  rw [if_neg h2] at hm hq
  have hkl2 : kvs.length = c.rows.length := hrs.len
  refine qwh (b := decide ((c.rows.length : Int) = 12)) (a_test fun Q q => ?_) (fun h => ?_) (fun h => ?_)
  · refine ⟨_, rfl, a, _, _, _, _, rfl, hi1, T.toTx.c_Desk, T.toTx.n_Desk_rows, rfl, rw, kvs, rfl, hr1, .inl ⟨rfl, ?_⟩⟩
    rw [dcI, hkl2]
    exact q
  · rw [if_pos (of_decide_eq_true h)] at hm
    exact hm rfl _ _ _ T.toTx.e_DeskFull e1
  rw [if_neg (of_decide_eq_false h)] at hm hq
  have hkl1 := e1 _ _ hkl
  by_cases hb : badStrand ks = true
  · rw [if_pos hb] at hm
    exact ⟨_, rfl, fun x d hx hd nx => ⟨x, d, kl, ks, rfl, upd_same, .inl (ex_two hx hd nx _ _ hkl1), hzk, fun _ C dd H' mo e => hm rfl C dd H' mo (e1.trans ((ex_two hx hd nx).trans e)), fun z => by rw [hb] at z; cases z⟩⟩
  have hb0 : badStrand ks = false := by simpa using hb
  rw [if_neg hb] at hq
  obtain ⟨b1, b2, b3⟩ := badStrand_no hb0
  refine qasg (fun x H2 => ∃ st, x = .ref st ∧ Ex H1 H2 ∧ StrandAt K H2 st ks) (fun Q q => ⟨_, rfl, fun x d hx hd nx => ⟨x, d, kl, ks, rfl, upd_same, .inl (ex_two hx hd nx _ _ hkl1), hzk, (fun z => by rw [hb0] at z; cases z), fun _ H' hS f => ⟨rfl, q _ _ ⟨x, rfl, ex_made hx hd f, hS⟩⟩⟩⟩) ?_
  rintro _ H2 ⟨st, rfl, e2, hS⟩
  refine ⟨_, rfl, fun x d hx hd nx => ⟨x, d, st, ks, rfl, upd_same, hS.ex (ex_two hx hd nx), b1, b2, fun H3 k3 s3 t3 m3 g3 d3 hR f3 fresh => ⟨rfl, ?_⟩⟩⟩
  have e3 : Ex H2 H3 := ex_made hx hd f3
  have e13 : Ex H H3 := e1.trans (e2.trans e3)
  have hx0 : H x = none := fresh_back (e1.trans e2) hx
  have hi3 := e13 _ _ hi
  have hr3 := e13 _ _ hr
  have fr0 : ∀ b ∈ [x, s3, t3, m3, g3, d3], H b = none := fun b hb => by
    rcases List.mem_cons.mp hb with z | z
    · rw [z]; exact hx0
    · exact fresh_back (e1.trans e2) (un_upd (un_upd (fresh b z)))
  refine ⟨_, rfl, a, _, _, _, _, rfl, hi3, T.toTx.c_Desk, T.toTx.n_Desk_rows, rfl, _, rfl, rw, _, rfl, DPut.k (k := .inr n) hr3 (sz_lt (by omega)), ?_⟩
  rw [putK_new _ hv]
  have nrx : ∀ b ∈ [x, s3, t3, m3, g3, d3], b ≠ rw := fun b hb => ne_of_none' (fr0 b hb) hr
  have f4 : Fr [rw] H3 (upd H3 rw (.dK (kvs ++ [(.inr n, .ref x)]))) := Fr.upd hr3 nt_dK (by simp)
  have hRX : RowX K H3 x (RowD.new ks) [x, s3, t3, m3, g3, d3] := ⟨k3, s3, t3, m3, g3, d3, rfl, hR⟩
  have hRX4 := hRX.fr f4 (fun b hb => by simpa using nrx b hb)
  have fa : Fr X H (upd H3 rw (.dK (kvs ++ [(.inr n, .ref x)]))) := (Fr.ex e13).same (f4.mono (by rw [eX]; simp))
  have fb : Fr [rw] H (upd H3 rw (.dK (kvs ++ [(.inr n, .ref x)]))) := (Fr.ex e13).same f4
  obtain ⟨⟨dl, hl1⟩, vs, hw, pv⟩ := id hl
  have nd0 := nd
  simp only [List.nodup_cons, List.mem_cons, not_or] at nd
  obtain ⟨⟨al, aw, ap, arw, adn, aud, aY⟩, ⟨lw, lp, lrw, ldn, lud, lY⟩, ⟨wp, wrw, wdn, wud, wY⟩, ⟨prw, pdn, pud, pY⟩, ⟨rdn, rud, rY⟩, ⟨dnud, dnY⟩, udY, ndY⟩ := nd
  have out : ∀ {b : Addr} {o : HO}, H b = some o → b ∉ Y → b ∉ Y ++ [x, s3, t3, m3, g3, d3] := fun hb nb hb' => (List.mem_append.mp hb').elim nb fun z => by
    rw [fr0 _ z] at hb
    cases hb
  have hD4 : DeskAt K (upd H3 rw (.dK (kvs ++ [(.inr n, .ref x)]))) a { c with rows := c.rows ++ [(n, RowD.new ks)] } un (a :: l :: w :: p :: rw :: dn :: ud :: (Y ++ [x, s3, t3, m3, g3, d3])) := by
    refine ⟨l, w, p, o, rw, dn, ud, _, _, rfl, ⟨dx, fb.1 _ _ hi (by simpa using arw)⟩, hl.fr fb (by simpa using lrw) (by simpa using wrw), ⟨dp, fb.1 _ _ hp (by simpa using prw)⟩, fb.2 _ _ ho, upd_same, (hrs.fr fb fun b hb => ?_).snoc hRX4, fb.1 _ _ hdn (by simpa using Ne.symm rdn), fb.1 _ _ hud (by simpa using Ne.symm rud), ?_⟩
    · simp only [List.mem_cons, List.not_mem_nil, or_false]
      exact fun z => rY (z ▸ hb)
    · simp only [List.nodup_cons, List.mem_cons, not_or]
      refine ⟨⟨al, aw, ap, arw, adn, aud, out hi aY⟩, ⟨lw, lp, lrw, ldn, lud, out hl1 lY⟩, ⟨wp, wrw, wdn, wud, out hw wY⟩, ⟨prw, pdn, pud, out hp pY⟩, ⟨rdn, rud, out hr rY⟩, ⟨dnud, out hdn dnY⟩, out hud udY, ?_⟩
      rw [List.nodup_append]
      refine ⟨ndY, hRX.nd, fun b hb b' hb' z => ?_⟩
      subst z
      obtain ⟨o, ho⟩ := hrs.tr b hb
      rw [fr0 b hb'] at ho
      cases ho
  have nw4 : Nw X (a :: l :: w :: p :: rw :: dn :: ud :: (Y ++ [x, s3, t3, m3, g3, d3])) H := by
    intro b hb
    rw [eX]
    simp only [List.mem_cons, List.mem_append] at hb ⊢
    rcases hb with h | h | h | h | h | h | h | h | h
    · exact .inl (by simp [h])
    · exact .inl (by simp [h])
    · exact .inl (by simp [h])
    · exact .inl (by simp [h])
    · exact .inl (by simp [h])
    · exact .inl (by simp [h])
    · exact .inl (by simp [h])
    · exact .inl (by simp [h])
    · exact .inr (fr0 b (by simpa using h))
  walk_at "st"
  generalize upd H3 rw (.dK (kvs ++ [(.inr n, .ref x)])) = H4 at *
  have hi4 := fb.1 _ _ hi (by simpa using arw)
  obtain ⟨sdx, sk, su, se, sv, hst, hsk⟩ := hS
  have nst : st ≠ rw := fun z => by
    have := e3 _ _ hst
    rw [z, hr3] at this
    cases this
  have hst4 := f4.1 _ _ (e3 _ _ hst) (by simpa using nst)
  have hsk4 := f4.2 _ _ (e3 _ _ hsk)
  refine ⟨_, rfl, a, _, _, rfl, hi4, rfl, ⟨_, rfl⟩, _, rfl, by walk_at "le", fun q1 hq1 => ?_⟩
  have e5 := Ex.new (o := .lst [.str "lay", .str n]) hq1
  have hkt : ∀ H', Ex (upd H4 q1 (.lst [.str "lay", .str n])) H' → SqT K H' sk (ks.map V.int) := fun H' e => ex_t e (st_of (e5 _ _ hsk4))
  refine ⟨_, rfl, st, _, _, _, _, rfl, (e5 _ _ hst4), T.toTx.c_Strand, T.toTx.n_Strand_kinds, rfl, sk, rfl, ⟨_, st_of (e5 _ _ hsk4)⟩, fun D hDn => ?_⟩
  refine lcX walk_tup _ yAt (by rw [List.length_map]; omega) hDn hkt (fun _ _ => true) (fun i acc => acc = (((ks.take i).map shw).map V.str)) rfl ?_ (fun i x acc H1 hi hx r e Q q => q H1 (Ex.refl H1)) (fun i x acc H1 hi hx r e hf Q q => ?_) (fun i x acc hi hx r hf => by cases hf) (fun H6 ys e hD2 r hl2 => ?_)
  · exact fun _ => rfl
  · rw [List.getElem?_map] at hx
    obtain ⟨y, hy, rfl⟩ := Option.map_eq_some_iff.mp hx
    have hyb := b3 y (List.mem_of_getElem? hy)
    refine ⟨_, rfl, y, rfl, lgs (by omega), q _ _ (Ex.refl H1) ?_⟩
    rw [take_snoc hy, List.map_append, List.map_append, r]
    rfl
  · rw [List.length_map, take_all] at r
    subst r
    have nqD : q1 ≠ D := ne_of_none upd_same hDn
    have hq6 := e _ _ (upd_same (a := q1))
    refine .inr (.inr (.inl ⟨q1, D, _, _, rfl, rfl, hq6, hD2, ?_, fun q2 hq2 => ?_⟩))
    · rw [List.length_map, List.length_map]
      exact sz_of (by show 2 + ks.length ≤ 100000; omega)
    · have e7 : Ex H4 (upd H6 q2 (.lst ([.str "lay", .str n] ++ (ks.map shw).map V.str))) := (e5.trans e).trans (Ex.new hq2)
      refine ⟨_, q2, layW n ks, rfl, rfl, .inl (sq_of upd_same), ?_, ?_⟩
      · have z : (layW n ks).length = ks.length + 2 := by
          show (ks.map shw).length + 1 + 1 = _
          rw [List.length_map]
        have z2 : (" " : Str).length = 1 := rfl
        rw [z, z2]
        omega
      refine ⟨a, _, _, _, _, rfl, hD4.ex e7, hzd, fun H8 X8 hD8 f8 nw8 lf8 => ?_⟩
      refine hq _ rfl H8 X8 hD8 ((fa.same (Fr.ex e7)).trans f8 nw4) (Nw.trans nw4 nw8 fun b hb => fa.3 _ (fresh_back e7 hb)) (((KeepU.fr hD fb fun dx' l' p' o' rw' dn' ud' h => ?_).trans (KeepU.ex hD4 e7)).left lf8)
      obtain ⟨_, e2⟩ := dsk_inj hi h
      subst e2
      exact ⟨by simpa using arw, by simpa using Ne.symm rud⟩)
end
end Bm
set_option Elab.async false
set_option linter.all false
set_option maxRecDepth 10000
set_option maxHeartbeats 400000
set_option pp.deepTerms false
set_option pp.maxSteps 1500
set_option maxErrors 6
/-! Walks: do. -/
namespace Bm
open PySem PySem.Spec PyProof.Rows L2 Evl TL RZ
local macro_rules | `(tactic| walk_at "sz") => `(tactic| first | assumption | (refine sz_of ?_; omega) | (refine sz_lt ?_; omega))
local macro_rules | `(tactic| walk_at "ne") => `(tactic| first | assumption | (refine Ne.symm ?_; assumption) | exact ne_new (by assumption) (by walk_at "hp") | exact Ne.symm (ne_new (by assumption) (by walk_at "hp")))
local macro_rules | `(tactic| walk_at "hp") => `(tactic| first | assumption | exact upd_same | (refine (upd_ne (by walk_at "ne")).trans ?_; walk_at "hp") | (refine Ex.at_ (by assumption) ?_; walk_at "hp"))
local macro_rules | `(tactic| walk_at "sq") => `(tactic| first | assumption | (refine sq_of ?_; walk_at "hp") | (refine st_of ?_; walk_at "hp") | (refine ex_l (by assumption) ?_; walk_at "sq") | (refine ex_t (by assumption) ?_; walk_at "sq"))
local macro_rules | `(tactic| walk_at "sd") => `(tactic| first | exact (show (0 : Int) < _ from by omega) | exact (show (0 : Int) < _ ∧ _ < (1073741824 : Int) from ⟨by omega, by omega⟩) | exact (show CPow _ _ from ⟨by decide, by decide, by decide⟩) | exact (show CMul _ _ from .inl ⟨by omega, by omega⟩) | exact (show CMul _ _ from .inr ⟨by omega, by omega⟩))
local macro_rules | `(tactic| walk_at "g1") => `(tactic| first
  | refine ⟨_, rfl, ?_⟩
  | refine ⟨_, _, rfl, rfl, ?_⟩
  | refine .inl ⟨_, _, rfl, rfl, ?_⟩
  | refine .inl ⟨rfl, ?_⟩
  | refine .inl (.inl ⟨_, rfl, ?_⟩)
  | (refine ⟨_, _, rfl, ⟨?_, rfl⟩, ?_⟩; (walk_at "sz"))
  | refine ⟨(by walk_at "sd"), ?_⟩)
local macro_rules | `(tactic| walk_at "go") => `(tactic| repeat walk_at "g1")
local macro_rules | `(tactic| walk_at "st") => `(tactic| dsimp only [gName])
local macro_rules | `(tactic| walk_at "ln") => `(tactic| first | exact (show 0 < 1000 from by decide) | exact (show 1 < 1000 from by decide) | exact (show 2 < 1000 from by decide) | exact (show 3 < 1000 from by decide) | exact (show 4 < 1000 from by decide) | exact (show 5 < 1000 from by decide) | exact (show 6 < 1000 from by decide) | exact (show 7 < 1000 from by decide))
local macro_rules | `(tactic| walk_at "le") => `(tactic| first | exact (show 0 ≤ sizeLine from by decide) | exact (show 1 ≤ sizeLine from by decide) | exact (show 2 ≤ sizeLine from by decide) | exact (show 3 ≤ sizeLine from by decide) | exact (show 4 ≤ sizeLine from by decide) | exact (show 5 ≤ sizeLine from by decide) | exact (show 6 ≤ sizeLine from by decide) | exact (show 7 ≤ sizeLine from by decide) | exact (show 8 ≤ sizeLine from by decide))
local macro_rules | `(tactic| walk_at "nt") => `(tactic| first | exact nt_ins | exact nt_lst | exact nt_dK)
local macro_rules | `(tactic| walk_at "fr") => `(tactic| first | assumption | exact Fr.refl | exact Fr.ex (by assumption) | (refine Fr.put ?_ (by walk_at "hp") (by walk_at "nt") (by simp); walk_at "fr") | (refine Fr.new ?_ (by assumption); walk_at "fr"))
theorem cut_from {xs : List V} {k : Nat} : cutV xs (some ((k : Nat) : Int)) none = xs.drop k := by
  unfold cutV
  rw [HT.sIx_nat, HT.sIx_none]
  rw [List.take_of_length_le (by rw [List.length_drop]; exact Nat.le_refl _)]
  rcases Nat.lt_or_ge k xs.length with h | h
  · rw [Nat.min_eq_left (Nat.le_of_lt h)]
  · rw [Nat.min_eq_right h, List.drop_length, List.drop_of_length_le h]
theorem two_words {w : List Str} (h : 2 ≤ w.length) : w = w.getD 0 "" :: w.getD 1 "" :: w.drop 2 := by
  match w, h with
  | x :: y :: r, _ => rfl
theorem one_word {w : List Str} (h : 1 ≤ w.length) : w = w.getD 0 "" :: w.drop 1 := by
  match w, h with
  | x :: r, _ => rfl
theorem layW_eq {l : Str} {ks : List Int} (h0 : wd l 0 = "lay") (h3 : 3 ≤ (wds l).length) (hk : nums ((wds l).drop 2) = some ks) : layW (wd l 1) ks = wds l := by
  have e := (nums_some hk).1
  have e2 := two_words (w := wds l) (by omega)
  unfold layW
  rw [← e]
  refine Eq.trans ?_ e2.symm
  show _ = wd l 0 :: wd l 1 :: (wds l).drop 2
  rw [h0]
theorem join3 (x y z : Str) : Txt.join blank [x, y, z] = Str.empty ++ (x ++ " ") ++ y ++ " " ++ z := by
  refine ext_tl ?_
  rw [join_eq, tl_join]
  simp only [tl_append, List.map_cons, List.map_nil]
  show tl x ++ (tl blank ++ (tl y ++ (tl blank ++ tl z))) = [] ++ (tl x ++ tl blank) ++ tl y ++ tl blank ++ tl z
  simp [List.append_assoc]
theorem join2 (x y : Str) : Txt.join blank [x, y] = Str.empty ++ (x ++ " ") ++ y := by
  refine ext_tl ?_
  rw [join_eq, tl_join]
  simp only [tl_append, List.map_cons, List.map_nil]
  show tl x ++ (tl blank ++ tl y) = [] ++ (tl x ++ tl blank) ++ tl y
  simp [List.append_assoc]
theorem one_num {l : List Str} {ks : List Int} (h : nums l = some ks) (h1 : l.length = 1) : ks = [ks.getD 0 0] ∧ l = [shw (ks.getD 0 0)] ∧ 0 ≤ ks.getD 0 0 ∧ (shw (ks.getD 0 0)).length ≤ 13 := by
  obtain ⟨e1, e2, e3⟩ := nums_some h
  have hl : ks.length = 1 := by
    rw [e1, List.length_map] at h1
    exact h1
  match ks, hl with
  | [k], _ =>
    refine ⟨rfl, e1, e2 k (by simp), ?_⟩
    rw [e1] at e3
    have e4 : rdNum (shw k) 13 = some k := by simpa using e3
    have := (rdNum_some e4).2.2.2.1
    show (shw k).length ≤ 13
    omega
theorem take_eq {l : Str} {ks : List Int} (h0 : wd l 0 = "take") (h3 : (wds l).length = 3) (hk : nums ((wds l).drop 2) = some ks) : takeL (wd l 1) (ks.getD 0 0) = l := by
  obtain ⟨_, e, _⟩ := one_num hk (by rw [List.length_drop, h3])
  have e2 := two_words (w := wds l) (by omega)
  rw [e] at e2
  have e3 : wds l = [wd l 0, wd l 1, shw (ks.getD 0 0)] := e2
  rw [h0] at e3
  refine Eq.trans ?_ (wds_join l)
  rw [e3, join3]
  rfl
theorem grow_eq {l : Str} {ks : List Int} (h0 : wd l 0 = "grow") (h3 : (wds l).length = 3) (hk : nums ((wds l).drop 2) = some ks) : growL (wd l 1) (ks.getD 0 0) = l := by
  obtain ⟨_, e, _⟩ := one_num hk (by rw [List.length_drop, h3])
  have e2 := two_words (w := wds l) (by omega)
  rw [e] at e2
  have e3 : wds l = [wd l 0, wd l 1, shw (ks.getD 0 0)] := e2
  rw [h0] at e3
  refine Eq.trans ?_ (wds_join l)
  rw [e3, join3]
  rfl
theorem coin_eq {l : Str} {ks : List Int} (h0 : wd l 0 = "coins") (h3 : (wds l).length = 2) (hk : nums ((wds l).drop 1) = some ks) : coinL (ks.getD 0 0) = l := by
  obtain ⟨_, e, _⟩ := one_num hk (by rw [List.length_drop, h3])
  have e2 := one_word (w := wds l) (by omega)
  rw [e] at e2
  have e3 : wds l = [wd l 0, shw (ks.getD 0 0)] := e2
  rw [h0] at e3
  refine Eq.trans ?_ (wds_join l)
  rw [e3, join2]
  rfl
theorem MutD.ex {K : PySem.W.Frag} {H H2 : Hp} {a : Addr} {X : List Addr} {c : Core} {un : List Str} {q : Hp → Prop} (h : MutD K H a X c un q) (e : Ex H H2) : MutD K H2 a X c un q := fun H' X' hD f nw => h H' X' hD ((Fr.ex e).same f) fun b hb => (nw b hb).imp id fun z => fresh_back e z
theorem MutS.ex {K : PySem.W.Frag} {H H2 : Hp} {a : Addr} {X X0 : List Addr} {c c0 : Core} {un : List Str} {q : Hp → Prop} (h : MutS K H a X c q) (e : Ex H H2) (hD : DeskAt K H a c0 un X0) : MutS K H2 a X c q := fun H' X' hD' f nw lf => h H' X' hD' ((Fr.ex e).same f) (fun b hb => (nw b hb).imp id fun z => fresh_back e z) ((KeepU.ex hD e).left lf)
def spDo (K : PySem.W.Frag) : Sp := fun vs H Q E => ∃ (a : Addr) (c : Core) (un : List Str) (X : List Addr) (l : Str), vs = [.ref a, .str l] ∧ DeskAt K H a c un X ∧ CoreOk c ∧ c.done.length ≤ 80000 ∧ l.length ≤ 80000 ∧
  (c.step l = none → Moot K H E) ∧ ∀ d, c.step l = some d → MutS K H a X d (fun H' => ∀ v, Q v H')
section
variable {X : Cx} {W : WX} {k : Nat} {e o : Expr} {es : List Expr} {ta : TA} {to : TE} {p pos apos : Pos} {pl : Sem Bool}
theorem c_Desk_pay_in {K : PySem.W.Frag} (B : Bx X W k) (ho : PE X o to) (ha : PA X (e :: es) ta) (hK : X.K = K := by rfl) (hl : 4 ≤ k := by decide) (hst : starEach (e :: es) X.env = (false, eval e X.env) :: starEach es X.env := by rfl) (hpl : (backTo pos (starEach es X.env)).any (·.1) = false := by rfl)
    (ht : eval (.Call (.Attribute o "pay_in" apos) (e :: es) [] pos) X.env = (do
      let ov ← eval o X.env
      standAt apos.atName
      let (f, first) ← holding [ov] (getMethod ov "pay_in" pl)
      callWith pos f first (backTo pos (starEach (e :: es) X.env)) (backToKw pos (keywordEach [] X.env))) := by rfl) : PE X (.Call (.Attribute o "pay_in" apos) (e :: es) [] pos) (tMth (He.ga K "Desk") "pay_in" (spPayD K) W to ta) := by
  subst hK
  exact k_mth B.wx.toTx.c_Desk B.wx.toTx.m_Desk_pay_in (w_Desk_pay_in B.wx) (B.rm.mono hl) B.hx ho ha hst hpl ht
theorem c_Desk_grow {K : PySem.W.Frag} (B : Bx X W k) (ho : PE X o to) (ha : PA X (e :: es) ta) (hK : X.K = K := by rfl) (hl : 6 ≤ k := by decide) (hst : starEach (e :: es) X.env = (false, eval e X.env) :: starEach es X.env := by rfl) (hpl : (backTo pos (starEach es X.env)).any (·.1) = false := by rfl)
    (ht : eval (.Call (.Attribute o "grow" apos) (e :: es) [] pos) X.env = (do
      let ov ← eval o X.env
      standAt apos.atName
      let (f, first) ← holding [ov] (getMethod ov "grow" pl)
      callWith pos f first (backTo pos (starEach (e :: es) X.env)) (backToKw pos (keywordEach [] X.env))) := by rfl) : PE X (.Call (.Attribute o "grow" apos) (e :: es) [] pos) (tMth (He.ga K "Desk") "grow" (spGrowD K) W to ta) := by
  subst hK
  exact k_mth B.wx.toTx.c_Desk B.wx.toTx.m_Desk_grow (w_Desk_grow B.wx) (B.rm.mono hl) B.hx ho ha hst hpl ht
theorem c_Desk_take {K : PySem.W.Frag} (B : Bx X W k) (ho : PE X o to) (ha : PA X (e :: es) ta) (hK : X.K = K := by rfl) (hl : 8 ≤ k := by decide) (hst : starEach (e :: es) X.env = (false, eval e X.env) :: starEach es X.env := by rfl) (hpl : (backTo pos (starEach es X.env)).any (·.1) = false := by rfl)
    (ht : eval (.Call (.Attribute o "take" apos) (e :: es) [] pos) X.env = (do
      let ov ← eval o X.env
      standAt apos.atName
      let (f, first) ← holding [ov] (getMethod ov "take" pl)
      callWith pos f first (backTo pos (starEach (e :: es) X.env)) (backToKw pos (keywordEach [] X.env))) := by rfl) : PE X (.Call (.Attribute o "take" apos) (e :: es) [] pos) (tMth (He.ga K "Desk") "take" (spTakeD K) W to ta) := by
  subst hK
  exact k_mth B.wx.toTx.c_Desk B.wx.toTx.m_Desk_take (w_Desk_take B.wx) (B.rm.mono hl) B.hx ho ha hst hpl ht
theorem c_Desk_lay {K : PySem.W.Frag} (B : Bx X W k) (ho : PE X o to) (ha : PA X (e :: es) ta) (hK : X.K = K := by rfl) (hl : 6 ≤ k := by decide) (hst : starEach (e :: es) X.env = (false, eval e X.env) :: starEach es X.env := by rfl) (hpl : (backTo pos (starEach es X.env)).any (·.1) = false := by rfl)
    (ht : eval (.Call (.Attribute o "lay" apos) (e :: es) [] pos) X.env = (do
      let ov ← eval o X.env
      standAt apos.atName
      let (f, first) ← holding [ov] (getMethod ov "lay" pl)
      callWith pos f first (backTo pos (starEach (e :: es) X.env)) (backToKw pos (keywordEach [] X.env))) := by rfl) : PE X (.Call (.Attribute o "lay" apos) (e :: es) [] pos) (tMth (He.ga K "Desk") "lay" (spLay K) W to ta) := by
  subst hK
  exact k_mth B.wx.toTx.c_Desk B.wx.toTx.m_Desk_lay (w_Desk_lay B.wx) (B.rm.mono hl) B.hx ho ha hst hpl ht
end
section
variable {P : Program} {w : World} {K : PySem.W.Frag} {mg : Str → Option Value} {base : Heap}
theorem sc_Desk_do : FnScope ["self", "line", "words", "word"] ["self", "line"] xDesk_do.scope := ⟨rfl, rfl, rfl, by decide +kernel, rfl, by decide +kernel, by decide +kernel⟩
theorem w_Desk_do (T : Wx P K mg) : FnR P w K mg base (L2N.CX P w) 9 (He.ma K (He.ga K "Desk") "do") (spDo K) :=
  mkR 8 T T.toTx.d_Desk_do sc_Desk_do (by rintro vs H Q E ⟨_, _, _, _, _, rfl, _⟩; rfl) (fun _ _ _ _ _ _ us hl => match us, hl with | [_, _], _ => rfl) (fun cdv A outer s H vs Q E B hsp => by
  obtain ⟨a, c, un, X, l, rfl, hD, ok, hzd, hzl, hm, hq⟩ := hsp
  refine ⟨_, (pss_cons (st_set (i := 2) sc_Desk_do.nd (c_split_words (K := K) B (pa_cons (pv 1) pa_nil)))
    (pss_cons (st_set (i := 3) sc_Desk_do.nd (pe_ix (ix_seqK K) (pv 2) pe_int (fun _ _ => rfl)))
    (pss_cons (ps_if (PW.pt (pw_and (pt_cmpR (o_eqK K B.hu64) (pv 3) pe_str (nomark _)) (pw_and1 (pt_cmpR op_ge (pe_callB (call_lenK K) (by rfl) B.wx.toTx.f_len b_len (pa_cons (pv 2) pa_nil)) pe_int (nomark _))))) (pss_one (ps_ret (c_Desk_lay (K := K) B (pv 0) (pa_cons (pe_ix (ix_seqK K) (pv 2) pe_int (fun _ _ => rfl)) (pa_cons (c_line_numbers (K := K) B (pa_cons (pe_slice sl_any (pv 2) (po_some pe_int) po_none) pa_nil)) pa_nil))))) pss_nil)
    (pss_cons (ps_if (PW.pt (pw_and (pt_cmpR (o_eqK K B.hu64) (pv 3) pe_str (nomark _)) (pw_and1 (pt_cmpR (o_eqK K B.hu64) (pe_callB (call_lenK K) (by rfl) B.wx.toTx.f_len b_len (pa_cons (pv 2) pa_nil)) pe_int (nomark _))))) (pss_one (ps_ret (c_Desk_take (K := K) B (pv 0) (pa_cons (pe_ix (ix_seqK K) (pv 2) pe_int (fun _ _ => rfl)) (pa_cons (pe_ix (ix_seqK K) (c_line_numbers (K := K) B (pa_cons (pe_slice sl_any (pv 2) (po_some pe_int) po_none) pa_nil)) pe_int (fun _ _ => rfl)) pa_nil))))) pss_nil)
    (pss_cons (ps_if (PW.pt (pw_and (pt_cmpR (o_eqK K B.hu64) (pv 3) pe_str (nomark _)) (pw_and1 (pt_cmpR (o_eqK K B.hu64) (pe_callB (call_lenK K) (by rfl) B.wx.toTx.f_len b_len (pa_cons (pv 2) pa_nil)) pe_int (nomark _))))) (pss_one (ps_ret (c_Desk_grow (K := K) B (pv 0) (pa_cons (pe_ix (ix_seqK K) (pv 2) pe_int (fun _ _ => rfl)) (pa_cons (pe_ix (ix_seqK K) (c_line_numbers (K := K) B (pa_cons (pe_slice sl_any (pv 2) (po_some pe_int) po_none) pa_nil)) pe_int (fun _ _ => rfl)) pa_nil))))) pss_nil)
    (pss_cons (ps_if (PW.pt (pw_and (pt_cmpR (o_eqK K B.hu64) (pv 3) pe_str (nomark _)) (pw_and1 (pt_cmpR (o_eqK K B.hu64) (pe_callB (call_lenK K) (by rfl) B.wx.toTx.f_len b_len (pa_cons (pv 2) pa_nil)) pe_int (nomark _))))) (pss_one (ps_ret (c_Desk_pay_in (K := K) B (pv 0) (pa_cons (pe_ix (ix_seqK K) (c_line_numbers (K := K) B (pa_cons (pe_slice sl_any (pv 2) (po_some pe_int) po_none) pa_nil)) pe_int (fun _ _ => rfl)) pa_nil)))) pss_nil)
    (pss_one (r_BadLine B.rs (by rfl))))))))), ?_⟩
  have hm : c.act l = none → Moot K H E := fun z => hm (by unfold Core.step; rw [z]; rfl)
  have hq : ∀ d, c.act l = some d → MutS K H a X (d.stood l) (fun H' => ∀ v, Q v H') := fun d z => hq _ (by unfold Core.step; rw [z]; rfl)
  unfold Core.act at hm hq
  have hwl := wds_len l
  have hlen : (wds l).length ≤ 80001 := by omega
  have hws : ∀ z ∈ wds l, z.length ≤ 80000 := fun z hz => Nat.le_trans (wds_mem hz) hzl
  have hne := wds_ne l
  have h1l : 1 ≤ (wds l).length := by
    cases e : wds l with
    | nil => exact absurd e hne
    | cons x r => exact Nat.succ_le_succ (Nat.zero_le _)
  have wdat : ∀ i, i < (wds l).length → atI ((wds l).map V.str) ((i : Nat) : Int) = some (.str (wd l i)) := fun i hi => atI_nat (by
    rw [List.getElem?_map, List.getElem?_eq_getElem hi]
    show some (V.str _) = some (V.str ((wds l).getD i ""))
    rw [List.getD_eq_getElem?_getD, List.getElem?_eq_getElem hi]
    rfl)
  have wdl : ∀ i, i < (wds l).length → (wd l i).length ≤ 80000 := fun i hi => hws _ (by
    show (wds l).getD i "" ∈ wds l
    rw [List.getD_eq_getElem?_getD, List.getElem?_eq_getElem hi]
    exact List.getElem_mem hi)
  have dl : ∀ k, ∀ z ∈ (wds l).drop k, z.length ≤ 100000 := fun k z hz => Nat.le_trans (hws z (List.mem_of_mem_drop hz)) (by decide)
  have ce : ∀ k : Nat, cutV ((wds l).map V.str) (some ((k : Nat) : Int)) none = ((wds l).drop k).map V.str := fun k => by rw [cut_from, List.map_drop]
  refine ⟨_, rfl, l, rfl, sz_of (by omega), fun p hp => ?_⟩
  have e1 := Ex.new (o := .lst ((wds l).map V.str)) hp
  have hp1 : (upd H p (.lst ((wds l).map V.str))) p = some (.lst ((wds l).map V.str)) := upd_same
  generalize upd H p (.lst ((wds l).map V.str)) = H1 at *
  obtain ⟨l0, w0, p0, o0, rw0, dn0, ud0, kvs0, Y0, _, ⟨dx0, hi⟩, _⟩ := id hD
  have hi1 := e1 _ _ hi
  refine ⟨_, rfl, .inl ⟨p, _, _, _, rfl, rfl, sq_of hp1, wdat 0 h1l, ?_⟩⟩
  walk_at "st"
  refine qwh (b := decide (wd l 0 = ("lay" : Str)) && decide (3 ≤ (wds l).length)) ?_ (fun h => ?_) (fun h => ?_)
  · refine a_and (a_test fun Q q => by walk_at "go"; rw [dcS]; exact q) fun _ => a_test fun Q q => ?_
    refine ⟨_, rfl, _, _, rfl, .inl ⟨_, sq_of hp1, rfl⟩, _, _, rfl, rfl, ?_⟩
    have e : decide ((3 : Int) ≤ (((wds l).map V.str).length : Nat)) = decide (3 ≤ (wds l).length) := by
      rw [List.length_map, Bool.eq_iff_iff, decide_eq_true_eq, decide_eq_true_eq]
      omega
    walk_at "st"
    rw [e]
    exact q
  · have h2 : wd l 0 = ("lay" : Str) ∧ 3 ≤ (wds l).length := by simpa using h
    rw [if_pos h2] at hm hq
    refine ⟨_, rfl, a, _, _, rfl, hi1, rfl, _, rfl, .inl ⟨p, _, _, _, rfl, rfl, sq_of hp1, wdat 1 (by omega), _, rfl, _, rfl, .inl ⟨p, _, rfl, sq_of hp1, fun q hq1 => ?_⟩⟩⟩
    have e2 := Ex.new (o := .lst (cutV ((wds l).map V.str) (some 2) none)) hq1
    refine ⟨q, (wds l).drop 2, rfl, sq_of (upd_same.trans (congrArg (fun z => some (HO.lst z)) (ce 2))), by rw [List.length_drop]; omega, dl 2, fun z H' e => hm (by rw [z]; rfl) _ _ _ T.toTx.e_BadLine (e1.trans (e2.trans e)), fun ks hks p2 H2 hp2 e3 hp22 => ?_⟩
    rw [hks] at hm hq
    have e12 : Ex H H2 := e1.trans (e2.trans e3)
    have ew := layW_eq h2.1 h2.2 hks
    have el : (layW (wd l 1) ks).length = ks.length + 2 := by
      show (ks.map shw).length + 1 + 1 = _
      rw [List.length_map]
    have ej : Txt.join blank (layW (wd l 1) ks) = l := by
      rw [ew]
      exact wds_join l
    refine ⟨a, p2, c, un, X, wd l 1, ks, rfl, hD.ex e12, hp22, Nat.le_trans (wdl 1 (by omega)) (by decide), ?_, by omega, Nat.le_trans ok.r12 (by decide), ?_, fun z => (hm z).ex e12, fun d hd => ?_⟩
    · rw [ew] at el
      omega
    · rw [ew]
      rw [ew] at el
      omega
    · rw [ej]
      exact fun H' X' a1 a2 a3 a4 => (hq d hd).ex e12 hD H' X' a1 a2 a3 a4 _
  have h2 : ¬ (wd l 0 = ("lay" : Str) ∧ 3 ≤ (wds l).length) := by simpa using h
  rw [if_neg h2] at hm hq
  refine qwh (b := decide (wd l 0 = ("take" : Str)) && decide ((wds l).length = 3)) ?_ (fun h => ?_) (fun h => ?_)
  · refine a_and (a_test fun Q q => by walk_at "go"; rw [dcS]; exact q) fun _ => a_test fun Q q => ?_
    refine ⟨_, rfl, _, _, rfl, .inl ⟨_, sq_of hp1, rfl⟩, .inl ⟨rfl, ?_⟩⟩
    have e : decide ((((wds l).map V.str).length : Nat) = (3 : Int)) = decide ((wds l).length = 3) := by
      rw [List.length_map, Bool.eq_iff_iff, decide_eq_true_eq, decide_eq_true_eq]
      omega
    rw [dcI, e]
    exact q
  · have h3 : wd l 0 = ("take" : Str) ∧ (wds l).length = 3 := by simpa using h
    rw [if_pos h3] at hm hq
    refine ⟨_, rfl, a, _, _, rfl, hi1, rfl, _, rfl, .inl ⟨p, _, _, _, rfl, rfl, sq_of hp1, wdat 1 (by omega), _, rfl, _, rfl, .inl ⟨p, _, rfl, sq_of hp1, fun q hq1 => ?_⟩⟩⟩
    have e2 := Ex.new (o := .lst (cutV ((wds l).map V.str) (some 2) none)) hq1
    refine ⟨q, (wds l).drop 2, rfl, sq_of (upd_same.trans (congrArg (fun z => some (HO.lst z)) (ce 2))), by rw [List.length_drop]; omega, dl 2, fun z H' e => hm (by rw [z]; rfl) _ _ _ T.toTx.e_BadLine (e1.trans (e2.trans e)), fun ks hks p2 H2 hp2 e3 hp22 => ?_⟩
    rw [hks] at hm hq
    have e12 : Ex H H2 := e1.trans (e2.trans e3)
    obtain ⟨k1, k2, k3, k4⟩ := one_num hks (by rw [List.length_drop, h3.2])
    have hat : atI (ks.map V.int) 0 = some (.int (ks.getD 0 0)) := by
      rw [k1]
      exact atI_nat (j := 0) rfl
    refine .inl ⟨p2, _, _, _, rfl, rfl, sq_of hp22, hat, a, c, un, X, wd l 1, _, rfl, hD.ex e12, ok, by omega, Nat.le_trans (wdl 1 (by omega)) (by decide), hzd, fun z => (hm z).ex e12, fun d hd => ?_⟩
    rw [take_eq h3.1 h3.2 hks]
    exact (hq d hd).ex e12 hD
  have h3 : ¬ (wd l 0 = ("take" : Str) ∧ (wds l).length = 3) := by simpa using h
  rw [if_neg h3] at hm hq
  refine qwh (b := decide (wd l 0 = ("grow" : Str)) && decide ((wds l).length = 3)) ?_ (fun h => ?_) (fun h => ?_)
  · refine a_and (a_test fun Q q => by walk_at "go"; rw [dcS]; exact q) fun _ => a_test fun Q q => ?_
    refine ⟨_, rfl, _, _, rfl, .inl ⟨_, sq_of hp1, rfl⟩, .inl ⟨rfl, ?_⟩⟩
    have e : decide ((((wds l).map V.str).length : Nat) = (3 : Int)) = decide ((wds l).length = 3) := by
      rw [List.length_map, Bool.eq_iff_iff, decide_eq_true_eq, decide_eq_true_eq]
      omega
    rw [dcI, e]
    exact q
  · have h4 : wd l 0 = ("grow" : Str) ∧ (wds l).length = 3 := by simpa using h
    rw [if_pos h4] at hm hq
    refine ⟨_, rfl, a, _, _, rfl, hi1, rfl, _, rfl, .inl ⟨p, _, _, _, rfl, rfl, sq_of hp1, wdat 1 (by omega), _, rfl, _, rfl, .inl ⟨p, _, rfl, sq_of hp1, fun q hq1 => ?_⟩⟩⟩
    have e2 := Ex.new (o := .lst (cutV ((wds l).map V.str) (some 2) none)) hq1
    refine ⟨q, (wds l).drop 2, rfl, sq_of (upd_same.trans (congrArg (fun z => some (HO.lst z)) (ce 2))), by rw [List.length_drop]; omega, dl 2, fun z H' e => hm (by rw [z]; rfl) _ _ _ T.toTx.e_BadLine (e1.trans (e2.trans e)), fun ks hks p2 H2 hp2 e3 hp22 => ?_⟩
    rw [hks] at hm hq
    have e12 : Ex H H2 := e1.trans (e2.trans e3)
    obtain ⟨k1, k2, k3, k4⟩ := one_num hks (by rw [List.length_drop, h4.2])
    have hat : atI (ks.map V.int) 0 = some (.int (ks.getD 0 0)) := by
      rw [k1]
      exact atI_nat (j := 0) rfl
    refine .inl ⟨p2, _, _, _, rfl, rfl, sq_of hp22, hat, a, c, un, X, wd l 1, _, rfl, hD.ex e12, ok, by omega, Nat.le_trans (wdl 1 (by omega)) (by decide), hzd, fun z => (hm z).ex e12, fun d hd => ?_⟩
    rw [grow_eq h4.1 h4.2 hks]
    exact (hq d hd).ex e12 hD
  have h4 : ¬ (wd l 0 = ("grow" : Str) ∧ (wds l).length = 3) := by simpa using h
  rw [if_neg h4] at hm hq
  refine qwh (b := decide (wd l 0 = ("coins" : Str)) && decide ((wds l).length = 2)) ?_ (fun h => ?_) (fun h => ?_)
  · refine a_and (a_test fun Q q => by walk_at "go"; rw [dcS]; exact q) fun _ => a_test fun Q q => ?_
    refine ⟨_, rfl, _, _, rfl, .inl ⟨_, sq_of hp1, rfl⟩, .inl ⟨rfl, ?_⟩⟩
    have e : decide ((((wds l).map V.str).length : Nat) = (2 : Int)) = decide ((wds l).length = 2) := by
      rw [List.length_map, Bool.eq_iff_iff, decide_eq_true_eq, decide_eq_true_eq]
      omega
    rw [dcI, e]
    exact q
  · have h5 : wd l 0 = ("coins" : Str) ∧ (wds l).length = 2 := by simpa using h
    rw [if_pos h5] at hm hq
    refine ⟨_, rfl, a, _, _, rfl, hi1, rfl, _, rfl, _, rfl, .inl ⟨p, _, rfl, sq_of hp1, fun q hq1 => ?_⟩⟩
    have e2 := Ex.new (o := .lst (cutV ((wds l).map V.str) (some 1) none)) hq1
    refine ⟨q, (wds l).drop 1, rfl, sq_of (upd_same.trans (congrArg (fun z => some (HO.lst z)) (ce 1))), by rw [List.length_drop]; omega, dl 1, fun z H' e => hm (by rw [z]; rfl) _ _ _ T.toTx.e_BadLine (e1.trans (e2.trans e)), fun ks hks p2 H2 hp2 e3 hp22 => ?_⟩
    rw [hks] at hm hq
    have e12 : Ex H H2 := e1.trans (e2.trans e3)
    obtain ⟨k1, k2, k3, k4⟩ := one_num hks (by rw [List.length_drop, h5.2])
    have hat : atI (ks.map V.int) 0 = some (.int (ks.getD 0 0)) := by
      rw [k1]
      exact atI_nat (j := 0) rfl
    have hwl := ok.wl
    refine .inl ⟨p2, _, _, _, rfl, rfl, sq_of hp22, hat, a, c, un, X, _, rfl, hD.ex e12, by omega, hzd, by omega, fun z => (hm z).ex e12, fun d hd => ?_⟩
    rw [coin_eq h5.1 h5.2 hks]
    exact fun H' X' a1 a2 a3 a4 => (hq d hd).ex e12 hD H' X' a1 a2 a3 a4 _
  have h5 : ¬ (wd l 0 = ("coins" : Str) ∧ (wds l).length = 2) := by simpa using h
  rw [if_neg h5] at hm
  exact hm rfl _ _ _ T.toTx.e_BadLine e1)
end
end Bm
set_option Elab.async false
set_option linter.all false
set_option maxRecDepth 10000
set_option maxHeartbeats 400000
set_option pp.deepTerms false
set_option pp.maxSteps 1500
set_option maxErrors 6
/-! Walks: undo and redo. -/
namespace Bm
open PySem PySem.Spec PyProof.Rows L2 Evl TL RZ
local macro_rules | `(tactic| walk_at "sz") => `(tactic| first | assumption | (refine sz_of ?_; omega) | (refine sz_lt ?_; omega))
local macro_rules | `(tactic| walk_at "ne") => `(tactic| first | assumption | (refine Ne.symm ?_; assumption) | exact ne_new (by assumption) (by walk_at "hp") | exact Ne.symm (ne_new (by assumption) (by walk_at "hp")))
local macro_rules | `(tactic| walk_at "hp") => `(tactic| first | assumption | exact upd_same | (refine (upd_ne (by walk_at "ne")).trans ?_; walk_at "hp") | (refine Ex.at_ (by assumption) ?_; walk_at "hp"))
local macro_rules | `(tactic| walk_at "sq") => `(tactic| first | assumption | (refine sq_of ?_; walk_at "hp") | (refine st_of ?_; walk_at "hp") | (refine ex_l (by assumption) ?_; walk_at "sq") | (refine ex_t (by assumption) ?_; walk_at "sq"))
local macro_rules | `(tactic| walk_at "sd") => `(tactic| first | exact (show (0 : Int) < _ from by omega) | exact (show (0 : Int) < _ ∧ _ < (1073741824 : Int) from ⟨by omega, by omega⟩) | exact (show CPow _ _ from ⟨by decide, by decide, by decide⟩) | exact (show CMul _ _ from .inl ⟨by omega, by omega⟩) | exact (show CMul _ _ from .inr ⟨by omega, by omega⟩))
local macro_rules | `(tactic| walk_at "g1") => `(tactic| first
  | refine ⟨_, rfl, ?_⟩
  | refine ⟨_, _, rfl, rfl, ?_⟩
  | refine .inl ⟨_, _, rfl, rfl, ?_⟩
  | refine .inl ⟨rfl, ?_⟩
  | refine .inl (.inl ⟨_, rfl, ?_⟩)
  | (refine ⟨_, _, rfl, ⟨?_, rfl⟩, ?_⟩; (walk_at "sz"))
  | refine ⟨(by walk_at "sd"), ?_⟩)
local macro_rules | `(tactic| walk_at "go") => `(tactic| repeat walk_at "g1")
local macro_rules | `(tactic| walk_at "st") => `(tactic| dsimp only [gName])
local macro_rules | `(tactic| walk_at "ln") => `(tactic| first | exact (show 0 < 1000 from by decide) | exact (show 1 < 1000 from by decide) | exact (show 2 < 1000 from by decide) | exact (show 3 < 1000 from by decide) | exact (show 4 < 1000 from by decide) | exact (show 5 < 1000 from by decide) | exact (show 6 < 1000 from by decide) | exact (show 7 < 1000 from by decide))
local macro_rules | `(tactic| walk_at "le") => `(tactic| first | exact (show 0 ≤ sizeLine from by decide) | exact (show 1 ≤ sizeLine from by decide) | exact (show 2 ≤ sizeLine from by decide) | exact (show 3 ≤ sizeLine from by decide) | exact (show 4 ≤ sizeLine from by decide) | exact (show 5 ≤ sizeLine from by decide) | exact (show 6 ≤ sizeLine from by decide) | exact (show 7 ≤ sizeLine from by decide) | exact (show 8 ≤ sizeLine from by decide))
local macro_rules | `(tactic| walk_at "nt") => `(tactic| first | exact nt_ins | exact nt_lst | exact nt_dK)
local macro_rules | `(tactic| walk_at "fr") => `(tactic| first | assumption | exact Fr.refl | exact Fr.ex (by assumption) | (refine Fr.put ?_ (by walk_at "hp") (by walk_at "nt") (by simp); walk_at "fr") | (refine Fr.new ?_ (by assumption); walk_at "fr"))
section
variable {K : PySem.W.Frag} {H : Hp} {a : Addr} {c : Core} {un : List Str} {X : List Addr}
theorem DeskAt.out {p : Addr} (h : DeskAt K H a c un X) (hp : H p = none) : p ∉ X := fun z => by
  obtain ⟨o, ho⟩ := h.tr p z
  rw [hp] at ho
  cases ho
/-- the list of lines done, changed -/
theorem desk_done (h : DeskAt K H a c un X) : ∃ dx l p o rw dn ud, H a = some (.ins (cD K) dx (dskF l p o rw dn ud)) ∧ H dn = some (.lst (c.done.map V.str)) ∧ dn ∈ X ∧ ∀ (H' : Hp) (ls : List Str), H' dn = some (.lst (ls.map V.str)) → Fr [dn] H H' → DeskAt K H' a { c with done := ls } un X := by
  obtain ⟨l, w, p, o, rw, dn, ud, kvs, Y, rfl, ⟨dx, hi⟩, hl, ⟨dp, hp⟩, ho, hr, hrs, hdn, hud, nd⟩ := h
  have nd0 := nd
  simp only [List.nodup_cons, List.mem_cons, not_or] at nd
  obtain ⟨⟨al, aw, ap, arw, adn, aud, aY⟩, ⟨lw, lp, lrw, ldn, lud, lY⟩, ⟨wp, wrw, wdn, wud, wY⟩, ⟨prw, pdn, pud, pY⟩, ⟨rdn, rud, rY⟩, ⟨dnud, dnY⟩, udY, ndY⟩ := nd
  refine ⟨dx, l, p, o, rw, dn, ud, hi, hdn, by simp, fun H' ls h1 f => ?_⟩
  refine ⟨l, w, p, o, rw, dn, ud, kvs, Y, rfl, ⟨dx, f.1 _ _ hi (by simpa using adn)⟩, hl.fr f (by simpa using ldn) (by simpa using wdn), ⟨dp, f.1 _ _ hp (by simpa using pdn)⟩, f.2 _ _ ho, f.1 _ _ hr (by simpa using rdn), hrs.fr f ?_, h1, f.1 _ _ hud (by simpa using Ne.symm dnud), nd0⟩
  intro b hb
  simp only [List.mem_cons, List.not_mem_nil, or_false]
  exact fun z => dnY (z ▸ hb)
theorem desk_und (h : DeskAt K H a c un X) : ∃ dx l p o rw dn ud, H a = some (.ins (cD K) dx (dskF l p o rw dn ud)) ∧ H ud = some (.lst (un.map V.str)) ∧ ud ∈ X ∧ ∀ (H' : Hp) (ls : List Str), H' ud = some (.lst (ls.map V.str)) → Fr [ud] H H' → DeskAt K H' a c ls X := by
  obtain ⟨l, w, p, o, rw, dn, ud, kvs, Y, rfl, ⟨dx, hi⟩, hl, ⟨dp, hp⟩, ho, hr, hrs, hdn, hud, nd⟩ := h
  have nd0 := nd
  simp only [List.nodup_cons, List.mem_cons, not_or] at nd
  obtain ⟨⟨al, aw, ap, arw, adn, aud, aY⟩, ⟨lw, lp, lrw, ldn, lud, lY⟩, ⟨wp, wrw, wdn, wud, wY⟩, ⟨prw, pdn, pud, pY⟩, ⟨rdn, rud, rY⟩, ⟨dnud, dnY⟩, udY, ndY⟩ := nd
  refine ⟨dx, l, p, o, rw, dn, ud, hi, hud, by simp, fun H' ls h1 f => ?_⟩
  refine ⟨l, w, p, o, rw, dn, ud, kvs, Y, rfl, ⟨dx, f.1 _ _ hi (by simpa using aud)⟩, hl.fr f (by simpa using lud) (by simpa using wud), ⟨dp, f.1 _ _ hp (by simpa using pud)⟩, f.2 _ _ ho, f.1 _ _ hr (by simpa using rud), hrs.fr f ?_, f.1 _ _ hdn (by simpa using dnud), h1, nd0⟩
  intro b hb
  simp only [List.mem_cons, List.not_mem_nil, or_false]
  exact fun z => udY (z ▸ hb)
/-- a row taken off the dict -/
theorem desk_drop (h : DeskAt K H a c un X) : ∃ dx l p o rw dn ud kvs, H a = some (.ins (cD K) dx (dskF l p o rw dn ud)) ∧ H rw = some (.dK kvs) ∧ rw ∈ X ∧ (∀ n, (rowOf c.rows n).isSome = true → (valV kvs (.inr n)).isSome = true) ∧
    ∀ (H' : Hp) (n : Str), H' rw = some (.dK (dropK kvs (.inr n))) → Fr [rw] H H' → ∃ X', DeskAt K H' a { c with rows := dropRow c.rows n } un X' ∧ ∀ b ∈ X', b ∈ X := by
  obtain ⟨l, w, p, o, rw, dn, ud, kvs, Y, rfl, ⟨dx, hi⟩, hl, ⟨dp, hp⟩, ho, hr, hrs, hdn, hud, nd⟩ := h
  simp only [List.nodup_cons, List.mem_cons, not_or] at nd
  obtain ⟨⟨al, aw, ap, arw, adn, aud, aY⟩, ⟨lw, lp, lrw, ldn, lud, lY⟩, ⟨wp, wrw, wdn, wud, wY⟩, ⟨prw, pdn, pud, pY⟩, ⟨rdn, rud, rY⟩, ⟨dnud, dnY⟩, udY, ndY⟩ := nd
  refine ⟨dx, l, p, o, rw, dn, ud, kvs, hi, hr, by simp, fun n hn => ?_, fun H' n h1 f => ?_⟩
  · obtain ⟨R, hR⟩ := Option.isSome_iff_exists.mp hn
    obtain ⟨r, Z, hv, _⟩ := hrs.at_ hR
    rw [hv]
    rfl
  have hrs' := hrs.fr f (fun b hb => by
    simp only [List.mem_cons, List.not_mem_nil, or_false]
    exact fun z => rY (z ▸ hb))
  obtain ⟨Y', h2, h3, h4⟩ := hrs'.drop (n := n) ndY
  refine ⟨a :: l :: w :: p :: rw :: dn :: ud :: Y', ⟨l, w, p, o, rw, dn, ud, _, Y', rfl, ⟨dx, f.1 _ _ hi (by simpa using arw)⟩, hl.fr f (by simpa using lrw) (by simpa using wrw), ⟨dp, f.1 _ _ hp (by simpa using prw)⟩, f.2 _ _ ho, h1, h2, f.1 _ _ hdn (by simpa using Ne.symm rdn), f.1 _ _ hud (by simpa using Ne.symm rud), ?_⟩, fun b hb => ?_⟩
  · simp only [List.nodup_cons, List.mem_cons, not_or]
    exact ⟨⟨al, aw, ap, arw, adn, aud, fun z => aY (h4 _ z)⟩, ⟨lw, lp, lrw, ldn, lud, fun z => lY (h4 _ z)⟩, ⟨wp, wrw, wdn, wud, fun z => wY (h4 _ z)⟩, ⟨prw, pdn, pud, fun z => pY (h4 _ z)⟩, ⟨rdn, rud, fun z => rY (h4 _ z)⟩, ⟨dnud, fun z => dnY (h4 _ z)⟩, fun z => udY (h4 _ z), h3⟩
  · simp only [List.mem_cons] at hb ⊢
    rcases hb with h | h | h | h | h | h | h | h
    · exact .inl h
    · exact .inr (.inl h)
    · exact .inr (.inr (.inl h))
    · exact .inr (.inr (.inr (.inl h)))
    · exact .inr (.inr (.inr (.inr (.inl h))))
    · exact .inr (.inr (.inr (.inr (.inr (.inl h)))))
    · exact .inr (.inr (.inr (.inr (.inr (.inr (.inl h))))))
    · exact .inr (.inr (.inr (.inr (.inr (.inr (.inr (h4 _ h)))))))
end
/-- how a line that was done may have been done -/
inductive Was (b : Core) (l : Str) : Core → Prop
  | lay (n : Str) (ks : List Int) : wd l 0 = "lay" → wd l 1 = n → 2 ≤ (wds l).length → rowOf b.rows n = none → Was b l { b with rows := b.rows ++ [(n, RowD.new ks)] }
  | take (n : Str) (i : Int) (R : RowD) (m : Str) (p : Int) : wd l 0 = "take" → wd l 1 = n → 2 ≤ (wds l).length → rowOf b.rows n = some R → R.mark i = some m → Was b l { b with coins := b.coins - p, writ := b.writ ++ [.paid n i m p], rows := setRow b.rows n (R.take i) }
  | grow (n : Str) (k : Int) (R : RowD) : wd l 0 = "grow" → wd l 1 = n → 2 ≤ (wds l).length → rowOf b.rows n = some R → Was b l { b with rows := setRow b.rows n (R.grow k) }
  | pay (p : Int) : wd l 0 = "coins" → Was b l { b with coins := b.coins + p, writ := b.writ ++ [.inn p] }
theorem was {b d : Core} {l : Str} (h : b.act l = some d) : Was b l d := by
  unfold Core.act at h
  split at h
  · rename_i e
    obtain ⟨ks, _, h⟩ := Option.bind_eq_some_iff.mp h
    unfold Core.lay at h
    split at h
    · cases h
    split at h
    · cases h
    rename_i h2
    split at h
    · cases h
    split at h
    · cases h
    cases h
    exact .lay _ ks e.1 rfl (by omega) (by simpa using h2)
  split at h
  · rename_i e
    obtain ⟨ks, _, h⟩ := Option.bind_eq_some_iff.mp h
    unfold Core.take at h
    cases hr : rowOf b.rows (wd l 1) with
    | none => rw [hr] at h; cases h
    | some R =>
      rw [hr] at h
      dsimp only at h
      cases hm : R.mark (ks.getD 0 0) with
      | none => rw [hm] at h; cases h
      | some m =>
        rw [hm] at h
        dsimp only at h
        split at h
        · cases h
        cases h
        exact .take _ _ R m _ e.1 rfl (by omega) hr hm
  split at h
  · rename_i e
    obtain ⟨ks, _, h⟩ := Option.bind_eq_some_iff.mp h
    unfold Core.grow at h
    cases hr : rowOf b.rows (wd l 1) with
    | none => rw [hr] at h; cases h
    | some R =>
      rw [hr] at h
      dsimp only at h
      split at h
      · cases h
      split at h
      · cases h
      cases h
      exact .grow _ _ R e.1 rfl (by omega) hr
  split at h
  · rename_i e
    obtain ⟨ks, _, h⟩ := Option.bind_eq_some_iff.mp h
    unfold Core.pay at h
    split at h
    · cases h
    cases h
    exact .pay _ e.1
  · cases h
theorem rowOf_app {l : List (Str × RowD)} {n : Str} {R : RowD} (h : rowOf l n = none) : rowOf (l ++ [(n, R)]) n = some R := by
  induction l with
  | nil => simp [rowOf]
  | cons p r ih =>
    unfold rowOf at h
    split at h
    · cases h
    rename_i e
    show rowOf (p :: (r ++ [(n, R)])) n = some R
    unfold rowOf
    rw [if_neg e]
    exact ih h
def spUndo (K : PySem.W.Frag) : Sp := fun vs H Q E => ∃ (a : Addr) (c : Core) (un : List Str) (X : List Addr), vs = [.ref a] ∧ DeskAt K H a c un X ∧ CoreOk c ∧ c.done.length ≤ 80000 ∧ un.length ≤ 80000 ∧
  (c.done = [] → ∀ H', Ex H H' → E (.ref (He.ga K "NothingToUndo")) none H') ∧
  (c.done ≠ [] → ∃ (ls : List Str) (l : Str) (b : Core), c.done = ls ++ [l] ∧ b.step l = some c ∧ CoreOk b ∧ l.length ≤ 80000 ∧ MutD K H a X b (un ++ [l]) (Q (.str l)))
def spRedo (K : PySem.W.Frag) : Sp := fun vs H Q E => ∃ (a : Addr) (c : Core) (un : List Str) (X : List Addr), vs = [.ref a] ∧ DeskAt K H a c un X ∧ CoreOk c ∧ c.done.length ≤ 80000 ∧ un.length ≤ 80000 ∧
  (un = [] → ∀ H', Ex H H' → E (.ref (He.ga K "NothingToRedo")) none H') ∧
  (un ≠ [] → ∃ (us : List Str) (l : Str) (d : Core), un = us ++ [l] ∧ c.step l = some d ∧ l.length ≤ 80000 ∧ MutD K H a X d us (Q (.str l)))
section
variable {X : Cx} {W : WX} {k : Nat} {e o : Expr} {es : List Expr} {ta : TA} {to : TE} {p pos apos : Pos} {pl : Sem Bool}
theorem c_Desk_do {K : PySem.W.Frag} (B : Bx X W k) (ho : PE X o to) (ha : PA X (e :: es) ta) (hK : X.K = K := by rfl) (hl : 9 ≤ k := by decide) (hst : starEach (e :: es) X.env = (false, eval e X.env) :: starEach es X.env := by rfl) (hpl : (backTo pos (starEach es X.env)).any (·.1) = false := by rfl)
    (ht : eval (.Call (.Attribute o "do" apos) (e :: es) [] pos) X.env = (do
      let ov ← eval o X.env
      standAt apos.atName
      let (f, first) ← holding [ov] (getMethod ov "do" pl)
      callWith pos f first (backTo pos (starEach (e :: es) X.env)) (backToKw pos (keywordEach [] X.env))) := by rfl) : PE X (.Call (.Attribute o "do" apos) (e :: es) [] pos) (tMth (He.ga K "Desk") "do" (spDo K) W to ta) := by
  subst hK
  exact k_mth B.wx.toTx.c_Desk B.wx.toTx.m_Desk_do (w_Desk_do B.wx) (B.rm.mono hl) B.hx ho ha hst hpl ht
end
section
variable {P : Program} {w : World} {K : PySem.W.Frag} {mg : Str → Option Value} {base : Heap}
theorem sc_Desk_redo : FnScope ["self", "line", "left"] ["self"] xDesk_redo.scope := ⟨rfl, rfl, rfl, by decide +kernel, rfl, by decide +kernel, by decide +kernel⟩
theorem w_Desk_redo (T : Wx P K mg) : FnR P w K mg base (L2N.CX P w) 10 (He.ma K (He.ga K "Desk") "redo") (spRedo K) :=
  mkR 9 T T.toTx.d_Desk_redo sc_Desk_redo (by rintro vs H Q E ⟨_, _, _, _, rfl, _⟩; rfl) (fun _ _ _ _ _ _ us hl => match us, hl with | [_], _ => rfl) (fun cdv A outer s H vs Q E B hsp => by
  obtain ⟨a, c, un, X, rfl, hD, ok, hzd, hzu, hm, hq⟩ := hsp
  refine ⟨_, (pss_cons (ps_if (pt_not (pt_truthK K (pe_fldK K (pv 0) rfl) (fun _ => rfl))) (pss_one (r_NothingToRedo B.rs (by rfl))) pss_nil)
    (pss_cons (st_set (i := 1) sc_Desk_redo.nd (pe_bm0 PySem.F.plainAttrs_list PySem.F.slot_list_pop PySem.F.type_list_pop mt_pop (pe_fldK K (pv 0) rfl)))
    (pss_cons (st_set (i := 2) sc_Desk_redo.nd (pe_fldK K (pv 0) rfl))
    (pss_cons (ps_expr (c_Desk_do (K := K) B (pv 0) (pa_cons (pv 1) pa_nil)))
    (pss_cons (ps_fld (pv 0) (pv 2) rfl)
    (pss_one (ps_ret (pv 1)))))))), ?_⟩
  obtain ⟨dx, l, p, o, rw, dn, ud, hi, hud, udX, rep⟩ := desk_und hD
  by_cases h0 : un = []
  · subst h0
    refine qwh (b := true) (a_not (b := false) (a_tr (v := .ref ud) (fun Q q => ⟨_, rfl, a, _, _, _, _, rfl, hi, T.toTx.c_Desk, T.toTx.n_Desk_undone, rfl, q⟩) (.inl ⟨_, sq_of hud, rfl⟩))) (fun _ => ?_) (fun z => by cases z)
    exact hm rfl H (Ex.refl H)
  obtain ⟨us, ln, d, rfl, hstep, hzl, hq⟩ := hq h0
  refine qwh (b := false) (a_not (b := true) (a_tr (v := .ref ud) (fun Q q => ⟨_, rfl, a, _, _, _, _, rfl, hi, T.toTx.c_Desk, T.toTx.n_Desk_undone, rfl, q⟩) (.inl ⟨_, sq_of hud, by simp⟩))) (fun z => by cases z) (fun _ => ?_)
  have hud' : H ud = some (.lst (us.map V.str ++ [.str ln])) := by
    refine hud.trans ?_
    rw [List.map_append]
    rfl
  refine qpop rfl hi T.toTx.c_Desk T.toTx.n_Desk_undone rfl hud' fun H1 hud1 f1 nb1 => ?_
  walk_at "st"
  have hD1 := rep H1 us hud1 f1
  have nau : a ≠ ud := fun z => by rw [z, hud] at hi; cases hi
  have hi1 := f1.1 _ _ hi (by simpa using nau)
  refine ⟨_, rfl, a, _, _, _, _, rfl, hi1, T.toTx.c_Desk, T.toTx.n_Desk_undone, rfl, ?_⟩
  walk_at "st"
  refine ⟨_, rfl, a, _, _, rfl, hi1, rfl, _, rfl, a, c, us, X, ln, rfl, hD1, ok, hzd, hzl, (fun z => by rw [hstep] at z; cases z), fun d2 hd2 => ?_⟩
  rw [hstep] at hd2
  cases hd2
  intro H2 X2 hD2 f2 nw2 lf2 v
  have hi1' : H1 a = some (.ins (cD K) dx (dskF l p o rw dn ud)) := hi1
  obtain ⟨u1, u2⟩ := lf2 _ _ _ _ _ _ _ hi1'
  have hud2 : H2 ud = some (.lst (us.map V.str)) := u1.trans hud1
  obtain ⟨l2, w2, p2, o2, rw2, dn2, ud2, kvs2, Y2, rfl, ⟨dx2, hi2⟩, hl2, ⟨dp2, hp2⟩, ho2, hr2, hrs2, hdn2, hud22, nd2⟩ := hD2
  walk_at "st"
  refine qsf rfl hi2 T.toTx.c_Desk T.toTx.n_Desk_undone (by walk_at "ln") (fun x _ => x = .ref ud) (fun Q q => ⟨_, rfl, q _ _ (Ex.refl _) rfl⟩) ?_
  rintro _ H3' H3 e3 rfl hi3 f3 nb3
  have f3a : Fr [a] H2 H3 := Fr.same (Fr.ex e3) f3
  obtain ⟨⟨dl2, hl21⟩, vs2, hw2, pv2⟩ := id hl2
  simp only [List.mem_cons, not_or] at u2
  obtain ⟨ua, ul, uw, up, ur, ud', uu, uY⟩ := u2
  simp only [List.nodup_cons, List.mem_cons, not_or] at nd2
  obtain ⟨⟨al, aw, ap, arw, adn, aud, aY⟩, ⟨lw, lp, lrw, ldn, lud, lY⟩, ⟨wp, wrw, wdn, wud, wY⟩, ⟨prw, pdn, pud, pY⟩, ⟨rdn, rud, rY⟩, ⟨dnud, dnY⟩, udY, ndY⟩ := nd2
  have hD3 : DeskAt K H3 a d us (a :: l2 :: w2 :: p2 :: rw2 :: dn2 :: ud :: Y2) := by
    refine ⟨l2, w2, p2, o2, rw2, dn2, ud, kvs2, Y2, rfl, ⟨dx2, hi3⟩, hl2.fr f3a (by simpa using Ne.symm al) (by simpa using Ne.symm aw), ⟨dp2, f3a.1 _ _ hp2 (by simpa using Ne.symm ap)⟩, f3a.2 _ _ ho2, f3a.1 _ _ hr2 (by simpa using Ne.symm arw), hrs2.fr f3a ?_, f3a.1 _ _ hdn2 (by simpa using Ne.symm adn), f3a.1 _ _ hud2 (by simpa using ua), ?_⟩
    · intro b hb
      simp only [List.mem_cons, List.not_mem_nil, or_false]
      exact fun z => aY (z ▸ hb)
    · simp only [List.nodup_cons, List.mem_cons, not_or]
      exact ⟨⟨al, aw, ap, arw, adn, Ne.symm ua, aY⟩, ⟨lw, lp, lrw, ldn, Ne.symm ul, lY⟩, ⟨wp, wrw, wdn, Ne.symm uw, wY⟩, ⟨prw, pdn, Ne.symm up, pY⟩, ⟨rdn, Ne.symm ur, rY⟩, ⟨Ne.symm ud', dnY⟩, uY, ndY⟩
  have haX : a ∈ X := by
    obtain ⟨_, _, _, _, _, _, _, _, _, e, _⟩ := hD
    rw [e]
    exact List.mem_cons_self ..
  have fa : Fr X H H2 := (f1.mono (by simpa using udX)).same f2
  refine ⟨_, rfl, hq H3 _ hD3 (fa.same (f3a.mono (by simpa using haX))) ?_⟩
  intro b hb
  by_cases hb0 : b = ud
  · exact .inl (hb0 ▸ udX)
  · refine (nw2 b ?_).imp id fun z => f1.3 _ z
    simp only [List.mem_cons] at hb ⊢
    rcases hb with h | h | h | h | h | h | h | h
    · exact .inl h
    · exact .inr (.inl h)
    · exact .inr (.inr (.inl h))
    · exact .inr (.inr (.inr (.inl h)))
    · exact .inr (.inr (.inr (.inr (.inl h))))
    · exact .inr (.inr (.inr (.inr (.inr (.inl h)))))
    · exact absurd h hb0
    · exact .inr (.inr (.inr (.inr (.inr (.inr (.inr h)))))))
theorem sc_Desk_undo : FnScope ["self", "line", "words"] ["self"] xDesk_undo.scope := ⟨rfl, rfl, rfl, by decide +kernel, rfl, by decide +kernel, by decide +kernel⟩
theorem w_Desk_undo (T : Wx P K mg) : FnR P w K mg base (L2N.CX P w) 6 (He.ma K (He.ga K "Desk") "undo") (spUndo K) :=
  mkR 5 T T.toTx.d_Desk_undo sc_Desk_undo (by rintro vs H Q E ⟨_, _, _, _, rfl, _⟩; rfl) (fun _ _ _ _ _ _ us hl => match us, hl with | [_], _ => rfl) (fun cdv A outer s H vs Q E B hsp => by
  obtain ⟨a, c, un, X, rfl, hD, ok, hzd, hzu, hm, hq⟩ := hsp
  refine ⟨_, (pss_cons (ps_if (pt_not (pt_truthK K (pe_fldK K (pv 0) rfl) (fun _ => rfl))) (pss_one (r_NothingToUndo B.rs (by rfl))) pss_nil)
    (pss_cons (st_set (i := 1) sc_Desk_undo.nd (pe_bm0 PySem.F.plainAttrs_list PySem.F.slot_list_pop PySem.F.type_list_pop mt_pop (pe_fldK K (pv 0) rfl)))
    (pss_cons (st_set (i := 2) sc_Desk_undo.nd (c_split_words (K := K) B (pa_cons (pv 1) pa_nil)))
    (pss_cons (ps_if (pt_cmpR (o_eqK K B.hu64) (pe_ix (ix_seqK K) (pv 2) pe_int (fun _ _ => rfl)) pe_str (nomark _)) (pss_one (ps_ddel (pe_fldK K (pv 0) rfl) (pe_ix (ix_seqK K) (pv 2) pe_int (fun _ _ => rfl)))) pss_nil)
    (pss_cons (ps_if (PW.pt (pw_or (pt_cmpR (o_eqK K B.hu64) (pe_ix (ix_seqK K) (pv 2) pe_int (fun _ _ => rfl)) pe_str (nomark _)) (pw_or1 (pt_cmpR (o_eqK K B.hu64) (pe_ix (ix_seqK K) (pv 2) pe_int (fun _ _ => rfl)) pe_str (nomark _))))) (pss_one (ps_expr (c_Row_undo (K := K) B (pe_dget B.hu (pe_fldK K (pv 0) rfl) (pe_ix (ix_seqK K) (pv 2) pe_int (fun _ _ => rfl)) (fun _ _ => rfl))))) pss_nil)
    (pss_cons (ps_if (PW.pt (pw_or (pt_cmpR (o_eqK K B.hu64) (pe_ix (ix_seqK K) (pv 2) pe_int (fun _ _ => rfl)) pe_str (nomark _)) (pw_or1 (pt_cmpR (o_eqK K B.hu64) (pe_ix (ix_seqK K) (pv 2) pe_int (fun _ _ => rfl)) pe_str (nomark _))))) (pss_one (ps_expr (c_Ledger_take_back (K := K) B (pe_fldK K (pv 0) rfl)))) pss_nil)
    (pss_cons (ps_expr (pe_bmK K PySem.F.plainAttrs_list PySem.F.slot_list_append PySem.F.type_list_append mt_append (pe_fldK K (pv 0) rfl) (pa_cons (pv 1) pa_nil)))
    (pss_one (ps_ret (pv 1)))))))))), ?_⟩
  obtain ⟨dx, l0, p0, o0, rw0, dn, ud0, hi, hdn, dnX, rep⟩ := desk_done hD
  by_cases h0 : c.done = []
  · refine qwh (b := true) (a_not (b := false) (a_tr (v := .ref dn) (fun Q q => ⟨_, rfl, a, _, _, _, _, rfl, hi, T.toTx.c_Desk, T.toTx.n_Desk_done, rfl, q⟩) (.inl ⟨_, sq_of hdn, by rw [h0]; rfl⟩))) (fun _ => ?_) (fun z => by cases z)
    exact hm h0 H (Ex.refl H)
  obtain ⟨ls, l, b, hdone, hstep, okb, hzl, hq⟩ := hq h0
  refine qwh (b := false) (a_not (b := true) (a_tr (v := .ref dn) (fun Q q => ⟨_, rfl, a, _, _, _, _, rfl, hi, T.toTx.c_Desk, T.toTx.n_Desk_done, rfl, q⟩) (.inl ⟨_, sq_of hdn, by rw [hdone]; simp⟩))) (fun z => by cases z) (fun _ => ?_)
  have hdn' : H dn = some (.lst (ls.map V.str ++ [.str l])) := by
    refine hdn.trans ?_
    rw [hdone, List.map_append]
    rfl
  refine qpop rfl hi T.toTx.c_Desk T.toTx.n_Desk_done rfl hdn' fun H1 hdn1 f1 nb1 => ?_
  walk_at "st"
  have hD1 := rep H1 ls hdn1 f1
  refine ⟨_, rfl, l, rfl, sz_of (by omega), fun p hp => ?_⟩
  have pX := hD1.out hp
  have e1 := Ex.new (o := .lst ((wds l).map V.str)) hp
  have hp1 : (upd H1 p (.lst ((wds l).map V.str))) p = some (.lst ((wds l).map V.str)) := upd_same
  have hD2 := hD1.ex e1
  have f2 : Fr X H (upd H1 p (.lst ((wds l).map V.str))) := (f1.mono (by simpa using dnX)).same (Fr.ex e1)
  walk_at "st"
  generalize upd H1 p (.lst ((wds l).map V.str)) = H2 at *
  have hne := wds_ne l
  have h1l : 1 ≤ (wds l).length := by
    cases e : wds l with
    | nil => exact absurd e hne
    | cons x r => exact Nat.succ_le_succ (Nat.zero_le _)
  have wdat : ∀ i, i < (wds l).length → atI ((wds l).map V.str) ((i : Nat) : Int) = some (.str (wd l i)) := fun i hi => atI_nat (by
    rw [List.getElem?_map, List.getElem?_eq_getElem hi]
    show some (V.str _) = some (V.str ((wds l).getD i ""))
    rw [List.getD_eq_getElem?_getD, List.getElem?_eq_getElem hi]
    rfl)
  have t1 : ∀ (s : Str) (H' : Hp), H' p = some (.lst ((wds l).map V.str)) → Ans (tTest (tOp (rEqU K) (tOp (rIx K) (tVar 2) (tC (.int 0))) (tC (.str s)))) [some (.ref a), some (.str l), some (.ref p)] H' (decide (wd l 0 = s)) := fun s H' h => a_test fun Q q => by
    refine ⟨_, rfl, .inl ⟨p, _, _, _, rfl, rfl, sq_of h, wdat 0 h1l, .inl ⟨rfl, ?_⟩⟩⟩
    rw [dcS]
    exact q
  have fin : ∀ (D : Ends) (H5 : Hp) (X5 : List Addr), D.rt = Q → DeskAt K H5 a b un X5 → Fr X H H5 → Nw X X5 H → (tSeq (tDrop (tBM K "list" rAppend (tFld K (tVar 0) "_undone") (tCons (tVar 1) tNil))) (tRet (tVar 1))) D [some (.ref a), some (.str l), some (.ref p)] H5 := by
    intro D H5 X5 hDrt hD5 f5 nw5
    obtain ⟨dx5, l5, p5, o5, rw5, dn5, ud5, hi5, hud5, udX5, rep5⟩ := desk_und hD5
    refine qapp rfl hi5 T.toTx.c_Desk T.toTx.n_Desk_undone rfl hud5 (by rw [List.length_map]; omega) (fun x _ => x = .str l) (fun Q q => ⟨_, rfl, q _ _ (Ex.refl _) rfl⟩) ?_
    rintro _ H6' H6 e6 rfl hud6 f6 nb6
    refine ⟨_, rfl, ?_⟩
    rw [hDrt]
    have f56 : Fr [ud5] H5 H6 := Fr.same (Fr.ex e6) f6
    refine hq H6 X5 (rep5 H6 (un ++ [l]) (hud6.trans ?_) f56) (f5.trans (f56.mono (Y := X5) (by simpa using udX5)) nw5) nw5
    rw [List.map_append]
    rfl
  obtain ⟨d, hact, hc⟩ := Option.map_eq_some_iff.mp (show (b.act l).map (fun c' => c'.stood l) = some c from hstep)
  have hlb : ∀ {e : Core}, e.done = b.done → e.stood l = c → ls = b.done := fun {e} he hc => by
    rw [← hc] at hdone
    have h2 : b.done ++ [l] = ls ++ [l] := he ▸ hdone
    exact (List.append_cancel_right h2).symm
  have hw := was hact
  have hzb : b.done.length ≤ 80000 := by
    obtain ⟨_, _, h3⟩ := act_ok okb hact
    have := congrArg List.length hdone
    rw [← hlb h3 hc]
    rw [List.length_append] at this
    omega
  cases hw with
  | lay n ks w0 w1 w2 hn =>
    have hl := hlb (e := { b with rows := b.rows ++ [(n, RowD.new ks)] }) rfl hc
    subst hc
    refine qwh (b := true) (by have := t1 "lay" H2 hp1; rw [w0] at this; exact this) (fun _ => ?_) (fun z => by cases z)
    obtain ⟨dx3, l3, p3, o3, rw3, dn3, ud3, kvs3, hi3, hr3, rwX, hsome, rep3⟩ := desk_drop hD2
    refine ⟨_, rfl, a, _, _, _, _, rfl, hi3, T.toTx.c_Desk, T.toTx.n_Desk_rows, rfl, _, rfl, .inl ⟨p, _, _, _, rfl, rfl, sq_of hp1, wdat 1 (by omega), rw3, kvs3, .inr (wd l 1), rfl, hr3, rfl, hsome _ ?_, ?_⟩⟩
    · rw [w1]
      show (rowOf (b.rows ++ [(n, RowD.new ks)]) n).isSome = true
      rw [rowOf_app hn]
      rfl
    have f3 : Fr [rw3] H2 (upd H2 rw3 (.dK (dropK kvs3 (.inr (wd l 1))))) := Fr.upd hr3 nt_dK (by simp)
    obtain ⟨X3, hD3, sub3⟩ := rep3 _ (wd l 1) upd_same f3
    have hp3 := f3.1 _ _ hp1 (by
      simp only [List.mem_cons, List.not_mem_nil, or_false]
      exact fun z => pX (z ▸ rwX))
    generalize upd H2 rw3 (.dK (dropK kvs3 (.inr (wd l 1)))) = H3 at *
    have hb3 : DeskAt K H3 a b un X3 := by
      have e : ({ ({ b with rows := b.rows ++ [(n, RowD.new ks)] } : Core).stood l with done := ls, rows := dropRow (b.rows ++ [(n, RowD.new ks)]) (wd l 1) } : Core) = b := by
        rw [w1, dropRow_back hn, hl] <;> rfl
      rw [← e]
      exact hD3
    walk_at "st"
    refine qwh (b := false) (by have := a_or (t1 "take" H3 hp3) fun _ => t1 "grow" H3 hp3; rw [w0] at this; exact this) (fun z => by cases z) (fun _ => ?_)
    refine qwh (b := false) (by have := a_or (t1 "take" H3 hp3) fun _ => t1 "coins" H3 hp3; rw [w0] at this; exact this) (fun z => by cases z) (fun _ => ?_)
    exact fin _ H3 X3 rfl hb3 (f2.same (f3.mono (by simpa using rwX))) fun b hb => .inl (sub3 b hb)
  | take n i R m pr w0 w1 w2 hn hmk =>
    have hl := hlb (e := { b with coins := b.coins - pr, writ := b.writ ++ [.paid n i m pr], rows := setRow b.rows n (R.take i) }) rfl hc
    subst hc
    refine qwh (b := false) (by have := t1 "lay" H2 hp1; rw [w0] at this; exact this) (fun z => by cases z) (fun _ => ?_)
    refine qwh (b := true) (by have := a_or (t1 "take" H2 hp1) fun _ => t1 "grow" H2 hp1; rw [w0] at this; exact this) (fun _ => ?_) (fun z => by cases z)
    obtain ⟨dx3, l3, p3, o3, rw3, dn3, ud3, kvs3, r, Z, hi3, hr3, hv3, hX3, rep3⟩ := desk_row hD2 (n := n) (R := R.take i) (setRow_get hn)
    have okR : RowOk R b.done.length := okb.rows _ (rowOf_mem hn)
    obtain ⟨_, _, hmem, _⟩ := mark_some hmk
    obtain ⟨kk, ss, tt, mm, gg, dd, eZ, ⟨dxr, hir⟩, _⟩ := id hX3
    refine ⟨_, rfl, a, _, _, _, _, rfl, hi3, T.toTx.c_Desk, T.toTx.n_Desk_rows, rfl, _, rfl, .inl ⟨p, _, _, _, rfl, rfl, sq_of hp1, wdat 1 (by omega), rw3, .ref r, rfl, ?_, r, _, _, rfl, hir, rfl, r, R, R.take i, Z, _, rfl, hX3, okR, by omega, .inl ⟨i, hmem, rfl⟩, fun H3 Z' hX' f3 nw3 v => ?_⟩⟩
    · rw [w1, ← hv3]
      exact DGet.k (k := .inr n) hr3
    obtain ⟨X3, hD3, f3a, nw3a, ku3⟩ := rep3 H3 R Z' hX' f3 nw3
    have hp3 := f3a.1 _ _ hp1 pX
    have pX3 : p ∉ X3 := fun z => (nw3a p z).elim pX fun y => by rw [hp1] at y; cases y
    walk_at "st"
    refine qwh (b := true) (by have := a_or (t1 "take" H3 hp3) fun _ => t1 "coins" H3 hp3; rw [w0] at this; exact this) (fun _ => ?_) (fun z => by cases z)
    obtain ⟨dx4, l4, w4, p4, o4, rw4, dn4, ud4, kvs4, dl4, dp4, hi4, hr4, hL4, hl4, hp4, na4, nrw4, sub4, rep4⟩ := desk_led hD3
    have hwl := okb.wl
    refine ⟨_, rfl, a, _, _, _, _, rfl, hi4, T.toTx.c_Desk, T.toTx.n_Desk_purse, rfl, l4, _, _, rfl, hl4, rfl, l4, _, b.writ, .paid n i m pr, w4, rfl, hL4, by omega, fun v H4 hL f4 => ?_⟩
    obtain ⟨hD4, _⟩ := rep4 H4 _ _ hL f4
    have hb4 : DeskAt K H4 a b un X3 := by
      have e : ({ ({ b with coins := b.coins - pr, writ := b.writ ++ [.paid n i m pr], rows := setRow b.rows n (R.take i) } : Core).stood l with done := ls, rows := setRow (setRow b.rows n (R.take i)) n R, coins := (b.coins - pr) + pr, writ := b.writ } : Core) = b := by
        rw [setRow_back hn, hl, Int.sub_add_cancel] <;> rfl
      rw [← e]
      exact hD4
    exact fin _ H4 X3 rfl hb4 ((f2.same f3a).trans (f4.mono sub4) (Nw.trans Nw.refl nw3a f2.3)) (Nw.trans Nw.refl nw3a f2.3)
  | grow n kd R w0 w1 w2 hn =>
    have hl := hlb (e := { b with rows := setRow b.rows n (R.grow kd) }) rfl hc
    subst hc
    refine qwh (b := false) (by have := t1 "lay" H2 hp1; rw [w0] at this; exact this) (fun z => by cases z) (fun _ => ?_)
    refine qwh (b := true) (by have := a_or (t1 "take" H2 hp1) fun _ => t1 "grow" H2 hp1; rw [w0] at this; exact this) (fun _ => ?_) (fun z => by cases z)
    obtain ⟨dx3, l3, p3, o3, rw3, dn3, ud3, kvs3, r, Z, hi3, hr3, hv3, hX3, rep3⟩ := desk_row hD2 (n := n) (R := R.grow kd) (setRow_get hn)
    have okR : RowOk R b.done.length := okb.rows _ (rowOf_mem hn)
    obtain ⟨kk, ss, tt, mm, gg, dd, eZ, ⟨dxr, hir⟩, _⟩ := id hX3
    refine ⟨_, rfl, a, _, _, _, _, rfl, hi3, T.toTx.c_Desk, T.toTx.n_Desk_rows, rfl, _, rfl, .inl ⟨p, _, _, _, rfl, rfl, sq_of hp1, wdat 1 (by omega), rw3, .ref r, rfl, ?_, r, _, _, rfl, hir, rfl, r, R, R.grow kd, Z, _, rfl, hX3, okR, by omega, .inr ⟨kd, rfl⟩, fun H3 Z' hX' f3 nw3 v => ?_⟩⟩
    · rw [w1, ← hv3]
      exact DGet.k (k := .inr n) hr3
    obtain ⟨X3, hD3, f3a, nw3a, ku3⟩ := rep3 H3 R Z' hX' f3 nw3
    have hp3 := f3a.1 _ _ hp1 pX
    walk_at "st"
    refine qwh (b := false) (by have := a_or (t1 "take" H3 hp3) fun _ => t1 "coins" H3 hp3; rw [w0] at this; exact this) (fun z => by cases z) (fun _ => ?_)
    have hb4 : DeskAt K H3 a b un X3 := by
      have e : ({ ({ b with rows := setRow b.rows n (R.grow kd) } : Core).stood l with done := ls, rows := setRow (setRow b.rows n (R.grow kd)) n R } : Core) = b := by
        rw [setRow_back hn, hl] <;> rfl
      rw [← e]
      exact hD3
    exact fin _ H3 X3 rfl hb4 (f2.same f3a) (Nw.trans Nw.refl nw3a f2.3)
  | pay pr w0 =>
    have hl := hlb (e := { b with coins := b.coins + pr, writ := b.writ ++ [.inn pr] }) rfl hc
    subst hc
    refine qwh (b := false) (by have := t1 "lay" H2 hp1; rw [w0] at this; exact this) (fun z => by cases z) (fun _ => ?_)
    refine qwh (b := false) (by have := a_or (t1 "take" H2 hp1) fun _ => t1 "grow" H2 hp1; rw [w0] at this; exact this) (fun z => by cases z) (fun _ => ?_)
    refine qwh (b := true) (by have := a_or (t1 "take" H2 hp1) fun _ => t1 "coins" H2 hp1; rw [w0] at this; exact this) (fun _ => ?_) (fun z => by cases z)
    obtain ⟨dx4, l4, w4, p4, o4, rw4, dn4, ud4, kvs4, dl4, dp4, hi4, hr4, hL4, hl4, hp4, na4, nrw4, sub4, rep4⟩ := desk_led hD2
    have hwl := okb.wl
    refine ⟨_, rfl, a, _, _, _, _, rfl, hi4, T.toTx.c_Desk, T.toTx.n_Desk_purse, rfl, l4, _, _, rfl, hl4, rfl, l4, _, b.writ, .inn pr, w4, rfl, hL4, by omega, fun v H4 hL f4 => ?_⟩
    obtain ⟨hD4, _⟩ := rep4 H4 _ _ hL f4
    have hb4 : DeskAt K H4 a b un X := by
      have e : ({ ({ b with coins := b.coins + pr, writ := b.writ ++ [.inn pr] } : Core).stood l with done := ls, coins := (b.coins + pr) - pr, writ := b.writ } : Core) = b := by
        rw [hl, Int.add_sub_cancel] <;> rfl
      rw [← e]
      exact hD4
    exact fin _ H4 X rfl hb4 (f2.same (f4.mono sub4)) Nw.refl)
end
end Bm
set_option Elab.async false
set_option linter.all false
set_option maxRecDepth 10000
set_option maxHeartbeats 400000
set_option pp.deepTerms false
set_option pp.maxSteps 1500
set_option maxErrors 6
/-! Walks: journals. -/
namespace Bm
open PySem PySem.Spec PyProof.Rows L2 Evl TL RZ
local macro_rules | `(tactic| walk_at "sz") => `(tactic| first | assumption | (refine sz_of ?_; omega) | (refine sz_lt ?_; omega))
local macro_rules | `(tactic| walk_at "ne") => `(tactic| first | assumption | (refine Ne.symm ?_; assumption) | exact ne_new (by assumption) (by walk_at "hp") | exact Ne.symm (ne_new (by assumption) (by walk_at "hp")))
local macro_rules | `(tactic| walk_at "hp") => `(tactic| first | assumption | exact upd_same | (refine (upd_ne (by walk_at "ne")).trans ?_; walk_at "hp") | (refine Ex.at_ (by assumption) ?_; walk_at "hp"))
local macro_rules | `(tactic| walk_at "sq") => `(tactic| first | assumption | (refine sq_of ?_; walk_at "hp") | (refine st_of ?_; walk_at "hp") | (refine ex_l (by assumption) ?_; walk_at "sq") | (refine ex_t (by assumption) ?_; walk_at "sq"))
local macro_rules | `(tactic| walk_at "sd") => `(tactic| first | exact (show (0 : Int) < _ from by omega) | exact (show (0 : Int) < _ ∧ _ < (1073741824 : Int) from ⟨by omega, by omega⟩) | exact (show CPow _ _ from ⟨by decide, by decide, by decide⟩) | exact (show CMul _ _ from .inl ⟨by omega, by omega⟩) | exact (show CMul _ _ from .inr ⟨by omega, by omega⟩))
local macro_rules | `(tactic| walk_at "g1") => `(tactic| first
  | refine ⟨_, rfl, ?_⟩
  | refine ⟨_, _, rfl, rfl, ?_⟩
  | refine .inl ⟨_, _, rfl, rfl, ?_⟩
  | refine .inl ⟨rfl, ?_⟩
  | refine .inl (.inl ⟨_, rfl, ?_⟩)
  | (refine ⟨_, _, rfl, ⟨?_, rfl⟩, ?_⟩; (walk_at "sz"))
  | refine ⟨(by walk_at "sd"), ?_⟩)
local macro_rules | `(tactic| walk_at "go") => `(tactic| repeat walk_at "g1")
local macro_rules | `(tactic| walk_at "st") => `(tactic| dsimp only [gName])
local macro_rules | `(tactic| walk_at "ln") => `(tactic| first | exact (show 0 < 1000 from by decide) | exact (show 1 < 1000 from by decide) | exact (show 2 < 1000 from by decide) | exact (show 3 < 1000 from by decide) | exact (show 4 < 1000 from by decide) | exact (show 5 < 1000 from by decide) | exact (show 6 < 1000 from by decide) | exact (show 7 < 1000 from by decide))
local macro_rules | `(tactic| walk_at "le") => `(tactic| first | exact (show 0 ≤ sizeLine from by decide) | exact (show 1 ≤ sizeLine from by decide) | exact (show 2 ≤ sizeLine from by decide) | exact (show 3 ≤ sizeLine from by decide) | exact (show 4 ≤ sizeLine from by decide) | exact (show 5 ≤ sizeLine from by decide) | exact (show 6 ≤ sizeLine from by decide) | exact (show 7 ≤ sizeLine from by decide) | exact (show 8 ≤ sizeLine from by decide))
local macro_rules | `(tactic| walk_at "nt") => `(tactic| first | exact nt_ins | exact nt_lst | exact nt_dK)
local macro_rules | `(tactic| walk_at "fr") => `(tactic| first | assumption | exact Fr.refl | exact Fr.ex (by assumption) | (refine Fr.put ?_ (by walk_at "hp") (by walk_at "nt") (by simp); walk_at "fr") | (refine Fr.new ?_ (by assumption); walk_at "fr"))
theorem sky_imp {B : Heap} {l : List Env} {a : Addr} {Z Z' : Obj → Prop} {L : Addr} {h : Heap} (z : ∀ o, Z o → Z' o) (x : L2.Sky B l a Z L h) : L2.Sky B l a Z' L h := by
  rcases x with ⟨a1, a2, a3, oe, vs, a4, a5, a6⟩ | x | x
  · exact .inl ⟨a1, a2, a3, oe, vs, a4, z _ a5, a6⟩
  · exact .inr (.inl (L2H.flyingZ_imp z x))
  · exact .inr (.inr ⟨x.1, x.2.1, x.2.2.1, L2H.tracedZ_imp z x.2.2.2⟩)
/-- what takes any exception takes those without a context -/
theorem takes_down {X : Cx} {W : WX} (t : L2.Takes X W) : L2N.Takes X W := fun u s' ⟨a, B, sI, pins, σ, H, cls, d, e, I, nb, up, sky, na, os, ag, w⟩ =>
  t u s' ⟨a, B, sI, pins, σ, H, cls, d, e, I, nb, up, sky_imp (fun o z => z.zc) sky, na, os, ag, w⟩
/-- the frame of a def that may raise out of a suite -/
theorem mkRL {P : Program} {w : World} {K : PySem.W.Frag} {mg : Str → Option Value} {base : Heap} {x qual : Str} {params : Arguments} {body : List Stmt} {scope : Scope} {kws : List (Str × V)} {f : Addr} {fd : FuncData} {N ps : List Str} {sp : Sp} (k : Nat)
    (T : Wx P K mg) (F : FunD K x qual params body scope [] kws f fd) (S : FnScope N ps scope) (len : ∀ vs H Q E, sp vs H Q E → vs.length = ps.length)
    (hb : ∀ (kV doc pm : Value) (an : Option Addr) (cdv ct : Value) (us : List Value), us.length = ps.length → bindArgs (PySem.W.fnOf x qual params body scope .none kV doc pm an cdv ct) ⟨us, []⟩ = pure (ps.zip us))
    (hbody : ∀ (cdv : Value) (A : Around) (outer : List Env) (s : Shared) (H : Hp) (vs : List V) (Q : VK) (E : XK), Bx (cxOf (L2.CX P w) P w K mg base N qual scope f cdv A outer s H E) (fun c d _ H => E c d H) k → L2.Takes (cxOf (L2.CX P w) P w K mg base N qual scope f cdv A outer s H E) (fun c d _ H => E c d H) → sp vs H Q E →
      ∃ t, PSs (cxOf (L2.CX P w) P w K mg base N qual scope f cdv A outer s H E) body t ∧ t { nx := fun _ H' => Q .non H', rt := Q } (start N vs) H) : FnR P w K mg base (L2.CX P w) (k + 1) f sp := by
  have G := FunD.ok (P := P) (w := w) (mg := mg) (base := base) (CX := L2.CX P w) (k := k) (sp := sp) F S len fun cdv A outer s H vs Q E hr h => by
    have tk := L2.takes_of (X := cxOf (L2.CX P w) P w K mg base N qual scope f cdv A outer s H E) rfl rfl rfl rfl
    exact hbody cdv A outer s H vs Q E ⟨T, takes_down tk, rfl, hr⟩ tk h
  have R := G.raw (F.bindsN hb) .nil
  exact R.imp fun vs H Q E h => by rw [List.append_nil]; exact h
/-- try .. except x: whose suite raises, named, so that a loop's body keeps its shape -/
def tTryO (K : PySem.W.Frag) (c : Value) (tb : WX → TS) (ts : Addr → Value → Option Addr → TS) (Wout : WX) : TS := fun D σ H => tb (wOnly K c ts Wout D) D σ H
theorem ps_tryO (K : PySem.W.Frag) {X : Cx} {x : Str} {c : Value} {body suite : List Stmt} {b₀ : Stmt} {np pos pos' : Pos} {tb : WX → TS} {ts : Addr → Value → Option Addr → TS} {Wout : WX} (hs : X.stack = X.env :: X.outer) (hf : X.env.frame = some X.env.locals) (hc : Names X x c) (hpa : ∀ hd : Option Value, PassesOwnAt (model X.prog X.w) (X.A.mark hd) X.A X.env X.xe) (tk : L2.Takes X Wout)
    (hb : ∀ (W : WX) (pn : List (Addr × Obj)) (xe : Value → Shared → Prop), L2N.Takes (X.tr pn xe) W → L2.Takes (X.tr pn xe) (L2H.wPass X.K c Wout) → PassesOwn (model X.prog X.w) X.A X.env xe → PSs (X.tr pn xe) body (tb W))
    (hsu : ∀ (a : Addr) (oe : Obj) (cls : Value) (d : Option Addr) (pn : List (Addr × Obj)), L2N.Zn cls d oe → (∃ vs, oe.data = .fields vs) → L2.Takes (L2H.suiteX X a ((a, oe) :: pn)) Wout → L2H.HotC (L2H.suiteX X a ((a, oe) :: pn)) →
      PSs (L2H.suiteX X a ((a, oe) :: pn)) (b₀ :: suite) (ts a cls d)) (hK : X.K = K := by rfl) :
    PS X (.Try body [.ExceptHandler (some (.Name x np)) none (b₀ :: suite) pos'] [] [] pos) (tTryO K c tb ts Wout) := by
  subst hK
  exact L2H.ps_try_onlyX hs hf hc hpa tk hb hsu
theorem roomM {k : Nat} {A : Around} {hd : Option Value} (r : Room k A) : L2H.RoomH k (A.mark hd) := ⟨r.dp, r.un⟩
theorem Bx.tr {X : Cx} {W W' : WX} {k : Nat} {pn : List (Addr × Obj)} {xe : Value → Shared → Prop} (B : Bx X W k) (tk : L2N.Takes (X.tr pn xe) W') : Bx (X.tr pn xe) W' k := ⟨B.wx, tk, B.calm, B.rm⟩
section
variable {X : Cx} {W : WX} {k : Nat}
theorem nm_MootError (B : Bx X W k) (hg : Gl X "MootError" := by rfl) : Names X "MootError" (.ref (He.ga X.K "MootError")) := ⟨hg, by decide, .inl B.wx.toTx.g_MootError⟩
theorem rH_BadJournal (K : PySem.W.Frag) {e : Expr} {es : List Expr} {ta : TA} {j : Nat} {p q pos cpos : Pos} (T : Wx X.prog X.K X.mg) (hr : L2H.RoomH k X.A) (hot : L2H.HotC X) (tk : L2.Takes X W) (ha : PA X (e :: es) ta) (hK : X.K = K := by rfl) (hl : 2 ≤ k := by decide) (hg : Gl X "BadJournal" := by rfl) (he : starEach (e :: es) X.env = (false, eval e X.env) :: starEach es X.env := by rfl) (hpl : (backTo q (starEach es X.env)).any (·.1) = false := by rfl) :
    PS X (.Raise (some (.Call (.Name "BadJournal" p) (e :: es) [] q)) (some (.Constant .none j cpos)) pos) (fun _ σ H => tErr (He.ga K "BadJournal") 1 (mkOne "line") ta σ H fun cls d H' => W cls d σ H') := by
  subst hK
  exact L2H.ps_raiseHN hot tk (pmkH (sok_BadJournal T) (giv_BadJournal T) (by decide) (hr.mono hl) hot hg T.toTx.g_BadJournal ha (by decide) he hpl)
end
theorem join_len {ws : List Str} (h : ws ≠ []) : (Txt.join blank ws).length + 1 = (ws.map (·.length)).sum + ws.length := by
  rw [len_tl, join_eq, tl_join]
  rcases joinL_len (s := 32) (ws.map tl) with e | e
  · rw [List.map_map, List.length_map] at e
    have e2 : (ws.map (List.length ∘ tl)) = ws.map (·.length) := List.map_congr_left fun w _ => (len_tl w).symm
    rw [← e2]
    exact e
  · cases ws with
    | nil => exact absurd rfl h
    | cons x r => cases e
theorem sum_le {ls : List Str} {f : Str → Str} {n : Nat} (h : ∀ l ∈ ls, (f l).length ≤ n) : ((ls.map f).map (·.length)).sum ≤ n * ls.length := by
  induction ls with
  | nil => exact Nat.zero_le _
  | cons x r ih =>
    have h1 := h x (List.mem_cons_self ..)
    have h2 := ih fun l hl => h l (List.mem_cons_of_mem _ hl)
    show (f x).length + ((r.map f).map (·.length)).sum ≤ n * (r.length + 1)
    rw [Nat.mul_add, Nat.mul_one]
    omega
/-! ### the text of a journal -/
def nsO (o : Cost) : List Int := [o.1, o.2.1, o.2.2.1, o.2.2.2.1, o.2.2.2.2]
def firstL (o : Cost) : Str := Txt.join blank ("desk" :: [o.1, o.2.1, o.2.2.1, o.2.2.2.1, o.2.2.2.2].map shw)
def linesT (ls : List Str) : Str := Txt.join "" (ls.map fun l : Str => l ++ ("\n" : Str))
def jText (o : Cost) (ls : List Str) : Str := linesT (firstL o :: ls)
def spWrite (K : PySem.W.Frag) : Sp := fun vs H Q _ => ∃ (a : Addr) (c : Core) (un : List Str) (X : List Addr), vs = [.ref a] ∧ DeskAt K H a c un X ∧ c.done.length ≤ 1000 ∧ (∀ l ∈ c.done, l.length ≤ 10000) ∧ (∀ n ∈ [c.opn.1, c.opn.2.1, c.opn.2.2.1, c.opn.2.2.2.1, c.opn.2.2.2.2], n.natAbs < 2 ^ 64 ∧ (shw n).length ≤ 100) ∧
  ∀ H', Ex H H' → Q (.str (jText c.opn c.done)) H'
section
variable {P : Program} {w : World} {K : PySem.W.Frag} {mg : Str → Option Value} {base : Heap}
theorem sc_write_journal : FnScope ["desk", "first", "number", "line"] ["desk"] xwrite_journal.scope := ⟨rfl, rfl, rfl, by decide +kernel, rfl, by decide +kernel, by decide +kernel⟩
theorem w_write_journal (T : Wx P K mg) : FnR P w K mg base (L2N.CX P w) 5 (He.ga K "write_journal") (spWrite K) :=
  mkR 4 T T.toTx.d_write_journal sc_write_journal (by rintro vs H Q E ⟨_, _, _, _, rfl, _⟩; rfl) (fun _ _ _ _ _ _ us hl => match us, hl with | [_], _ => rfl) (fun cdv A outer s H vs Q E B hsp => by
  obtain ⟨a, c, un, X, rfl, hD, hz, hzl, hn, hq⟩ := hsp
  refine ⟨_, (pss_cons (st_set (i := 1) sc_write_journal.nd (pe_join pe_str (pe_op (o_addK K) (pe_lst (pa_cons pe_str pa_nil)) (pe_lcB (own := [("number", 2)]) B sc_write_journal.nd (pi_tup (c_Desk_opening (K := K) B (pv 0))) (blkOk_by (N := ["desk", "first", "number", "line"]) (sc := xwrite_journal.scope) (by decide +kernel)) (fun _ _ _ _ _ => pg_name (i := 2) sc_write_journal.nd rfl (by first | exact .inl rfl | exact .inr rfl)) (fun _ _ _ _ _ B => pts_nil) (fun _ _ _ _ _ B => (pe_callTy call_str_int (by rfl) B.wx.toTx.f_str b_str (pa_cons (pv 2) pa_nil)))))))
    (pss_one (ps_ret (pe_join pe_str (pe_lcB (own := [("line", 3)]) B sc_write_journal.nd (pi_list (pe_op (o_addK K) (pe_lst (pa_cons (pv 1) pa_nil)) (c_Desk_deeds (K := K) B (pv 0)))) (blkOk_by (N := ["desk", "first", "number", "line"]) (sc := xwrite_journal.scope) (by decide +kernel)) (fun _ _ _ _ _ => pg_name (i := 3) sc_write_journal.nd rfl (by first | exact .inl rfl | exact .inr rfl)) (fun _ _ _ _ _ B => pts_nil) (fun _ _ _ _ _ B => (pe_op (o_addK K) (pv 3) pe_str))))))), ?_⟩
  obtain ⟨l0, w0, p0, o0, rw0, dn0, ud0, kvs0, Y0, eX, ⟨dx0, hi⟩, hl, hp, ho, hr, hrs, hdn, hud, nd⟩ := id hD
  refine qasg (fun x H1 => x = .str (firstL c.opn) ∧ Ex H H1) (fun Q q => ?_) ?_
  · refine ⟨⟨_, rfl⟩, by walk_at "le", fun q1 hq1 => ?_⟩
    have e1 := Ex.new (o := .lst [.str "desk"]) hq1
    refine ⟨_, rfl, a, _, _, rfl, e1 _ _ hi, rfl, a, c, un, X, rfl, hD.ex e1, fun o ho1 => ⟨o, rfl, ⟨_, st_of ho1⟩, fun D hDn => ?_⟩⟩
    refine lcX walk_tup _ yAt (by show (opnV c.opn).length < 100000; exact (show 5 < 100000 from by decide)) hDn (fun H' e => ex_t e (st_of ho1)) (fun _ _ => true) (fun i acc => acc = (((nsO c.opn).take i).map shw).map V.str) rfl ?_ (fun i x acc H1 hi hx r e Q q => q H1 (Ex.refl H1)) (fun i x acc H1 hi hx r e hf Q q => ?_) (fun i x acc hi hx r hf => by cases hf) (fun H6 ys e hD2 r hl2 => ?_)
    · exact fun _ => rfl
    · have hx : ((nsO c.opn).map V.int)[i]? = some x := hx
      rw [List.getElem?_map] at hx
      obtain ⟨y, hy, rfl⟩ := Option.map_eq_some_iff.mp hx
      refine ⟨_, rfl, y, rfl, lgs (hn y (List.mem_of_getElem? hy)).1, q _ _ (Ex.refl H1) ?_⟩
      rw [take_snoc hy, List.map_append, List.map_append, r]
      rfl
    · have r : ys = ((nsO c.opn).map shw).map V.str := r
      subst r
      have nqD : q1 ≠ D := ne_of_none upd_same hDn
      have hq6 := e _ _ (upd_same (a := q1))
      refine .inr (.inr (.inl ⟨q1, D, _, _, rfl, rfl, hq6, hD2, show 6 ≤ sizeLine from by decide, fun q2 hq2 => ?_⟩))
      refine ⟨_, q2, "desk" :: (nsO c.opn).map shw, rfl, rfl, .inl (sq_of upd_same), ?_, q _ _ ⟨rfl, (e1.trans e).trans (Ex.new hq2)⟩⟩
      have b1 := (hn c.opn.1 (by simp)).2
      have b2 := (hn c.opn.2.1 (by simp)).2
      have b3 := (hn c.opn.2.2.1 (by simp)).2
      have b4 := (hn c.opn.2.2.2.1 (by simp)).2
      have b5 := (hn c.opn.2.2.2.2 (by simp)).2
      show 4 + ((shw c.opn.1).length + ((shw c.opn.2.1).length + ((shw c.opn.2.2.1).length + ((shw c.opn.2.2.2.1).length + ((shw c.opn.2.2.2.2).length + 0))))) + 6 * 1 ≤ 16777216
      omega
  rintro _ H1 ⟨rfl, e1⟩
  have hi1 := e1 _ _ hi
  refine ⟨⟨_, rfl⟩, _, rfl, by walk_at "le", fun q1 hq1 => ?_⟩
  have e2 := Ex.new (o := .lst [.str (firstL c.opn)]) hq1
  refine ⟨_, rfl, a, _, _, rfl, e2 _ _ hi1, rfl, a, c, un, X, rfl, hD.ex (e1.trans e2), fun p H2 hp e3 hp2 => ?_⟩
  have nq1 : q1 ≠ p := ne_of_none upd_same hp
  have hq2 := e3 _ _ (upd_same (a := q1))
  refine .inr (.inr (.inl ⟨q1, p, _, _, rfl, rfl, hq2, hp2, ?_, fun p2 hp22 => ⟨p2, rfl, ⟨_, sq_of upd_same⟩, fun D hDn => ?_⟩⟩))
  · rw [List.length_map]
    show 1 + c.done.length ≤ sizeLine
    exact sz_of (by omega)
  have hfl : (firstL c.opn).length ≤ 600 := by
    have b1 := (hn c.opn.1 (by simp)).2
    have b2 := (hn c.opn.2.1 (by simp)).2
    have b3 := (hn c.opn.2.2.1 (by simp)).2
    have b4 := (hn c.opn.2.2.2.1 (by simp)).2
    have b5 := (hn c.opn.2.2.2.2 (by simp)).2
    have e : (firstL c.opn).length + 1 = _ := join_len (ws := "desk" :: (nsO c.opn).map shw) (by simp)
    have e2 : (((("desk" : Str) :: (nsO c.opn).map shw).map fun z : Str => z.length)).sum = 4 + ((shw c.opn.1).length + ((shw c.opn.2.1).length + ((shw c.opn.2.2.1).length + ((shw c.opn.2.2.2.1).length + ((shw c.opn.2.2.2.2).length + 0))))) := rfl
    have e3 : (("desk" : Str) :: (nsO c.opn).map shw).length = 6 := rfl
    omega
  have hls : ∀ l ∈ firstL c.opn :: c.done, l.length ≤ 10000 := fun l hl => by
    rcases List.mem_cons.mp hl with z | z
    · rw [z]; omega
    · exact hzl l z
  walk_at "st"
  refine lcX walk_list _ yAt (by show ([V.str (firstL c.opn)] ++ c.done.map V.str).length < 100000; rw [List.length_append, List.length_map]; show 1 + c.done.length < 100000; omega) hDn (fun H' e => ex_l e (sq_of upd_same)) (fun _ _ => true) (fun i acc => acc = (((firstL c.opn :: c.done).take i).map fun l : Str => l ++ ("\n" : Str)).map V.str) rfl ?_ (fun i x acc H1 hi hx r e Q q => q H1 (Ex.refl H1)) (fun i x acc H1 hi hx r e hf Q q => ?_) (fun i x acc hi hx r hf => by cases hf) (fun H6 ys e hD2 r hl2 => ?_)
  · exact fun _ => rfl
  · have hx : ((firstL c.opn :: c.done).map V.str)[i]? = some x := hx
    rw [List.getElem?_map] at hx
    obtain ⟨y, hy, rfl⟩ := Option.map_eq_some_iff.mp hx
    have hyl := hls y (List.mem_of_getElem? hy)
    refine ⟨_, rfl, .inr (.inl ⟨y, "\n", rfl, rfl, sz_of (by show y.length + 1 ≤ 100000; omega), q _ _ (Ex.refl H1) ?_⟩)⟩
    rw [take_snoc hy, List.map_append, List.map_append, r]
    rfl
  · have hlen : ([V.str (firstL c.opn)] ++ c.done.map V.str).length = (firstL c.opn :: c.done).length := by
      show ((firstL c.opn :: c.done).map V.str).length = _
      rw [List.length_map]
    rw [hlen, take_all] at r
    refine ⟨_, D, (firstL c.opn :: c.done).map (fun l : Str => l ++ ("\n" : Str)), rfl, rfl, .inl (sq_of (hD2.trans (by rw [r]))), ?_, hq H6 ?_⟩
    · have e5 : (((firstL c.opn :: c.done).map (fun l : Str => l ++ ("\n" : Str))).map (·.length)).sum ≤ 10001 * (firstL c.opn :: c.done).length := sum_le (fun l hl => by
        have := hls l hl
        rw [len_app]
        show l.length + 1 ≤ 10001
        omega)
      have e6 : (firstL c.opn :: c.done).length = c.done.length + 1 := rfl
      have e7 : ("" : Str).length = 0 := rfl
      rw [e7, Nat.mul_zero, Nat.add_zero]
      refine Nat.le_trans e5 ?_
      rw [e6]
      omega
    · exact e1.trans (e2.trans (e3.trans ((Ex.new hp22).trans e))))
end
theorem inN_nums {ws : List Str} : inV .non (ws.map fun z => numV (rdNum z 13)) = (nums ws).isNone := by
  cases hk : nums ws with
  | none =>
    obtain ⟨z, hz1, hz2⟩ := nums_none hk
    show ((ws.map fun z => numV (rdNum z 13)).any fun y => eqV y .non) = true
    rw [List.any_eq_true]
    exact ⟨_, List.mem_map_of_mem hz1, by rw [hz2] <;> rfl⟩
  | some l =>
    have h3 := (nums_some hk).2.2
    show ((ws.map fun z => numV (rdNum z 13)).any fun y => eqV y .non) = false
    rw [List.any_eq_false]
    intro x hx
    obtain ⟨z, hz1, rfl⟩ := List.mem_map.mp hx
    have h4 : rdNum z 13 ∈ l.map some := by
      rw [← h3]
      exact List.mem_map_of_mem hz1
    obtain ⟨n, _, hn2⟩ := List.mem_map.mp h4
    rw [← hn2]
    exact Bool.noConfusion
/-! ### a journal read -/
def costOf (ns : List Int) : Option Cost := match ns with
  | [a, b, c, d, e] => if okCosts a b c d e = true then some (a, b, c, d, e) else none
  | _ => none
def firstOf (l : Str) : Option Cost := if wd l 0 = ("desk" : Str) ∧ (wds l).length = 6 then (nums ((wds l).drop 1)).bind costOf else none
def goLines : Core → List Str → Int → Int ⊕ Core
  | c, [], _ => .inr c
  | c, l :: r, n => match c.step l with
    | none => .inl (n + 1)
    | some c' => goLines c' r (n + 1)
def readJ (t : Str) : Int ⊕ Core := match (Txt.split t brk).dropLast with
  | [] => .inl 1
  | f :: r => match firstOf f with
    | none => .inl 1
    | some o => match goLines (Core.new o) r 1 with
      | .inl k => .inl k
      | .inr c => if (Txt.split t brk).getLast? = some ("" : Str) then .inr c else .inl ((r.length : Int) + 2)
/-- BadJournal, with its line -/
def BadJ (K : PySem.W.Frag) (H : Hp) (E : XK) (n : Int) : Prop := ∀ d H', Ex H H' → H' d = some (.xd [("line", .int n)]) → E (.ref (He.ga K "BadJournal")) (some d) H'
def spFirst (K : PySem.W.Frag) : Sp := fun vs H Q E => ∃ l : Str, vs = [.str l] ∧ l.length ≤ 80000 ∧ (firstOf l = none → BadJ K H E 1) ∧ ∀ o, firstOf l = some o → ∀ a H' X, Ex H H' → DeskAt K H' a (Core.new o) [] X → (∀ b ∈ X, H b = none) → Q (.ref a) H'
section
variable {P : Program} {w : World} {K : PySem.W.Frag} {mg : Str → Option Value} {base : Heap}
theorem sc_read_first : FnScope ["line", "words", "numbers", "coins", "quiet", "odd", "edge", "strife", "word"] ["line"] xread_first.scope := ⟨rfl, rfl, rfl, by decide +kernel, rfl, by decide +kernel, by decide +kernel⟩
theorem w_read_first (T : Wx P K mg) : FnR P w K mg base (L2.CX P w) 8 (He.ga K "read_first") (spFirst K) :=
  mkRL 7 T T.toTx.d_read_first sc_read_first (by rintro vs H Q E ⟨_, rfl, _⟩; rfl) (fun _ _ _ _ _ _ us hl => match us, hl with | [_], _ => rfl) (fun cdv A outer s H vs Q E B tkL hsp => by
  obtain ⟨l, rfl, hz, hb, hq⟩ := hsp
  refine ⟨_, (pss_cons (st_set (i := 1) sc_read_first.nd (c_split_words (K := K) B (pa_cons (pv 0) pa_nil)))
    (pss_cons (ps_setLcB (i := 2) (own := [("word", 8)]) B sc_read_first.nd rfl rfl (sw_true rfl rfl rfl (by decide +kernel)) (pi_list (pe_slice sl_any (pv 1) (po_some pe_int) po_none)) (blkOk_by (N := ["line", "words", "numbers", "coins", "quiet", "odd", "edge", "strife", "word"]) (sc := xread_first.scope) (by decide +kernel)) (fun _ _ _ _ _ => pg_name (i := 8) sc_read_first.nd rfl (by first | exact .inl rfl | exact .inr rfl)) (fun _ _ _ _ _ B => pts_nil) (fun _ _ _ _ _ B => (c_read_number (K := K) B (pa_cons (pv 8) (pa_cons (gi_MOST_DIGITS B) pa_nil)))))
    (pss_cons (ps_if (PW.pt (pw_or (pt_cmpR (o_neK K B.hu64) (pe_ix (ix_seqK K) (pv 1) pe_int (fun _ _ => rfl)) pe_str (nomark _)) (pw_or (pt_cmpR (o_neK K B.hu64) (pe_callB (call_lenK K) (by rfl) B.wx.toTx.f_len b_len (pa_cons (pv 2) pa_nil)) pe_int (nomark _)) (pw_or1 (pt_cmpR (o_inK K) pe_non (pv 2) (by with_unfolding_all rfl)))))) (pss_one (r_BadJournal B.rs (by rfl) (pa_cons pe_int pa_nil))) pss_nil)
    (pss_cons (ps_asg (pv 2) (pg_unl B.calm (pgs_cons (pg_name (i := 3) sc_read_first.nd rfl (by first | exact .inl rfl | exact .inr rfl)) (pgs_cons (pg_name (i := 4) sc_read_first.nd rfl (by first | exact .inl rfl | exact .inr rfl)) (pgs_cons (pg_name (i := 5) sc_read_first.nd rfl (by first | exact .inl rfl | exact .inr rfl)) (pgs_cons (pg_name (i := 6) sc_read_first.nd rfl (by first | exact .inl rfl | exact .inr rfl)) (pgs_cons (pg_name (i := 7) sc_read_first.nd rfl (by first | exact .inl rfl | exact .inr rfl)) pgs_nil)))))))
    (pss_one (ps_tryO K rfl rfl (nm_MootError B) (L2H.passesAt_of rfl) tkL (fun W pn xe tk2 _ _ => (have B := Bx.tr B tk2; (pss_one (ps_ret (cn_Desk (K := K) B (pk_cons (pv 3) (pk_cons (pv 4) (pk_cons (pv 5) (pk_cons (pv 6) (pk_cons (pv 7) pk_nil)))))))))) (fun a oe cls d pn _ _ tkS hot => pss_one (rH_BadJournal K B.wx (roomM B.rm) hot tkS (pa_cons pe_int pa_nil))))))))), ?_⟩
  unfold firstOf at hb hq
  have hwl := wds_len l
  have hlen : (wds l).length ≤ 80001 := by omega
  have hws : ∀ z ∈ wds l, z.length ≤ 80000 := fun z hm => Nat.le_trans (wds_mem hm) hz
  refine ⟨_, rfl, l, rfl, sz_of (by omega), fun p hp => ?_⟩
  have e1 := Ex.new (o := .lst ((wds l).map V.str)) hp
  have hp1 : (upd H p (.lst ((wds l).map V.str))) p = some (.lst ((wds l).map V.str)) := upd_same
  walk_at "st"
  generalize upd H p (.lst ((wds l).map V.str)) = H1 at *
  refine ⟨_, rfl, _, rfl, .inl ⟨p, _, rfl, sq_of hp1, fun q hq1 => ⟨q, rfl, ⟨_, sq_of upd_same⟩, fun D hD => ?_⟩⟩⟩
  have e2 := Ex.new (o := .lst (cutV ((wds l).map V.str) (some 1) none)) hq1
  have ce : cutV ((wds l).map V.str) (some 1) none = ((wds l).drop 1).map V.str := by
    have e := cut_from (xs := (wds l).map V.str) (k := 1)
    rw [← List.map_drop] at e
    exact e
  rw [ce] at hD e2 ⊢
  have hlw : ((wds l).drop 1).length = (wds l).length - 1 := List.length_drop ..
  have h1l : 1 ≤ (wds l).length := by
    cases e : wds l with
    | nil => exact absurd e (wds_ne l)
    | cons x r => exact Nat.succ_le_succ (Nat.zero_le _)
  have wd0 : atI ((wds l).map V.str) 0 = some (.str (wd l 0)) := by
    refine atI_nat (j := 0) ?_
    rw [List.getElem?_map, List.getElem?_eq_getElem h1l]
    show some (V.str _) = some (V.str ((wds l).getD 0 ""))
    rw [List.getD_eq_getElem?_getD, List.getElem?_eq_getElem h1l]
    rfl
  generalize hwsd : (wds l).drop 1 = ws at *
  refine lcX walk_list _ yAt (by rw [List.length_map]; omega) hD (fun H' e => ex_l e (sq_of upd_same)) (fun _ _ => true) (fun i acc => acc = (ws.take i).map fun z => numV (rdNum z 13)) rfl ?_ (fun i x acc H1 hi hx r e Q q => q H1 (Ex.refl H1)) (fun i x acc H1 hi hx r e hf Q q => ?_) (fun i x acc hi hx r hf => by cases hf) (fun H2 ys e hD2 r hl2 => ?_)
  · exact fun _ => rfl
  · rw [List.getElem?_map] at hx
    obtain ⟨z, hz1, rfl⟩ := Option.map_eq_some_iff.mp hx
    have hzm : z ∈ wds l := by
      have := List.mem_of_getElem? hz1
      rw [← hwsd] at this
      exact List.mem_of_mem_drop this
    refine ⟨_, rfl, z, 13, rfl, by decide, Nat.le_trans (hws z hzm) (by decide), q _ _ (Ex.refl H1) ?_⟩
    rw [take_snoc hz1, List.map_append, r]
    rfl
  · rw [List.length_map, take_all] at r
    subst r
    walk_at "st"
    have hfl : (ws.map fun z => numV (rdNum z 13)).all flatV = true := by
      rw [List.all_eq_true]
      intro x hx
      obtain ⟨z, _, rfl⟩ := List.mem_map.mp hx
      cases rdNum z 13 <;> rfl
    have e12 : Ex H H2 := e1.trans (e2.trans e)
    have hp2 := (e2.trans e) _ _ hp1
    have fN : (wd l 0 = ("desk" : Str) ∧ (wds l).length = 6) ∨ ¬ (wd l 0 = ("desk" : Str) ∧ (wds l).length = 6) := Classical.em _
    refine qwh (b := !decide (wd l 0 = ("desk" : Str)) || (!decide ((wds l).length = 6) || (nums ws).isNone)) ?_ (fun h => ?_) (fun h => ?_)
    · refine a_or (a_test fun Q q => ?_) fun _ => a_or (a_test fun Q q => ?_) fun _ => a_test fun Q q => ?_
      · refine ⟨_, rfl, .inl ⟨p, _, _, _, rfl, rfl, sq_of hp2, wd0, .inl ⟨rfl, ?_⟩⟩⟩
        rw [dcS]
        exact q
      · refine ⟨_, rfl, _, _, rfl, .inl ⟨_, sq_of hD2, rfl⟩, .inl ⟨rfl, ?_⟩⟩
        have e3 : decide ((((ws.map fun z => numV (rdNum z 13)).length : Nat) : Int) = (5 : Int)) = decide ((wds l).length = 6) := by
          rw [List.length_map, Bool.eq_iff_iff, decide_eq_true_eq, decide_eq_true_eq]
          omega
        rw [dcI, e3]
        exact q
      · refine ⟨_, rfl, .inl ⟨D, _, rfl, .inl (sq_of hD2), rfl, hfl, ?_⟩⟩
        rw [if_neg Bool.false_ne_true, inN_nums]
        exact q
    · refine ⟨rfl, fun d hd => hb ?_ d _ (e12.trans (Ex.new hd)) upd_same⟩
      by_cases hc : wd l 0 = ("desk" : Str) ∧ (wds l).length = 6
      · rw [if_pos hc]
        rw [decide_eq_true hc.1, decide_eq_true hc.2] at h
        cases hn : nums ws with
        | none => rfl
        | some ns => rw [hn] at h; cases h
      · rw [if_neg hc]
    · have h3 : (wd l 0 = ("desk" : Str) ∧ (wds l).length = 6) ∧ (nums ws).isNone = false := by simpa [and_assoc] using h
      rw [if_pos h3.1] at hb hq
      cases hn : nums ws with
      | none => rw [hn] at h3; cases h3.2
      | some ns =>
        rw [hn] at hb hq
        have h4 : (ws.map fun z => numV (rdNum z 13)) = ns.map V.int := by
          have h5 : (ws.map fun z => numV (rdNum z 13)) = (ws.map fun z => rdNum z 13).map numV := by rw [List.map_map] <;> rfl
          rw [h5, (nums_some hn).2.2, List.map_map]
          rfl
        have h5 : ns.length = 5 := by
          have := congrArg List.length h4
          rw [List.length_map, List.length_map] at this
          omega
        rw [h4] at hD2
        match ns, h5 with
        | [a0, a1, a2, a3, a4], _ =>
          have hD2' : H2 D = some (.lst [.int a0, .int a1, .int a2, .int a3, .int a4]) := hD2
          refine ⟨_, rfl, D, _, rfl, sq_of hD2', rfl, _, _, rfl, _, _, rfl, _, _, rfl, _, _, rfl, _, _, rfl, rfl, ?_⟩
          refine ⟨_, rfl, _, rfl, _, rfl, _, rfl, _, rfl, rfl, fun a d ha hd n => ⟨a, d, a0, a1, a2, a3, a4, rfl, upd_same, fun ho C dd H' mo f => ?_, fun ho H' X' hD3 f hfr => ⟨rfl, ?_⟩⟩⟩
          · refine ⟨true, mo, fun _ x na => ⟨rfl, fun d2 hd2 => hb ?_ d2 _ (e12.trans ((ex_made ha hd f).trans (Ex.new hd2))) upd_same⟩, fun z => by cases z⟩
            show (if okCosts a0 a1 a2 a3 a4 = true then _ else none) = none
            rw [ho]
            rfl
          · refine hq (a0, a1, a2, a3, a4) ?_ a H' X' (e12.trans (ex_made ha hd f)) hD3 fun b hb2 => ?_
            · show (if okCosts a0 a1 a2 a3 a4 = true then _ else none) = some _
              rw [ho]
              rfl
            · refine fresh_back e12 ((hfr b hb2).elim (fun z => z ▸ ha) fun z => ?_)
              exact un_upd (un_upd z))
end
def spJournal (K : PySem.W.Frag) : Sp := fun vs H Q E => ∃ t : Str, vs = [.str t] ∧ t.length + 2 ≤ sizeLine ∧ (Txt.split t brk).length ≤ 70000 ∧ (∀ z ∈ Txt.split t brk, z.length ≤ 80000) ∧
  (∀ n, readJ t = .inl n → BadJ K H E n) ∧ ∀ c, readJ t = .inr c → ∀ a H' X, Ex H H' → DeskAt K H' a c [] X → (∀ b ∈ X, H b = none) → Q (.ref a) H'
section
variable {X : Cx} {W : WX} {k : Nat} {e : Expr} {es : List Expr} {ta : TA} {p pos : Pos}
theorem c_read_first {K : PySem.W.Frag} (B : Bx X W k) (tk : L2.Takes X W) (ha : PA X (e :: es) ta) (hK : X.K = K := by rfl) (hl : 8 ≤ k := by decide) (hg : Gl X "read_first" := by rfl) (hst : starEach (e :: es) X.env = (false, eval e X.env) :: starEach es X.env := by rfl) (hpl : (backTo pos (starEach es X.env)).any (·.1) = false := by rfl) : PE X (.Call (.Name "read_first" p) (e :: es) [] pos) (tFn (spFirst K) W ta) := by
  subst hK
  exact k_fun (w_read_first B.wx) (B.rm.mono hl) B.wx.toTx.d_read_first.kp B.wx.toTx.g_read_first (fun σ => atLL tk σ) ha hg (by decide) hst hpl
end
section
variable {X : Cx} {W : WX} {k : Nat} {e o : Expr} {es : List Expr} {ta : TA} {to : TE} {p pos apos : Pos} {pl : Sem Bool}
theorem c_write_journal {K : PySem.W.Frag} (B : Bx X W k) (ha : PA X (e :: es) ta) (hK : X.K = K := by rfl) (hl : 5 ≤ k := by decide) (hg : Gl X "write_journal" := by rfl) (hst : starEach (e :: es) X.env = (false, eval e X.env) :: starEach es X.env := by rfl) (hpl : (backTo pos (starEach es X.env)).any (·.1) = false := by rfl) : PE X (.Call (.Name "write_journal" p) (e :: es) [] pos) (tFn (spWrite K) W ta) := by
  subst hK
  exact k_fun (w_write_journal B.wx) (B.rm.mono hl) B.wx.toTx.d_write_journal.kp B.wx.toTx.g_write_journal B.hx ha hg (by decide) hst hpl
end
section
variable {P : Program} {w : World} {K : PySem.W.Frag} {mg : Str → Option Value} {base : Heap}
theorem sc_read_journal : FnScope ["text", "lines", "rest", "desk", "at"] ["text"] xread_journal.scope := ⟨rfl, rfl, rfl, by decide +kernel, rfl, by decide +kernel, by decide +kernel⟩
theorem w_read_journal (T : Wx P K mg) : FnR P w K mg base (L2.CX P w) 10 (He.ga K "read_journal") (spJournal K) :=
  mkRL 9 T T.toTx.d_read_journal sc_read_journal (by rintro vs H Q E ⟨_, rfl, _⟩; rfl) (fun _ _ _ _ _ _ us hl => match us, hl with | [_], _ => rfl) (fun cdv A outer s H vs Q E B tkL hsp => by
  obtain ⟨t, rfl, hz, hzn, hzl, hb, hq⟩ := hsp
  refine ⟨_, (pss_cons (st_set (i := 1) sc_read_journal.nd (pe_split (pv 0) pe_str))
    (pss_cons (st_set (i := 2) sc_read_journal.nd (pe_bm0 PySem.F.plainAttrs_list PySem.F.slot_list_pop PySem.F.type_list_pop mt_pop (pv 1)))
    (pss_cons (ps_if (pt_not (pt_truthK K (pv 1) (fun _ => rfl))) (pss_one (r_BadJournal B.rs (by rfl) (pa_cons pe_int pa_nil))) pss_nil)
    (pss_cons (st_set (i := 3) sc_read_journal.nd (c_read_first (K := K) B tkL (pa_cons (pe_ix (ix_seqK K) (pv 1) pe_int (fun _ _ => rfl)) pa_nil)))
    (pss_cons (ps_for (L2.passes_of rfl) B.calm (pi_range2 (by rfl) B.wx.toTx.f_range (pa_cons pe_int (pa_cons (pe_callB (call_lenK K) (by rfl) B.wx.toTx.f_len b_len (pa_cons (pv 1) pa_nil)) pa_nil))) (pg_name (i := 4) sc_read_journal.nd rfl (by first | exact .inl rfl | exact .inr rfl)) (pss_one (ps_tryO K rfl rfl (nm_MootError B) (L2H.passesAt_of rfl) tkL (fun W pn xe tk2 _ _ => (have B := Bx.tr B tk2; (pss_one (ps_expr (c_Desk_do (K := K) B (pv 3) (pa_cons (pe_ix (ix_seqK K) (pv 1) (pv 4) (fun _ _ => rfl)) pa_nil)))))) (fun a oe cls d pn _ _ tkS hot => pss_one (rH_BadJournal K B.wx (roomM B.rm) hot tkS (pa_cons (pe_op (o_addK K) (pv 4) pe_int) pa_nil))))))
    (pss_cons (ps_if (pt_cmpR (o_neK K B.hu64) (pv 2) pe_str (nomark _)) (pss_one (r_BadJournal B.rs (by rfl) (pa_cons (pe_op (o_addK K) (pe_callB (call_lenK K) (by rfl) B.wx.toTx.f_len b_len (pa_cons (pv 1) pa_nil)) pe_int) pa_nil))) pss_nil)
    (pss_one (ps_ret (pv 3))))))))), ?_⟩
  obtain ⟨init, last, hsp⟩ : ∃ init last, Txt.split t brk = init ++ [last] := by
    rcases List.eq_nil_or_concat (Txt.split t brk) with e | ⟨i, l, e⟩
    · exact absurd e (split_ne t tl_brk brk_ok)
    · exact ⟨i, l, by rw [e, List.concat_eq_append]⟩
  have hri : (Txt.split t brk).dropLast = init := by rw [hsp, List.dropLast_concat]
  have hrl : (Txt.split t brk).getLast? = some last := by rw [hsp, List.getLast?_concat]
  have hin : init.length ≤ 70000 := by
    rw [hsp, List.length_append] at hzn
    have : [last].length = 1 := rfl
    omega
  have hil : ∀ z ∈ init, z.length ≤ 80000 := fun z hm => hzl z (by rw [hsp]; exact List.mem_append_left _ hm)
  unfold readJ at hb hq
  rw [hri, hrl] at hb hq
  refine ⟨_, rfl, ⟨t, rfl⟩, t, "\n", rfl, rfl, rfl, hz, fun p hp => ?_⟩
  have hsp2 : Txt.split t "\n" = init ++ [last] := hsp
  rw [hsp2]
  have hp1 : (upd H p (.lst ((init ++ [last]).map V.str))) p = some (.lst (init.map V.str ++ [.str last])) := by
    rw [upd_same, List.map_append]
    rfl
  refine ⟨_, rfl, .inl ⟨rfl, _, sq_of hp1⟩, p, _, .str last, rfl, rfl, hp1, by simp, ?_⟩
  rw [List.dropLast_concat]
  walk_at "st"
  have e1 : Ex H (upd (upd H p (.lst ((init ++ [last]).map V.str))) p (.lst (init.map V.str))) := Ex.mut (Ex.new hp) hp
  have hp2 : (upd (upd H p (.lst ((init ++ [last]).map V.str))) p (.lst (init.map V.str))) p = some (.lst (init.map V.str)) := upd_same
  generalize upd (upd H p (.lst ((init ++ [last]).map V.str))) p (.lst (init.map V.str)) = H1 at *
  cases init with
  | nil =>
    refine qwh (b := true) (a_not (b := false) (a_tr (v := .ref p) (fun Q q => ⟨_, rfl, q⟩) (.inl ⟨_, sq_of hp2, rfl⟩))) (fun _ => ?_) (fun z => by cases z)
    exact ⟨rfl, fun d hd => hb 1 rfl d _ (e1.trans (Ex.new hd)) upd_same⟩
  | cons f r =>
  refine qwh (b := false) (a_not (b := true) (a_tr (v := .ref p) (fun Q q => ⟨_, rfl, q⟩) (.inl ⟨_, sq_of hp2, rfl⟩))) (fun z => by cases z) (fun _ => ?_)
  dsimp only at hb hq
  have hat : ∀ i, i < (f :: r).length → ∃ z, (f :: r)[i]? = some z ∧ atI ((f :: r).map V.str) ((i : Nat) : Int) = some (.str z) := fun i hi => ⟨(f :: r)[i], List.getElem?_eq_getElem hi, atI_nat (by rw [List.getElem?_map, List.getElem?_eq_getElem hi] <;> rfl)⟩
  have hat0 : atI ((f :: r).map V.str) 0 = some (.str f) := atI_nat (j := 0) rfl
  refine ⟨_, rfl, .inl ⟨p, _, _, _, rfl, rfl, sq_of hp2, hat0, f, rfl, hil f (List.mem_cons_self ..), fun hf => ?_, fun o hf a H2 X e2 hD hX => ?_⟩⟩
  · rw [hf] at hb
    exact fun d H' e hd => hb 1 rfl d H' (e1.trans e) hd
  rw [hf] at hb hq
  dsimp only at hb hq
  walk_at "st"
  have hp3 := e2 _ _ hp2
  have hlr : (f :: r).length = r.length + 1 := rfl
  refine ⟨_, rfl, _, _, rfl, .inl ⟨_, sq_of hp3, rfl⟩, _, _, rfl, ?_, ?_⟩
  · rw [List.length_map]
    have : (f :: r).length ≤ 70000 := hin
    refine ⟨by decide, by decide, by omega, by omega⟩
  have hnn : (((((f :: r).map V.str).length : Nat) : Int) - 1).toNat = r.length := by
    rw [List.length_map, hlr]
    omega
  rw [hnn]
  refine for_it walk_range (fun i σ' H' => ∃ (X : List Addr) (c : Core) (u : Option V), σ' = [some (.str t), some (.ref p), some (.str last), some (.ref a), u] ∧ Ex H1 H' ∧ DeskAt K H' a c [] X ∧ (∀ b ∈ X, H1 b = none) ∧ CoreOk c ∧ c.done.length ≤ i ∧ goLines (Core.new o) r 1 = goLines c (r.drop i) (1 + (i : Nat)))
    ⟨X, Core.new o, none, rfl, e2, hD, hX, new_core o, Nat.zero_le _, by rw [List.drop_zero]; rfl⟩ (fun _ _ _ _ _ => True.intro) ?_ ?_
  · rintro i x σ' H' H'' hi ⟨X', c, u, rfl, e3, hD3, hX3, ok, hdn, hgo⟩ ⟨rfl, rfl⟩
    have hp4 := e3 _ _ hp2
    obtain ⟨l0, w0, p0, o0, rw0, dn0, ud0, kvs0, Y0, eX, ⟨dx0, hia⟩, _⟩ := id hD3
    obtain ⟨z, hz1, hz2⟩ := hat (1 + i) (by rw [hlr]; omega)
    have hz3 : atI ((f :: r).map V.str) (1 + ((i : Nat) : Int)) = some (.str z) := by
      rw [← hz2]
      congr 1
    have hzr : r[i]? = some z := by
      rw [Nat.add_comm] at hz1
      exact hz1
    have hdrop : r.drop i = z :: r.drop (i + 1) := by
      have hlt : i < r.length := (List.getElem?_eq_some_iff.mp hzr).1
      rw [List.drop_eq_getElem_cons hlt]
      congr 1
      rw [List.getElem?_eq_getElem hlt] at hzr
      exact Option.some.inj hzr
    rw [hdrop] at hgo
    walk_at "st"
    have hrl2 : r.length ≤ 70000 := by
      have : (f :: r).length ≤ 70000 := hin
      omega
    refine ⟨_, rfl, a, _, _, rfl, hia, rfl, _, rfl, _, rfl, .inl ⟨p, _, _, _, rfl, rfl, sq_of hp4, hz3, a, c, [], X', z, rfl, hD3, ok, by omega, hil z ?_, fun hst => ?_, fun d hst => ?_⟩⟩
    · exact List.mem_of_getElem? (l := f :: r) (i := i + 1) hzr
    · intro C d H4 mo e4
      refine ⟨true, mo, fun _ x na => ⟨_, rfl, .inl ⟨_, _, rfl, rfl, rfl, fun d2 hd2 => hb _ ?_ d2 _ (e1.trans (e3.trans (e4.trans (Ex.new hd2)))) upd_same⟩⟩, fun z => by cases z⟩
      rw [hgo]
      unfold goLines
      rw [hst]
    · intro H4 X4 hD4 f4 nw4 lf4 v
      obtain ⟨ok4, _, hd4⟩ := step_ok ok hst
      refine ⟨X4, d, _, rfl, fun b o hb => f4.1 b o (e3 _ _ hb) fun hm => ?_, hD4, fun b hm => ?_, ok4, ?_, ?_⟩
      · rw [hX3 b hm] at hb
        cases hb
      · rcases nw4 b hm with y | y
        · exact hX3 b y
        · exact fresh_back e3 y
      · rw [hd4, List.length_append]
        show c.done.length + 1 ≤ i + 1
        omega
      · rw [hgo]
        show goLines c (z :: r.drop (i + 1)) (1 + ((i : Nat) : Int)) = _
        conv => lhs; unfold goLines
        rw [hst]
        show goLines d (r.drop (i + 1)) (1 + (i : Int) + 1) = goLines d (r.drop (i + 1)) (1 + ((i + 1 : Nat) : Int))
        congr 1
  · rintro σ' H' ⟨X', c, u, rfl, e3, hD3, hX3, ok, hdn, hgo⟩
    rw [List.drop_length] at hgo
    have hgo : goLines (Core.new o) r 1 = .inr c := hgo
    rw [hgo] at hb hq
    dsimp only at hb hq
    have hp4 := e3 _ _ hp2
    walk_at "st"
    refine qwh (b := !decide (last = ("" : Str))) (a_test fun Q q => ?_) (fun h => ?_) (fun h => ?_)
    · refine ⟨_, rfl, .inl ⟨rfl, ?_⟩⟩
      rw [dcS]
      exact q
    · have h1 : ¬ last = ("" : Str) := by simpa using h
      refine ⟨_, rfl, _, _, rfl, .inl ⟨_, sq_of hp4, rfl⟩, .inl ⟨_, _, rfl, rfl, rfl, fun d hd => hb _ ?_ d _ (e1.trans (e3.trans (Ex.new hd))) upd_same⟩⟩
      rw [if_neg (fun z => h1 (Option.some.inj z)), List.length_map, hlr]
      congr 1
    · have h1 : last = ("" : Str) := by simpa using h
      refine ⟨_, rfl, hq c ?_ a H' X' (e1.trans e3) hD3 fun b hm => fresh_back e1 (hX3 b hm)⟩
      exact if_pos (congrArg some h1))
end
end Bm
set_option Elab.async false
set_option linter.all false
set_option maxRecDepth 10000
set_option maxHeartbeats 400000
set_option pp.deepTerms false
set_option pp.maxSteps 1500
set_option maxErrors 6
/-! Walks: the law's defs, same data. -/
namespace Bm
open PySem PySem.Spec PyProof.Rows L2 Evl TL RZ
local macro_rules | `(tactic| walk_at "sz") => `(tactic| first | assumption | (refine sz_of ?_; omega) | (refine sz_lt ?_; omega))
local macro_rules | `(tactic| walk_at "ne") => `(tactic| first | assumption | (refine Ne.symm ?_; assumption) | exact ne_new (by assumption) (by walk_at "hp") | exact Ne.symm (ne_new (by assumption) (by walk_at "hp")))
local macro_rules | `(tactic| walk_at "hp") => `(tactic| first | assumption | exact upd_same | (refine (upd_ne (by walk_at "ne")).trans ?_; walk_at "hp") | (refine Ex.at_ (by assumption) ?_; walk_at "hp"))
local macro_rules | `(tactic| walk_at "sq") => `(tactic| first | assumption | (refine sq_of ?_; walk_at "hp") | (refine st_of ?_; walk_at "hp") | (refine ex_l (by assumption) ?_; walk_at "sq") | (refine ex_t (by assumption) ?_; walk_at "sq"))
local macro_rules | `(tactic| walk_at "sd") => `(tactic| first | exact (show (0 : Int) < _ from by omega) | exact (show (0 : Int) < _ ∧ _ < (1073741824 : Int) from ⟨by omega, by omega⟩) | exact (show CPow _ _ from ⟨by decide, by decide, by decide⟩) | exact (show CMul _ _ from .inl ⟨by omega, by omega⟩) | exact (show CMul _ _ from .inr ⟨by omega, by omega⟩))
local macro_rules | `(tactic| walk_at "g1") => `(tactic| first
  | refine ⟨_, rfl, ?_⟩
  | refine ⟨_, _, rfl, rfl, ?_⟩
  | refine .inl ⟨_, _, rfl, rfl, ?_⟩
  | refine .inl ⟨rfl, ?_⟩
  | refine .inl (.inl ⟨_, rfl, ?_⟩)
  | (refine ⟨_, _, rfl, ⟨?_, rfl⟩, ?_⟩; (walk_at "sz"))
  | refine ⟨(by walk_at "sd"), ?_⟩)
local macro_rules | `(tactic| walk_at "go") => `(tactic| repeat walk_at "g1")
local macro_rules | `(tactic| walk_at "st") => `(tactic| dsimp only [gName])
local macro_rules | `(tactic| walk_at "ln") => `(tactic| first | exact (show 0 < 1000 from by decide) | exact (show 1 < 1000 from by decide) | exact (show 2 < 1000 from by decide) | exact (show 3 < 1000 from by decide) | exact (show 4 < 1000 from by decide) | exact (show 5 < 1000 from by decide) | exact (show 6 < 1000 from by decide) | exact (show 7 < 1000 from by decide))
local macro_rules | `(tactic| walk_at "le") => `(tactic| first | exact (show 0 ≤ sizeLine from by decide) | exact (show 1 ≤ sizeLine from by decide) | exact (show 2 ≤ sizeLine from by decide) | exact (show 3 ≤ sizeLine from by decide) | exact (show 4 ≤ sizeLine from by decide) | exact (show 5 ≤ sizeLine from by decide) | exact (show 6 ≤ sizeLine from by decide) | exact (show 7 ≤ sizeLine from by decide) | exact (show 8 ≤ sizeLine from by decide))
local macro_rules | `(tactic| walk_at "nt") => `(tactic| first | exact nt_ins | exact nt_lst | exact nt_dK)
local macro_rules | `(tactic| walk_at "fr") => `(tactic| first | assumption | exact Fr.refl | exact Fr.ex (by assumption) | (refine Fr.put ?_ (by walk_at "hp") (by walk_at "nt") (by simp); walk_at "fr") | (refine Fr.new ?_ (by assumption); walk_at "fr"))
/-- the same plain data, at most n deep -/
def Sc (x : V) : Prop := x = .non ∨ (∃ i, x = .int i) ∨ ∃ s, x = .str s
def Sm : Nat → Hp → V → V → Prop
  | 0, _, x, y => x = y ∧ Sc x
  | n + 1, H, x, y => (x = y ∧ Sc x) ∨ ∃ a b xs ys, x = .ref a ∧ y = .ref b ∧ ((H a = some (.lst xs) ∧ H b = some (.lst ys)) ∨ (H a = some (.tup xs) ∧ H b = some (.tup ys))) ∧ xs.length ≤ 90000 ∧ Paired (Sm n H) xs ys
theorem Sm.ex : ∀ {n : Nat} {H H' : Hp} {x y : V}, Sm n H x y → Ex H H' → Sm n H' x y
  | 0, _, _, _, _, h, _ => h
  | n + 1, H, H', x, y, h, e => by
    rcases h with h | ⟨a, b, xs, ys, rfl, rfl, h1, h2, h3⟩
    · exact .inl h
    · refine .inr ⟨a, b, xs, ys, rfl, rfl, ?_, h2, Paired.mapP h3 fun _ _ q => Sm.ex q e⟩
      rcases h1 with ⟨p, q⟩ | ⟨p, q⟩
      · exact .inl ⟨e _ _ p, e _ _ q⟩
      · exact .inr ⟨e _ _ p, e _ _ q⟩
theorem Sm.mono : ∀ {n : Nat} {H : Hp} {x y : V}, Sm n H x y → Sm (n + 1) H x y
  | 0, _, _, _, h => .inl h
  | n + 1, H, x, y, h => by
    rcases h with h | ⟨a, b, xs, ys, rfl, rfl, h1, h2, h3⟩
    · exact .inl h
    · exact .inr ⟨a, b, xs, ys, rfl, rfl, h1, h2, Paired.mapP h3 fun _ _ q => Sm.mono q⟩
theorem isi {K : PySem.W.Frag} {H : Hp} {x : V} {a c : String} {b : Bool} {Q : VK} (h : TyX K H x (.type a)) (k : kitB a c = some b) (q : Q (.bl b) H) : rIsi K [x, .ty c] H Q := ⟨x, .ty c, .type a, .type c, b, rfl, .ty c, h, kit_ty k, q⟩
theorem sm_cases {n : Nat} {H : Hp} {x y : V} (h : Sm n H x y) : (x = y ∧ Sc x) ∨ ∃ m, n = m + 1 ∧ ∃ a b xs ys, x = .ref a ∧ y = .ref b ∧ ((H a = some (.lst xs) ∧ H b = some (.lst ys)) ∨ (H a = some (.tup xs) ∧ H b = some (.tup ys))) ∧ xs.length ≤ 90000 ∧ Paired (Sm m H) xs ys := by
  cases n with
  | zero => exact .inl h
  | succ m => exact h.imp id fun h => ⟨m, rfl, h⟩
theorem seq_ty {K : PySem.W.Frag} {H : Hp} {a b : Addr} {xs ys : List V} (h : (H a = some (.lst xs) ∧ H b = some (.lst ys)) ∨ (H a = some (.tup xs) ∧ H b = some (.tup ys))) : ∃ (ty : String) (bl bt : Bool), kitB ty "int" = some false ∧ kitB ty "str" = some false ∧ kitB ty "list" = some bl ∧ kitB ty "tuple" = some bt ∧ TyX K H (.ref a) (.type ty) ∧ TyX K H (.ref b) (.type ty) ∧
    ((SqL K H a xs ∧ SqL K H b ys ∧ bl = true) ∨ (SqT K H a xs ∧ SqT K H b ys ∧ bl = false ∧ bt = true)) ∧ True := by
  rcases h with ⟨p, q⟩ | ⟨p, q⟩
  · exact ⟨"list", true, false, by decide +kernel, by decide +kernel, by decide +kernel, by decide +kernel, .base (.lst p), .base (.lst q), .inl ⟨sq_of p, sq_of q, rfl⟩, True.intro⟩
  · exact ⟨"tuple", false, true, by decide +kernel, by decide +kernel, by decide +kernel, by decide +kernel, .base (.tup p), .base (.tup q), .inr ⟨st_of p, st_of q, rfl, rfl⟩, True.intro⟩
theorem ev_isi {K : PySem.W.Frag} {σ : L2.St} {H : Hp} {j : Nat} {x : V} {a c : String} {b : Bool} {Q : VK} (h0 : σ[j]? = some (some x)) (h : TyX K H x (.type a)) (k : kitB a c = some b) (q : Q (.bl b) H) : tCB (rIsi K) (tCons (tVar j) (tCons (tC (.ty c)) tNil)) σ H Q := ⟨x, h0, (isi h k q : rIsi K [x, .ty c] H Q)⟩
def spIsInt : Sp := fun vs H Q _ => ∃ i : Int, vs = [.int i] ∧ Q (.bl true) H
def spSame (n : Nat) : Sp := fun vs H Q _ => ∃ x y, vs = [x, y] ∧ Sm n H x y ∧ Q (.bl true) H
section
variable {P : Program} {w : World} {K : PySem.W.Frag} {mg : Str → Option Value} {base : Heap}
theorem sc_law_is_integer : FnScope ["_law_actual"] ["_law_actual"] xlaw_is_integer.scope := ⟨rfl, rfl, rfl, by decide +kernel, rfl, by decide +kernel, by decide +kernel⟩
theorem w_law_is_integer (T : Wx P K mg) : FnR P w K mg base (L2N.CX P w) 1 (He.ga K "_law_is_integer") (spIsInt) :=
  mkR 0 T T.toTx.d_law_is_integer sc_law_is_integer (by rintro vs H Q E ⟨_, rfl, _⟩; rfl) (fun _ _ _ _ _ _ us hl => match us, hl with | [_], _ => rfl) (fun cdv A outer s H vs Q E B hsp => by
  obtain ⟨i, rfl, hq⟩ := hsp
  refine ⟨_, (pss_one (ps_ret (pe_andT (pe_callB (call_isiK K) (by rfl) B.wx.toTx.f_isinstance b_isinstance (pa_cons (pv 0) (pa_cons (gy_int B) pa_nil))) (pe_one (pe_notT (pe_callB (call_isiK K) (by rfl) B.wx.toTx.f_isinstance b_isinstance (pa_cons (pv 0) (pa_cons (gy_bool B) pa_nil)))))))), ?_⟩
  refine ev_isi (x := .int i) rfl (.base (.int i)) (by decide +kernel : kitB "int" "int" = some true) ⟨true, rfl, ?_⟩
  rw [if_pos rfl]
  exact ev_isi (x := .int i) rfl (.base (.int i)) (by decide +kernel : kitB "int" "bool" = some false) ⟨false, rfl, hq⟩)
end
section
variable {X : Cx} {W : WX} {k : Nat} {e o : Expr} {es : List Expr} {ta : TA} {to : TE} {p pos apos : Pos} {pl : Sem Bool}
theorem c_law_is_integer {K : PySem.W.Frag} (B : Bx X W k) (ha : PA X (e :: es) ta) (hK : X.K = K := by rfl) (hl : 1 ≤ k := by decide) (hg : Gl X "_law_is_integer" := by rfl) (hst : starEach (e :: es) X.env = (false, eval e X.env) :: starEach es X.env := by rfl) (hpl : (backTo pos (starEach es X.env)).any (·.1) = false := by rfl) : PE X (.Call (.Name "_law_is_integer" p) (e :: es) [] pos) (tFn (spIsInt) W ta) := by
  subst hK
  exact k_fun (w_law_is_integer B.wx) (B.rm.mono hl) B.wx.toTx.d_law_is_integer.kp B.wx.toTx.g_law_is_integer B.hx ha hg (by decide) hst hpl
end
section
variable {X : Cx} {W : WX} {k : Nat} {e : Expr} {es : List Expr} {ta : TA} {p pos : Pos}
theorem c_law_sameF {K : PySem.W.Frag} {sp : Sp} (B : Bx X W k) (F : FnR X.prog X.w X.K X.mg X.base (L2N.CX X.prog X.w) k (He.ga X.K "_law_same") sp) (ha : PA X (e :: es) ta) (hK : X.K = K := by rfl) (hg : Gl X "_law_same" := by rfl) (hst : starEach (e :: es) X.env = (false, eval e X.env) :: starEach es X.env := by rfl) (hpl : (backTo pos (starEach es X.env)).any (·.1) = false := by rfl) : PE X (.Call (.Name "_law_same" p) (e :: es) [] pos) (tFn sp W ta) := by
  subst hK
  exact k_fun F B.rm B.wx.toTx.d_law_same.kp B.wx.toTx.g_law_same B.hx ha hg (by decide) hst hpl
end
section
variable {P : Program} {w : World} {K : PySem.W.Frag} {mg : Str → Option Value} {base : Heap}
theorem sc_law_same : FnScope ["_law_actual", "_law_expected", "_law_k"] ["_law_actual", "_law_expected"] xlaw_same.scope := ⟨rfl, rfl, rfl, by decide +kernel, rfl, by decide +kernel, by decide +kernel⟩
theorem law_same_step (T : Wx P K mg) (n : Nat) (sp : Sp) (F : FnR P w K mg base (L2N.CX P w) (n + 2) (He.ga K "_law_same") sp) (hrec : ∀ m H x y Q E, n = m + 1 → Sm m H x y → Q (.bl true) H → sp [x, y] H Q E) : FnR P w K mg base (L2N.CX P w) (n + 3) (He.ga K "_law_same") (spSame n) :=
  mkR (n + 2) T T.toTx.d_law_same sc_law_same (by rintro vs H Q E ⟨_, _, rfl, _⟩; rfl) (fun _ _ _ _ _ _ us hl => match us, hl with | [_, _], _ => rfl) (fun cdv A outer s H vs Q E B hsp => by
  obtain ⟨x, y, rfl, hs, hq⟩ := hsp
  refine ⟨_, (pss_cons (ps_if (pt_cmpR op_isN1 (pv 1) pe_non (nomark _)) (pss_one (ps_ret (pe_cmpR op_isN1 (pv 0) pe_non (nomark _)))) pss_nil)
    (pss_cons (ps_if (pt_cmpR o_isBl (pv 1) pe_bl (nomark _)) (pss_one (ps_ret (pe_cmpR o_isBl (pv 0) pe_bl (nomark _)))) pss_nil)
    (pss_cons (ps_if (pt_cmpR o_isBl (pv 1) pe_bl (nomark _)) (pss_one (ps_ret (pe_cmpR o_isBl (pv 0) pe_bl (nomark _)))) pss_nil)
    (pss_cons (ps_if (pt_truthK K (pe_callB (call_isiK K) (by rfl) B.wx.toTx.f_isinstance b_isinstance (pa_cons (pv 1) (pa_cons (gy_int B) pa_nil))) (fun _ => rfl)) (pss_one (ps_ret (pe_andT (c_law_is_integer (K := K) B (pa_cons (pv 0) pa_nil) (hl := by omega)) (pe_one (pe_cmpR (o_eqK K B.hu64) (pv 0) (pv 1) (nomark _)))))) pss_nil)
    (pss_cons (ps_if (pt_truthK K (pe_callB (call_isiK K) (by rfl) B.wx.toTx.f_isinstance b_isinstance (pa_cons (pv 1) (pa_cons (gy_str B) pa_nil))) (fun _ => rfl)) (pss_one (ps_ret (pe_andT (pe_callB (call_isiK K) (by rfl) B.wx.toTx.f_isinstance b_isinstance (pa_cons (pv 0) (pa_cons (gy_str B) pa_nil))) (pe_one (pe_cmpR (o_eqK K B.hu64) (pv 0) (pv 1) (nomark _)))))) pss_nil)
    (pss_cons (ps_if (PW.pt (pw_or (pt_cmpR (o_neK K B.hu64) (pe_callB (call_isiK K) (by rfl) B.wx.toTx.f_isinstance b_isinstance (pa_cons (pv 1) (pa_cons (gy_list B) pa_nil))) (pe_callB (call_isiK K) (by rfl) B.wx.toTx.f_isinstance b_isinstance (pa_cons (pv 0) (pa_cons (gy_list B) pa_nil))) (nomark _)) (pw_or1 (pt_cmpR (o_neK K B.hu64) (pe_callB (call_isiK K) (by rfl) B.wx.toTx.f_isinstance b_isinstance (pa_cons (pv 1) (pa_cons (gy_tuple B) pa_nil))) (pe_callB (call_isiK K) (by rfl) B.wx.toTx.f_isinstance b_isinstance (pa_cons (pv 0) (pa_cons (gy_tuple B) pa_nil))) (nomark _))))) (pss_one (ps_ret pe_bl)) pss_nil)
    (pss_cons (ps_if (PW.pt (pw_and (pt_not (pt_truthK K (pe_callB (call_isiK K) (by rfl) B.wx.toTx.f_isinstance b_isinstance (pa_cons (pv 0) (pa_cons (gy_list B) pa_nil))) (fun _ => rfl))) (pw_and1 (pt_not (pt_truthK K (pe_callB (call_isiK K) (by rfl) B.wx.toTx.f_isinstance b_isinstance (pa_cons (pv 0) (pa_cons (gy_tuple B) pa_nil))) (fun _ => rfl)))))) (pss_one (ps_ret pe_bl)) pss_nil)
    (pss_cons (ps_if (pt_cmpR (o_neK K B.hu64) (pe_callB (call_lenK K) (by rfl) B.wx.toTx.f_len b_len (pa_cons (pv 0) pa_nil)) (pe_callB (call_lenK K) (by rfl) B.wx.toTx.f_len b_len (pa_cons (pv 1) pa_nil)) (nomark _)) (pss_one (ps_ret pe_bl)) pss_nil)
    (pss_cons (ps_for (L2.passes_of rfl) B.calm (pi_range1 (by rfl) B.wx.toTx.f_range (pa_cons (pe_callB (call_lenK K) (by rfl) B.wx.toTx.f_len b_len (pa_cons (pv 1) pa_nil)) pa_nil)) (pg_name (i := 2) sc_law_same.nd rfl (by first | exact .inl rfl | exact .inr rfl)) (pss_one (ps_if (pt_not (pt_truthK K (c_law_sameF (K := K) B F (pa_cons (pe_ix (ix_seqK K) (pv 0) (pv 2) (fun _ _ => rfl)) (pa_cons (pe_ix (ix_seqK K) (pv 1) (pv 2) (fun _ _ => rfl)) pa_nil))) (fun _ => rfl))) (pss_one (ps_ret pe_bl)) pss_nil)))
    (pss_one (ps_ret pe_bl))))))))))), ?_⟩
  rcases sm_cases hs with ⟨rfl, hsc⟩ | ⟨m, rfl, a, b, xs, ys, rfl, rfl, hab, hz, hp⟩
  · rcases hsc with rfl | ⟨i, rfl⟩ | ⟨z, rfl⟩
    · refine qwh (b := true) (a_test fun Q q => ⟨_, rfl, rfl, q⟩) (fun _ => ?_) (fun z => by cases z)
      exact ⟨_, rfl, rfl, hq⟩
    · refine qwh (b := false) (a_test fun Q q => ⟨_, rfl, rfl, q⟩) (fun z => by cases z) (fun _ => ?_)
      refine qwh (b := false) (a_test fun Q q => ⟨_, rfl, true, rfl, q⟩) (fun z => by cases z) (fun _ => ?_)
      refine qwh (b := false) (a_test fun Q q => ⟨_, rfl, false, rfl, q⟩) (fun z => by cases z) (fun _ => ?_)
      refine qwh (b := true) (a_tr (v := .bl true) (fun Q q => ev_isi (x := .int i) rfl (.base (.int i)) (by decide +kernel : kitB "int" "int" = some true) q) rfl) (fun _ => ?_) (fun z => by cases z)
      refine ⟨_, rfl, i, rfl, true, rfl, ?_⟩
      rw [if_pos rfl]
      refine ⟨_, rfl, _, rfl, .inl ⟨rfl, ?_⟩⟩
      rw [decide_eq_true rfl]
      exact hq
    · refine qwh (b := false) (a_test fun Q q => ⟨_, rfl, rfl, q⟩) (fun z => by cases z) (fun _ => ?_)
      refine qwh (b := false) (a_test fun Q q => ⟨_, rfl, true, rfl, q⟩) (fun z => by cases z) (fun _ => ?_)
      refine qwh (b := false) (a_test fun Q q => ⟨_, rfl, false, rfl, q⟩) (fun z => by cases z) (fun _ => ?_)
      refine qwh (b := false) (a_tr (v := .bl false) (fun Q q => ev_isi (x := .str z) rfl (.base (.str z)) (by decide +kernel : kitB "str" "int" = some false) q) rfl) (fun z => by cases z) (fun _ => ?_)
      refine qwh (b := true) (a_tr (v := .bl true) (fun Q q => ev_isi (x := .str z) rfl (.base (.str z)) (by decide +kernel : kitB "str" "str" = some true) q) rfl) (fun _ => ?_) (fun z => by cases z)
      refine ev_isi (x := .str z) rfl (.base (.str z)) (by decide +kernel : kitB "str" "str" = some true) ⟨true, rfl, ?_⟩
      rw [if_pos rfl]
      refine ⟨_, rfl, _, rfl, .inl ⟨rfl, ?_⟩⟩
      rw [decide_eq_true rfl]
      exact hq
  · obtain ⟨ty, tl_, tt, hk1, hk2, hk3, hk4, tx, tyy, lx, ly⟩ := seq_ty (K := K) hab
    refine qwh (b := false) (a_test fun Q q => ⟨_, rfl, rfl, q⟩) (fun z => by cases z) (fun _ => ?_)
    refine qwh (b := false) (a_test fun Q q => ⟨_, rfl, true, rfl, q⟩) (fun z => by cases z) (fun _ => ?_)
    refine qwh (b := false) (a_test fun Q q => ⟨_, rfl, false, rfl, q⟩) (fun z => by cases z) (fun _ => ?_)
    refine qwh (b := false) (a_tr (v := .bl false) (fun Q q => ev_isi (x := .ref b) rfl tyy hk1 q) rfl) (fun z => by cases z) (fun _ => ?_)
    refine qwh (b := false) (a_tr (v := .bl false) (fun Q q => ev_isi (x := .ref b) rfl tyy hk2 q) rfl) (fun z => by cases z) (fun _ => ?_)
    have nn : ∀ k : Bool, (!decide (V.bl k = V.bl k)) = false := fun k => by rw [decide_eq_true rfl]; rfl
    refine qwh (b := false || false) (a_or (a_test fun Q q => ev_isi (x := .ref b) rfl tyy hk3 (ev_isi (x := .ref a) rfl tx hk3 (.inl ⟨rfl, by rw [nn]; exact q⟩))) fun _ => a_test fun Q q => ev_isi (x := .ref b) rfl tyy hk4 (ev_isi (x := .ref a) rfl tx hk4 (.inl ⟨rfl, by rw [nn]; exact q⟩))) (fun z => by cases z) (fun _ => ?_)
    have hlen : xs.length = ys.length := Paired.length hp
    have hll : LenV K (.ref a) H xs.length ∧ LenV K (.ref b) H ys.length := by
      rcases lx with ⟨p, q, _⟩ | ⟨p, q, _⟩
      · exact ⟨.inl ⟨_, p, rfl⟩, .inl ⟨_, q, rfl⟩⟩
      · exact ⟨.inr ⟨_, p, rfl⟩, .inr ⟨_, q, rfl⟩⟩
    refine qwh (b := !tl_ && !tt) (a_and (a_not (a_tr (v := .bl tl_) (fun Q q => ev_isi (x := .ref a) rfl tx hk3 q) rfl)) fun _ => a_not (a_tr (v := .bl tt) (fun Q q => ev_isi (x := .ref a) rfl tx hk4 q) rfl)) (fun z => ?_) (fun _ => ?_)
    · rcases lx with ⟨_, _, h1⟩ | ⟨_, _, h1, h2⟩
      · rw [h1] at z; cases z
      · rw [h1, h2] at z; cases z
    refine qwh (b := false) (a_test fun Q q => ⟨_, rfl, _, _, rfl, hll.1, _, rfl, _, _, rfl, hll.2, .inl ⟨rfl, ?_⟩⟩) (fun z => by cases z) (fun _ => ?_)
    · rw [hlen, decide_eq_true rfl]
      exact q
    refine ⟨_, rfl, _, _, rfl, hll.2, _, rfl, by omega, by omega, for_it walk_range (fun i σ' H' => H' = H ∧ ∃ u, σ' = [some (.ref a), some (.ref b), u]) ⟨rfl, none, rfl⟩ (fun _ _ _ _ _ => True.intro) ?_ ?_⟩
    · rintro i x σ' H' H'' hi ⟨rfl, u, rfl⟩ ⟨rfl, rfl⟩
      have hi1 : i < ys.length := by omega
      have hi2 : i < xs.length := by omega
      have hx : xs[i]? = some xs[i] := List.getElem?_eq_getElem hi2
      obtain ⟨y1, hy1, hs1⟩ := pr_get hp hx
      walk_at "st"
      refine swh (b := !true) (a_not (a_tr (v := .bl true) (fun Q q => ?_) rfl)) (fun z => by cases z) (fun _ => ⟨rfl, _, rfl⟩)
      have q2 : sp [xs[i], y1] H'' Q (WE (fun c d x H => E c d H) [some (.ref a), some (.ref b), some (.int (0 + (i : Nat)))]) := hrec m H'' _ _ _ _ rfl hs1 q
      have ax : atI xs (0 + ((i : Nat) : Int)) = some xs[i] := by
        rw [Int.zero_add]
        exact atI_nat hx
      have ay : atI ys (0 + ((i : Nat) : Int)) = some y1 := by
        rw [Int.zero_add]
        exact atI_nat hy1
      rcases lx with ⟨p, q', _⟩ | ⟨p, q', _⟩
      · exact ⟨_, rfl, _, rfl, .inl ⟨_, _, _, _, rfl, rfl, p, ax, _, rfl, _, rfl, .inl ⟨_, _, _, _, rfl, rfl, q', ay, q2⟩⟩⟩
      · exact ⟨_, rfl, _, rfl, .inr (.inl ⟨_, _, _, _, rfl, rfl, p, ax, _, rfl, _, rfl, .inr (.inl ⟨_, _, _, _, rfl, rfl, q', ay, q2⟩)⟩)⟩
    · rintro σ' H' ⟨rfl, u, rfl⟩
      exact hq)
theorem w_law_same (T : Wx P K mg) : ∀ n, FnR P w K mg base (L2N.CX P w) (n + 3) (He.ga K "_law_same") (spSame n)
  | 0 => law_same_step T 0 (fun _ _ _ _ => False) (fun A outer s H us vs Q E hr e0 r hs => hs.elim) (fun m _ _ _ _ _ e => by cases e)
  | n + 1 => law_same_step T (n + 1) (spSame n) (w_law_same T n) (fun m H x y Q E e h q => by
    cases e
    exact ⟨x, y, rfl, h, q⟩)
end
section
variable {X : Cx} {W : WX} {k : Nat} {e : Expr} {es : List Expr} {ta : TA} {p pos : Pos}
/-- same data, at most six deep -/
theorem c_law_same {K : PySem.W.Frag} (B : Bx X W k) (ha : PA X (e :: es) ta) (hK : X.K = K := by rfl) (hl : 9 ≤ k := by decide) (hg : Gl X "_law_same" := by rfl) (hst : starEach (e :: es) X.env = (false, eval e X.env) :: starEach es X.env := by rfl) (hpl : (backTo pos (starEach es X.env)).any (·.1) = false := by rfl) : PE X (.Call (.Name "_law_same" p) (e :: es) [] pos) (tFn (spSame 6) W ta) := by
  subst hK
  exact k_fun (w_law_same B.wx 6) (B.rm.mono hl) B.wx.toTx.d_law_same.kp B.wx.toTx.g_law_same B.hx ha hg (by decide) hst hpl
end
end Bm
set_option Elab.async false
set_option linter.all false
set_option maxRecDepth 10000
set_option maxHeartbeats 400000
set_option pp.deepTerms false
set_option pp.maxSteps 1500
set_option maxErrors 6
/-! Walks: the law's defs over a desk. -/
namespace Bm
open PySem PySem.Spec PyProof.Rows L2 Evl TL RZ
local macro_rules | `(tactic| walk_at "sz") => `(tactic| first | assumption | (refine sz_of ?_; omega) | (refine sz_lt ?_; omega))
local macro_rules | `(tactic| walk_at "ne") => `(tactic| first | assumption | (refine Ne.symm ?_; assumption) | exact ne_new (by assumption) (by walk_at "hp") | exact Ne.symm (ne_new (by assumption) (by walk_at "hp")))
local macro_rules | `(tactic| walk_at "hp") => `(tactic| first | assumption | exact upd_same | (refine (upd_ne (by walk_at "ne")).trans ?_; walk_at "hp") | (refine Ex.at_ (by assumption) ?_; walk_at "hp"))
local macro_rules | `(tactic| walk_at "sq") => `(tactic| first | assumption | (refine sq_of ?_; walk_at "hp") | (refine st_of ?_; walk_at "hp") | (refine ex_l (by assumption) ?_; walk_at "sq") | (refine ex_t (by assumption) ?_; walk_at "sq"))
local macro_rules | `(tactic| walk_at "sd") => `(tactic| first | exact (show (0 : Int) < _ from by omega) | exact (show (0 : Int) < _ ∧ _ < (1073741824 : Int) from ⟨by omega, by omega⟩) | exact (show CPow _ _ from ⟨by decide, by decide, by decide⟩) | exact (show CMul _ _ from .inl ⟨by omega, by omega⟩) | exact (show CMul _ _ from .inr ⟨by omega, by omega⟩))
local macro_rules | `(tactic| walk_at "g1") => `(tactic| first
  | refine ⟨_, rfl, ?_⟩
  | refine ⟨_, _, rfl, rfl, ?_⟩
  | refine .inl ⟨_, _, rfl, rfl, ?_⟩
  | refine .inl ⟨rfl, ?_⟩
  | refine .inl (.inl ⟨_, rfl, ?_⟩)
  | (refine ⟨_, _, rfl, ⟨?_, rfl⟩, ?_⟩; (walk_at "sz"))
  | refine ⟨(by walk_at "sd"), ?_⟩)
local macro_rules | `(tactic| walk_at "go") => `(tactic| repeat walk_at "g1")
local macro_rules | `(tactic| walk_at "st") => `(tactic| dsimp only [gName])
local macro_rules | `(tactic| walk_at "ln") => `(tactic| first | exact (show 0 < 1000 from by decide) | exact (show 1 < 1000 from by decide) | exact (show 2 < 1000 from by decide) | exact (show 3 < 1000 from by decide) | exact (show 4 < 1000 from by decide) | exact (show 5 < 1000 from by decide) | exact (show 6 < 1000 from by decide) | exact (show 7 < 1000 from by decide))
local macro_rules | `(tactic| walk_at "le") => `(tactic| first | exact (show 0 ≤ sizeLine from by decide) | exact (show 1 ≤ sizeLine from by decide) | exact (show 2 ≤ sizeLine from by decide) | exact (show 3 ≤ sizeLine from by decide) | exact (show 4 ≤ sizeLine from by decide) | exact (show 5 ≤ sizeLine from by decide) | exact (show 6 ≤ sizeLine from by decide) | exact (show 7 ≤ sizeLine from by decide) | exact (show 8 ≤ sizeLine from by decide))
local macro_rules | `(tactic| walk_at "nt") => `(tactic| first | exact nt_ins | exact nt_lst | exact nt_dK)
local macro_rules | `(tactic| walk_at "fr") => `(tactic| first | assumption | exact Fr.refl | exact Fr.ex (by assumption) | (refine Fr.put ?_ (by walk_at "hp") (by walk_at "nt") (by simp); walk_at "fr") | (refine Fr.new ?_ (by assumption); walk_at "fr"))
/-- a promise that lets nothing out holds in any frame -/
theorem FnR.any {P : Program} {w : World} {K : PySem.W.Frag} {mg : Str → Option Value} {base : Heap} {k : Nat} {f : Addr} {sp : Sp} (F : FnR P w K mg base (L2.CX P w) k f sp) (h : ∀ vs H Q E, sp vs H Q E → sp vs H Q (fun _ _ _ => False)) : FnR P w K mg base (L2N.CX P w) k f sp := fun A outer s H us vs Q E hr e0 r hs =>
  codeAny_mono (F A outer s H us vs Q (fun _ _ _ => False) hr e0 r (h _ _ _ _ hs)) fun x s' q => by
    cases x with
    | error e =>
      obtain ⟨a, B, H', cls, d, e1, fl, ok, ub, na, os, ag, z⟩ := q
      exact z.elim
    | ok fl => cases fl <;> exact q
def spDone (K : PySem.W.Frag) : Sp := fun vs H Q _ => ∃ (a : Addr) (c : Core) (un : List Str) (X : List Addr) (l : Str), vs = [.ref a, .str l] ∧ DeskAt K H a c un X ∧ CoreOk c ∧ c.done.length ≤ 80000 ∧ l.length ≤ 80000 ∧
  (c.step l = none → ∀ p H', Ex H H' → H' p = some (.tup [.str "refused", .non]) → Q (.ref p) H') ∧
  ∀ d, c.step l = some d → ∀ p v H' X', DeskAt K H' a d [] X' → Fr X H H' → Nw X X' H → H' p = some (.tup [.str "ok", v]) → Q (.ref p) H'
section
variable {P : Program} {w : World} {K : PySem.W.Frag} {mg : Str → Option Value} {base : Heap}
theorem sc_law_done : FnScope ["_law_desk", "_law_line_here"] ["_law_desk", "_law_line_here"] xlaw_done.scope := ⟨rfl, rfl, rfl, by decide +kernel, rfl, by decide +kernel, by decide +kernel⟩
theorem w_law_done (T : Wx P K mg) : FnR P w K mg base (L2.CX P w) 11 (He.ga K "_law_done") (spDone K) :=
  mkRL 10 T T.toTx.d_law_done sc_law_done (by rintro vs H Q E ⟨_, _, _, _, _, rfl, _⟩; rfl) (fun _ _ _ _ _ _ us hl => match us, hl with | [_, _], _ => rfl) (fun cdv A outer s H vs Q E B tkL hsp => by
  obtain ⟨a, c, un, X, l, rfl, hD, ok, hz, hzl, hr, hq⟩ := hsp
  refine ⟨_, (pss_one (ps_tryO K rfl rfl (nm_MootError B) (L2H.passesAt_of rfl) tkL (fun W pn xe tk2 _ _ => (have B := Bx.tr B tk2; (pss_one (ps_ret (pe_tup (pa_cons pe_str (pa_cons (c_Desk_do (K := K) B (pv 0) (pa_cons (pv 1) pa_nil)) pa_nil))))))) (fun a oe cls d pn _ _ tkS hot => (pss_one (ps_ret (pe_tup (pa_cons pe_str (pa_cons pe_non pa_nil)))))))), ?_⟩
  obtain ⟨l0, w0, p0, o0, rw0, dn0, ud0, kvs0, Y0, eX, ⟨dx0, hi⟩, _⟩ := id hD
  refine ⟨_, rfl, a, _, _, rfl, hi, rfl, _, rfl, a, c, un, X, l, rfl, hD, ok, hz, hzl, fun hs C d H' mo e => ?_, fun d hs H' X' hD' f nw lf v => ?_⟩
  · refine ⟨true, mo, fun _ x na => ⟨by walk_at "le", fun p hp => hr hs p _ (e.trans (Ex.new hp)) upd_same⟩, fun z => by cases z⟩
  · exact ⟨by walk_at "le", fun p hp => hq d hs p v _ X' (hD'.ex (Ex.new hp)) (f.same (Fr.ex (Ex.new hp))) nw upd_same⟩)
end
section
variable {X : Cx} {W : WX} {k : Nat} {e o : Expr} {es : List Expr} {ta : TA} {to : TE} {p pos apos : Pos} {pl : Sem Bool}
theorem c_Desk_undo {K : PySem.W.Frag} (B : Bx X W k) (ho : PE X o to) (hK : X.K = K := by rfl) (hl : 6 ≤ k := by decide)
    (ht : eval (.Call (.Attribute o "undo" apos) [] [] pos) X.env = (do
      let ov ← eval o X.env
      standAt apos.atName
      let (f, first) ← holding [ov] (getMethod ov "undo" pl)
      callWith pos f first (backTo pos (starEach [] X.env)) (backToKw pos (keywordEach [] X.env))) := by rfl) : PE X (.Call (.Attribute o "undo" apos) [] [] pos) (tMth (He.ga K "Desk") "undo" (spUndo K) W to tNil) := by
  subst hK
  exact k_mth0 B.wx.toTx.c_Desk B.wx.toTx.m_Desk_undo (w_Desk_undo B.wx) (B.rm.mono hl) B.hx ho ht
theorem c_Desk_redo {K : PySem.W.Frag} (B : Bx X W k) (ho : PE X o to) (hK : X.K = K := by rfl) (hl : 10 ≤ k := by decide)
    (ht : eval (.Call (.Attribute o "redo" apos) [] [] pos) X.env = (do
      let ov ← eval o X.env
      standAt apos.atName
      let (f, first) ← holding [ov] (getMethod ov "redo" pl)
      callWith pos f first (backTo pos (starEach [] X.env)) (backToKw pos (keywordEach [] X.env))) := by rfl) : PE X (.Call (.Attribute o "redo" apos) [] [] pos) (tMth (He.ga K "Desk") "redo" (spRedo K) W to tNil) := by
  subst hK
  exact k_mth0 B.wx.toTx.c_Desk B.wx.toTx.m_Desk_redo (w_Desk_redo B.wx) (B.rm.mono hl) B.hx ho ht
theorem c_law_done {K : PySem.W.Frag} (B : Bx X W k) (ha : PA X (e :: es) ta) (hK : X.K = K := by rfl) (hl : 11 ≤ k := by decide) (hg : Gl X "_law_done" := by rfl) (hst : starEach (e :: es) X.env = (false, eval e X.env) :: starEach es X.env := by rfl) (hpl : (backTo pos (starEach es X.env)).any (·.1) = false := by rfl) : PE X (.Call (.Name "_law_done" p) (e :: es) [] pos) (tFn (spDone K) W ta) := by
  subst hK
  exact k_fun (FnR.any (w_law_done B.wx) (fun _ _ _ _ h => h)) (B.rm.mono hl) B.wx.toTx.d_law_done.kp B.wx.toTx.g_law_done B.hx ha hg (by decide) hst hpl
theorem nm_NothingToUndo (B : Bx X W k) (hg : Gl X "NothingToUndo" := by rfl) : Names X "NothingToUndo" (.ref (He.ga X.K "NothingToUndo")) := ⟨hg, by decide, .inl B.wx.toTx.g_NothingToUndo⟩
theorem nm_NothingToRedo (B : Bx X W k) (hg : Gl X "NothingToRedo" := by rfl) : Names X "NothingToRedo" (.ref (He.ga X.K "NothingToRedo")) := ⟨hg, by decide, .inl B.wx.toTx.g_NothingToRedo⟩
end
/-- a step back (or forth): the line and the desk behind it -/
def Moves (back : Bool) (c : Core) (un : List Str) : Option (Str × Core × List Str) → Prop
  | none => if back = true then c.done = [] else un = []
  | some (l, d, un') => l.length ≤ 80000 ∧ if back = true then (∃ ls, c.done = ls ++ [l]) ∧ d.step l = some c ∧ CoreOk d ∧ un' = un ++ [l] else un = un' ++ [l] ∧ c.step l = some d
def spMoved (K : PySem.W.Frag) : Sp := fun vs H Q _ => ∃ (a : Addr) (back : Bool) (c : Core) (un : List Str) (X : List Addr) (res : Option (Str × Core × List Str)), vs = [.ref a, .bl back] ∧ DeskAt K H a c un X ∧ CoreOk c ∧ c.done.length ≤ 80000 ∧ un.length ≤ 80000 ∧ Moves back c un res ∧
  (res = none → ∀ p H', Ex H H' → H' p = some (.tup [.str (if back = true then "NothingToUndo" else "NothingToRedo"), .non]) → Q (.ref p) H') ∧
  ∀ l d un', res = some (l, d, un') → ∀ p H' X', DeskAt K H' a d un' X' → Fr X H H' → Nw X X' H → H' p = some (.tup [.str "ok", .str l]) → Q (.ref p) H'
section
variable {P : Program} {w : World} {K : PySem.W.Frag} {mg : Str → Option Value} {base : Heap}
theorem sc_law_moved : FnScope ["_law_desk", "_law_back"] ["_law_desk", "_law_back"] xlaw_moved.scope := ⟨rfl, rfl, rfl, by decide +kernel, rfl, by decide +kernel, by decide +kernel⟩
theorem w_law_moved (T : Wx P K mg) : FnR P w K mg base (L2N.CX P w) 11 (He.ga K "_law_moved") (spMoved K) :=
  mkR 10 T T.toTx.d_law_moved sc_law_moved (by rintro vs H Q E ⟨_, _, _, _, _, _, rfl, _⟩; rfl) (fun _ _ _ _ _ _ us hl => match us, hl with | [_, _], _ => rfl) (fun cdv A outer s H vs Q E B hsp => by
  obtain ⟨a, back, c, un, X, res, rfl, hD, ok, hz, hzu, hmv, hr, hq⟩ := hsp
  refine ⟨_, (pss_one (L2N.ps_try_many rfl rfl B.tk (fun W pn xe tk2 _ => (have B := Bx.tr B tk2; (pss_cons (ps_if (pt_truthK K (pv 1) (fun _ => rfl)) (pss_one (ps_ret (pe_tup (pa_cons pe_str (pa_cons (c_Desk_undo (K := K) B (pv 0)) pa_nil))))) pss_nil)
    (pss_one (ps_ret (pe_tup (pa_cons pe_str (pa_cons (c_Desk_redo (K := K) B (pv 0)) pa_nil)))))))) (.cons (nm_NothingToUndo B) (fun a oe cls d pn _ _ => (pss_one (ps_ret (pe_tup (pa_cons pe_str (pa_cons pe_non pa_nil)))))) (.cons (nm_NothingToRedo B) (fun a oe cls d pn _ _ => (pss_one (ps_ret (pe_tup (pa_cons pe_str (pa_cons pe_non pa_nil)))))) .nil)))), ?_⟩
  obtain ⟨l0, w0, p0, o0, rw0, dn0, ud0, kvs0, Y0, eX, ⟨dx0, hi⟩, _⟩ := id hD
  cases back with
  | true =>
    refine qwh (b := true) (a_tr (v := .bl true) (fun Q q => ⟨_, rfl, q⟩) rfl) (fun _ => ?_) (fun z => by cases z)
    refine ⟨_, rfl, a, _, _, rfl, hi, rfl, a, c, un, X, rfl, hD, ok, hz, hzu, fun h0 H' e => ?_, fun h0 => ?_⟩
    · cases res with
      | some r =>
        obtain ⟨l, d, un'⟩ := r
        obtain ⟨_, ⟨ls, e2⟩, _⟩ := hmv
        rw [h0] at e2
        cases ls <;> cases e2
      | none =>
        exact ⟨true, T.toTx.e2_undo, fun _ x na => ⟨by walk_at "le", fun p hp => hr rfl p _ (e.trans (Ex.new hp)) upd_same⟩, fun z => by cases z⟩
    · cases res with
      | none => exact absurd hmv h0
      | some r =>
        obtain ⟨l, d, un'⟩ := r
        obtain ⟨hzl, ⟨ls, e2⟩, e3, e4, rfl⟩ := hmv
        exact ⟨ls, l, d, e2, e3, e4, hzl, fun H' X' hD' f nw => ⟨by walk_at "le", fun p hp => hq l d _ rfl p _ X' (hD'.ex (Ex.new hp)) (f.same (Fr.ex (Ex.new hp))) nw upd_same⟩⟩
  | false =>
    refine qwh (b := false) (a_tr (v := .bl false) (fun Q q => ⟨_, rfl, q⟩) rfl) (fun z => by cases z) (fun _ => ?_)
    refine ⟨_, rfl, a, _, _, rfl, hi, rfl, a, c, un, X, rfl, hD, ok, hz, hzu, fun h0 H' e => ?_, fun h0 => ?_⟩
    · cases res with
      | some r =>
        obtain ⟨l, d, un'⟩ := r
        obtain ⟨_, e2, _⟩ := hmv
        rw [h0] at e2
        cases un' <;> cases e2
      | none =>
        refine ⟨false, T.toTx.e2_redoU, (fun z => by cases z), fun _ => ?_⟩
        exact ⟨true, T.toTx.e2_redo, fun _ x na => ⟨by walk_at "le", fun p hp => hr rfl p _ (e.trans (Ex.new hp)) upd_same⟩, fun z => by cases z⟩
    · cases res with
      | none => exact absurd hmv h0
      | some r =>
        obtain ⟨l, d, un'⟩ := r
        obtain ⟨hzl, e2, e3⟩ := hmv
        exact ⟨un', l, d, e2, e3, hzl, fun H' X' hD' f nw => ⟨by walk_at "le", fun p hp => hq l d _ rfl p _ X' (hD'.ex (Ex.new hp)) (f.same (Fr.ex (Ex.new hp))) nw upd_same⟩⟩)
end
end Bm
set_option Elab.async false
set_option linter.all false
set_option maxRecDepth 10000
set_option maxHeartbeats 400000
set_option pp.deepTerms false
set_option pp.maxSteps 1500
set_option maxErrors 6
/-! Walks: what the law tells of a desk. -/
namespace Bm
open PySem PySem.Spec PyProof.Rows L2 Evl TL RZ
local macro_rules | `(tactic| walk_at "sz") => `(tactic| first | assumption | (refine sz_of ?_; omega) | (refine sz_lt ?_; omega))
local macro_rules | `(tactic| walk_at "ne") => `(tactic| first | assumption | (refine Ne.symm ?_; assumption) | exact ne_new (by assumption) (by walk_at "hp") | exact Ne.symm (ne_new (by assumption) (by walk_at "hp")))
local macro_rules | `(tactic| walk_at "hp") => `(tactic| first | assumption | exact upd_same | (refine (upd_ne (by walk_at "ne")).trans ?_; walk_at "hp") | (refine Ex.at_ (by assumption) ?_; walk_at "hp"))
local macro_rules | `(tactic| walk_at "sq") => `(tactic| first | assumption | (refine sq_of ?_; walk_at "hp") | (refine st_of ?_; walk_at "hp") | (refine ex_l (by assumption) ?_; walk_at "sq") | (refine ex_t (by assumption) ?_; walk_at "sq"))
local macro_rules | `(tactic| walk_at "sd") => `(tactic| first | exact (show (0 : Int) < _ from by omega) | exact (show (0 : Int) < _ ∧ _ < (1073741824 : Int) from ⟨by omega, by omega⟩) | exact (show CPow _ _ from ⟨by decide, by decide, by decide⟩) | exact (show CMul _ _ from .inl ⟨by omega, by omega⟩) | exact (show CMul _ _ from .inr ⟨by omega, by omega⟩))
local macro_rules | `(tactic| walk_at "g1") => `(tactic| first
  | refine ⟨_, rfl, ?_⟩
  | refine ⟨_, _, rfl, rfl, ?_⟩
  | refine .inl ⟨_, _, rfl, rfl, ?_⟩
  | refine .inl ⟨rfl, ?_⟩
  | refine .inl (.inl ⟨_, rfl, ?_⟩)
  | (refine ⟨_, _, rfl, ⟨?_, rfl⟩, ?_⟩; (walk_at "sz"))
  | refine ⟨(by walk_at "sd"), ?_⟩)
local macro_rules | `(tactic| walk_at "go") => `(tactic| repeat walk_at "g1")
local macro_rules | `(tactic| walk_at "st") => `(tactic| dsimp only [gName])
local macro_rules | `(tactic| walk_at "ln") => `(tactic| first | exact (show 0 < 1000 from by decide) | exact (show 1 < 1000 from by decide) | exact (show 2 < 1000 from by decide) | exact (show 3 < 1000 from by decide) | exact (show 4 < 1000 from by decide) | exact (show 5 < 1000 from by decide) | exact (show 6 < 1000 from by decide) | exact (show 7 < 1000 from by decide))
local macro_rules | `(tactic| walk_at "le") => `(tactic| first | exact (show 0 ≤ sizeLine from by decide) | exact (show 1 ≤ sizeLine from by decide) | exact (show 2 ≤ sizeLine from by decide) | exact (show 3 ≤ sizeLine from by decide) | exact (show 4 ≤ sizeLine from by decide) | exact (show 5 ≤ sizeLine from by decide) | exact (show 6 ≤ sizeLine from by decide) | exact (show 7 ≤ sizeLine from by decide) | exact (show 8 ≤ sizeLine from by decide))
local macro_rules | `(tactic| walk_at "nt") => `(tactic| first | exact nt_ins | exact nt_lst | exact nt_dK)
local macro_rules | `(tactic| walk_at "fr") => `(tactic| first | assumption | exact Fr.refl | exact Fr.ex (by assumption) | (refine Fr.put ?_ (by walk_at "hp") (by walk_at "nt") (by simp); walk_at "fr") | (refine Fr.new ?_ (by assumption); walk_at "fr"))
/-- plain data -/
inductive Dt where
  | sc (v : V)
  | seq (tp : Bool) (ds : List Dt)
def Hd : Nat → Hp → V → Dt → Prop
  | 0, _, x, d => d = .sc x ∧ Sc x
  | n + 1, H, x, d => (d = .sc x ∧ Sc x) ∨ ∃ a xs tp ds, x = .ref a ∧ d = .seq tp ds ∧ H a = some (if tp = true then .tup xs else .lst xs) ∧ xs.length ≤ 90000 ∧ Paired (Hd n H) xs ds
theorem Hd.ex : ∀ {n : Nat} {H H' : Hp} {x : V} {d : Dt}, Hd n H x d → Ex H H' → Hd n H' x d
  | 0, _, _, _, _, h, _ => h
  | n + 1, H, H', x, d, h, e => by
    rcases h with h | ⟨a, xs, tp, ds, rfl, rfl, h1, h2, h3⟩
    · exact .inl h
    · exact .inr ⟨a, xs, tp, ds, rfl, rfl, e _ _ h1, h2, Paired.mapP h3 fun _ _ q => Hd.ex q e⟩
theorem Hd.mono : ∀ {n : Nat} {H : Hp} {x : V} {d : Dt}, Hd n H x d → Hd (n + 1) H x d
  | 0, _, _, _, h => .inl h
  | n + 1, H, x, d, h => by
    rcases h with h | ⟨a, xs, tp, ds, rfl, rfl, h1, h2, h3⟩
    · exact .inl h
    · exact .inr ⟨a, xs, tp, ds, rfl, rfl, h1, h2, Paired.mapP h3 fun _ _ q => Hd.mono q⟩
theorem pr_both {α β : Type} {F : α → β → Prop} {G : α → α → Prop} (h : ∀ x y d, F x d → F y d → G x y) : ∀ {xs ys : List α} {ds : List β}, Paired F xs ds → Paired F ys ds → Paired G xs ys
  | _, _, _, .nil, .nil => .nil
  | _, _, _, .cons a r, .cons b q => .cons (h _ _ _ a b) (pr_both h r q)
theorem hd_same : ∀ {n : Nat} {H : Hp} {x y : V} {d : Dt}, Hd n H x d → Hd n H y d → Sm n H x y
  | 0, _, x, y, _, h, g => by
    obtain ⟨rfl, h2⟩ := h
    obtain ⟨e, _⟩ := g
    have e : x = y := by injection e
    exact ⟨e, h2⟩
  | n + 1, H, x, y, d, h, g => by
    rcases h with ⟨rfl, h2⟩ | ⟨a, xs, tp, ds, rfl, rfl, h1, h2, h3⟩
    · rcases g with ⟨e, _⟩ | ⟨_, _, _, _, _, e, _⟩
      · have e : x = y := by injection e
        exact .inl ⟨e, h2⟩
      · cases e
    · rcases g with ⟨e, _⟩ | ⟨b, ys, tp', ds', rfl, e, g1, g2, g3⟩
      · cases e
      · injection e with e1 e2
        subst e1 e2
        refine .inr ⟨a, b, xs, ys, rfl, rfl, ?_, h2, pr_both (F := Hd n H) (G := Sm n H) (fun _ _ _ p q => hd_same p q) h3 g3⟩
        cases tp with
        | true => exact .inr ⟨h1, g1⟩
        | false => exact .inl ⟨h1, g1⟩
/-! ### what is told -/
def dI (i : Int) : Dt := .sc (.int i)
def dS (s : Str) : Dt := .sc (.str s)
def dEnt : Ent → Dt
  | .paid n b m p => .seq true [dS n, dI b, dS m, dI p]
  | .inn a => dI a
def dRow (c : Core) (q : Str × RowD) : Dt := .seq true [dS q.1, .seq false (q.2.stand.map dI), .seq false (q.2.taken.map dI), .seq false (q.2.kinds.map dI), .seq false (q.2.meets.map fun m => .seq true [dI m.1, dI m.2]),
  .seq false [dI (cntM q.2.marks "quiet"), dI (cntM q.2.marks "odd"), dI (cntM q.2.marks "edge"), dI (cntM q.2.marks "strife")], dI (spentOf c.writ q.1)]
def dTold (c : Core) : Dt := .seq false [dI c.coins, .seq false (c.rows.map fun q => dS q.1), .seq false (c.done.map dS), .seq false ((c.writ.filter isPaid).map dEnt), .seq false (c.rows.map (dRow c))]
def dBrief (c : Core) : Dt := .seq false [dI c.coins, .seq false (c.rows.map fun q => dS q.1), .seq false (c.done.map dS), .seq false (c.rows.map fun q => .seq false (q.2.stand.map dI))]
/-- a heap without one address -/
def rmv (H : Hp) (L : Addr) : Hp := fun b => if b = L then none else H b
theorem rmv_at {H : Hp} {L b : Addr} {o : HO} (h : H b = some o) (n : b ≠ L) : rmv H L b = some o := by
  unfold rmv
  rw [if_neg n]
  exact h
theorem rmv_ex {H : Hp} {L : Addr} : Ex (rmv H L) H := fun b o h => by
  unfold rmv at h
  split at h
  · cases h
  · exact h
theorem rmv_upd {H : Hp} {L : Addr} {o : HO} : Ex (rmv H L) (upd H L o) := fun b u h => by
  unfold rmv at h
  split at h
  · cases h
  · rename_i n
    rw [upd_ne n]
    exact h
theorem rmv_self {H : Hp} {L : Addr} : rmv H L L = none := if_pos rfl
theorem rmv_up {G H : Hp} {L : Addr} (e : Ex G H) (h : G L = none) : Ex G (rmv H L) := fun b o hb => rmv_at (e b o hb) (fun z => by rw [z, h] at hb; cases hb)
def spTold (K : PySem.W.Frag) (f : Core → Dt) : Sp := fun vs H Q _ => ∃ (a : Addr) (c : Core) (un : List Str) (X : List Addr), vs = [.ref a] ∧ DeskAt K H a c un X ∧ CoreOk c ∧ c.done.length ≤ 80000 ∧ ∀ p H', Ex H H' → Hd 5 H' (.ref p) (f c) → Q (.ref p) H'
theorem rowOf_nth : ∀ {l : List (Str × RowD)} {i : Nat} {n : Str} {R : RowD}, (l.map (·.1)).Nodup → l[i]? = some (n, R) → rowOf l n = some R
  | p :: r, 0, n, R, _, h => by
    simp at h
    subst h
    unfold rowOf
    rw [if_pos rfl]
  | p :: r, i + 1, n, R, nd, h => by
    have h2 : r[i]? = some (n, R) := by simpa using h
    rw [List.map_cons, List.nodup_cons] at nd
    unfold rowOf
    rw [if_neg ?_]
    · exact rowOf_nth nd.2 h2
    · intro e
      refine nd.1 ?_
      rw [e]
      exact List.mem_map_of_mem (f := (·.1)) (List.mem_of_getElem? h2)
section
variable {n : Nat} {H : Hp}
theorem hd_ints : ∀ {l : List Int}, Paired (Hd n H) (l.map V.int) (l.map dI)
  | [] => .nil
  | i :: r => .cons (by cases n with
    | zero => exact ⟨rfl, .inr (.inl ⟨i, rfl⟩)⟩
    | succ m => exact .inl ⟨rfl, .inr (.inl ⟨i, rfl⟩)⟩) hd_ints
theorem hd_int {i : Int} : Hd n H (.int i) (dI i) := by
  cases n with
  | zero => exact ⟨rfl, .inr (.inl ⟨i, rfl⟩)⟩
  | succ m => exact .inl ⟨rfl, .inr (.inl ⟨i, rfl⟩)⟩
theorem hd_str {z : Str} : Hd n H (.str z) (dS z) := by
  cases n with
  | zero => exact ⟨rfl, .inr (.inr ⟨z, rfl⟩)⟩
  | succ m => exact .inl ⟨rfl, .inr (.inr ⟨z, rfl⟩)⟩
theorem hd_strs : ∀ {l : List Str}, Paired (Hd n H) (l.map V.str) (l.map dS)
  | [] => .nil
  | i :: r => .cons hd_str hd_strs
theorem hd_lst {a : Addr} {xs : List V} {ds : List Dt} (h : H a = some (.lst xs)) (hz : xs.length ≤ 90000) (p : Paired (Hd n H) xs ds) : Hd (n + 1) H (.ref a) (.seq false ds) := .inr ⟨a, xs, false, ds, rfl, rfl, h, hz, p⟩
theorem hd_tup {a : Addr} {xs : List V} {ds : List Dt} (h : H a = some (.tup xs)) (hz : xs.length ≤ 90000) (p : Paired (Hd n H) xs ds) : Hd (n + 1) H (.ref a) (.seq true ds) := .inr ⟨a, xs, true, ds, rfl, rfl, h, hz, p⟩
theorem hd_meets {vs : List V} {ms : List (Int × Int)} (p : Paired (MeetV H) vs ms) : Paired (Hd (n + 1) H) vs (ms.map fun m => .seq true [dI m.1, dI m.2]) := by
  induction p with
  | nil => exact .nil
  | cons a r ih =>
    obtain ⟨t, rfl, h⟩ := a
    exact .cons (hd_tup h (show 2 ≤ 90000 from by decide) (.cons hd_int (.cons hd_int .nil))) ih
theorem hd_ents {vs : List V} {es : List Ent} (p : Paired (EntV H) vs es) : Paired (Hd (n + 1) H) vs (es.map dEnt) := by
  induction p with
  | nil => exact .nil
  | @cons v e _ _ a r ih =>
    refine .cons ?_ ih
    cases e with
    | paid m b k q =>
      obtain ⟨t, rfl, h⟩ := a
      exact hd_tup h (show 4 ≤ 90000 from by decide) (.cons hd_str (.cons hd_int (.cons hd_str (.cons hd_int .nil))))
    | inn x =>
      obtain rfl := a
      exact hd_int
end
section
variable {P : Program} {w : World} {K : PySem.W.Frag} {mg : Str → Option Value} {base : Heap}
theorem sc_law_told : FnScope ["_law_desk", "_law_rows", "_law_word", "_law_row", "_law_counts", "_law_kinds"] ["_law_desk"] xlaw_told.scope := ⟨rfl, rfl, rfl, by decide +kernel, rfl, by decide +kernel, by decide +kernel⟩
theorem w_law_told (T : Wx P K mg) : FnR P w K mg base (L2N.CX P w) 9 (He.ga K "_law_told") (spTold K dTold) :=
  mkR 8 T T.toTx.d_law_told sc_law_told (by rintro vs H Q E ⟨_, _, _, _, rfl, _⟩; rfl) (fun _ _ _ _ _ _ us hl => match us, hl with | [_], _ => rfl) (fun cdv A outer s H vs Q E B hsp => by
  obtain ⟨a, c, un, X, rfl, hD, ok, hz, hq⟩ := hsp
  refine ⟨_, (pss_cons (st_set (i := 1) sc_law_told.nd (pe_lst pa_nil))
    (pss_cons (ps_for (L2.passes_of rfl) B.calm (pi_list (c_Desk_names (K := K) B (pv 0))) (pg_name (i := 2) sc_law_told.nd rfl (by first | exact .inl rfl | exact .inr rfl)) (pss_cons (st_set (i := 3) sc_law_told.nd (c_Desk_row (K := K) B (pv 0) (pa_cons (pv 2) pa_nil)))
    (pss_cons (st_set (i := 4) sc_law_told.nd (pe_callTy call_list_of (by rfl) B.wx.toTx.f_list b_list (pa_cons (pe_fldK K (c_Row_tally (K := K) B (pv 3)) rfl) pa_nil)))
    (pss_cons (st_set (i := 5) sc_law_told.nd (pe_callTy call_list_of (by rfl) B.wx.toTx.f_list b_list (pa_cons (pe_fldK K (c_Row_grown (K := K) B (pv 3)) rfl) pa_nil)))
    (pss_one (ps_expr (pe_bmK K PySem.F.plainAttrs_list PySem.F.slot_list_append PySem.F.type_list_append mt_append (pv 1) (pa_cons (pe_tup (pa_cons (pv 2) (pa_cons (cp_standing B (pv 3)) (pa_cons (cp_taken B (pv 3)) (pa_cons (pv 5) (pa_cons (c_Row_meetings (K := K) B (pv 3)) (pa_cons (pv 4) (pa_cons (c_Desk_spent (K := K) B (pv 0) (pa_cons (pv 2) pa_nil)) pa_nil)))))))) pa_nil))))))))
    (pss_one (ps_ret (pe_lst (pa_cons (c_Desk_balance (K := K) B (pv 0)) (pa_cons (c_Desk_names (K := K) B (pv 0)) (pa_cons (c_Desk_deeds (K := K) B (pv 0)) (pa_cons (c_Desk_ledger (K := K) B (pv 0)) (pa_cons (pv 1) pa_nil)))))))))), ?_⟩
  obtain ⟨l0, w0, p0, o0, rw0, dn0, ud0, kvs0, Y0, eX, ⟨dx0, hi⟩, _⟩ := id hD
  refine ⟨by decide, fun L hL => ?_⟩
  walk_at "st"
  have e1 := Ex.new (o := .lst []) hL
  have hL1 : (upd H L (.lst [])) L = some (.lst []) := upd_same
  have LX := hD.out hL
  generalize upd H L (.lst []) = H1 at *
  have hD1 := hD.ex e1
  refine ⟨_, rfl, a, _, _, rfl, e1 _ _ hi, rfl, a, c, un, X, rfl, hD1, fun p H2 hp e2 hp2 => ⟨p, rfl, ⟨_, sq_of hp2⟩, ?_⟩⟩
  have nLp : L ≠ p := ne_of_none hL1 hp
  have hL2 := e2 _ _ hL1
  have hwl := ok.wl
  have r12 := ok.r12
  have hD2 := hD1.ex e2
  refine for_it walk_list (fun i σ' H' => Fr [L] H2 H' ∧ (∃ u v x y, σ' = [some (.ref a), some (.ref L), u, v, x, y]) ∧ ∃ vs G, H' L = some (.lst vs) ∧ vs.length = i ∧ Ex G H' ∧ G L = none ∧ Paired (Hd 3 G) vs ((c.rows.take i).map (dRow c))) ⟨Fr.refl, ⟨none, none, none, none, rfl⟩, [], fun _ => none, hL2, rfl, (fun b o h => by cases h), rfl, .nil⟩ (fun i σ' H' _ h => sq_of (h.1.1 _ _ hp2 (by simpa using Ne.symm nLp))) ?_ ?_
  · rintro i x σ' H' H'' hi2 ⟨f, ⟨u, v, z1, z2, rfl⟩, vs, G, hvs, hvl, hG, hGL, hpv⟩ ⟨rfl, hx⟩
    have hx : ((c.rows.map (·.1)).map V.str)[i]? = some x := hx
    have hi12 : i < c.rows.length := by
      rw [List.length_map, List.length_map] at hi2
      exact hi2
    rw [List.getElem?_map, List.getElem?_map] at hx
    obtain ⟨n, hn, rfl⟩ := Option.map_eq_some_iff.mp hx
    obtain ⟨⟨n', R⟩, hnR, rfl⟩ := Option.map_eq_some_iff.mp hn
    have hR := rowOf_nth ok.names hnR
    have okR : RowOk R c.done.length := ok.rows _ (List.mem_of_getElem? hnR)
    have hD3 : DeskAt K H'' a c un X := hD2.fr f (fun b hb => by
      simp only [List.mem_cons, List.not_mem_nil, or_false]
      exact fun z => LX (z ▸ hb))
    have hi3 := f.1 _ _ (e2 _ _ (e1 _ _ hi)) (by
      simp only [List.mem_cons, List.not_mem_nil, or_false]
      exact fun z => ne_of_none hi hL z)
    walk_at "st"
    refine ⟨_, rfl, a, _, _, rfl, hi3, rfl, _, rfl, a, c, un, X, n', R, rfl, hD3, ok, hR, fun r H4 X4 e4 hX4 => ?_⟩
    walk_at "st"
    obtain ⟨rk, rs, rt, rm, rg, rd, eZ, ⟨rdx, hir⟩, _⟩ := id hX4
    have lk24 := okR.k24
    have lS := okR.lenS
    have lT := okR.lenT
    have lG := okR.lenG
    refine ⟨_, rfl, r, _, _, rfl, hir, rfl, r, R, X4, _, rfl, hX4, okR, by omega, fun t H5 tdx tt ht e5 ht1 ht2 => ⟨t, _, _, _, _, rfl, ht1, T.toTx.c_Tally, T.toTx.n_Tally_counts, rfl, tt, _, rfl, .inr (st_of ht2), fun q5 hq5 => ?_⟩⟩
    have e5b := e5.trans (Ex.new (o := .lst [.int (cntM R.marks "quiet"), .int (cntM R.marks "odd"), .int (cntM R.marks "edge"), .int (cntM R.marks "strife")]) hq5)
    have hq51 : (upd H5 q5 (.lst [.int (cntM R.marks "quiet"), .int (cntM R.marks "odd"), .int (cntM R.marks "edge"), .int (cntM R.marks "strife")])) q5 = some (.lst [.int (cntM R.marks "quiet"), .int (cntM R.marks "odd"), .int (cntM R.marks "edge"), .int (cntM R.marks "strife")]) := upd_same
    walk_at "st"
    generalize upd H5 q5 (.lst [.int (cntM R.marks "quiet"), .int (cntM R.marks "odd"), .int (cntM R.marks "edge"), .int (cntM R.marks "strife")]) = H6 at *
    refine ⟨_, rfl, r, _, _, rfl, e5b _ _ hir, rfl, r, R, X4, _, rfl, hX4.ex e5b, okR, fun g H7 hg e7 hS => ?_⟩
    obtain ⟨sdx, sk, su, se, sv, hg1, hsk⟩ := hS
    refine ⟨g, _, _, _, _, rfl, hg1, T.toTx.c_Strand, T.toTx.n_Strand_kinds, rfl, sk, _, rfl, .inr (st_of hsk), fun q7 hq7 => ?_⟩
    have e7b := e7.trans (Ex.new (o := .lst (R.kinds.map V.int)) hq7)
    have hq71 : (upd H7 q7 (.lst (R.kinds.map V.int))) q7 = some (.lst (R.kinds.map V.int)) := upd_same
    walk_at "st"
    generalize upd H7 q7 (.lst (R.kinds.map V.int)) = H8 at *
    have e48 : Ex H4 H8 := e5b.trans e7b
    have e38 : Ex H'' H8 := e4.trans e48
    have hL8 := e38 _ _ hvs
    refine ⟨_, rfl, .inl ⟨rfl, _, sq_of hL8⟩, _, rfl, _, rfl, r, _, _, rfl, e48 _ _ hir, r, R, X4, rfl, hX4.ex e48, fun s1 H9 hs1 e9 hs11 => ?_⟩
    refine ⟨_, rfl, r, _, _, rfl, e9 _ _ (e48 _ _ hir), r, R, X4, rfl, (hX4.ex e48).ex e9, fun s2 H10 hs2 e10 hs22 => ?_⟩
    refine ⟨_, rfl, _, rfl, r, _, _, rfl, e10 _ _ (e9 _ _ (e48 _ _ hir)), rfl, r, R, X4, rfl, ((hX4.ex e48).ex e9).ex e10, fun s3 H11 ms hs3 e11 hs33 hms => ?_⟩
    have e311 : Ex H'' H11 := e38.trans (e9.trans (e10.trans e11))
    refine ⟨_, rfl, _, rfl, a, _, _, rfl, e311 _ _ hi3, rfl, _, rfl, a, c, un, X, n', rfl, hD3.ex e311, by omega, by rw [hR]; rfl, fun H12 e12 => ?_⟩
    refine ⟨by walk_at "le", fun t12 ht12 => ?_⟩
    have e13 := Ex.new (o := .tup [.str n', .ref s1, .ref s2, .ref q7, .ref s3, .ref q5, .int (spentOf c.writ n')]) ht12
    have e313 := (e311.trans e12).trans e13
    refine ⟨L, _, _, rfl, rfl, e313 _ _ hvs, sz_lt (by omega), ?_⟩
    have nL : ∀ {Hx : Hp} {b : Addr}, Ex H'' Hx → Hx b = none → b ≠ L := fun e h => ne_of_none' h (e _ _ hvs)
    have f13 : Fr [L] H'' (upd (upd H12 t12 (.tup [.str n', .ref s1, .ref s2, .ref q7, .ref s3, .ref q5, .int (spentOf c.writ n')])) L (.lst (vs ++ [.ref t12]))) := (Fr.ex e313).same (Fr.upd (e313 _ _ hvs) nt_lst (by simp))
    have n1 : s1 ≠ L := nL e38 hs1
    have n2 : s2 ≠ L := nL (e38.trans e9) hs2
    have n3 : s3 ≠ L := nL (e38.trans (e9.trans e10)) hs3
    have nt : t12 ≠ L := nL (e311.trans e12) ht12
    have n5 : q5 ≠ L := nL (e4.trans e5) hq5
    have n7 : q7 ≠ L := nL (e4.trans (e5b.trans e7)) hq7
    have e813 : Ex H8 (upd H12 t12 (.tup [.str n', .ref s1, .ref s2, .ref q7, .ref s3, .ref q5, .int (spentOf c.writ n')])) := e9.trans (e10.trans (e11.trans (e12.trans e13)))
    have ht13 : (upd H12 t12 (.tup [.str n', .ref s1, .ref s2, .ref q7, .ref s3, .ref q5, .int (spentOf c.writ n')])) t12 = some (.tup [.str n', .ref s1, .ref s2, .ref q7, .ref s3, .ref q5, .int (spentOf c.writ n')]) := upd_same
    have hL13 := e313 _ _ hvs
    generalize upd H12 t12 (.tup [.str n', .ref s1, .ref s2, .ref q7, .ref s3, .ref q5, .int (spentOf c.writ n')]) = H13 at *
    have hmz : ms.length = R.meets.length := Paired.length hms
    refine ⟨f.same f13, ⟨_, _, _, _, rfl⟩, vs ++ [.ref t12], rmv H13 L, upd_same, by rw [List.length_append, hvl]; rfl, rmv_upd, rmv_self, ?_⟩
    rw [take_snoc hnR, List.map_append]
    refine pr_app (Paired.mapP hpv fun _ _ q => Hd.ex q (rmv_up (hG.trans e313) hGL)) (pr_one ?_)
    refine hd_tup (rmv_at ht13 nt) (show 7 ≤ 90000 from by decide) (.cons hd_str (.cons (hd_lst (rmv_at (e10.trans (e11.trans (e12.trans e13)) _ _ hs11) n1) ?_ hd_ints) (.cons (hd_lst (rmv_at ((e11.trans (e12.trans e13)) _ _ hs22) n2) ?_ hd_ints) (.cons (hd_lst (rmv_at (e813 _ _ hq71) n7) ?_ hd_ints) (.cons (hd_lst (rmv_at ((e12.trans e13) _ _ hs33) n3) ?_ (hd_meets ?_)) (.cons (hd_lst (rmv_at ((e7b.trans e813) _ _ hq51) n5) (show 4 ≤ 90000 from by decide) (.cons hd_int (.cons hd_int (.cons hd_int (.cons hd_int .nil))))) (.cons hd_int .nil)))))))
    · rw [List.length_map]; omega
    · rw [List.length_map]; omega
    · rw [List.length_map]; omega
    · omega
    · refine Paired.mapP hms fun _ _ q => ?_
      obtain ⟨mt, e, h⟩ := q
      exact ⟨mt, e, rmv_at ((e12.trans e13) _ _ h) fun z => by
        rw [z] at h
        rw [(e311 _ _ hvs)] at h
        cases h⟩
  · rintro σ' H' ⟨f, ⟨u, v, z1, z2, rfl⟩, vs, G, hvs, hvl, hG, hGL, hpv⟩
    walk_at "st"
    have hD3 : DeskAt K H' a c un X := hD2.fr f (fun b hb => by
      simp only [List.mem_cons, List.not_mem_nil, or_false]
      exact fun z => LX (z ▸ hb))
    have hi3 := f.1 _ _ (e2 _ _ (e1 _ _ hi)) (by
      simp only [List.mem_cons, List.not_mem_nil, or_false]
      exact fun z => ne_of_none hi hL z)
    have hnl : ((c.rows.map (·.1)).map V.str).length = c.rows.length := by rw [List.length_map, List.length_map]
    rw [hnl, take_all] at hpv
    refine ⟨_, rfl, a, _, _, rfl, hi3, rfl, a, c, un, X, rfl, hD3, ?_⟩
    refine ⟨_, rfl, a, _, _, rfl, hi3, rfl, a, c, un, X, rfl, hD3, fun p4 H4 hp4 e4 hp44 => ?_⟩
    refine ⟨_, rfl, a, _, _, rfl, e4 _ _ hi3, rfl, a, c, un, X, rfl, hD3.ex e4, fun p5 H5 hp5 e5 hp55 => ?_⟩
    refine ⟨_, rfl, a, _, _, rfl, e5 _ _ (e4 _ _ hi3), rfl, a, c, un, X, rfl, (hD3.ex e4).ex e5, by omega, fun p6 H6 ps hp6 e6 hp66 hps => ?_⟩
    refine ⟨_, rfl, by walk_at "le", fun p7 hp7 => ?_⟩
    have e7 := Ex.new (o := .lst [.int c.coins, .ref p4, .ref p5, .ref p6, .ref L]) hp7
    have e37 := e4.trans (e5.trans (e6.trans e7))
    have eH : Ex H H' := fun b o hb => f.1 b o (e2 _ _ (e1 _ _ hb)) (by
      simp only [List.mem_cons, List.not_mem_nil, or_false]
      exact ne_of_none hb hL)
    have hzp : ps.length ≤ 80000 := by
      rw [Paired.length hps]
      exact Nat.le_trans (List.length_filter_le _ _) (by omega)
    refine hq p7 _ (eH.trans e37) (hd_lst upd_same (show 5 ≤ 90000 from by decide) (.cons hd_int (.cons (hd_lst ((e5.trans (e6.trans e7)) _ _ hp44) ?_ ?_) (.cons (hd_lst ((e6.trans e7) _ _ hp55) ?_ hd_strs) (.cons (hd_lst (e7 _ _ hp66) ?_ (hd_ents ?_)) (.cons (hd_lst (e37 _ _ hvs) ?_ ?_) .nil))))))
    · rw [hnl]; omega
    · have e := hd_strs (n := 3) (H := upd H6 p7 (.lst [.int c.coins, .ref p4, .ref p5, .ref p6, .ref L])) (l := c.rows.map (·.1))
      rw [List.map_map (g := dS)] at e
      exact e
    · rw [List.length_map]; omega
    · omega
    · exact Paired.mapP hps fun _ _ q => q.fr (X := []) (Fr.ex (e6.trans e7))
    · rw [hvl, hnl]; omega
    · exact Paired.mapP hpv fun _ _ q => Hd.ex q (hG.trans e37))
end
section
variable {X : Cx} {W : WX} {k : Nat} {e o : Expr} {es : List Expr} {ta : TA} {to : TE} {p pos apos : Pos} {pl : Sem Bool}
theorem c_law_told {K : PySem.W.Frag} (B : Bx X W k) (ha : PA X (e :: es) ta) (hK : X.K = K := by rfl) (hl : 9 ≤ k := by decide) (hg : Gl X "_law_told" := by rfl) (hst : starEach (e :: es) X.env = (false, eval e X.env) :: starEach es X.env := by rfl) (hpl : (backTo pos (starEach es X.env)).any (·.1) = false := by rfl) : PE X (.Call (.Name "_law_told" p) (e :: es) [] pos) (tFn (spTold K dTold) W ta) := by
  subst hK
  exact k_fun (w_law_told B.wx) (B.rm.mono hl) B.wx.toTx.d_law_told.kp B.wx.toTx.g_law_told B.hx ha hg (by decide) hst hpl
end
def spAlike (K : PySem.W.Frag) : Sp := fun vs H Q _ => ∃ (a b : Addr) (c d : Core) (un un' : List Str) (X Y : List Addr), vs = [.ref a, .ref b] ∧ DeskAt K H a c un X ∧ DeskAt K H b d un' Y ∧ CoreOk c ∧ CoreOk d ∧ c.done.length ≤ 80000 ∧ d.done.length ≤ 80000 ∧ dTold c = dTold d ∧ ∀ H', Ex H H' → Q (.bl true) H'
section
variable {P : Program} {w : World} {K : PySem.W.Frag} {mg : Str → Option Value} {base : Heap}
theorem sc_law_alike : FnScope ["_law_one", "_law_two"] ["_law_one", "_law_two"] xlaw_alike.scope := ⟨rfl, rfl, rfl, by decide +kernel, rfl, by decide +kernel, by decide +kernel⟩
theorem w_law_alike (T : Wx P K mg) : FnR P w K mg base (L2N.CX P w) 10 (He.ga K "_law_alike") (spAlike K) :=
  mkR 9 T T.toTx.d_law_alike sc_law_alike (by rintro vs H Q E ⟨_, _, _, _, _, _, _, _, rfl, _⟩; rfl) (fun _ _ _ _ _ _ us hl => match us, hl with | [_, _], _ => rfl) (fun cdv A outer s H vs Q E B hsp => by
  obtain ⟨a, b, c, d, un, un', X, Y, rfl, hD, hD', ok, ok', hz, hz', he, hq⟩ := hsp
  refine ⟨_, (pss_one (ps_ret (c_law_same (K := K) B (pa_cons (c_law_told (K := K) B (pa_cons (pv 0) pa_nil)) (pa_cons (c_law_told (K := K) B (pa_cons (pv 1) pa_nil)) pa_nil))))), ?_⟩
  refine ⟨_, rfl, a, c, un, X, rfl, hD, ok, hz, fun p H1 e1 h1 => ⟨_, rfl, b, d, un', Y, rfl, hD'.ex e1, ok', hz', fun p2 H2 e2 h2 => ⟨_, _, rfl, ?_, hq H2 (e1.trans e2)⟩⟩⟩
  rw [← he] at h2
  exact Sm.mono (hd_same (Hd.ex h1 e2) h2))
end
end Bm
set_option Elab.async false
set_option linter.all false
set_option maxRecDepth 10000
set_option maxHeartbeats 400000
set_option pp.deepTerms false
set_option pp.maxSteps 1500
set_option maxErrors 6
/-! Walks: brief, moves alike. -/
namespace Bm
open PySem PySem.Spec PyProof.Rows L2 Evl TL RZ
local macro_rules | `(tactic| walk_at "sz") => `(tactic| first | assumption | (refine sz_of ?_; omega) | (refine sz_lt ?_; omega))
local macro_rules | `(tactic| walk_at "ne") => `(tactic| first | assumption | (refine Ne.symm ?_; assumption) | exact ne_new (by assumption) (by walk_at "hp") | exact Ne.symm (ne_new (by assumption) (by walk_at "hp")))
local macro_rules | `(tactic| walk_at "hp") => `(tactic| first | assumption | exact upd_same | (refine (upd_ne (by walk_at "ne")).trans ?_; walk_at "hp") | (refine Ex.at_ (by assumption) ?_; walk_at "hp"))
local macro_rules | `(tactic| walk_at "sq") => `(tactic| first | assumption | (refine sq_of ?_; walk_at "hp") | (refine st_of ?_; walk_at "hp") | (refine ex_l (by assumption) ?_; walk_at "sq") | (refine ex_t (by assumption) ?_; walk_at "sq"))
local macro_rules | `(tactic| walk_at "sd") => `(tactic| first | exact (show (0 : Int) < _ from by omega) | exact (show (0 : Int) < _ ∧ _ < (1073741824 : Int) from ⟨by omega, by omega⟩) | exact (show CPow _ _ from ⟨by decide, by decide, by decide⟩) | exact (show CMul _ _ from .inl ⟨by omega, by omega⟩) | exact (show CMul _ _ from .inr ⟨by omega, by omega⟩))
local macro_rules | `(tactic| walk_at "g1") => `(tactic| first
  | refine ⟨_, rfl, ?_⟩
  | refine ⟨_, _, rfl, rfl, ?_⟩
  | refine .inl ⟨_, _, rfl, rfl, ?_⟩
  | refine .inl ⟨rfl, ?_⟩
  | refine .inl (.inl ⟨_, rfl, ?_⟩)
  | (refine ⟨_, _, rfl, ⟨?_, rfl⟩, ?_⟩; (walk_at "sz"))
  | refine ⟨(by walk_at "sd"), ?_⟩)
local macro_rules | `(tactic| walk_at "go") => `(tactic| repeat walk_at "g1")
local macro_rules | `(tactic| walk_at "st") => `(tactic| dsimp only [gName])
local macro_rules | `(tactic| walk_at "ln") => `(tactic| first | exact (show 0 < 1000 from by decide) | exact (show 1 < 1000 from by decide) | exact (show 2 < 1000 from by decide) | exact (show 3 < 1000 from by decide) | exact (show 4 < 1000 from by decide) | exact (show 5 < 1000 from by decide) | exact (show 6 < 1000 from by decide) | exact (show 7 < 1000 from by decide))
local macro_rules | `(tactic| walk_at "le") => `(tactic| first | exact (show 0 ≤ sizeLine from by decide) | exact (show 1 ≤ sizeLine from by decide) | exact (show 2 ≤ sizeLine from by decide) | exact (show 3 ≤ sizeLine from by decide) | exact (show 4 ≤ sizeLine from by decide) | exact (show 5 ≤ sizeLine from by decide) | exact (show 6 ≤ sizeLine from by decide) | exact (show 7 ≤ sizeLine from by decide) | exact (show 8 ≤ sizeLine from by decide))
local macro_rules | `(tactic| walk_at "nt") => `(tactic| first | exact nt_ins | exact nt_lst | exact nt_dK)
local macro_rules | `(tactic| walk_at "fr") => `(tactic| first | assumption | exact Fr.refl | exact Fr.ex (by assumption) | (refine Fr.put ?_ (by walk_at "hp") (by walk_at "nt") (by simp); walk_at "fr") | (refine Fr.new ?_ (by assumption); walk_at "fr"))
section
variable {X : Cx} {W : WX} {k : Nat} {e o : Expr} {es : List Expr} {ta : TA} {to : TE} {p pos apos : Pos} {pl : Sem Bool}
theorem c_law_alike {K : PySem.W.Frag} (B : Bx X W k) (ha : PA X (e :: es) ta) (hK : X.K = K := by rfl) (hl : 10 ≤ k := by decide) (hg : Gl X "_law_alike" := by rfl) (hst : starEach (e :: es) X.env = (false, eval e X.env) :: starEach es X.env := by rfl) (hpl : (backTo pos (starEach es X.env)).any (·.1) = false := by rfl) : PE X (.Call (.Name "_law_alike" p) (e :: es) [] pos) (tFn (spAlike K) W ta) := by
  subst hK
  exact k_fun (w_law_alike B.wx) (B.rm.mono hl) B.wx.toTx.d_law_alike.kp B.wx.toTx.g_law_alike B.hx ha hg (by decide) hst hpl
theorem c_law_moved {K : PySem.W.Frag} (B : Bx X W k) (ha : PA X (e :: es) ta) (hK : X.K = K := by rfl) (hl : 11 ≤ k := by decide) (hg : Gl X "_law_moved" := by rfl) (hst : starEach (e :: es) X.env = (false, eval e X.env) :: starEach es X.env := by rfl) (hpl : (backTo pos (starEach es X.env)).any (·.1) = false := by rfl) : PE X (.Call (.Name "_law_moved" p) (e :: es) [] pos) (tFn (spMoved K) W ta) := by
  subst hK
  exact k_fun (w_law_moved B.wx) (B.rm.mono hl) B.wx.toTx.d_law_moved.kp B.wx.toTx.g_law_moved B.hx ha hg (by decide) hst hpl
end
section
variable {P : Program} {w : World} {K : PySem.W.Frag} {mg : Str → Option Value} {base : Heap}
theorem sc_law_brief : FnScope ["_law_desk", "_law_word"] ["_law_desk"] xlaw_brief.scope := ⟨rfl, rfl, rfl, by decide +kernel, rfl, by decide +kernel, by decide +kernel⟩
theorem w_law_brief (T : Wx P K mg) : FnR P w K mg base (L2N.CX P w) 9 (He.ga K "_law_brief") (spTold K dBrief) :=
  mkR 8 T T.toTx.d_law_brief sc_law_brief (by rintro vs H Q E ⟨_, _, _, _, rfl, _⟩; rfl) (fun _ _ _ _ _ _ us hl => match us, hl with | [_], _ => rfl) (fun cdv A outer s H vs Q E B hsp => by
  obtain ⟨a, c, un, X, rfl, hD, ok, hz, hq⟩ := hsp
  refine ⟨_, (pss_one (ps_ret (pe_lst (pa_cons (c_Desk_balance (K := K) B (pv 0)) (pa_cons (c_Desk_names (K := K) B (pv 0)) (pa_cons (c_Desk_deeds (K := K) B (pv 0)) (pa_cons (pe_lcB (own := [("_law_word", 1)]) B sc_law_brief.nd (pi_list (c_Desk_names (K := K) B (pv 0))) (blkOk_by (N := ["_law_desk", "_law_word"]) (sc := xlaw_brief.scope) (by decide +kernel)) (fun _ _ _ _ _ => pg_name (i := 1) sc_law_brief.nd rfl (by first | exact .inl rfl | exact .inr rfl)) (fun _ _ _ _ _ B => pts_nil) (fun _ _ _ _ _ B => (cp_standing B (c_Desk_row (K := K) B (pv 0) (pa_cons (pv 1) pa_nil))))) pa_nil))))))), ?_⟩
  obtain ⟨l0, w0, p0, o0, rw0, dn0, ud0, kvs0, Y0, eX, ⟨dx0, hi⟩, _⟩ := id hD
  have r12 := ok.r12
  have hnl : ((c.rows.map (·.1)).map V.str).length = c.rows.length := by rw [List.length_map, List.length_map]
  refine ⟨_, rfl, a, _, _, rfl, hi, rfl, a, c, un, X, rfl, hD, ?_⟩
  refine ⟨_, rfl, a, _, _, rfl, hi, rfl, a, c, un, X, rfl, hD, fun p4 H4 hp4 e4 hp44 => ?_⟩
  refine ⟨_, rfl, a, _, _, rfl, e4 _ _ hi, rfl, a, c, un, X, rfl, hD.ex e4, fun p5 H5 hp5 e5 hp55 => ?_⟩
  refine ⟨_, rfl, a, _, _, rfl, e5 _ _ (e4 _ _ hi), rfl, a, c, un, X, rfl, (hD.ex e4).ex e5, fun p6 H6 hp6 e6 hp66 => ⟨p6, rfl, ⟨_, sq_of hp66⟩, fun D hDn => ?_⟩⟩
  have e46 := e4.trans (e5.trans e6)
  have hD6 := hD.ex e46
  refine lcXH walk_list _ yAt (by rw [hnl]; omega) hDn (fun H' e => ex_l e (sq_of hp66)) (fun _ _ => true) (fun i acc H' => ∃ G, Ex G H' ∧ G D = none ∧ H' D ≠ none ∧ Paired (Hd 3 G) acc ((c.rows.take i).map fun q => .seq false (q.2.stand.map dI))) ⟨fun _ => none, (fun b o h => by cases h), rfl, (by rw [upd_same]; exact fun z => by cases z), .nil⟩ (fun i acc H1 H2 f p => ?_) ?_ (fun i x acc H1 hi hx r e Q q => q H1 (Ex.refl H1)) (fun i x acc H1 hi2 hx r e hf Q q => ?_) (fun i x acc H1 hi hx r hf => by cases hf) (fun H7 ys e hD7 r hl2 => ?_)
  · obtain ⟨G, g1, g2, g4, g3⟩ := p
    exact ⟨G, fun b o h => f.1 b o (g1 b o h) (by
      simp only [List.mem_cons, List.not_mem_nil, or_false]
      exact fun z => by rw [z, g2] at h; cases h), g2, (fun z => g4 (f.3 _ z)), g3⟩
  · exact fun _ => rfl
  · have hx : ((c.rows.map (·.1)).map V.str)[i]? = some x := hx
    rw [List.getElem?_map, List.getElem?_map] at hx
    obtain ⟨n, hn, rfl⟩ := Option.map_eq_some_iff.mp hx
    obtain ⟨⟨n', R⟩, hnR, rfl⟩ := Option.map_eq_some_iff.mp hn
    have hR := rowOf_nth ok.names hnR
    have okR : RowOk R c.done.length := ok.rows _ (List.mem_of_getElem? hnR)
    have lS := okR.lenS
    have lk := okR.k24
    obtain ⟨G, g1, g2, g4, g3⟩ := r
    refine ⟨_, rfl, a, _, _, rfl, e _ _ (e46 _ _ hi), rfl, _, rfl, a, c, un, X, n', R, rfl, hD6.ex e, ok, hR, fun r H2 X2 e2 hX2 => ?_⟩
    obtain ⟨rk, rs, rt, rm, rg, rd, eZ, ⟨rdx, hir⟩, _⟩ := id hX2
    refine ⟨r, _, _, rfl, hir, r, R, X2, rfl, hX2, fun s1 H3 hs1 e3 hs11 => ?_⟩
    have hD2 : H2 D ≠ none := fun z => g4 (fresh_back e2 z)
    have n1 : s1 ≠ D := fun z => hD2 (by rw [← z]; exact hs1)
    refine q _ _ (e2.trans e3) ⟨rmv H3 D, rmv_ex, rmv_self, (fun z => hD2 (fresh_back e3 z)), ?_⟩
    rw [take_snoc hnR, List.map_append]
    refine pr_app (Paired.mapP g3 fun _ _ q => Hd.ex q (rmv_up (g1.trans (e2.trans e3)) g2)) (pr_one (hd_lst (rmv_at hs11 n1) ?_ hd_ints))
    rw [List.length_map]
    omega
  · obtain ⟨G, g1, g2, g4, g3⟩ := r
    rw [hnl, take_all] at g3
    refine ⟨by walk_at "le", fun p7 hp7 => ?_⟩
    have e7 := Ex.new (o := .lst [.int c.coins, .ref p4, .ref p5, .ref D]) hp7
    have e67 := e.trans e7
    refine hq p7 _ (e46.trans e67) (hd_lst upd_same (show 4 ≤ 90000 from by decide) (.cons hd_int (.cons (hd_lst ((e5.trans (e6.trans e67)) _ _ hp44) ?_ ?_) (.cons (hd_lst ((e6.trans e67) _ _ hp55) ?_ hd_strs) (.cons (hd_lst (e7 _ _ hD7) ?_ ?_) .nil)))))
    · rw [hnl]; omega
    · have e := hd_strs (n := 3) (H := upd H7 p7 (.lst [.int c.coins, .ref p4, .ref p5, .ref D])) (l := c.rows.map (·.1))
      rw [List.map_map (g := dS)] at e
      exact e
    · rw [List.length_map]; omega
    · rw [hnl] at hl2
      omega
    · exact Paired.mapP g3 fun _ _ q => Hd.ex q (g1.trans e7))
end
end Bm
set_option Elab.async false
set_option linter.all false
set_option maxRecDepth 100000
set_option maxHeartbeats 4000000
/-! try .. except A as n, further clauses behind it, where what is raised is an A; isinstance of an own error with a field. -/
namespace Bm
open PySem PySem.Spec PyProof.Rows L2 Evl TL
/-- what the first clause wishes: it is the one -/
def wAsT (K : PySem.W.Frag) (c : Value) (i : Nat) (ts : Addr → Value → Option Addr → TS) (D : Ends) : WX := fun cls d σ H =>
  PySem.W.exmOne K cls c = some true ∧ ∀ a, H a = none → ts a cls d { nx := fun σ' H' => D.nx (σ'.set i none) H', rt := D.rt, bk := fun σ' H' => D.bk (σ'.set i none) H', ct := fun σ' H' => D.ct (σ'.set i none) H' } (σ.set i (some (.ref a))) H
def tTryT (K : PySem.W.Frag) (c : Value) (i : Nat) (tb : WX → TS) (ts : Addr → Value → Option Addr → TS) : TS := fun D σ H => tb (wAsT K c i ts D) D σ H
section
variable {X : Cx}
/-- an own error that has come down in the frame of X: the suite's ground -/
theorem ground_of {pins : List (Addr × Obj)} {σ : L2.St} {H : Hp} {sI s' : Shared} {B h : Heap} {a : Addr} {cls : Value} {d : Option Addr} (hf : X.env.frame = some X.env.locals)
    (J : Inv X pins σ H sI) (nb : ∀ b o, sI.heap.get? b = some o → b ∉ frs X.stack → B.get? b = some o) (up : sI.heap.UpToSlots h) (fl : HandSPX.FlyingZ B (X.env :: X.outer) a (Zc cls d) h) (na : H a = none) (os : s'.os = sI.os) (ag : AllBare s'.gens) :
    ∃ oe, h.get? a = some oe ∧ Zc cls d oe ∧ (∃ vs, oe.data = .fields vs) ∧ Inv (X.suite a ((a, oe) :: (X.pn ++ pins))) [] σ H { s' with heap := h } := by
  obtain ⟨oe, vs, at_, zc, flds⟩ := fl.there
  have off : a ∉ frs (X.env :: X.outer) := fun m => by
    obtain ⟨_, other, there, not⟩ := fl.2.2.1.mem m
    cases at_.symm.trans there
    exact not vs flds
  have lan : Inv X pins σ H { s' with heap := h } := J.landed nb fl.1 up os ag
  refine ⟨oe, at_, zc, ⟨vs, flds⟩, lan.suite at_ flds na (fun z => off ?_) fun m => off ?_⟩
  · rw [z]
    exact List.mem_filterMap.mpr ⟨X.env, List.mem_cons_self, hf⟩
  · obtain ⟨e, inOuter, its⟩ := List.mem_filterMap.mp m
    exact List.mem_filterMap.mpr ⟨e, .tail _ inOuter, its⟩
variable {x n : Str} {c : Value} {i : Nat} {body suite : List Stmt} {b₀ : Stmt} {np pos pos' : Pos} {rest : List ExceptHandler} {tb : WX → TS} {ts : Addr → Value → Option Addr → TS}
/-- the class that the clause names, read in the suite's ground -/
theorem named_in {a : Addr} {oe : Obj} {pn : List (Addr × Obj)} {σ : L2.St} {H : Hp} {s : Shared} (hc : Names X x c) (S : Inv (X.suite a ((a, oe) :: pn)) [] σ H s) {Q E : Value → Shared → Prop} (q : Q c s) :
    wpAny (model X.prog X.w) (X.A.mark (some (.ref a))) (eval (.Name x np) X.env) Q E s :=
  match hc with
  | ⟨g, nd, .inl m⟩ => ld_glob (X := X.suite a ((a, oe) :: pn)) S g m q nd
  | ⟨g, nd, .inr ⟨m, bt, nn⟩⟩ => ld_blt (X := X.suite a ((a, oe) :: pn)) S g m bt q nn nd
theorem ps_try_asT (K : PySem.W.Frag) (hs : X.stack = X.env :: X.outer) (hf : X.env.frame = some X.env.locals) (hN : X.N.Nodup) (hi : X.N[i]? = some n) (hln : X.env.kindOf n = some .local) (hc : Names X x c)
    (hb : ∀ (W : WX) (pn : List (Addr × Obj)) (xe : Value → Shared → Prop), L2.Takes (X.tr pn xe) W → PassesOwn (model X.prog X.w) X.A X.env xe → PSs (X.tr pn xe) body (tb W))
    (hsu : ∀ (a : Addr) (oe : Obj) (cls : Value) (d : Option Addr) (pn : List (Addr × Obj)), Zc cls d oe → (∃ vs, oe.data = .fields vs) → PSs (X.suite a ((a, oe) :: pn)) (b₀ :: suite) (ts a cls d)) (hK : X.K = K := by rfl) :
    PS X (.Try body (.ExceptHandler (some (.Name x np)) (some n) (b₀ :: suite) pos' :: rest) [] [] pos) (tTryT K c i tb ts) := by
  subst hK
  refine ⟨fun pins s σ H D I h => wpAny_Try_except ?_⟩
  have ok := I.ok
  let M := model X.prog X.w
  let clauses := ExceptHandler.ExceptHandler (some (.Name x np)) (some n) (b₀ :: suite) pos' :: rest
  let caught : Value → Shared → Prop := fun e s₁ => wpAny M X.A (noteFrame e X.env) (fun _ s₂ => wpAny M X.A (setFlight e none) (fun _ s₃ => wpAny M X.A (handleBy e X.env clauses) (SP X pins D) X.xe s₃) X.xe s₂) X.xe s₁
  have takes : L2.Takes (X.tr (X.pn ++ pins) caught) (wAsT X.K c i ts D) := by
    rintro _ s1 ⟨a, B, sI, pins1, σ1, H1, cls, d, rfl, J1, nb, up, sky, na, os, ag, isA, wish⟩
    have J := J1.ofTry ok
    rw [show (X.tr (X.pn ++ pins) caught).stack = X.env :: X.outer from hs] at sky
    refine Sky.land Zc.steady (by rw [ok.frames, hs]) hf sky fun h1 fl1 up1 => ?_
    obtain ⟨o1, at1, z1, _, S1⟩ := ground_of hf J nb (up.trans up1) fl1 na os ag
    have looks : PySem.W.Looks M h1 (typeOf (.ref a)) cls := fun _ _ _ _ k q => wpAny_typeOf_ref (k _ _ at1) (by rw [z1.1]; exact q)
    refine wpAny_handleBy_cons (codeAny_handlers_test (named_in hc S1 ((PySem.W.exm_one (M := M) S1.kIn looks isA).here (codeAny_handlers_suite_as ?_)))) (fun z => by cases z)
    refine HandSPX.lands_againZ fl1 fun h2 fl2 up2 => ?_
    obtain ⟨o2, _, z2, f2, S2⟩ := ground_of hf J nb ((up.trans up1).trans up2) fl2 na os ag
    refine store_ok (X := X.suite a ((a, o2) :: (X.pn ++ pins))) S2 hN hi (.inl hln) (v := .ref a) rfl (fun s3 S3 => ?_) (.inr hln)
    refine wpAny_mono ((hsu a o2 cls d (X.pn ++ pins) z2 f2).run [] s3 _ H1 _ S3 (wish a na)) (fun f s4 e4 => ?_) fun _ _ z => z.elim
    have leave : ∀ {σ4 : L2.St} {H4 : Hp} (R : Shared → Prop), Inv (X.suite a ((a, o2) :: (X.pn ++ pins))) [] σ4 H4 s4 → (∀ s5, Inv X pins (σ4.set i none) H4 s5 → R s5) → wpAny M X.A (do bindName X.env n .none; unbindBehindTheSuite X.env n pos') (fun _ s5 => R s5) X.xe s4 :=
      fun R S4 k => gone_ok (S4.unsuite ok) hN hi hln k
    exact match f, e4 with
      | .next, ⟨_, _, S4, q4⟩ => leave _ S4 fun _ J5 => ⟨_, _, J5, q4⟩
      | .brk, ⟨_, _, S4, q4⟩ => leave _ S4 fun _ J5 => ⟨_, _, J5, q4⟩
      | .cont, ⟨_, _, S4, q4⟩ => leave _ S4 fun _ J5 => ⟨_, _, J5, q4⟩
      | .ret _, ⟨_, _, _, S4, r4, q4⟩ => leave _ S4 fun _ J5 => ⟨_, _, _, J5, r4, q4⟩
  refine wpAny_mono ((hb _ _ caught takes PassesOwn.looking).run [] s σ H D (I.toTry _) h) (fun f s1 e1 => ?_) fun _ _ z => z
  exact match f, e1 with
    | .next, ⟨_, _, J1, q1⟩ => wpAny_execs_nil ⟨_, _, J1.ofTry ok, q1⟩
    | .brk, ⟨_, _, J1, q1⟩ => ⟨_, _, J1.ofTry ok, q1⟩
    | .cont, ⟨_, _, J1, q1⟩ => ⟨_, _, J1.ofTry ok, q1⟩
    | .ret _, ⟨_, _, _, J1, r1, q1⟩ => ⟨_, _, _, J1.ofTry ok, r1, q1⟩
end
/-- isinstance(e, c), e an own error that holds fields -/
def rIsX (K : PySem.W.Frag) (D a : Addr) (cls : Value) (d : Option Addr) : List V → Hp → VK → Prop := fun xs H Q => ∃ (c : V) (cv : Value) (b : Bool) (dd : Addr) (fs : List (Str × V)), xs = [.ref a, c] ∧ (∀ u, RelV c u → u = cv) ∧ PySem.W.kitOne K (.ref D) cv = some b ∧ cls = .ref D ∧ d = some dd ∧ H dd = some (.xd fs) ∧ Q (.bl b) H
theorem call_isX (K : PySem.W.Frag) {X : Cx} {a D : Addr} {oe : Obj} {cls : Value} {d : Option Addr} {pn : List (Addr × Obj)} (C : ExcC X.K D) (hz : Zc cls d oe) (hf : ∃ vs, oe.data = .fields vs) (hK : X.K = K := by rfl) : CallR (X.suite a ((a, oe) :: pn)) (.builtin "isinstance") (rIsX K D a cls d) := by
  subst hK
  intro pins s σ H xs us Q I r h
  obtain ⟨c, cv, b, dd, fs, rfl, hcv, e, ec, ed, hd, q⟩ := h
  cases r with
  | cons rx rr =>
    cases rr with
    | cons rt rr =>
      cases rr
      cases rx
      have ec2 := hcv _ rt
      subst ec2
      subst ec ed
      obtain ⟨hget, _⟩ := I.pin (a, oe) (List.mem_append.mpr (.inl List.mem_cons_self))
      obtain ⟨vs, hv⟩ := hf
      have hx : ObjOk X.prog X.w H s.heap dd (.xd fs) := I.hok dd _ hd
      obtain ⟨mA, hns, hr⟩ := hx
      obtain ⟨od, ho, hl⟩ := lookIn_ns hns
      have J : PySem.W.InstAt s.heap a oe D (some od) := ⟨hget, hz.1, by unfold PySem.W.notCls; rw [hv] <;> rfl, by rw [hz.2]; exact ho⟩
      obtain ⟨cd, hcd, _⟩ := PySem.W.any_some C.hd
      have hcl : (PySem.W.clsIn X.K D).isSome = true := by rw [hcd]; rfl
      exact PySem.W.kia_one (PySem.W.kitx_exc (od := some od) hcl C.hg C.hk C.hs C.ha C.hn C.ht C.hm) I.kIn J e (fun z => nomatch z) fun tk => ⟨.bl b, H, I.kept (t' := tk) fun _ _ z => z, rfl, q⟩

/-! ### a list against [] -/
def rEqN (K : PySem.W.Frag) : R2 := fun x y H Q => ∃ a b xs, x = .ref a ∧ y = .ref b ∧ SqL K H a xs ∧ SqL K H b [] ∧ Q (.bl (decide (xs = []))) H
def rNeN (K : PySem.W.Frag) : R2 := fun x y H Q => ∃ a b xs, x = .ref a ∧ y = .ref b ∧ SqL K H a xs ∧ SqL K H b [] ∧ Q (.bl (!decide (xs = []))) H
theorem o_eqN (K : PySem.W.Frag) {X : Cx} (hu : X.A.units + 64 < cLine) (h : X.K = K := by rfl) : OpR X (compareOp .Eq) (rEqN K) := by
  subst h
  intro pins s σ H x y v u Q I rx ry h
  obtain ⟨a, b, xs, rfl, rfl, ha, hb, q⟩ := h
  cases rx
  cases ry
  obtain ⟨us, r1, p1, _⟩ := I.list ha
  obtain ⟨ws, r2, p2, _⟩ := I.list hb
  cases r2
  cases r1 with
  | nil =>
    refine SeqAt.RcAt.lists (e := fun _ => true) p1.isList p2.isList rfl (by omega) (fun j h1 h2 => absurd h1 (by simp)) X.prog X.w X.xe _ ?_
    exact ⟨.bl true, H, I, rfl, q⟩
  | cons r rr =>
    refine SeqAt.RcAt.lists_lengths p1.isList p2.isList (by simp) (by omega) X.prog X.w X.xe _ ?_
    exact ⟨.bl false, H, I, rfl, q⟩
theorem o_neN (K : PySem.W.Frag) {X : Cx} (hu : X.A.units + 64 < cLine) (h : X.K = K := by rfl) : OpR X (compareOp .NotEq) (rNeN K) := by
  subst h
  intro pins s σ H x y v u Q I rx ry h
  obtain ⟨a, b, xs, rfl, rfl, ha, hb, q⟩ := h
  cases rx
  cases ry
  obtain ⟨us, r1, p1, _⟩ := I.list ha
  obtain ⟨ws, r2, p2, _⟩ := I.list hb
  cases r2
  cases r1 with
  | nil =>
    refine SeqAt.RcNeAt.lists (e := fun _ => true) p1.isList p2.isList rfl (by omega) (fun j h1 h2 => absurd h1 (by simp)) X.prog X.w X.xe _ ?_
    exact ⟨.bl false, H, I, rfl, q⟩
  | cons r rr =>
    refine SeqAt.RcNeAt.lists_lengths p1.isList p2.isList (by simp) (by omega) X.prog X.w X.xe _ ?_
    exact ⟨.bl true, H, I, rfl, q⟩
/-! ### tests that lay objects -/
section
variable {t u : TT} {σ : L2.St} {H : Hp} {b c : Bool}
theorem ax_or (h1 : AnsX t σ H b) (h2 : b = false → ∀ H1, Ex H H1 → AnsX u σ H1 c) : AnsX (tOr t u) σ H (b || c) := by
  intro Q q
  refine h1 _ fun H1 e1 => ?_
  cases b with
  | true => exact q H1 e1
  | false => exact h2 rfl H1 e1 Q fun H2 e2 => q H2 (e1.trans e2)
theorem ax_and (h1 : AnsX t σ H b) (h2 : b = true → ∀ H1, Ex H H1 → AnsX u σ H1 c) : AnsX (tAnd t u) σ H (b && c) := by
  intro Q q
  refine h1 _ fun H1 e1 => ?_
  cases b with
  | true => exact h2 rfl H1 e1 Q fun H2 e2 => q H2 (e1.trans e2)
  | false => exact q H1 e1
theorem ax_not (h1 : AnsX t σ H b) : AnsX (tNot t) σ H (!b) := fun Q q => h1 _ q
end
end Bm
set_option Elab.async false
set_option linter.all false
set_option maxRecDepth 10000
set_option maxHeartbeats 400000
set_option pp.deepTerms false
set_option pp.maxSteps 1500
set_option maxErrors 6
/-! Walks: the law's numbers and first lines. -/
namespace Bm
open PySem PySem.Spec PyProof.Rows L2 Evl TL RZ
local macro_rules | `(tactic| walk_at "sz") => `(tactic| first | assumption | (refine sz_of ?_; omega) | (refine sz_lt ?_; omega))
local macro_rules | `(tactic| walk_at "ne") => `(tactic| first | assumption | (refine Ne.symm ?_; assumption) | exact ne_new (by assumption) (by walk_at "hp") | exact Ne.symm (ne_new (by assumption) (by walk_at "hp")))
local macro_rules | `(tactic| walk_at "hp") => `(tactic| first | assumption | exact upd_same | (refine (upd_ne (by walk_at "ne")).trans ?_; walk_at "hp") | (refine Ex.at_ (by assumption) ?_; walk_at "hp"))
local macro_rules | `(tactic| walk_at "sq") => `(tactic| first | assumption | (refine sq_of ?_; walk_at "hp") | (refine st_of ?_; walk_at "hp") | (refine ex_l (by assumption) ?_; walk_at "sq") | (refine ex_t (by assumption) ?_; walk_at "sq"))
local macro_rules | `(tactic| walk_at "sd") => `(tactic| first | exact (show (0 : Int) < _ from by omega) | exact (show (0 : Int) < _ ∧ _ < (1073741824 : Int) from ⟨by omega, by omega⟩) | exact (show CPow _ _ from ⟨by decide, by decide, by decide⟩) | exact (show CMul _ _ from .inl ⟨by omega, by omega⟩) | exact (show CMul _ _ from .inr ⟨by omega, by omega⟩))
local macro_rules | `(tactic| walk_at "g1") => `(tactic| first
  | refine ⟨_, rfl, ?_⟩
  | refine ⟨_, _, rfl, rfl, ?_⟩
  | refine .inl ⟨_, _, rfl, rfl, ?_⟩
  | refine .inl ⟨rfl, ?_⟩
  | refine .inl (.inl ⟨_, rfl, ?_⟩)
  | (refine ⟨_, _, rfl, ⟨?_, rfl⟩, ?_⟩; (walk_at "sz"))
  | refine ⟨(by walk_at "sd"), ?_⟩)
local macro_rules | `(tactic| walk_at "go") => `(tactic| repeat walk_at "g1")
local macro_rules | `(tactic| walk_at "st") => `(tactic| dsimp only [gName])
local macro_rules | `(tactic| walk_at "ln") => `(tactic| first | exact (show 0 < 1000 from by decide) | exact (show 1 < 1000 from by decide) | exact (show 2 < 1000 from by decide) | exact (show 3 < 1000 from by decide) | exact (show 4 < 1000 from by decide) | exact (show 5 < 1000 from by decide) | exact (show 6 < 1000 from by decide) | exact (show 7 < 1000 from by decide))
local macro_rules | `(tactic| walk_at "le") => `(tactic| first | exact (show 0 ≤ sizeLine from by decide) | exact (show 1 ≤ sizeLine from by decide) | exact (show 2 ≤ sizeLine from by decide) | exact (show 3 ≤ sizeLine from by decide) | exact (show 4 ≤ sizeLine from by decide) | exact (show 5 ≤ sizeLine from by decide) | exact (show 6 ≤ sizeLine from by decide) | exact (show 7 ≤ sizeLine from by decide) | exact (show 8 ≤ sizeLine from by decide))
local macro_rules | `(tactic| walk_at "nt") => `(tactic| first | exact nt_ins | exact nt_lst | exact nt_dK)
local macro_rules | `(tactic| walk_at "fr") => `(tactic| first | assumption | exact Fr.refl | exact Fr.ex (by assumption) | (refine Fr.put ?_ (by walk_at "hp") (by walk_at "nt") (by simp); walk_at "fr") | (refine Fr.new ?_ (by assumption); walk_at "fr"))
def lawNum (w : Str) (most : Int) : Option Int := (rdNum w 13).bind fun n => if n > most then none else some n
theorem lawNum_eq {w : Str} {most : Int} : lawNum w most = (rdNum w 13).bind fun n => if n > most then none else some n := rfl
def spNum : Sp := fun vs H Q _ => ∃ (z : Str) (m : Int), vs = [.str z, .int m] ∧ z.length ≤ 100000 ∧ ∀ H', Ex H H' → Q (numV (lawNum z m)) H'
section
variable {P : Program} {w : World} {K : PySem.W.Frag} {mg : Str → Option Value} {base : Heap}
theorem sc_law_number : FnScope ["_law_word", "_law_most", "_law_char"] ["_law_word", "_law_most"] xlaw_number.scope := ⟨rfl, rfl, rfl, by decide +kernel, rfl, by decide +kernel, by decide +kernel⟩
theorem w_law_number (T : Wx P K mg) : FnR P w K mg base (L2N.CX P w) 1 (He.ga K "_law_number") (spNum) :=
  mkR 0 T T.toTx.d_law_number sc_law_number (by rintro vs H Q E ⟨_, _, rfl, _⟩; rfl) (fun _ _ _ _ _ _ us hl => match us, hl with | [_, _], _ => rfl) (fun cdv A outer s H vs Q E B hsp => by
  obtain ⟨z, m, rfl, hz, hq⟩ := hsp
  refine ⟨_, (pss_cons (ps_if (PW.pt (pw_or (pt_cmpR (o_eqK K B.hu64) (pv 0) pe_str (nomark _)) (pw_or (pt_cmpR op_gt (pe_callB (call_lenK K) (by rfl) B.wx.toTx.f_len b_len (pa_cons (pv 0) pa_nil)) pe_int (nomark _)) (pw_or1 (pt_cmpR (o_neN K B.hu64) (pe_lcB (own := [("_law_char", 2)]) B sc_law_number.nd (pi_str (pv 0)) (blkOk_by (N := ["_law_word", "_law_most", "_law_char"]) (sc := xlaw_number.scope) (by decide +kernel)) (fun _ _ _ _ _ => pg_name (i := 2) sc_law_number.nd rfl (by first | exact .inl rfl | exact .inr rfl)) (fun _ _ _ _ _ B => (pts_one (pt_cmpR (o_niK K) (pv 2) pe_str (by with_unfolding_all rfl)))) (fun _ _ _ _ _ B => (pv 2))) (pe_lst pa_nil) (nomark _)))))) (pss_one (ps_ret pe_non)) pss_nil)
    (pss_cons (ps_if (PW.pt (pw_or (PW.pt (pw_and (pt_cmpR (o_eqK K B.hu64) (pe_ix (ix_seqK K) (pv 0) pe_int (fun _ _ => rfl)) pe_str (nomark _)) (pw_and1 (pt_cmpR op_gt (pe_callB (call_lenK K) (by rfl) B.wx.toTx.f_len b_len (pa_cons (pv 0) pa_nil)) pe_int (nomark _))))) (pw_or1 (pt_cmpR op_gt (pe_callTy call_int (by rfl) B.wx.toTx.f_int b_int (pa_cons (pv 0) pa_nil)) (pv 1) (nomark _))))) (pss_one (ps_ret pe_non)) pss_nil)
    (pss_one (ps_ret (pe_callTy call_int (by rfl) B.wx.toTx.f_int b_int (pa_cons (pv 0) pa_nil)))))), ?_⟩
  have hsz : z.length ≤ sizeLine := sz_of hz
  have hl := len_tl z
  unfold lawNum rdNum at hq
  refine qwhX (b := decide (z = ("" : Str)) || (decide (13 < (z.length : Int)) || !((tl z).all isDig))) (ax_or (Ans.x (a_test fun Q q => by walk_at "go"; rw [dcS]; exact q)) fun _ H1 e1 => ax_or (Ans.x (a_test fun Q q => by walk_at "go"; exact q)) fun h2 H2 e2 => ?_) (fun h H1 e => ?_) (fun h H1 e => ?_)
  · intro Q q
    have h13 : ¬ (13 < (z.length : Int)) := of_decide_eq_false h2
    refine ⟨_, rfl, z, rfl, fun D hD => ?_⟩
    refine lcX walk_str _ yStr (show z.length < 100000 from by omega) hD (fun _ _ => True.intro) (fun i _ => !isDig ((tl z).getD i 0)) (fun i acc => decide (acc = []) = ((tl z).take i).all isDig) (by simp) ?_ (fun i x acc H1 hi hx r e Q q => ?_) (fun i x acc H1 hi hx r e hf Q q => ?_) (fun i x acc hi hx r hf => ?_) (fun H2 ys e hD2 r hl2 => ?_)
    · exact fun _ => rfl
    · obtain ⟨c, hc, rfl⟩ := hx
      have hc' : (tl z)[i]? = some c := by rw [← hc, ← Array.getElem?_toList]
      have hc2 : (tl z).getD i 0 = c := by rw [List.getD_eq_getElem?_getD, hc']; rfl
      rw [hc2] at q
      exact ⟨_, rfl, .inr ⟨c, _, rfl, rfl, _, rfl, q H1 (Ex.refl H1)⟩⟩
    · obtain ⟨c, hc, rfl⟩ := hx
      have hc' : (tl z)[i]? = some c := by rw [← hc, ← Array.getElem?_toList]
      have hc2 : (tl z).getD i 0 = c := by rw [List.getD_eq_getElem?_getD, hc']; rfl
      rw [hc2] at hf
      refine ⟨_, rfl, q _ _ (Ex.refl H1) ?_⟩
      rw [take_snoc hc', List.all_append]
      have : isDig c = false := by simpa using hf
      simp [this]
    · obtain ⟨c, hc, rfl⟩ := hx
      have hc' : (tl z)[i]? = some c := by rw [← hc, ← Array.getElem?_toList]
      have hc2 : (tl z).getD i 0 = c := by rw [List.getD_eq_getElem?_getD, hc']; rfl
      rw [hc2] at hf
      have : isDig c = true := by simpa using hf
      rw [take_snoc hc', List.all_append, ← r]
      simp [this]
    · have e1 : (tl z).take z.cps.size = tl z := List.take_of_length_le (by simp)
      rw [e1] at r
      refine ⟨by walk_at "le", fun p hp => ⟨D, p, ys, rfl, rfl, sq_of ((Ex.new hp) _ _ hD2), sq_of upd_same, _, rfl, ?_⟩⟩
      rw [r]
      exact q _ (e.trans (Ex.new hp))
  · have h1 : z = ("" : Str) ∨ (z.length : Int) > 13 ∨ (tl z).all isDig = false := by
      simpa only [Bool.or_eq_true, decide_eq_true_eq, Bool.not_eq_true'] using h
    have e0 : (if z = ("" : Str) ∨ (z.length : Int) > 13 then (none : Option Int) else if (tl z).all isDig = false then none else if (tl z).head? = some 48 ∧ (z.length : Int) > 1 then none else some (NumText.digitsVal (tl z) : Nat)) = none := by
      rcases h1 with h1 | h1 | h1
      · rw [if_pos (.inl h1)]
      · rw [if_pos (.inr h1)]
      · rw [if_pos h1]
        split <;> rfl
    rw [e0] at hq
    exact hq H1 e
  · have h1 : ¬ z = ("" : Str) ∧ ¬ (z.length : Int) > 13 ∧ (tl z).all isDig = true := by
      have h3 : (decide (z = ("" : Str)) = false) ∧ decide (13 < (z.length : Int)) = false ∧ (!((tl z).all isDig)) = false := by
        simpa only [Bool.or_eq_false_iff] using h
      exact ⟨of_decide_eq_false h3.1, of_decide_eq_false h3.2.1, by simpa using h3.2.2⟩
    obtain ⟨hne, h13, ha⟩ := h1
    rw [if_neg (fun y => y.elim hne h13), if_neg (by rw [ha]; exact Bool.noConfusion)] at hq
    obtain ⟨c, r, hz0⟩ : ∃ c r, tl z = c :: r := by
      cases e : tl z with
      | nil => exact absurd (ext_tl e) hne
      | cons c r => exact ⟨c, r, rfl⟩
    have hat : atI z.cps.toList 0 = some c := by
      show atI (tl z) 0 = some c
      rw [hz0]
      show atI (c :: r) ((0 : Nat) : Int) = some c
      exact atI_nat rfl
    have ht := intText_digits (x := z) (digs_of ha) (fun e => hne (ext_tl e)) (by omega)
    have hd48 : ((tl z).head? = some 48) ↔ c = 48 := by
      rw [hz0]
      exact ⟨fun y => Option.some.inj y, fun y => by rw [y]; rfl⟩
    refine qwh (b := (decide (c = 48) && decide (1 < (z.length : Int))) || decide (m < ((NumText.digitsVal (tl z) : Nat) : Int))) ?_ (fun h => ?_) (fun h => ?_)
    · refine a_or (a_and (a_test fun Q q => ?_) fun _ => a_test fun Q q => by walk_at "go"; exact q) fun _ => a_test fun Q q => ?_
      · refine ⟨_, rfl, .inr (.inr ⟨z, 0, c, rfl, rfl, hsz, hat, .inl ⟨rfl, ?_⟩⟩)⟩
        have e : decide (V.str ⟨#[c]⟩ = V.str "0") = decide (c = 48) := by
          rw [Bool.eq_iff_iff, decide_eq_true_eq, decide_eq_true_eq]
          constructor
          · intro h
            have h2 : (⟨#[c]⟩ : Str) = "0" := V.str.inj h
            have h3 : tl (⟨#[c]⟩ : Str) = tl ("0" : Str) := by rw [h2]
            exact (List.cons.inj (show [c] = [48] from h3)).1
          · rintro rfl
            rfl
        rw [e]
        exact q
      · exact ⟨_, rfl, .inr ⟨z, _, rfl, ht, by omega, _, rfl, _, _, rfl, rfl, q⟩⟩
    · have h3 : (c = 48 ∧ 1 < (z.length : Int)) ∨ m < ((NumText.digitsVal (tl z) : Nat) : Int) := by
        simpa only [Bool.or_eq_true, Bool.and_eq_true, decide_eq_true_eq] using h
      by_cases h4 : (tl z).head? = some 48 ∧ (z.length : Int) > 1
      · rw [if_pos h4] at hq
        exact hq H1 e
      · rw [if_neg h4] at hq
        have h5 : ((NumText.digitsVal (tl z) : Nat) : Int) > m := h3.elim (fun y => absurd ⟨hd48.mpr y.1, y.2⟩ h4) id
        have e0 : ((some ((NumText.digitsVal (tl z) : Nat) : Int)).bind fun n => if n > m then (none : Option Int) else some n) = none := if_pos h5
        rw [e0] at hq
        exact hq H1 e
    · have h3 : ¬ ((c = 48 ∧ 1 < (z.length : Int)) ∨ m < ((NumText.digitsVal (tl z) : Nat) : Int)) := by
        intro y
        have : ((decide (c = 48) && decide (1 < (z.length : Int))) || decide (m < ((NumText.digitsVal (tl z) : Nat) : Int))) = true := by
          simpa only [Bool.or_eq_true, Bool.and_eq_true, decide_eq_true_eq] using y
        rw [h] at this
        cases this
      have h4 : ¬ ((tl z).head? = some 48 ∧ (z.length : Int) > 1) := fun y => h3 (.inl ⟨hd48.mp y.1, y.2⟩)
      rw [if_neg h4] at hq
      have e0 : ((some ((NumText.digitsVal (tl z) : Nat) : Int)).bind fun n => if n > m then (none : Option Int) else some n) = some ((NumText.digitsVal (tl z) : Nat) : Int) := if_neg (fun y => h3 (.inr y))
      rw [e0] at hq
      exact ⟨_, rfl, .inr ⟨z, _, rfl, ht, by omega, hq H1 e⟩⟩)
end
section
variable {X : Cx} {W : WX} {k : Nat} {e o : Expr} {es : List Expr} {ta : TA} {to : TE} {p pos apos : Pos} {pl : Sem Bool}
theorem c_law_number {K : PySem.W.Frag} (B : Bx X W k) (ha : PA X (e :: es) ta) (hK : X.K = K := by rfl) (hl : 1 ≤ k := by decide) (hg : Gl X "_law_number" := by rfl) (hst : starEach (e :: es) X.env = (false, eval e X.env) :: starEach es X.env := by rfl) (hpl : (backTo pos (starEach es X.env)).any (·.1) = false := by rfl) : PE X (.Call (.Name "_law_number" p) (e :: es) [] pos) (tFn (spNum) W ta) := by
  subst hK
  exact k_fun (w_law_number B.wx) (B.rm.mono hl) B.wx.toTx.d_law_number.kp B.wx.toTx.g_law_number B.hx ha hg (by decide) hst hpl
end
end Bm
set_option Elab.async false
set_option linter.all false
set_option maxRecDepth 10000
set_option maxHeartbeats 400000
set_option pp.deepTerms false
set_option pp.maxSteps 1500
set_option maxErrors 6
/-! Walks: a desk opened by the law. -/
namespace Bm
open PySem PySem.Spec PyProof.Rows L2 Evl TL RZ
local macro_rules | `(tactic| walk_at "sz") => `(tactic| first | assumption | (refine sz_of ?_; omega) | (refine sz_lt ?_; omega))
local macro_rules | `(tactic| walk_at "ne") => `(tactic| first | assumption | (refine Ne.symm ?_; assumption) | exact ne_new (by assumption) (by walk_at "hp") | exact Ne.symm (ne_new (by assumption) (by walk_at "hp")))
local macro_rules | `(tactic| walk_at "hp") => `(tactic| first | assumption | exact upd_same | (refine (upd_ne (by walk_at "ne")).trans ?_; walk_at "hp") | (refine Ex.at_ (by assumption) ?_; walk_at "hp"))
local macro_rules | `(tactic| walk_at "sq") => `(tactic| first | assumption | (refine sq_of ?_; walk_at "hp") | (refine st_of ?_; walk_at "hp") | (refine ex_l (by assumption) ?_; walk_at "sq") | (refine ex_t (by assumption) ?_; walk_at "sq"))
local macro_rules | `(tactic| walk_at "sd") => `(tactic| first | exact (show (0 : Int) < _ from by omega) | exact (show (0 : Int) < _ ∧ _ < (1073741824 : Int) from ⟨by omega, by omega⟩) | exact (show CPow _ _ from ⟨by decide, by decide, by decide⟩) | exact (show CMul _ _ from .inl ⟨by omega, by omega⟩) | exact (show CMul _ _ from .inr ⟨by omega, by omega⟩))
local macro_rules | `(tactic| walk_at "g1") => `(tactic| first
  | refine ⟨_, rfl, ?_⟩
  | refine ⟨_, _, rfl, rfl, ?_⟩
  | refine .inl ⟨_, _, rfl, rfl, ?_⟩
  | refine .inl ⟨rfl, ?_⟩
  | refine .inl (.inl ⟨_, rfl, ?_⟩)
  | (refine ⟨_, _, rfl, ⟨?_, rfl⟩, ?_⟩; (walk_at "sz"))
  | refine ⟨(by walk_at "sd"), ?_⟩)
local macro_rules | `(tactic| walk_at "go") => `(tactic| repeat walk_at "g1")
local macro_rules | `(tactic| walk_at "st") => `(tactic| dsimp only [gName])
local macro_rules | `(tactic| walk_at "ln") => `(tactic| first | exact (show 0 < 1000 from by decide) | exact (show 1 < 1000 from by decide) | exact (show 2 < 1000 from by decide) | exact (show 3 < 1000 from by decide) | exact (show 4 < 1000 from by decide) | exact (show 5 < 1000 from by decide) | exact (show 6 < 1000 from by decide) | exact (show 7 < 1000 from by decide))
local macro_rules | `(tactic| walk_at "le") => `(tactic| first | exact (show 0 ≤ sizeLine from by decide) | exact (show 1 ≤ sizeLine from by decide) | exact (show 2 ≤ sizeLine from by decide) | exact (show 3 ≤ sizeLine from by decide) | exact (show 4 ≤ sizeLine from by decide) | exact (show 5 ≤ sizeLine from by decide) | exact (show 6 ≤ sizeLine from by decide) | exact (show 7 ≤ sizeLine from by decide) | exact (show 8 ≤ sizeLine from by decide))
local macro_rules | `(tactic| walk_at "nt") => `(tactic| first | exact nt_ins | exact nt_lst | exact nt_dK)
local macro_rules | `(tactic| walk_at "fr") => `(tactic| first | assumption | exact Fr.refl | exact Fr.ex (by assumption) | (refine Fr.put ?_ (by walk_at "hp") (by walk_at "nt") (by simp); walk_at "fr") | (refine Fr.new ?_ (by assumption); walk_at "fr"))
theorem lawNum_some {w : Str} {m n : Int} (h : lawNum w m = some n) : 0 ≤ n ∧ n ≤ m := by
  unfold lawNum at h
  cases e : rdNum w 13 with
  | none => rw [e] at h; cases h
  | some k =>
    rw [e] at h
    have h2 : (if k > m then (none : Option Int) else some k) = some n := h
    split at h2
    · cases h2
    · cases h2
      exact ⟨(rdNum_some e).1, by omega⟩
theorem six_none {o1 o2 o3 o4 o5 : Option Int} (h : (o1.isNone || !([o2, o3, o4, o5].all Option.isSome)) = true) : (o1.bind fun a => o2.bind fun b => o3.bind fun c => o4.bind fun d => o5.bind fun e => some ((a, b, c, d, e) : Cost)) = none := by
  cases o1 <;> cases o2 <;> cases o3 <;> cases o4 <;> cases o5 <;> first | rfl | cases h
theorem six_some {o1 o2 o3 o4 o5 : Option Int} (h : (o1.isNone || !([o2, o3, o4, o5].all Option.isSome)) = false) : ∃ a b c d e, o1 = some a ∧ o2 = some b ∧ o3 = some c ∧ o4 = some d ∧ o5 = some e := by
  cases o1 <;> cases o2 <;> cases o3 <;> cases o4 <;> cases o5 <;> first | exact ⟨_, _, _, _, _, rfl, rfl, rfl, rfl, rfl⟩ | cases h
theorem okC_iff {a b c d e : Int} (ha : 0 ≤ a) (hb : 0 ≤ b) (hc : 0 ≤ c) (hd : 0 ≤ d) (he : 0 ≤ e) : okCosts a b c d e = true ↔ a ≤ 1000000000000 ∧ b ≤ 1000000000 ∧ c ≤ 1000000000 ∧ d ≤ 1000000000 ∧ e ≤ 1000000000 := by
  unfold okCosts
  simp only [Bool.and_eq_true, List.all_cons, List.all_nil, Bool.not_eq_true', decide_eq_false_iff_not, and_true]
  omega
theorem six_of {l : List Str} (h : l.length = 6) : ∃ w0 w1 w2 w3 w4 w5, l = [w0, w1, w2, w3, w4, w5] := by
  match l, h with
  | [w0, w1, w2, w3, w4, w5], _ => exact ⟨_, _, _, _, _, _, rfl⟩
theorem first_six {l w0 w1 w2 w3 w4 w5 : Str} (hw : wds l = [w0, w1, w2, w3, w4, w5]) (h0 : w0 = ("desk" : Str)) :
    firstOf l = (lawNum w1 1000000000000).bind fun a => (lawNum w2 1000000000).bind fun b => (lawNum w3 1000000000).bind fun c => (lawNum w4 1000000000).bind fun d => (lawNum w5 1000000000).bind fun e => some (a, b, c, d, e) := by
  have e1 : firstOf l = (nums [w1, w2, w3, w4, w5]).bind costOf := by
    unfold firstOf
    rw [if_pos ⟨by unfold wd; rw [hw]; exact h0, by rw [hw]; rfl⟩, hw]
    rfl
  rw [e1]
  unfold lawNum
  cases n1 : rdNum w1 13 with
  | none => simp [nums, n1]
  | some a =>
  cases n2 : rdNum w2 13 with
  | none => simp [nums, n1, n2]
  | some b =>
  cases n3 : rdNum w3 13 with
  | none => simp [nums, n1, n2, n3]
  | some c =>
  cases n4 : rdNum w4 13 with
  | none => simp [nums, n1, n2, n3, n4]
  | some d =>
  cases n5 : rdNum w5 13 with
  | none => simp [nums, n1, n2, n3, n4, n5]
  | some e =>
  have k := okC_iff (rdNum_some n1).1 (rdNum_some n2).1 (rdNum_some n3).1 (rdNum_some n4).1 (rdNum_some n5).1
  have e2 : nums [w1, w2, w3, w4, w5] = some [a, b, c, d, e] := by simp [nums, n1, n2, n3, n4, n5]
  rw [e2]
  show (if okCosts a b c d e = true then some (a, b, c, d, e) else none) = _
  simp only [Option.bind_some]
  by_cases g1 : a > 1000000000000
  · rw [if_pos g1, if_neg (fun z => by have := k.mp z; omega)]
    rfl
  by_cases g2 : b > 1000000000
  · rw [if_neg g1, if_pos g2, if_neg (fun z => by have := k.mp z; omega)]
    rfl
  by_cases g3 : c > 1000000000
  · rw [if_neg g1, if_neg g2, if_pos g3, if_neg (fun z => by have := k.mp z; omega)]
    rfl
  by_cases g4 : d > 1000000000
  · rw [if_neg g1, if_neg g2, if_neg g3, if_pos g4, if_neg (fun z => by have := k.mp z; omega)]
    rfl
  by_cases g5 : e > 1000000000
  · rw [if_neg g1, if_neg g2, if_neg g3, if_neg g4, if_pos g5, if_neg (fun z => by have := k.mp z; omega)]
    rfl
  rw [if_neg g1, if_neg g2, if_neg g3, if_neg g4, if_neg g5, if_pos (k.mpr (by omega))]
  rfl
theorem dcN {o : Option Int} : decide (numV o = V.non) = o.isNone := by
  cases o <;> rfl
def spOpened (K : PySem.W.Frag) : Sp := fun vs H Q _ => ∃ l : Str, vs = [.str l] ∧ l.length ≤ 80000 ∧ (firstOf l = none → ∀ H', Ex H H' → Q .non H') ∧ ∀ o, firstOf l = some o → ∀ a H' X, Ex H H' → DeskAt K H' a (Core.new o) [] X → (∀ b ∈ X, H b = none) → Q (.ref a) H'
section
variable {P : Program} {w : World} {K : PySem.W.Frag} {mg : Str → Option Value} {base : Heap}
theorem sc_law_opened : FnScope ["_law_line_here", "_law_words_here", "_law_purse", "_law_costs", "_law_word", "_law_cost"] ["_law_line_here"] xlaw_opened.scope := ⟨rfl, rfl, rfl, by decide +kernel, rfl, by decide +kernel, by decide +kernel⟩
theorem w_law_opened (T : Wx P K mg) : FnR P w K mg base (L2N.CX P w) 8 (He.ga K "_law_opened") (spOpened K) :=
  mkR 7 T T.toTx.d_law_opened sc_law_opened (by rintro vs H Q E ⟨_, rfl, _⟩; rfl) (fun _ _ _ _ _ _ us hl => match us, hl with | [_], _ => rfl) (fun cdv A outer s H vs Q E B hsp => by
  obtain ⟨l, rfl, hz, hn, hq⟩ := hsp
  refine ⟨_, (pss_cons (st_set (i := 1) sc_law_opened.nd (pe_split (pv 0) pe_str))
    (pss_cons (ps_if (PW.pt (pw_or (pt_cmpR (o_neK K B.hu64) (pe_callB (call_lenK K) (by rfl) B.wx.toTx.f_len b_len (pa_cons (pv 1) pa_nil)) pe_int (nomark _)) (pw_or1 (pt_cmpR (o_neK K B.hu64) (pe_ix (ix_seqK K) (pv 1) pe_int (fun _ _ => rfl)) pe_str (nomark _))))) (pss_one (ps_ret pe_non)) pss_nil)
    (pss_cons (st_set (i := 2) sc_law_opened.nd (c_law_number (K := K) B (pa_cons (pe_ix (ix_seqK K) (pv 1) pe_int (fun _ _ => rfl)) (pa_cons (pe_op op_pow pe_int pe_int) pa_nil))))
    (pss_cons (ps_setLcB (i := 3) (own := [("_law_word", 4)]) B sc_law_opened.nd rfl rfl (sw_true rfl rfl rfl (by decide +kernel)) (pi_list (pe_slice sl_any (pv 1) (po_some pe_int) po_none)) (blkOk_by (N := ["_law_line_here", "_law_words_here", "_law_purse", "_law_costs", "_law_word", "_law_cost"]) (sc := xlaw_opened.scope) (by decide +kernel)) (fun _ _ _ _ _ => pg_name (i := 4) sc_law_opened.nd rfl (by first | exact .inl rfl | exact .inr rfl)) (fun _ _ _ _ _ B => pts_nil) (fun _ _ _ _ _ B => (c_law_number (K := K) B (pa_cons (pv 4) (pa_cons (pe_op op_pow pe_int pe_int) pa_nil)))))
    (pss_cons (ps_if (PW.pt (pw_or (pt_cmpR op_isN1 (pv 2) pe_non (nomark _)) (pw_or1 (pt_cmpR (o_neN K B.hu64) (pe_lcB (own := [("_law_cost", 5)]) B sc_law_opened.nd (pi_list (pv 3)) (blkOk_by (N := ["_law_line_here", "_law_words_here", "_law_purse", "_law_costs", "_law_word", "_law_cost"]) (sc := xlaw_opened.scope) (by decide +kernel)) (fun _ _ _ _ _ => pg_name (i := 5) sc_law_opened.nd rfl (by first | exact .inl rfl | exact .inr rfl)) (fun _ _ _ _ _ B => (pts_one (pt_cmpR op_isN1 (pv 5) pe_non (nomark _)))) (fun _ _ _ _ _ B => (pv 5))) (pe_lst pa_nil) (nomark _))))) (pss_one (ps_ret pe_non)) pss_nil)
    (pss_one (ps_ret (cn_Desk (K := K) B (pk_cons (pv 2) (pk_cons (pe_ix (ix_seqK K) (pv 3) pe_int (fun _ _ => rfl)) (pk_cons (pe_ix (ix_seqK K) (pv 3) pe_int (fun _ _ => rfl)) (pk_cons (pe_ix (ix_seqK K) (pv 3) pe_int (fun _ _ => rfl)) (pk_cons (pe_ix (ix_seqK K) (pv 3) pe_int (fun _ _ => rfl)) pk_nil))))))))))))), ?_⟩
  have hwl := wds_len l
  have hlen : (wds l).length ≤ 80001 := by omega
  have hws : ∀ z ∈ wds l, z.length ≤ 80000 := fun z hm => Nat.le_trans (wds_mem hm) hz
  have hsw : Txt.split l " " = wds l := rfl
  refine ⟨_, rfl, ⟨l, rfl⟩, l, _, rfl, rfl, rfl, sz_of (by omega), fun p hp => ?_⟩
  rw [hsw]
  have e1 := Ex.new (o := .lst ((wds l).map V.str)) hp
  have hp1 : (upd H p (.lst ((wds l).map V.str))) p = some (.lst ((wds l).map V.str)) := upd_same
  walk_at "st"
  generalize upd H p (.lst ((wds l).map V.str)) = H1 at *
  have wd0 : atI ((wds l).map V.str) 0 = some (.str (wd l 0)) := atI_nat (j := 0) (by
    have h0 : 0 < (wds l).length := List.length_pos_iff.mpr (wds_ne l)
    rw [List.getElem?_map, List.getElem?_eq_getElem h0]
    show some (V.str _) = some (V.str ((wds l).getD 0 ""))
    rw [List.getD_eq_getElem?_getD, List.getElem?_eq_getElem h0]
    rfl)
  refine qwh (b := !decide ((wds l).length = 6) || !decide (wd l 0 = ("desk" : Str))) (a_or (a_test fun Q q => ?_) fun _ => a_test fun Q q => ?_) (fun h => ?_) (fun h => ?_)
  · refine ⟨_, rfl, _, _, rfl, .inl ⟨_, sq_of hp1, rfl⟩, .inl ⟨rfl, ?_⟩⟩
    have e3 : decide ((((wds l).map V.str).length : Nat) = (6 : Int)) = decide ((wds l).length = 6) := by
      rw [List.length_map, Bool.eq_iff_iff, decide_eq_true_eq, decide_eq_true_eq]
      omega
    rw [dcI, e3]
    exact q
  · refine ⟨_, rfl, .inl ⟨p, _, _, _, rfl, rfl, sq_of hp1, wd0, .inl ⟨rfl, ?_⟩⟩⟩
    rw [dcS]
    exact q
  · have hf : firstOf l = none := by
      unfold firstOf
      refine if_neg fun y => ?_
      rw [decide_eq_true y.1, decide_eq_true y.2] at h
      cases h
    exact hn hf H1 e1
  obtain ⟨h6, h0⟩ : (wds l).length = 6 ∧ wd l 0 = ("desk" : Str) := by simpa using h
  obtain ⟨w0, w1, w2, w3, w4, w5, hw⟩ := six_of h6
  have hw0 : w0 = ("desk" : Str) := by
    rw [← h0]
    unfold wd
    rw [hw]
    rfl
  have hfo := first_six hw hw0
  rw [hfo] at hn hq
  rw [hw] at hp1 hws
  have e12 : (10 : Int) ^ ((12 : Int).toNat) = 1000000000000 := by decide
  have e9 : (10 : Int) ^ ((9 : Int).toNat) = 1000000000 := by decide
  refine ⟨_, rfl, .inl ⟨p, _, _, _, rfl, rfl, sq_of hp1, atI_nat (j := 1) rfl, _, _, rfl, rfl, ⟨by decide, by decide, by decide⟩, w1, _, rfl, Nat.le_trans (hws w1 (by simp)) (by decide), fun H2 e2 => ?_⟩⟩
  rw [e12]
  walk_at "st"
  have hp2 := e2 _ _ hp1
  have hcut : cutV (([w0, w1, w2, w3, w4, w5] : List Str).map V.str) (some 2) none = ([w2, w3, w4, w5] : List Str).map V.str := cut_from (k := 2)
  refine ⟨_, rfl, _, rfl, .inl ⟨p, _, rfl, sq_of hp2, fun q hq1 => ⟨q, rfl, ⟨_, sq_of upd_same⟩, fun D hDn => ?_⟩⟩⟩
  have e3 := Ex.new (o := .lst (cutV (([w0, w1, w2, w3, w4, w5] : List Str).map V.str) (some 2) none)) hq1
  have hq3 : (upd H2 q (.lst (cutV (([w0, w1, w2, w3, w4, w5] : List Str).map V.str) (some 2) none))) q = some (.lst (([w2, w3, w4, w5] : List Str).map V.str)) := upd_same.trans (congrArg (fun z => some (HO.lst z)) hcut)
  generalize upd H2 q (.lst (cutV (([w0, w1, w2, w3, w4, w5] : List Str).map V.str) (some 2) none)) = H3 at *
  refine lcX (walk_list (xs := ([w2, w3, w4, w5] : List Str).map V.str)) _ yAt (show 4 < 100000 from by decide) hDn (fun H' e => ex_l e (sq_of hq3)) (fun _ _ => true) (fun i acc => acc = ((([w2, w3, w4, w5] : List Str).take i).map fun z => numV (lawNum z 1000000000))) rfl ?_ (fun i x acc H1 hi hx r e Q q => q H1 (Ex.refl H1)) (fun i x acc H1 hi hx r e hf Q q => ?_) (fun i x acc hi hx r hf => by cases hf) (fun H4 ys e4 hD4 r hl2 => ?_)
  · exact fun _ => rfl
  · rw [List.getElem?_map] at hx
    obtain ⟨z, hz1, rfl⟩ := Option.map_eq_some_iff.mp hx
    have hzm : z ∈ ([w2, w3, w4, w5] : List Str) := List.mem_of_getElem? hz1
    refine ⟨_, rfl, _, _, rfl, rfl, ⟨by decide, by decide, by decide⟩, z, _, rfl, Nat.le_trans (hws z (by simp only [List.mem_cons] at hzm ⊢; exact .inr (.inr hzm))) (by decide), fun H5 e5 => q _ _ e5 ?_⟩
    rw [e9, take_snoc hz1, List.map_append, r]
    rfl
  · have r : ys = ([w2, w3, w4, w5] : List Str).map fun z => numV (lawNum z 1000000000) := r
    subst r
    walk_at "st"
    have e14 : Ex H H4 := e1.trans (e2.trans (e3.trans e4))
    refine qwhX (b := (lawNum w1 1000000000000).isNone || !([lawNum w2 1000000000, lawNum w3 1000000000, lawNum w4 1000000000, lawNum w5 1000000000].all Option.isSome)) (ax_or (Ans.x (a_test fun Q q => ?_)) fun _ H5 e5 => ?_) (fun h H5 e5 => ?_) (fun h H5 e5 => ?_)
    · refine ⟨_, rfl, rfl, ?_⟩
      rw [dcN]
      exact q
    · intro Q q
      have hD5 := e5 _ _ hD4
      refine ⟨_, rfl, D, rfl, ⟨_, sq_of hD5⟩, fun D2 hD2 => ?_⟩
      refine lcX (walk_list (xs := ([w2, w3, w4, w5] : List Str).map fun z => numV (lawNum z 1000000000))) _ yAt (show 4 < 100000 from by decide) hD2 (fun H' e => ex_l e (sq_of hD5)) (fun _ x => decide (x = .non)) (fun i acc => decide (acc = []) = ((([w2, w3, w4, w5] : List Str).take i).all fun z => (lawNum z 1000000000).isSome)) rfl ?_ (fun i x acc H1 hi hx r e Q q => ?_) (fun i x acc H1 hi hx r e hf Q q => ?_) (fun i x acc hi hx r hf => ?_) (fun H6 ys e6 hD6 r hl2 => ?_)
      · exact fun _ => rfl
      · exact ⟨_, rfl, rfl, _, rfl, q H1 (Ex.refl H1)⟩
      · rw [List.getElem?_map] at hx
        obtain ⟨z, hz1, rfl⟩ := Option.map_eq_some_iff.mp hx
        refine ⟨_, rfl, q _ _ (Ex.refl H1) ?_⟩
        rw [dcN] at hf
        have : (lawNum z 1000000000).isSome = false := by
          cases h9 : lawNum z 1000000000 with
          | none => rfl
          | some k => rw [h9] at hf; cases hf
        rw [take_snoc hz1, List.all_append]
        simp [this]
      · rw [List.getElem?_map] at hx
        obtain ⟨z, hz1, rfl⟩ := Option.map_eq_some_iff.mp hx
        rw [dcN] at hf
        have : (lawNum z 1000000000).isSome = true := by
          cases h9 : lawNum z 1000000000 with
          | none => rw [h9] at hf; cases hf
          | some k => rfl
        rw [take_snoc hz1, List.all_append, ← r]
        simp [this]
      · have r : decide (ys = []) = (([w2, w3, w4, w5] : List Str).all fun z => (lawNum z 1000000000).isSome) := r
        refine ⟨by walk_at "le", fun p hp => ⟨D2, p, ys, rfl, rfl, sq_of ((Ex.new hp) _ _ hD6), sq_of upd_same, _, rfl, ?_⟩⟩
        rw [r]
        exact q _ (e6.trans (Ex.new hp))
    · exact hn (six_none h) H5 (e14.trans e5)
    · obtain ⟨a0, a1, a2, a3, a4, n1, n2, n3, n4, n5⟩ := six_some h
      have hD5 : H5 D = some (.lst [.int a1, .int a2, .int a3, .int a4]) := by
        rw [e5 _ _ hD4]
        show some (HO.lst [numV (lawNum w2 1000000000), numV (lawNum w3 1000000000), numV (lawNum w4 1000000000), numV (lawNum w5 1000000000)]) = _
        rw [n2, n3, n4, n5]
        rfl
      rw [n1, n2, n3, n4, n5] at hq
      have b1 := lawNum_some n1
      have b2 := lawNum_some n2
      have b3 := lawNum_some n3
      have b4 := lawNum_some n4
      have b5 := lawNum_some n5
      have hok : okCosts a0 a1 a2 a3 a4 = true := (okC_iff b1.1 b2.1 b3.1 b4.1 b5.1).mpr ⟨b1.2, b2.2, b3.2, b4.2, b5.2⟩
      rw [n1]
      refine ⟨_, rfl, _, rfl, .inl ⟨D, _, _, _, rfl, rfl, sq_of hD5, atI_nat (j := 0) rfl, _, rfl, .inl ⟨D, _, _, _, rfl, rfl, sq_of hD5, atI_nat (j := 1) rfl, _, rfl, .inl ⟨D, _, _, _, rfl, rfl, sq_of hD5, atI_nat (j := 2) rfl, _, rfl, .inl ⟨D, _, _, _, rfl, rfl, sq_of hD5, atI_nat (j := 3) rfl, ?_⟩⟩⟩⟩⟩
      refine ⟨rfl, fun a d ha hd n => ⟨a, d, a0, a1, a2, a3, a4, rfl, upd_same, fun ho C dd H' mo f => ?_, fun ho H' X' hD3 f hfr => ⟨rfl, ?_⟩⟩⟩
      · rw [hok] at ho
        cases ho
      · refine hq (a0, a1, a2, a3, a4) rfl a H' X' ((e14.trans e5).trans (ex_made ha hd f)) hD3 fun b hb2 => ?_
        refine fresh_back (e14.trans e5) ((hfr b hb2).elim (fun z => z ▸ ha) fun z => ?_)
        exact un_upd (un_upd z))
end
section
variable {X : Cx} {W : WX} {k : Nat} {e o : Expr} {es : List Expr} {ta : TA} {to : TE} {p pos apos : Pos} {pl : Sem Bool}
theorem c_law_opened {K : PySem.W.Frag} (B : Bx X W k) (ha : PA X (e :: es) ta) (hK : X.K = K := by rfl) (hl : 8 ≤ k := by decide) (hg : Gl X "_law_opened" := by rfl) (hst : starEach (e :: es) X.env = (false, eval e X.env) :: starEach es X.env := by rfl) (hpl : (backTo pos (starEach es X.env)).any (·.1) = false := by rfl) : PE X (.Call (.Name "_law_opened" p) (e :: es) [] pos) (tFn (spOpened K) W ta) := by
  subst hK
  exact k_fun (w_law_opened B.wx) (B.rm.mono hl) B.wx.toTx.d_law_opened.kp B.wx.toTx.g_law_opened B.hx ha hg (by decide) hst hpl
end
end Bm
set_option Elab.async false
set_option linter.all false
set_option maxRecDepth 10000
set_option maxHeartbeats 400000
set_option pp.deepTerms false
set_option pp.maxSteps 1500
set_option maxErrors 6
/-! Walks: a text led and read by the law. -/
namespace Bm
open PySem PySem.Spec PyProof.Rows L2 Evl TL RZ
local macro_rules | `(tactic| walk_at "sz") => `(tactic| first | assumption | (refine sz_of ?_; omega) | (refine sz_lt ?_; omega))
local macro_rules | `(tactic| walk_at "ne") => `(tactic| first | assumption | (refine Ne.symm ?_; assumption) | exact ne_new (by assumption) (by walk_at "hp") | exact Ne.symm (ne_new (by assumption) (by walk_at "hp")))
local macro_rules | `(tactic| walk_at "hp") => `(tactic| first | assumption | exact upd_same | (refine (upd_ne (by walk_at "ne")).trans ?_; walk_at "hp") | (refine Ex.at_ (by assumption) ?_; walk_at "hp"))
local macro_rules | `(tactic| walk_at "sq") => `(tactic| first | assumption | (refine sq_of ?_; walk_at "hp") | (refine st_of ?_; walk_at "hp") | (refine ex_l (by assumption) ?_; walk_at "sq") | (refine ex_t (by assumption) ?_; walk_at "sq"))
local macro_rules | `(tactic| walk_at "sd") => `(tactic| first | exact (show (0 : Int) < _ from by omega) | exact (show (0 : Int) < _ ∧ _ < (1073741824 : Int) from ⟨by omega, by omega⟩) | exact (show CPow _ _ from ⟨by decide, by decide, by decide⟩) | exact (show CMul _ _ from .inl ⟨by omega, by omega⟩) | exact (show CMul _ _ from .inr ⟨by omega, by omega⟩))
local macro_rules | `(tactic| walk_at "g1") => `(tactic| first
  | refine ⟨_, rfl, ?_⟩
  | refine ⟨_, _, rfl, rfl, ?_⟩
  | refine .inl ⟨_, _, rfl, rfl, ?_⟩
  | refine .inl ⟨rfl, ?_⟩
  | refine .inl (.inl ⟨_, rfl, ?_⟩)
  | (refine ⟨_, _, rfl, ⟨?_, rfl⟩, ?_⟩; (walk_at "sz"))
  | refine ⟨(by walk_at "sd"), ?_⟩)
local macro_rules | `(tactic| walk_at "go") => `(tactic| repeat walk_at "g1")
local macro_rules | `(tactic| walk_at "st") => `(tactic| dsimp only [gName])
local macro_rules | `(tactic| walk_at "ln") => `(tactic| first | exact (show 0 < 1000 from by decide) | exact (show 1 < 1000 from by decide) | exact (show 2 < 1000 from by decide) | exact (show 3 < 1000 from by decide) | exact (show 4 < 1000 from by decide) | exact (show 5 < 1000 from by decide) | exact (show 6 < 1000 from by decide) | exact (show 7 < 1000 from by decide))
local macro_rules | `(tactic| walk_at "le") => `(tactic| first | exact (show 0 ≤ sizeLine from by decide) | exact (show 1 ≤ sizeLine from by decide) | exact (show 2 ≤ sizeLine from by decide) | exact (show 3 ≤ sizeLine from by decide) | exact (show 4 ≤ sizeLine from by decide) | exact (show 5 ≤ sizeLine from by decide) | exact (show 6 ≤ sizeLine from by decide) | exact (show 7 ≤ sizeLine from by decide) | exact (show 8 ≤ sizeLine from by decide))
local macro_rules | `(tactic| walk_at "nt") => `(tactic| first | exact nt_ins | exact nt_lst | exact nt_dK)
local macro_rules | `(tactic| walk_at "fr") => `(tactic| first | assumption | exact Fr.refl | exact Fr.ex (by assumption) | (refine Fr.put ?_ (by walk_at "hp") (by walk_at "nt") (by simp); walk_at "fr") | (refine Fr.new ?_ (by assumption); walk_at "fr"))
section
variable {t : TT} {σ : L2.St} {H : Hp} {D : Ends} {tu tz tw : TS}
/-- a test of which only this is known -/
theorem qwhP (P : Bool → Hp → Prop) (h : ∀ Q : Bool → Hp → Prop, (∀ b H1, P b H1 → Q b H1) → t σ H Q) (h1 : ∀ H1, P true H1 → tu { D with nx := tz D } σ H1) (h2 : ∀ H1, P false H1 → tz D σ H1) : tSeq (tIfS t tu tNext) tz D σ H :=
  h _ fun b H1 p => by
    cases b with
    | true => exact h1 H1 p
    | false => exact h2 H1 p
theorem swhP (P : Bool → Hp → Prop) (h : ∀ Q : Bool → Hp → Prop, (∀ b H1, P b H1 → Q b H1) → t σ H Q) (h1 : ∀ H1, P true H1 → tu D σ H1) (h2 : ∀ H1, P false H1 → D.nx σ H1) : tIfS t tu tNext D σ H :=
  h _ fun b H1 p => by
    cases b with
    | true => exact h1 H1 p
    | false => exact h2 H1 p
theorem swP (P : Bool → Hp → Prop) (h : ∀ Q : Bool → Hp → Prop, (∀ b H1, P b H1 → Q b H1) → t σ H Q) (h1 : ∀ H1, P true H1 → tu D σ H1) (h2 : ∀ H1, P false H1 → tw D σ H1) : tIfS t tu tw D σ H :=
  h _ fun b H1 p => by
    cases b with
    | true => exact h1 H1 p
    | false => exact h2 H1 p
end
theorem cut_m1 (xs : List V) (v : V) : cutV (xs ++ [v]) none (some (-1)) = xs := by
  unfold cutV
  have e1 : HT.sIx (xs ++ [v]).length 0 none = 0 := rfl
  have e2 : HT.sIx (xs ++ [v]).length (xs ++ [v]).length (some (-1)) = xs.length := by
    show (if (-1 : Int) < 0 then ((-1 : Int) + ((xs ++ [v]).length : Int)).toNat else min (-1 : Int).toNat (xs ++ [v]).length) = xs.length
    rw [if_pos (by decide), List.length_append]
    show ((-1 : Int) + ((xs.length + 1 : Nat) : Int)).toNat = xs.length
    omega
  rw [e1, e2, List.drop_zero, Nat.sub_zero]
  simp
def spLed (K : PySem.W.Frag) : Sp := fun vs H Q _ => ∃ t : Str, vs = [.str t] ∧ t.length + 2 ≤ sizeLine ∧ (Txt.split t brk).length ≤ 70000 ∧ (∀ z ∈ Txt.split t brk, z.length ≤ 80000) ∧
  (∀ n, readJ t = .inl n → ∀ p H', Ex H H' → H' p = some (.tup [.int n, .non]) → Q (.ref p) H') ∧
  ∀ c, readJ t = .inr c → ∀ p a H' X, Ex H H' → DeskAt K H' a c [] X → (∀ b ∈ X, H b = none) → H' p = some (.tup [.int 0, .ref a]) → Q (.ref p) H'
section
variable {P : Program} {w : World} {K : PySem.W.Frag} {mg : Str → Option Value} {base : Heap}
theorem sc_law_led : FnScope ["_law_text", "_law_lines_here", "_law_rest", "_law_desk", "_law_k"] ["_law_text"] xlaw_led.scope := ⟨rfl, rfl, rfl, by decide +kernel, rfl, by decide +kernel, by decide +kernel⟩
theorem w_law_led (T : Wx P K mg) : FnR P w K mg base (L2N.CX P w) 12 (He.ga K "_law_led") (spLed K) :=
  mkR 11 T T.toTx.d_law_led sc_law_led (by rintro vs H Q E ⟨_, rfl, _⟩; rfl) (fun _ _ _ _ _ _ us hl => match us, hl with | [_], _ => rfl) (fun cdv A outer s H vs Q E B hsp => by
  obtain ⟨t, rfl, hz, hzn, hzl, hb, hq⟩ := hsp
  refine ⟨_, (pss_cons (st_set (i := 1) sc_law_led.nd (pe_split (pv 0) pe_str))
    (pss_cons (st_set (i := 2) sc_law_led.nd (pe_ix (ix_seqK K) (pv 1) (pe_un un_neg pe_int) (fun _ _ => rfl)))
    (pss_cons (st_set (i := 1) sc_law_led.nd (pe_slice sl_any (pv 1) po_none (po_some (pe_un un_neg pe_int))))
    (pss_cons (ps_if (pt_cmpR (o_eqN K B.hu64) (pv 1) (pe_lst pa_nil) (nomark _)) (pss_one (ps_ret (pe_tup (pa_cons pe_int (pa_cons pe_non pa_nil))))) pss_nil)
    (pss_cons (st_set (i := 3) sc_law_led.nd (c_law_opened (K := K) B (pa_cons (pe_ix (ix_seqK K) (pv 1) pe_int (fun _ _ => rfl)) pa_nil)))
    (pss_cons (ps_if (pt_cmpR op_isN1 (pv 3) pe_non (nomark _)) (pss_one (ps_ret (pe_tup (pa_cons pe_int (pa_cons pe_non pa_nil))))) pss_nil)
    (pss_cons (ps_for (L2.passes_of rfl) B.calm (pi_range2 (by rfl) B.wx.toTx.f_range (pa_cons pe_int (pa_cons (pe_callB (call_lenK K) (by rfl) B.wx.toTx.f_len b_len (pa_cons (pv 1) pa_nil)) pa_nil))) (pg_name (i := 4) sc_law_led.nd rfl (by first | exact .inl rfl | exact .inr rfl)) (pss_one (ps_if (pt_cmpR (o_neK K B.hu64) (pe_ix (ix_seqK K) (c_law_done (K := K) B (pa_cons (pv 3) (pa_cons (pe_ix (ix_seqK K) (pv 1) (pv 4) (fun _ _ => rfl)) pa_nil))) pe_int (fun _ _ => rfl)) pe_str (nomark _)) (pss_one (ps_ret (pe_tup (pa_cons (pe_op (o_addK K) (pv 4) pe_int) (pa_cons pe_non pa_nil))))) pss_nil)))
    (pss_cons (ps_if (pt_cmpR (o_neK K B.hu64) (pv 2) pe_str (nomark _)) (pss_one (ps_ret (pe_tup (pa_cons (pe_op (o_addK K) (pe_callB (call_lenK K) (by rfl) B.wx.toTx.f_len b_len (pa_cons (pv 1) pa_nil)) pe_int) (pa_cons pe_non pa_nil))))) pss_nil)
    (pss_one (ps_ret (pe_tup (pa_cons pe_int (pa_cons (pv 3) pa_nil))))))))))))), ?_⟩
  obtain ⟨init, last, hsp⟩ : ∃ init last, Txt.split t brk = init ++ [last] := by
    rcases List.eq_nil_or_concat (Txt.split t brk) with e | ⟨i, l, e⟩
    · exact absurd e (split_ne t tl_brk brk_ok)
    · exact ⟨i, l, by rw [e, List.concat_eq_append]⟩
  have hri : (Txt.split t brk).dropLast = init := by rw [hsp, List.dropLast_concat]
  have hrl : (Txt.split t brk).getLast? = some last := by rw [hsp, List.getLast?_concat]
  have hin : init.length ≤ 70000 := by
    rw [hsp, List.length_append] at hzn
    have : [last].length = 1 := rfl
    omega
  have hil : ∀ z ∈ init, z.length ≤ 80000 := fun z hm => hzl z (by rw [hsp]; exact List.mem_append_left _ hm)
  unfold readJ at hb hq
  rw [hri, hrl] at hb hq
  refine ⟨_, rfl, ⟨t, rfl⟩, t, "\n", rfl, rfl, rfl, hz, fun p0 hp0 => ?_⟩
  have hsp2 : Txt.split t "\n" = init ++ [last] := hsp
  rw [hsp2]
  have e0 := Ex.new (o := .lst ((init ++ [last]).map V.str)) hp0
  have hp00 : (upd H p0 (.lst ((init ++ [last]).map V.str))) p0 = some (.lst (init.map V.str ++ [.str last])) := by
    rw [upd_same, List.map_append]
    rfl
  walk_at "st"
  generalize upd H p0 (.lst ((init ++ [last]).map V.str)) = H0 at *
  refine ⟨_, rfl, _, rfl, .inl ⟨p0, _, _, _, rfl, rfl, sq_of hp00, atI_last _ _, ?_⟩⟩
  walk_at "st"
  refine ⟨_, rfl, _, rfl, _, rfl, .inl ⟨p0, _, rfl, sq_of hp00, fun p hp => ?_⟩⟩
  have e1' := Ex.new (o := .lst (cutV (init.map V.str ++ [.str last]) none (some (-1)))) hp
  have hp2 : (upd H0 p (.lst (cutV (init.map V.str ++ [.str last]) none (some (-1))))) p = some (.lst (init.map V.str)) := by
    rw [upd_same, cut_m1]
  have e1 := e0.trans e1'
  walk_at "st"
  generalize upd H0 p (.lst (cutV (init.map V.str ++ [.str last]) none (some (-1)))) = H1 at *
  cases init with
  | nil =>
    refine qwhX (b := true) (fun Q q => ⟨_, rfl, by walk_at "le", fun L hL => ⟨p, L, _, rfl, rfl, sq_of ((Ex.new hL) _ _ hp2), sq_of upd_same, _, rfl, q _ (Ex.new hL)⟩⟩) (fun _ H2 e2 => ?_) (fun z => by cases z)
    exact ⟨by walk_at "le", fun d hd => hb 1 rfl d _ (e1.trans (e2.trans (Ex.new hd))) upd_same⟩
  | cons f r =>
  refine qwhX (b := false) (fun Q q => ⟨_, rfl, by walk_at "le", fun L hL => ⟨p, L, _, rfl, rfl, sq_of ((Ex.new hL) _ _ hp2), sq_of upd_same, _, rfl, q _ (Ex.new hL)⟩⟩) (fun z => by cases z) (fun _ H2 e2 => ?_)
  dsimp only at hb hq
  have e12 := e1.trans e2
  have hp3 := e2 _ _ hp2
  have hat : ∀ i, i < (f :: r).length → ∃ z, (f :: r)[i]? = some z ∧ atI ((f :: r).map V.str) ((i : Nat) : Int) = some (.str z) := fun i hi => ⟨(f :: r)[i], List.getElem?_eq_getElem hi, atI_nat (by rw [List.getElem?_map, List.getElem?_eq_getElem hi] <;> rfl)⟩
  have hat0 : atI ((f :: r).map V.str) 0 = some (.str f) := atI_nat (j := 0) rfl
  refine ⟨_, rfl, .inl ⟨p, _, _, _, rfl, rfl, sq_of hp3, hat0, f, rfl, hil f (List.mem_cons_self ..), fun hf H3 e3 => ?_, fun o hf a H3 X e3 hD hX => ?_⟩⟩
  · rw [hf] at hb
    walk_at "st"
    refine qwh (b := true) (a_test fun Q q => ⟨_, rfl, rfl, q⟩) (fun _ => ?_) (fun z => by cases z)
    exact ⟨by walk_at "le", fun d hd => hb 1 rfl d _ (e12.trans (e3.trans (Ex.new hd))) upd_same⟩
  rw [hf] at hb hq
  dsimp only at hb hq
  walk_at "st"
  refine qwh (b := false) (a_test fun Q q => ⟨_, rfl, rfl, q⟩) (fun z => by cases z) (fun _ => ?_)
  have hp4 := e3 _ _ hp3
  have hlr : (f :: r).length = r.length + 1 := rfl
  have e13 := e12.trans e3
  refine ⟨_, rfl, _, _, rfl, .inl ⟨_, sq_of hp4, rfl⟩, _, _, rfl, ?_, ?_⟩
  · rw [List.length_map]
    have : (f :: r).length ≤ 70000 := hin
    refine ⟨by decide, by decide, by omega, by omega⟩
  have hnn : (((((f :: r).map V.str).length : Nat) : Int) - 1).toNat = r.length := by
    rw [List.length_map, hlr]
    omega
  rw [hnn]
  refine for_it walk_range (fun i σ' H' => ∃ (X : List Addr) (c : Core) (u : Option V), σ' = [some (.str t), some (.ref p), some (.str last), some (.ref a), u] ∧ Ex H2 H' ∧ DeskAt K H' a c [] X ∧ (∀ b ∈ X, H2 b = none) ∧ CoreOk c ∧ c.done.length ≤ i ∧ goLines (Core.new o) r 1 = goLines c (r.drop i) (1 + (i : Nat)))
    ⟨X, Core.new o, none, rfl, e3, hD, hX, new_core o, Nat.zero_le _, by rw [List.drop_zero]; rfl⟩ (fun _ _ _ _ _ => True.intro) ?_ ?_
  · rintro i x σ' H' H'' hi ⟨X', c, u, rfl, e4, hD3, hX3, ok, hdn, hgo⟩ ⟨rfl, rfl⟩
    have hp5 := e4 _ _ hp3
    obtain ⟨z, hz1, hz2⟩ := hat (1 + i) (by rw [hlr]; omega)
    have hz3 : atI ((f :: r).map V.str) (1 + ((i : Nat) : Int)) = some (.str z) := by
      rw [← hz2]
      congr 1
    have hzr : r[i]? = some z := by
      rw [Nat.add_comm] at hz1
      exact hz1
    have hdrop : r.drop i = z :: r.drop (i + 1) := by
      have hlt : i < r.length := (List.getElem?_eq_some_iff.mp hzr).1
      rw [List.drop_eq_getElem_cons hlt]
      congr 1
      rw [List.getElem?_eq_getElem hlt] at hzr
      exact Option.some.inj hzr
    rw [hdrop] at hgo
    walk_at "st"
    have hrl2 : r.length ≤ 70000 := by
      have : (f :: r).length ≤ 70000 := hin
      omega
    refine swhP (fun b H1 => (b = true ∧ c.step z = none ∧ Ex H'' H1) ∨ (b = false ∧ ∃ d X4, c.step z = some d ∧ DeskAt K H1 a d [] X4 ∧ Fr X' H'' H1 ∧ Nw X' X4 H'')) (fun Q q => ?_) (fun H4 p4 => ?_) (fun H4 p4 => ?_)
    · refine ⟨_, rfl, _, rfl, _, rfl, .inl ⟨p, _, _, _, rfl, rfl, sq_of hp5, hz3, a, c, [], X', z, rfl, hD3, ok, by omega, hil z (List.mem_of_getElem? (l := f :: r) (i := i + 1) hzr), fun hst q1 H4 e5 hq1 => ?_, fun d hst q1 v H4 X4 hD4 f4 nw4 hq1 => ?_⟩⟩
      · exact .inr (.inl ⟨q1, _, _, _, rfl, rfl, st_of hq1, atI_nat (j := 0) rfl, .inl ⟨rfl, _, rfl, q true H4 (.inl ⟨rfl, hst, e5⟩)⟩⟩)
      · exact .inr (.inl ⟨q1, _, _, _, rfl, rfl, st_of hq1, atI_nat (j := 0) rfl, .inl ⟨rfl, _, rfl, q false H4 (.inr ⟨rfl, d, X4, hst, hD4, f4, nw4⟩)⟩⟩)
    · rcases p4 with ⟨_, hst, e5⟩ | ⟨h0, _⟩
      · refine ⟨_, rfl, .inl ⟨_, _, rfl, rfl, by walk_at "le", fun q1 hq1 => hb _ ?_ q1 _ (e12.trans (e4.trans (e5.trans (Ex.new hq1)))) upd_same⟩⟩
        rw [hgo]
        unfold goLines
        rw [hst]
      · cases h0
    · rcases p4 with ⟨h0, _⟩ | ⟨_, d, X4, hst, hD4, f4, nw4⟩
      · cases h0
      obtain ⟨ok4, _, hd4⟩ := step_ok ok hst
      refine ⟨X4, d, _, rfl, fun b o hb => f4.1 b o (e4 _ _ hb) fun hm => ?_, hD4, fun b hm => ?_, ok4, ?_, ?_⟩
      · rw [hX3 b hm] at hb
        cases hb
      · rcases nw4 b hm with y | y
        · exact hX3 b y
        · exact fresh_back e4 y
      · rw [hd4, List.length_append]
        show c.done.length + 1 ≤ i + 1
        omega
      · rw [hgo]
        show goLines c (z :: r.drop (i + 1)) (1 + ((i : Nat) : Int)) = _
        conv => lhs; unfold goLines
        rw [hst]
        show goLines d (r.drop (i + 1)) (1 + (i : Int) + 1) = goLines d (r.drop (i + 1)) (1 + ((i + 1 : Nat) : Int))
        congr 1
  · rintro σ' H' ⟨X', c, u, rfl, e4, hD3, hX3, ok, hdn, hgo⟩
    rw [List.drop_length] at hgo
    have hgo : goLines (Core.new o) r 1 = .inr c := hgo
    rw [hgo] at hb hq
    dsimp only at hb hq
    have hp5 := e4 _ _ hp3
    walk_at "st"
    refine qwh (b := !decide (last = ("" : Str))) (a_test fun Q q => ?_) (fun h => ?_) (fun h => ?_)
    · refine ⟨_, rfl, .inl ⟨rfl, ?_⟩⟩
      rw [dcS]
      exact q
    · have h1 : ¬ last = ("" : Str) := by simpa using h
      refine ⟨_, rfl, _, _, rfl, .inl ⟨_, sq_of hp5, rfl⟩, .inl ⟨_, _, rfl, rfl, by walk_at "le", fun d hd => hb _ ?_ d _ (e12.trans (e4.trans (Ex.new hd))) upd_same⟩⟩
      rw [if_neg (fun z => h1 (Option.some.inj z)), List.length_map, hlr]
      congr 1
    · have h1 : last = ("" : Str) := by simpa using h
      refine ⟨_, rfl, by walk_at "le", fun d hd => hq c ?_ d a _ X' (e12.trans (e4.trans (Ex.new hd))) (hD3.ex (Ex.new hd)) (fun b hm => fresh_back e12 (hX3 b hm)) upd_same⟩
      exact if_pos (congrArg some h1))
end
section
variable {X : Cx} {W : WX} {k : Nat} {e o : Expr} {es : List Expr} {ta : TA} {to : TE} {p pos apos : Pos} {pl : Sem Bool}
theorem c_law_led {K : PySem.W.Frag} (B : Bx X W k) (ha : PA X (e :: es) ta) (hK : X.K = K := by rfl) (hl : 12 ≤ k := by decide) (hg : Gl X "_law_led" := by rfl) (hst : starEach (e :: es) X.env = (false, eval e X.env) :: starEach es X.env := by rfl) (hpl : (backTo pos (starEach es X.env)).any (·.1) = false := by rfl) : PE X (.Call (.Name "_law_led" p) (e :: es) [] pos) (tFn (spLed K) W ta) := by
  subst hK
  exact k_fun (w_law_led B.wx) (B.rm.mono hl) B.wx.toTx.d_law_led.kp B.wx.toTx.g_law_led B.hx ha hg (by decide) hst hpl
end
end Bm
set_option Elab.async false
set_option linter.all false
set_option maxRecDepth 10000
set_option maxHeartbeats 400000
set_option pp.deepTerms false
set_option pp.maxSteps 1500
set_option maxErrors 6
/-! Walks: a text read by the program, caught by the law; both are alike. -/
namespace Bm
open PySem PySem.Spec PyProof.Rows L2 Evl TL RZ
local macro_rules | `(tactic| walk_at "sz") => `(tactic| first | assumption | (refine sz_of ?_; omega) | (refine sz_lt ?_; omega))
local macro_rules | `(tactic| walk_at "ne") => `(tactic| first | assumption | (refine Ne.symm ?_; assumption) | exact ne_new (by assumption) (by walk_at "hp") | exact Ne.symm (ne_new (by assumption) (by walk_at "hp")))
local macro_rules | `(tactic| walk_at "hp") => `(tactic| first | assumption | exact upd_same | (refine (upd_ne (by walk_at "ne")).trans ?_; walk_at "hp") | (refine Ex.at_ (by assumption) ?_; walk_at "hp"))
local macro_rules | `(tactic| walk_at "sq") => `(tactic| first | assumption | (refine sq_of ?_; walk_at "hp") | (refine st_of ?_; walk_at "hp") | (refine ex_l (by assumption) ?_; walk_at "sq") | (refine ex_t (by assumption) ?_; walk_at "sq"))
local macro_rules | `(tactic| walk_at "sd") => `(tactic| first | exact (show (0 : Int) < _ from by omega) | exact (show (0 : Int) < _ ∧ _ < (1073741824 : Int) from ⟨by omega, by omega⟩) | exact (show CPow _ _ from ⟨by decide, by decide, by decide⟩) | exact (show CMul _ _ from .inl ⟨by omega, by omega⟩) | exact (show CMul _ _ from .inr ⟨by omega, by omega⟩))
local macro_rules | `(tactic| walk_at "g1") => `(tactic| first
  | refine ⟨_, rfl, ?_⟩
  | refine ⟨_, _, rfl, rfl, ?_⟩
  | refine .inl ⟨_, _, rfl, rfl, ?_⟩
  | refine .inl ⟨rfl, ?_⟩
  | refine .inl (.inl ⟨_, rfl, ?_⟩)
  | (refine ⟨_, _, rfl, ⟨?_, rfl⟩, ?_⟩; (walk_at "sz"))
  | refine ⟨(by walk_at "sd"), ?_⟩)
local macro_rules | `(tactic| walk_at "go") => `(tactic| repeat walk_at "g1")
local macro_rules | `(tactic| walk_at "st") => `(tactic| dsimp only [gName])
local macro_rules | `(tactic| walk_at "ln") => `(tactic| first | exact (show 0 < 1000 from by decide) | exact (show 1 < 1000 from by decide) | exact (show 2 < 1000 from by decide) | exact (show 3 < 1000 from by decide) | exact (show 4 < 1000 from by decide) | exact (show 5 < 1000 from by decide) | exact (show 6 < 1000 from by decide) | exact (show 7 < 1000 from by decide))
local macro_rules | `(tactic| walk_at "le") => `(tactic| first | exact (show 0 ≤ sizeLine from by decide) | exact (show 1 ≤ sizeLine from by decide) | exact (show 2 ≤ sizeLine from by decide) | exact (show 3 ≤ sizeLine from by decide) | exact (show 4 ≤ sizeLine from by decide) | exact (show 5 ≤ sizeLine from by decide) | exact (show 6 ≤ sizeLine from by decide) | exact (show 7 ≤ sizeLine from by decide) | exact (show 8 ≤ sizeLine from by decide))
local macro_rules | `(tactic| walk_at "nt") => `(tactic| first | exact nt_ins | exact nt_lst | exact nt_dK)
local macro_rules | `(tactic| walk_at "fr") => `(tactic| first | assumption | exact Fr.refl | exact Fr.ex (by assumption) | (refine Fr.put ?_ (by walk_at "hp") (by walk_at "nt") (by simp); walk_at "fr") | (refine Fr.new ?_ (by assumption); walk_at "fr"))
section
variable {X : Cx} {W : WX} {k : Nat} {e : Expr} {es : List Expr} {ta : TA} {p pos : Pos}
theorem c_read_journal {K : PySem.W.Frag} (B : Bx X W k) (tk : L2.Takes X W) (ha : PA X (e :: es) ta) (hK : X.K = K := by rfl) (hl : 10 ≤ k := by decide) (hg : Gl X "read_journal" := by rfl) (hst : starEach (e :: es) X.env = (false, eval e X.env) :: starEach es X.env := by rfl) (hpl : (backTo pos (starEach es X.env)).any (·.1) = false := by rfl) : PE X (.Call (.Name "read_journal" p) (e :: es) [] pos) (tFn (spJournal K) W ta) := by
  subst hK
  exact k_fun (w_read_journal B.wx) (B.rm.mono hl) B.wx.toTx.d_read_journal.kp B.wx.toTx.g_read_journal (fun σ => atLL tk σ) ha hg (by decide) hst hpl
theorem nm_BadJournal (B : Bx X W k) (hg : Gl X "BadJournal" := by rfl) : Names X "BadJournal" (.ref (He.ga X.K "BadJournal")) := ⟨hg, by decide, .inl B.wx.toTx.g_BadJournal⟩
end
def spRd (K : PySem.W.Frag) : Sp := fun vs H Q _ => ∃ t : Str, vs = [.str t] ∧ t.length + 2 ≤ sizeLine ∧ (Txt.split t brk).length ≤ 70000 ∧ (∀ z ∈ Txt.split t brk, z.length ≤ 80000) ∧
  (∀ n, readJ t = .inl n → ∀ p H', Ex H H' → H' p = some (.tup [.str "BadJournal", .int n]) → Q (.ref p) H') ∧
  ∀ c, readJ t = .inr c → ∀ p a H' X, Ex H H' → DeskAt K H' a c [] X → (∀ b ∈ X, H b = none) → H' p = some (.tup [.str "ok", .ref a]) → Q (.ref p) H'
section
variable {P : Program} {w : World} {K : PySem.W.Frag} {mg : Str → Option Value} {base : Heap}
theorem sc_law_read : FnScope ["_law_text", "e"] ["_law_text"] xlaw_read.scope := ⟨rfl, rfl, rfl, by decide +kernel, rfl, by decide +kernel, by decide +kernel⟩
theorem w_law_read (T : Wx P K mg) : FnR P w K mg base (L2.CX P w) 11 (He.ga K "_law_read") (spRd K) :=
  mkRL 10 T T.toTx.d_law_read sc_law_read (by rintro vs H Q E ⟨_, rfl, _⟩; rfl) (fun _ _ _ _ _ _ us hl => match us, hl with | [_], _ => rfl) (fun cdv A outer s H vs Q E B tkL hsp => by
  obtain ⟨t, rfl, hz, hzn, hzl, hb, hq⟩ := hsp
  refine ⟨_, pss_one (ps_try_asT K (i := 1) rfl rfl sc_law_read.nd rfl rfl (nm_BadJournal B) (fun W pn xe tk2 _ => (have B2 := Bx.tr B (takes_down tk2); (pss_one (ps_ret (pe_tup (pa_cons pe_str (pa_cons (c_read_journal (K := K) B2 tk2 (pa_cons (pv 0) pa_nil)) pa_nil)))))))
    (fun a oe cls d pn hz hf => (pss_cons (ps_if (PW.pt (pw_or (pt_truthK K (pe_callB (call_isX K T.toTx.ec_BadJournal hz hf) (by rfl) T.toTx.f_isinstance b_isinstance (pa_cons (pv 1) (pa_cons (pe_glob (v := .ref (He.ga K "BadLine")) (by rfl) T.toTx.g_BadLine rfl) pa_nil))) (fun _ => rfl))
        (pw_or (pt_not (pt_truthK K (pe_callB (call_isX K T.toTx.ec_BadJournal hz hf) (by rfl) T.toTx.f_isinstance b_isinstance (pa_cons (pv 1) (pa_cons (pe_glob (v := .ref (He.ga K "MootError")) (by rfl) T.toTx.g_MootError rfl) pa_nil))) (fun _ => rfl)))
          (pw_or1 (pt_not (pt_truthK K (pe_callB (call_isX K T.toTx.ec_BadJournal hz hf) (by rfl) T.toTx.f_isinstance b_isinstance (pa_cons (pv 1) (pa_cons (pe_bltn (v := .ty "ValueError") (by rfl) T.toTx.f_ValueError b_ValueError rfl) pa_nil))) (fun _ => rfl)))))))
          (pss_one (ps_ret (pe_tup (pa_cons pe_str (pa_cons pe_non pa_nil))))) pss_nil)
      (pss_one (ps_ret (pe_tup (pa_cons pe_str (pa_cons (pe_xf (ExcC.xf T.toTx.ec_BadJournal) T.toTx.n_BadJournal_line hz hf (pv 1)) pa_nil)))))))), ?_⟩
  refine ⟨_, rfl, t, rfl, hz, hzn, hzl, fun n hn d H' e hd => ?_, fun c hc a H' X e hD hX => ?_⟩
  · refine ⟨T.toTx.e2_jour, fun a ha => ?_⟩
    refine qwh (b := false || (!true || !true)) (a_or (a_tr (v := .bl false) (fun Q q => ⟨_, rfl, _, _, _, d, _, rfl, (fun u hu => hu), T.toTx.kit_L, rfl, rfl, hd, q⟩) rfl) fun _ => a_or (a_not (a_tr (v := .bl true) (fun Q q => ⟨_, rfl, _, _, _, d, _, rfl, (fun u hu => hu), T.toTx.kit_M, rfl, rfl, hd, q⟩) rfl)) fun _ => a_not (a_tr (v := .bl true) (fun Q q => ⟨_, rfl, _, _, _, d, _, rfl, (fun u hu => hu), T.toTx.kit_V, rfl, rfl, hd, q⟩) rfl)) (fun z => by cases z) (fun _ => ?_)
    exact ⟨_, rfl, rfl, rfl, d, _, _, rfl, hd, rfl, by walk_at "le", fun p hp => hb n hn p _ (e.trans (Ex.new hp)) upd_same⟩
  · exact ⟨by walk_at "le", fun p hp => hq c hc p a _ X (e.trans (Ex.new hp)) (hD.ex (Ex.new hp)) hX upd_same⟩)
end
section
variable {X : Cx} {W : WX} {k : Nat} {e o : Expr} {es : List Expr} {ta : TA} {to : TE} {p pos apos : Pos} {pl : Sem Bool}
theorem c_law_read {K : PySem.W.Frag} (B : Bx X W k) (ha : PA X (e :: es) ta) (hK : X.K = K := by rfl) (hl : 11 ≤ k := by decide) (hg : Gl X "_law_read" := by rfl) (hst : starEach (e :: es) X.env = (false, eval e X.env) :: starEach es X.env := by rfl) (hpl : (backTo pos (starEach es X.env)).any (·.1) = false := by rfl) : PE X (.Call (.Name "_law_read" p) (e :: es) [] pos) (tFn (spRd K) W ta) := by
  subst hK
  exact k_fun (FnR.any (w_law_read B.wx) (fun _ _ _ _ h => h)) (B.rm.mono hl) B.wx.toTx.d_law_read.kp B.wx.toTx.g_law_read B.hx ha hg (by decide) hst hpl
end
theorem go_pos : ∀ {ls : List Str} {c : Core} {k n : Int}, goLines c ls k = .inl n → k < n
  | [], c, k, n, h => by cases h
  | l :: r, c, k, n, h => by
    unfold goLines at h
    cases e : c.step l with
    | none =>
      rw [e] at h
      have : k + 1 = n := by injection h
      omega
    | some d =>
      rw [e] at h
      have := go_pos (show goLines d r (k + 1) = .inl n from h)
      omega
theorem go_ok : ∀ {ls : List Str} {c d : Core} {k : Int}, CoreOk c → goLines c ls k = .inr d → CoreOk d ∧ d.opn = c.opn ∧ d.done = c.done ++ ls ∧ c.run ls = some d
  | [], c, d, k, ok, h => by
    have e : c = d := by injection h
    subst e
    exact ⟨ok, rfl, by simp, rfl⟩
  | l :: r, c, d, k, ok, h => by
    unfold goLines at h
    cases e : c.step l with
    | none => rw [e] at h; cases h
    | some c' =>
      rw [e] at h
      obtain ⟨h1, h2, h3⟩ := step_ok ok e
      obtain ⟨g1, g2, g3, g4⟩ := go_ok h1 (show goLines c' r (k + 1) = .inr d from h)
      refine ⟨g1, g2.trans h2, by rw [g3, h3, List.append_assoc]; rfl, ?_⟩
      unfold Core.run
      rw [e]
      exact g4
theorem read_pos {t : Str} {n : Int} (h : readJ t = .inl n) : 0 < n := by
  unfold readJ at h
  split at h
  · have : (1 : Int) = n := by injection h
    omega
  · split at h
    · have : (1 : Int) = n := by injection h
      omega
    · split at h
      · rename_i k hk
        have e : k = n := by injection h
        have := go_pos hk
        omega
      · split at h
        · cases h
        · rename_i r _ _ _ _ _ _
          injection h with h
          omega
theorem read_ok {t : Str} {c : Core} (h : readJ t = .inr c) : CoreOk c ∧ c.done.length ≤ (Txt.split t brk).length := by
  unfold readJ at h
  split at h
  · cases h
  · rename_i f r hfr
    split at h
    · cases h
    · split at h
      · cases h
      · rename_i d hd
        obtain ⟨g1, g2, g3, g4⟩ := go_ok (new_core _) hd
        split at h
        · have e : d = c := by injection h
          subst e
          refine ⟨g1, ?_⟩
          have e2 : d.done = r := g3
          have e3 := congrArg List.length hfr
          rw [List.length_dropLast] at e3
          have e4 : (f :: r).length = r.length + 1 := rfl
          rw [e2]
          omega
        · cases h
def spReads : Sp := fun vs H Q _ => ∃ t : Str, vs = [.str t] ∧ t.length + 2 ≤ sizeLine ∧ (Txt.split t brk).length ≤ 70000 ∧ (∀ z ∈ Txt.split t brk, z.length ≤ 80000) ∧ ∀ H', Ex H H' → Q (.bl true) H'
section
variable {P : Program} {w : World} {K : PySem.W.Frag} {mg : Str → Option Value} {base : Heap}
theorem sc_law_reads : FnScope ["_law_text", "_law_due", "_law_told_here"] ["_law_text"] xlaw_reads.scope := ⟨rfl, rfl, rfl, by decide +kernel, rfl, by decide +kernel, by decide +kernel⟩
theorem w_law_reads (T : Wx P K mg) : FnR P w K mg base (L2N.CX P w) 13 (He.ga K "_law_reads") (spReads) :=
  mkR 12 T T.toTx.d_law_reads sc_law_reads (by rintro vs H Q E ⟨_, rfl, _⟩; rfl) (fun _ _ _ _ _ _ us hl => match us, hl with | [_], _ => rfl) (fun cdv A outer s H vs Q E B hsp => by
  obtain ⟨t, rfl, hz, hzn, hzl, hq⟩ := hsp
  refine ⟨_, (pss_cons (st_set (i := 1) sc_law_reads.nd (c_law_led (K := K) B (pa_cons (pv 0) pa_nil)))
    (pss_cons (st_set (i := 2) sc_law_reads.nd (c_law_read (K := K) B (pa_cons (pv 0) pa_nil)))
    (pss_cons (ps_if (pt_cmpR op_gt (pe_ix (ix_seqK K) (pv 1) pe_int (fun _ _ => rfl)) pe_int (nomark _)) (pss_one (ps_ret (c_law_same (K := K) B (pa_cons (pv 2) (pa_cons (pe_tup (pa_cons pe_str (pa_cons (pe_ix (ix_seqK K) (pv 1) pe_int (fun _ _ => rfl)) pa_nil))) pa_nil))))) pss_nil)
    (pss_one (ps_ret (pe_andT (pe_cmpR (o_eqK K B.hu64) (pe_ix (ix_seqK K) (pv 2) pe_int (fun _ _ => rfl)) pe_str (nomark _)) (pe_one (c_law_alike (K := K) B (pa_cons (pe_ix (ix_seqK K) (pv 2) pe_int (fun _ _ => rfl)) (pa_cons (pe_ix (ix_seqK K) (pv 1) pe_int (fun _ _ => rfl)) pa_nil)))))))))), ?_⟩
  refine ⟨_, rfl, t, rfl, hz, hzn, hzl, fun n hn p1 H1 e1 hp1 => ?_, fun c hc p1 a H1 X e1 hD hX hp1 => ?_⟩
  · walk_at "st"
    refine ⟨_, rfl, t, rfl, hz, hzn, hzl, fun n' hn' p2 H2 e2 hp2 => ?_, fun c hc => ?_⟩
    · walk_at "st"
      have en : n = n' := by
        have := hn.symm.trans hn'
        injection this
      subst en
      have hpos := read_pos hn
      refine qwh (b := true) (a_test fun Q q => ?_) (fun _ => ?_) (fun z => by cases z)
      · refine ⟨_, rfl, .inr (.inl ⟨p1, _, _, _, rfl, rfl, st_of (e2 _ _ hp1), atI_nat (j := 0) rfl, _, _, rfl, rfl, ?_⟩)⟩
        show Q (.bl (decide ((0 : Int) < n))) _
        rw [decide_eq_true hpos]
        exact q
      · exact ⟨_, rfl, _, rfl, .inr (.inl ⟨p1, _, _, _, rfl, rfl, st_of (e2 _ _ hp1), atI_nat (j := 0) rfl, by walk_at "le", fun p3 hp3 => ⟨_, _, rfl, hd_same (n := 6) (hd_tup ((Ex.new hp3) _ _ hp2) (show 2 ≤ 90000 from by decide) (.cons hd_str (.cons hd_int .nil))) (hd_tup upd_same (show 2 ≤ 90000 from by decide) (.cons hd_str (.cons hd_int .nil))), hq _ (e1.trans (e2.trans (Ex.new hp3)))⟩⟩)⟩
    · have := hn.symm.trans hc
      cases this
  · walk_at "st"
    refine ⟨_, rfl, t, rfl, hz, hzn, hzl, fun n hn p2 H2 e2 hp2 => ?_, fun c' hc' p2 b H2 X2 e2 hD2 hX2 hp2 => ?_⟩
    · have := hc.symm.trans hn
      cases this
    · walk_at "st"
      have ec : c = c' := by
        have := hc.symm.trans hc'
        injection this
      subst ec
      obtain ⟨ok, hdl⟩ := read_ok hc
      refine qwh (b := false) (a_test fun Q q => ?_) (fun z => by cases z) (fun _ => ?_)
      · exact ⟨_, rfl, .inr (.inl ⟨p1, _, _, _, rfl, rfl, st_of (e2 _ _ hp1), atI_nat (j := 0) rfl, _, _, rfl, rfl, q⟩)⟩
      · refine ⟨_, rfl, .inr (.inl ⟨p2, _, _, _, rfl, rfl, st_of hp2, atI_nat (j := 0) rfl, .inl ⟨rfl, true, ?_, iteT ?_⟩⟩)⟩
        · rfl
        · exact ⟨_, rfl, .inr (.inl ⟨p2, _, _, _, rfl, rfl, st_of hp2, atI_nat (j := 1) rfl, _, rfl, .inr (.inl ⟨p1, _, _, _, rfl, rfl, st_of (e2 _ _ hp1), atI_nat (j := 1) rfl, b, a, c, c, [], [], X2, X, rfl, hD2, hD.ex e2, ok, ok, by omega, by omega, rfl, fun H' e => hq H' (e1.trans (e2.trans e))⟩)⟩)⟩)
end
section
variable {X : Cx} {W : WX} {k : Nat} {e o : Expr} {es : List Expr} {ta : TA} {to : TE} {p pos apos : Pos} {pl : Sem Bool}
theorem c_law_reads {K : PySem.W.Frag} (B : Bx X W k) (ha : PA X (e :: es) ta) (hK : X.K = K := by rfl) (hl : 13 ≤ k := by decide) (hg : Gl X "_law_reads" := by rfl) (hst : starEach (e :: es) X.env = (false, eval e X.env) :: starEach es X.env := by rfl) (hpl : (backTo pos (starEach es X.env)).any (·.1) = false := by rfl) : PE X (.Call (.Name "_law_reads" p) (e :: es) [] pos) (tFn (spReads) W ta) := by
  subst hK
  exact k_fun (w_law_reads B.wx) (B.rm.mono hl) B.wx.toTx.d_law_reads.kp B.wx.toTx.g_law_reads B.hx ha hg (by decide) hst hpl
end
end Bm
set_option Elab.async false
set_option linter.all false
set_option maxRecDepth 10000
set_option maxHeartbeats 400000
set_option pp.deepTerms false
set_option pp.maxSteps 1500
set_option maxErrors 6
/-! Walks: two desks that move alike. -/
namespace Bm
open PySem PySem.Spec PyProof.Rows L2 Evl TL RZ
local macro_rules | `(tactic| walk_at "sz") => `(tactic| first | assumption | (refine sz_of ?_; omega) | (refine sz_lt ?_; omega))
local macro_rules | `(tactic| walk_at "ne") => `(tactic| first | assumption | (refine Ne.symm ?_; assumption) | exact ne_new (by assumption) (by walk_at "hp") | exact Ne.symm (ne_new (by assumption) (by walk_at "hp")))
local macro_rules | `(tactic| walk_at "hp") => `(tactic| first | assumption | exact upd_same | (refine (upd_ne (by walk_at "ne")).trans ?_; walk_at "hp") | (refine Ex.at_ (by assumption) ?_; walk_at "hp"))
local macro_rules | `(tactic| walk_at "sq") => `(tactic| first | assumption | (refine sq_of ?_; walk_at "hp") | (refine st_of ?_; walk_at "hp") | (refine ex_l (by assumption) ?_; walk_at "sq") | (refine ex_t (by assumption) ?_; walk_at "sq"))
local macro_rules | `(tactic| walk_at "sd") => `(tactic| first | exact (show (0 : Int) < _ from by omega) | exact (show (0 : Int) < _ ∧ _ < (1073741824 : Int) from ⟨by omega, by omega⟩) | exact (show CPow _ _ from ⟨by decide, by decide, by decide⟩) | exact (show CMul _ _ from .inl ⟨by omega, by omega⟩) | exact (show CMul _ _ from .inr ⟨by omega, by omega⟩))
local macro_rules | `(tactic| walk_at "g1") => `(tactic| first
  | refine ⟨_, rfl, ?_⟩
  | refine ⟨_, _, rfl, rfl, ?_⟩
  | refine .inl ⟨_, _, rfl, rfl, ?_⟩
  | refine .inl ⟨rfl, ?_⟩
  | refine .inl (.inl ⟨_, rfl, ?_⟩)
  | (refine ⟨_, _, rfl, ⟨?_, rfl⟩, ?_⟩; (walk_at "sz"))
  | refine ⟨(by walk_at "sd"), ?_⟩)
local macro_rules | `(tactic| walk_at "go") => `(tactic| repeat walk_at "g1")
local macro_rules | `(tactic| walk_at "st") => `(tactic| dsimp only [gName])
local macro_rules | `(tactic| walk_at "ln") => `(tactic| first | exact (show 0 < 1000 from by decide) | exact (show 1 < 1000 from by decide) | exact (show 2 < 1000 from by decide) | exact (show 3 < 1000 from by decide) | exact (show 4 < 1000 from by decide) | exact (show 5 < 1000 from by decide) | exact (show 6 < 1000 from by decide) | exact (show 7 < 1000 from by decide))
local macro_rules | `(tactic| walk_at "le") => `(tactic| first | exact (show 0 ≤ sizeLine from by decide) | exact (show 1 ≤ sizeLine from by decide) | exact (show 2 ≤ sizeLine from by decide) | exact (show 3 ≤ sizeLine from by decide) | exact (show 4 ≤ sizeLine from by decide) | exact (show 5 ≤ sizeLine from by decide) | exact (show 6 ≤ sizeLine from by decide) | exact (show 7 ≤ sizeLine from by decide) | exact (show 8 ≤ sizeLine from by decide))
local macro_rules | `(tactic| walk_at "nt") => `(tactic| first | exact nt_ins | exact nt_lst | exact nt_dK)
local macro_rules | `(tactic| walk_at "fr") => `(tactic| first | assumption | exact Fr.refl | exact Fr.ex (by assumption) | (refine Fr.put ?_ (by walk_at "hp") (by walk_at "nt") (by simp); walk_at "fr") | (refine Fr.new ?_ (by assumption); walk_at "fr"))
section
variable {X : Cx} {W : WX} {k : Nat} {e o : Expr} {es : List Expr} {ta : TA} {to : TE} {p pos apos : Pos} {pl : Sem Bool}
theorem c_law_brief {K : PySem.W.Frag} (B : Bx X W k) (ha : PA X (e :: es) ta) (hK : X.K = K := by rfl) (hl : 9 ≤ k := by decide) (hg : Gl X "_law_brief" := by rfl) (hst : starEach (e :: es) X.env = (false, eval e X.env) :: starEach es X.env := by rfl) (hpl : (backTo pos (starEach es X.env)).any (·.1) = false := by rfl) : PE X (.Call (.Name "_law_brief" p) (e :: es) [] pos) (tFn (spTold K dBrief) W ta) := by
  subst hK
  exact k_fun (w_law_brief B.wx) (B.rm.mono hl) B.wx.toTx.d_law_brief.kp B.wx.toTx.g_law_brief B.hx ha hg (by decide) hst hpl
end
abbrev St2 : Type := Core × List Str × List Str
def Mv2 (back : Bool) (s s' : St2) : Prop := (∃ l d v v', Moves back s.1 s.2.1 (some (l, d, v)) ∧ Moves back s.1 s.2.2 (some (l, d, v')) ∧ s' = (d, v, v')) ∨ (Moves back s.1 s.2.1 none ∧ Moves back s.1 s.2.2 none ∧ s' = s)
structure Ok2 (s : St2) : Prop where
  ok : CoreOk s.1
  hd : s.1.done.length ≤ 80000
  hu : s.2.1.length ≤ 80000
  hv : s.2.2.length ≤ 80000
def MvN (back : Bool) : Nat → St2 → St2 → Prop
  | 0, s, s' => s' = s ∧ Ok2 s
  | n + 1, s, s' => Ok2 s ∧ ∃ m, Mv2 back s m ∧ MvN back n m s'
theorem MvN.ok {back : Bool} : ∀ {n : Nat} {s s' : St2}, MvN back n s s' → Ok2 s
  | 0, _, _, h => h.2
  | _ + 1, _, _, h => h.1
def Apart (X Y : List Addr) : Prop := ∀ b ∈ X, b ∉ Y
theorem Apart.sym {X Y : List Addr} (h : Apart X Y) : Apart Y X := fun b hb z => h b z hb
/-- a desk moves; the other stands apart still -/
theorem Apart.nw {X X' Y : List Addr} {H : Hp} (h : Apart X Y) (n : Nw X X' H) (t : ∀ b ∈ Y, ∃ o, H b = some o) : Apart X' Y := fun b hb hy => (n b hb).elim (fun z => h b z hy) fun z => by
  obtain ⟨o, ho⟩ := t b hy
  rw [z] at ho
  cases ho
theorem Fr.left {X Y : List Addr} {H H' : Hp} (f : Fr X H H') : Fr (X ++ Y) H H' := f.mono fun _ h => List.mem_append_left _ h
theorem Fr.right {X Y : List Addr} {H H' : Hp} (f : Fr Y H H') : Fr (X ++ Y) H H' := f.mono fun _ h => List.mem_append_right _ h
theorem Nw.app {X X' Y Y' : List Addr} {H : Hp} (n : Nw X X' H) (m : Nw Y Y' H) : Nw (X ++ Y) (X' ++ Y') H := fun b hb => (List.mem_append.mp hb).elim (fun z => (n b z).imp (List.mem_append_left _) id) fun z => (m b z).imp (List.mem_append_right _) id
theorem Nw.back {X X' : List Addr} {H H1 : Hp} (n : Nw X X' H1) (k : ∀ b, H1 b = none → H b = none) : Nw X X' H := fun b hb => (n b hb).imp id (k b)
def spMA (K : PySem.W.Frag) : Sp := fun vs H Q _ => ∃ (a b : Addr) (n : Int) (back : Bool) (c : Core) (un un' : List Str) (X Y : List Addr) (s : St2), vs = [.ref a, .ref b, .int n, .bl back] ∧ 0 ≤ n ∧ n ≤ 1000 ∧ DeskAt K H a c un X ∧ DeskAt K H b c un' Y ∧ Apart X Y ∧ MvN back n.toNat (c, un, un') s ∧
  ∀ H' X' Y', DeskAt K H' a s.1 s.2.1 X' → DeskAt K H' b s.1 s.2.2 Y' → Apart X' Y' → Fr (X ++ Y) H H' → Nw (X ++ Y) (X' ++ Y') H → Q (.bl true) H'
section
variable {P : Program} {w : World} {K : PySem.W.Frag} {mg : Str → Option Value} {base : Heap}
theorem sc_law_moves_alike : FnScope ["_law_one", "_law_two", "_law_count", "_law_back", "_law_k"] ["_law_one", "_law_two", "_law_count", "_law_back"] xlaw_moves_alike.scope := ⟨rfl, rfl, rfl, by decide +kernel, rfl, by decide +kernel, by decide +kernel⟩
theorem w_law_moves_alike (T : Wx P K mg) : FnR P w K mg base (L2N.CX P w) 12 (He.ga K "_law_moves_alike") (spMA K) :=
  mkR 11 T T.toTx.d_law_moves_alike sc_law_moves_alike (by rintro vs H Q E ⟨_, _, _, _, _, _, _, _, _, _, rfl, _⟩; rfl) (fun _ _ _ _ _ _ us hl => match us, hl with | [_, _, _, _], _ => rfl) (fun cdv A outer s H vs Q E B hsp => by
  obtain ⟨a, b, n, back, c, un, un', X, Y, s, rfl, h0, h1, hD, hE, hap, hmv, hq⟩ := hsp
  refine ⟨_, (pss_cons (ps_for (L2.passes_of rfl) B.calm (pi_range1 (by rfl) B.wx.toTx.f_range (pa_cons (pv 2) pa_nil)) (pg_name (i := 4) sc_law_moves_alike.nd rfl (by first | exact .inl rfl | exact .inr rfl)) (pss_cons (ps_if (pt_not (pt_truthK K (c_law_same (K := K) B (pa_cons (c_law_moved (K := K) B (pa_cons (pv 0) (pa_cons (pv 3) pa_nil))) (pa_cons (c_law_moved (K := K) B (pa_cons (pv 1) (pa_cons (pv 3) pa_nil))) pa_nil))) (fun _ => rfl))) (pss_one (ps_ret pe_bl)) pss_nil)
    (pss_one (ps_if (pt_not (pt_truthK K (c_law_same (K := K) B (pa_cons (c_law_brief (K := K) B (pa_cons (pv 0) pa_nil)) (pa_cons (c_law_brief (K := K) B (pa_cons (pv 1) pa_nil)) pa_nil))) (fun _ => rfl))) (pss_one (ps_ret pe_bl)) pss_nil))))
    (pss_one (ps_ret (c_law_alike (K := K) B (pa_cons (pv 0) (pa_cons (pv 1) pa_nil)))))), ?_⟩
  refine ⟨_, rfl, n, rfl, by omega, by omega, for_it walk_range (fun i σ' H' => ∃ (X' Y' : List Addr) (m : St2) (u : Option V), σ' = [some (.ref a), some (.ref b), some (.int n), some (.bl back), u] ∧ DeskAt K H' a m.1 m.2.1 X' ∧ DeskAt K H' b m.1 m.2.2 Y' ∧ Apart X' Y' ∧ Fr (X ++ Y) H H' ∧ Nw (X ++ Y) (X' ++ Y') H ∧ MvN back (n.toNat - i) m s)
    ⟨X, Y, (c, un, un'), none, rfl, hD, hE, hap, Fr.refl, Nw.refl, hmv⟩ (fun _ _ _ _ _ => True.intro) ?_ ?_⟩
  · rintro i x σ' H' H'' hi ⟨X', Y', m, u, rfl, hD1, hE1, hap1, f1, nw1, hm1⟩ ⟨rfl, rfl⟩
    walk_at "st"
    obtain ⟨k, hk⟩ : ∃ k, n.toNat - i = k + 1 := ⟨n.toNat - i - 1, by omega⟩
    rw [hk] at hm1
    obtain ⟨ok1, m2, hmv2, hm2⟩ := hm1
    have hk2 : n.toNat - (i + 1) = k := by omega
    have nb1 : ∀ b, H'' b = none → H b = none := f1.3
    refine qwhP (fun b' H1 => b' = false ∧ ∃ X2 Y2, DeskAt K H1 a m2.1 m2.2.1 X2 ∧ DeskAt K H1 b m2.1 m2.2.2 Y2 ∧ Apart X2 Y2 ∧ Fr (X ++ Y) H H1 ∧ Nw (X ++ Y) (X2 ++ Y2) H) (fun Q q => ?_) (fun H4 p4 => by cases p4.1) (fun H4 p4 => ?_)
    · rcases hmv2 with ⟨l, d, v, v', g1, g2, rfl⟩ | ⟨g1, g2, rfl⟩
      · refine ⟨_, rfl, _, rfl, a, back, m.1, m.2.1, X', some (l, d, v), rfl, hD1, ok1.ok, ok1.hd, ok1.hu, g1, (fun z => by cases z), fun l' d' v0 hr p H2 X2 hD2 f2 nw2 hp => ?_⟩
        cases hr
        have hE2 := hE1.fr f2 hap1.sym
        have hap2 := hap1.nw nw2 hE1.tr
        refine ⟨_, rfl, _, rfl, b, back, m.1, m.2.2, Y', some (l, d, v'), rfl, hE2, ok1.ok, ok1.hd, ok1.hv, g2, (fun z => by cases z), fun l' d' v1 hr p2 H3 Y2 hE3 f3 nw3 hp2 => ?_⟩
        cases hr
        have hD3 := hD2.fr f3 hap2
        have hap3 := (hap2.sym.nw nw3 hD2.tr).sym
        refine ⟨_, _, rfl, hd_same (n := 6) (d := .seq true [dS "ok", dS l]) (hd_tup (f3.2 _ _ hp) (show 2 ≤ 90000 from by decide) (.cons hd_str (.cons hd_str .nil))) (hd_tup hp2 (show 2 ≤ 90000 from by decide) (.cons hd_str (.cons hd_str .nil))), true, rfl, q false H3 ⟨rfl, X2, Y2, hD3, hE3, hap3, ?_, ?_⟩⟩
        · exact f1.trans ((Fr.left (Y := Y') f2).trans (Fr.right (X := X') f3) (fun b hb => .inl hb)) nw1
        · exact (nw1.trans (nw2.app (nw3.back f2.3)) nb1)
      · refine ⟨_, rfl, _, rfl, a, back, m2.1, m2.2.1, X', none, rfl, hD1, ok1.ok, ok1.hd, ok1.hu, g1, (fun _ p H2 e2 hp => ?_), (fun _ _ _ z => by cases z)⟩
        refine ⟨_, rfl, _, rfl, b, back, m2.1, m2.2.2, Y', none, rfl, hE1.ex e2, ok1.ok, ok1.hd, ok1.hv, g2, (fun _ p2 H3 e3 hp2 => ?_), (fun _ _ _ z => by cases z)⟩
        refine ⟨_, _, rfl, hd_same (n := 6) (d := .seq true [dS (if back = true then "NothingToUndo" else "NothingToRedo"), .sc .non]) (hd_tup (e3 _ _ hp) (show 2 ≤ 90000 from by decide) (.cons hd_str (.cons (.inl ⟨rfl, .inl rfl⟩) .nil))) (hd_tup hp2 (show 2 ≤ 90000 from by decide) (.cons hd_str (.cons (.inl ⟨rfl, .inl rfl⟩) .nil))), true, rfl, q false H3 ⟨rfl, X', Y', (hD1.ex e2).ex e3, (hE1.ex e2).ex e3, hap1, ?_, nw1⟩⟩
        exact f1.same (Fr.ex (e2.trans e3))
    · obtain ⟨_, X2, Y2, hD2, hE2, hap2, f2, nw2⟩ := p4
      have ok2 := hm2.ok
      refine swhX (b := !true) (ax_not fun Q q => ?_) (fun z => by cases z) (fun _ H5 e5 => ?_)
      · exact ⟨_, rfl, a, m2.1, m2.2.1, X2, rfl, hD2, ok2.ok, ok2.hd, fun p H5 e5 h5 => ⟨_, rfl, b, m2.1, m2.2.2, Y2, rfl, hE2.ex e5, ok2.ok, ok2.hd, fun p2 H6 e6 h6 => ⟨_, _, rfl, Sm.mono (hd_same (Hd.ex h5 e6) h6), true, rfl, q H6 (e5.trans e6)⟩⟩⟩
      · refine ⟨X2, Y2, m2, _, rfl, hD2.ex e5, hE2.ex e5, hap2, f2.same (Fr.ex e5), nw2, ?_⟩
        rw [hk2]
        exact hm2
  · rintro σ' H' ⟨X', Y', m, u, rfl, hD1, hE1, hap1, f1, nw1, hm1⟩
    rw [Nat.sub_self] at hm1
    obtain ⟨rfl, ok1⟩ := hm1
    exact ⟨_, rfl, _, rfl, a, b, s.1, s.1, s.2.1, s.2.2, X', Y', rfl, hD1, hE1, ok1.ok, ok1.ok, ok1.hd, ok1.hd, rfl, fun H4 e4 => hq H4 X' Y' (hD1.ex e4) (hE1.ex e4) hap1 (f1.same (Fr.ex e4)) nw1⟩)
end
section
variable {X : Cx} {W : WX} {k : Nat} {e o : Expr} {es : List Expr} {ta : TA} {to : TE} {p pos apos : Pos} {pl : Sem Bool}
theorem c_law_moves_alike {K : PySem.W.Frag} (B : Bx X W k) (ha : PA X (e :: es) ta) (hK : X.K = K := by rfl) (hl : 12 ≤ k := by decide) (hg : Gl X "_law_moves_alike" := by rfl) (hst : starEach (e :: es) X.env = (false, eval e X.env) :: starEach es X.env := by rfl) (hpl : (backTo pos (starEach es X.env)).any (·.1) = false := by rfl) : PE X (.Call (.Name "_law_moves_alike" p) (e :: es) [] pos) (tFn (spMA K) W ta) := by
  subst hK
  exact k_fun (w_law_moves_alike B.wx) (B.rm.mono hl) B.wx.toTx.d_law_moves_alike.kp B.wx.toTx.g_law_moves_alike B.hx ha hg (by decide) hst hpl
end
end Bm
set_option Elab.async false
set_option linter.all false
set_option maxRecDepth 10000
set_option maxHeartbeats 400000
set_option pp.deepTerms false
set_option pp.maxSteps 1500
set_option maxErrors 6
/-! Walks: what the law draws: words, a setting, lines that are bad. -/
namespace Bm
open PySem PySem.Spec PyProof.Rows L2 Evl TL RZ
local macro_rules | `(tactic| walk_at "sz") => `(tactic| first | assumption | (refine sz_of ?_; omega) | (refine sz_lt ?_; omega))
local macro_rules | `(tactic| walk_at "ne") => `(tactic| first | assumption | (refine Ne.symm ?_; assumption) | exact ne_new (by assumption) (by walk_at "hp") | exact Ne.symm (ne_new (by assumption) (by walk_at "hp")))
local macro_rules | `(tactic| walk_at "hp") => `(tactic| first | assumption | exact upd_same | (refine (upd_ne (by walk_at "ne")).trans ?_; walk_at "hp") | (refine Ex.at_ (by assumption) ?_; walk_at "hp"))
local macro_rules | `(tactic| walk_at "sq") => `(tactic| first | assumption | (refine sq_of ?_; walk_at "hp") | (refine st_of ?_; walk_at "hp") | (refine ex_l (by assumption) ?_; walk_at "sq") | (refine ex_t (by assumption) ?_; walk_at "sq"))
local macro_rules | `(tactic| walk_at "sd") => `(tactic| first | exact (show (0 : Int) < _ from by omega) | exact (show (0 : Int) < _ ∧ _ < (1073741824 : Int) from ⟨by omega, by omega⟩) | exact (show CPow _ _ from ⟨by decide, by decide, by decide⟩) | exact (show CMul _ _ from .inl ⟨by omega, by omega⟩) | exact (show CMul _ _ from .inr ⟨by omega, by omega⟩))
local macro_rules | `(tactic| walk_at "g1") => `(tactic| first
  | refine ⟨_, rfl, ?_⟩
  | refine ⟨_, _, rfl, rfl, ?_⟩
  | refine .inl ⟨_, _, rfl, rfl, ?_⟩
  | refine .inl ⟨rfl, ?_⟩
  | refine .inl (.inl ⟨_, rfl, ?_⟩)
  | (refine ⟨_, _, rfl, ⟨?_, rfl⟩, ?_⟩; (walk_at "sz"))
  | refine ⟨(by walk_at "sd"), ?_⟩)
local macro_rules | `(tactic| walk_at "go") => `(tactic| repeat walk_at "g1")
local macro_rules | `(tactic| walk_at "st") => `(tactic| dsimp only [gName])
local macro_rules | `(tactic| walk_at "ln") => `(tactic| first | exact (show 0 < 1000 from by decide) | exact (show 1 < 1000 from by decide) | exact (show 2 < 1000 from by decide) | exact (show 3 < 1000 from by decide) | exact (show 4 < 1000 from by decide) | exact (show 5 < 1000 from by decide) | exact (show 6 < 1000 from by decide) | exact (show 7 < 1000 from by decide))
local macro_rules | `(tactic| walk_at "le") => `(tactic| first | exact (show 0 ≤ sizeLine from by decide) | exact (show 1 ≤ sizeLine from by decide) | exact (show 2 ≤ sizeLine from by decide) | exact (show 3 ≤ sizeLine from by decide) | exact (show 4 ≤ sizeLine from by decide) | exact (show 5 ≤ sizeLine from by decide) | exact (show 6 ≤ sizeLine from by decide) | exact (show 7 ≤ sizeLine from by decide) | exact (show 8 ≤ sizeLine from by decide))
local macro_rules | `(tactic| walk_at "nt") => `(tactic| first | exact nt_ins | exact nt_lst | exact nt_dK)
local macro_rules | `(tactic| walk_at "fr") => `(tactic| first | assumption | exact Fr.refl | exact Fr.ex (by assumption) | (refine Fr.put ?_ (by walk_at "hp") (by walk_at "nt") (by simp); walk_at "fr") | (refine Fr.new ?_ (by assumption); walk_at "fr"))
section
variable {K : PySem.W.Frag} {H : Hp} {Q : VK} {p : Addr} {xs : List V} {i : Int} {v : V}
theorem ixl (h : H p = some (.lst xs)) (e : atI xs i = some v) (q : Q v H) : rIx K (.ref p) (.int i) H Q := .inl ⟨_, _, _, _, rfl, rfl, sq_of h, e, q⟩
theorem ixt (h : H p = some (.tup xs)) (e : atI xs i = some v) (q : Q v H) : rIx K (.ref p) (.int i) H Q := .inr (.inl ⟨_, _, _, _, rfl, rfl, st_of h, e, q⟩)
theorem ixs {z : Str} {c : Nat} (h : z.length ≤ sizeLine) (e : atI z.cps.toList i = some c) (q : Q (.str ⟨#[c]⟩) H) : rIx K (.str z) (.int i) H Q := .inr (.inr ⟨_, _, _, rfl, rfl, h, e, q⟩)
theorem ri (q : Q (.int i) H) : rInt [.int i] H Q := .inl (.inl ⟨_, rfl, q⟩)
theorem sll {lo hi : Option Int} (h : H p = some (.lst xs)) (q : ∀ p', H p' = none → Q (.ref p') (upd H p' (.lst (cutV xs lo hi)))) : rSlU K (.ref p) lo hi H Q := .inl ⟨p, _, rfl, sq_of h, q⟩
theorem sls {z : Str} {lo hi : Option Int} (h : z.length ≤ sizeLine) (q : Q (.str (cutS z lo hi)) H) : rSlU K (.str z) lo hi H Q := .inr (.inr ⟨z, rfl, h, q⟩)
theorem adi {a b : Int} (q : Q (.int (a + b)) H) : rAddU K (.int a) (.int b) H Q := .inl ⟨_, _, rfl, rfl, q⟩
theorem ads {a b : Str} (h : a.length + b.length ≤ 100000) (q : Q (.str (a ++ b)) H) : rAddU K (.str a) (.str b) H Q := .inr (.inl ⟨_, _, rfl, rfl, sz_of h, q⟩)
theorem adl {a b : Addr} {xs ys : List V} (ha : H a = some (.lst xs)) (hb : H b = some (.lst ys)) (hz : xs.length + ys.length ≤ 100000) (q : ∀ p', H p' = none → Q (.ref p') (upd H p' (.lst (xs ++ ys)))) : rAddU K (.ref a) (.ref b) H Q := .inr (.inr (.inl ⟨a, b, _, _, rfl, rfl, ha, hb, sz_of hz, q⟩))
theorem lenl (h : H p = some (.lst xs)) : LenV K (.ref p) H xs.length := .inl ⟨_, sq_of h, rfl⟩
theorem lens {z : Str} (h : z.length ≤ sizeLine) : LenV K (.str z) H z.length := ⟨h, rfl⟩
theorem eqS {a b : Str} (q : Q (.bl (decide (a = b))) H) : rEqU K (.str a) (.str b) H Q := .inl ⟨rfl, by rw [dcS]; exact q⟩
theorem eqI {a b : Int} (q : Q (.bl (decide (a = b))) H) : rEqU K (.int a) (.int b) H Q := .inl ⟨rfl, by rw [dcI]; exact q⟩
theorem neI {a b : Int} (q : Q (.bl (!decide (a = b))) H) : rNeU K (.int a) (.int b) H Q := .inl ⟨rfl, by rw [dcI]; exact q⟩
theorem neS {a b : Str} (q : Q (.bl (!decide (a = b))) H) : rNeU K (.str a) (.str b) H Q := .inl ⟨rfl, by rw [dcS]; exact q⟩
end
theorem sz100 {n : Nat} (h : n ≤ 100000) : n ≤ sizeLine := sz_of h
theorem atI_in {α β : Type} {f : α → β} {xs : List α} {j : Int} (h0 : 0 ≤ j) (h1 : j < xs.length) : ∃ z ∈ xs, atI (xs.map f) j = some (f z) := by
  have hj : j.toNat < xs.length := by omega
  refine ⟨xs[j.toNat], List.getElem_mem hj, ?_⟩
  refine Eq.trans (congrArg (atI (xs.map f)) (show j = ((j.toNat : Nat) : Int) by omega)) (atI_nat ?_)
  rw [List.getElem?_map, List.getElem?_eq_getElem hj]
  rfl
theorem cut_to {xs : List V} {k : Nat} : cutV xs none (some ((k : Nat) : Int)) = xs.take k := by
  unfold cutV
  rw [HT.sIx_nat, HT.sIx_none, List.drop_zero, Nat.sub_zero]
  rcases Nat.lt_or_ge k xs.length with h | h
  · rw [Nat.min_eq_left (Nat.le_of_lt h)]
  · rw [Nat.min_eq_right h, List.take_length, List.take_of_length_le h]
theorem cut_toI {xs : List V} {i : Int} (h : 0 ≤ i) : cutV xs none (some i) = xs.take i.toNat := by
  have e : i = ((i.toNat : Nat) : Int) := by omega
  conv => lhs; rw [e]
  exact cut_to
theorem cut_fromI {xs : List V} {i : Int} (h : 0 ≤ i) : cutV xs (some i) none = xs.drop i.toNat := by
  have e : i = ((i.toNat : Nat) : Int) := by omega
  conv => lhs; rw [e]
  exact cut_from
theorem len4 {α : Type} {l : List α} (h : (l.length : Int) = 4) : ∃ a b c d, l = [a, b, c, d] := by
  match l, (show l.length = 4 by omega) with
  | [a, b, c, d], _ => exact ⟨_, _, _, _, rfl⟩
theorem len8 {α : Type} {l : List α} (h : (l.length : Int) = 8) : ∃ a b c d e f g i, l = [a, b, c, d, e, f, g, i] := by
  match l, (show l.length = 8 by omega) with
  | [a, b, c, d, e, f, g, i], _ => exact ⟨_, _, _, _, _, _, _, _, rfl⟩
theorem len11 {α : Type} {l : List α} (h : (l.length : Int) = 11) : ∃ a b c d e f g i j k m, l = [a, b, c, d, e, f, g, i, j, k, m] := by
  match l, (show l.length = 11 by omega) with
  | [a, b, c, d, e, f, g, i, j, k, m], _ => exact ⟨_, _, _, _, _, _, _, _, _, _, _, rfl⟩
theorem len12 {α : Type} {l : List α} (h : (l.length : Int) = 12) : ∃ a b c d e f g i j k m n, l = [a, b, c, d, e, f, g, i, j, k, m, n] := by
  match l, (show l.length = 12 by omega) with
  | [a, b, c, d, e, f, g, i, j, k, m, n], _ => exact ⟨_, _, _, _, _, _, _, _, _, _, _, _, rfl⟩
theorem modR {a m : Int} (h : 0 < m) : 0 ≤ a % m ∧ a % m < m := ⟨Int.emod_nonneg _ (by omega), Int.emod_lt_of_pos _ h⟩
/-! ### rows with one put in its place -/
def spRepl : Sp := fun vs H Q _ => ∃ (a : Addr) (i : Int) (v : V) (xs : List V), vs = [.ref a, .int i, v] ∧ H a = some (.lst xs) ∧ 0 ≤ i ∧ i < xs.length ∧ xs.length ≤ 1000 ∧ ∀ p H', H p = none → Ex H H' → H' p = some (.lst (xs.set i.toNat v)) → Q (.ref p) H'
section
variable {P : Program} {w : World} {K : PySem.W.Frag} {mg : Str → Option Value} {base : Heap}
theorem sc_law_replaced : FnScope ["_law_rows", "_law_at", "_law_row"] ["_law_rows", "_law_at", "_law_row"] xlaw_replaced.scope := ⟨rfl, rfl, rfl, by decide +kernel, rfl, by decide +kernel, by decide +kernel⟩
theorem w_law_replaced (T : Wx P K mg) : FnR P w K mg base (L2N.CX P w) 1 (He.ga K "_law_replaced") (spRepl) :=
  mkR 0 T T.toTx.d_law_replaced sc_law_replaced (by rintro vs H Q E ⟨_, _, _, _, rfl, _⟩; rfl) (fun _ _ _ _ _ _ us hl => match us, hl with | [_, _, _], _ => rfl) (fun cdv A outer s H vs Q E B hsp => by
  obtain ⟨a, i, v, xs, rfl, ha, h0, h1, hz, hq⟩ := hsp
  refine ⟨_, (pss_one (ps_ret (pe_op (o_addK K) (pe_op (o_addK K) (pe_slice sl_any (pv 0) po_none (po_some (pv 1))) (pe_lst (pa_cons (pv 2) pa_nil))) (pe_slice sl_any (pv 0) (po_some (pe_op (o_addK K) (pv 1) pe_int)) po_none)))), ?_⟩
  refine ⟨_, rfl, _, rfl, _, rfl, sll ha fun p1 hp1 => ?_⟩
  have e1 := Ex.new (o := .lst (cutV xs none (some i))) hp1
  refine ⟨_, rfl, by walk_at "le", fun p2 hp2 => ?_⟩
  have e2 := Ex.new (o := .lst [v]) hp2
  refine adl (e2 _ _ upd_same) upd_same ?_ fun p3 hp3 => ?_
  · have := cutV_length xs none (some i)
    show _ + 1 ≤ 100000
    omega
  have e3 := Ex.new (o := .lst (cutV xs none (some i) ++ [v])) hp3
  have e13 := e1.trans (e2.trans e3)
  refine ⟨_, rfl, _, rfl, adi ⟨_, rfl, sll (e13 _ _ ha) fun p4 hp4 => ?_⟩⟩
  have e4 := Ex.new (o := .lst (cutV xs (some (i + 1)) none)) hp4
  refine adl (e4 _ _ upd_same) upd_same ?_ fun p5 hp5 => ?_
  · have h1 := cutV_length xs none (some i)
    have h2 := cutV_length xs (some (i + 1)) none
    rw [List.length_append]
    show _ + 1 + _ ≤ 100000
    omega
  refine hq p5 _ (fresh_back (e13.trans e4) hp5) ((e13.trans e4).trans (Ex.new hp5)) ?_
  rw [upd_same, cut_toI h0, cut_fromI (by omega), List.set_eq_take_append_cons_drop, if_pos (by omega)]
  have e : (i + 1).toNat = i.toNat + 1 := by omega
  rw [e, List.append_assoc]
  rfl)
end
section
variable {X : Cx} {W : WX} {k : Nat} {e o : Expr} {es : List Expr} {ta : TA} {to : TE} {p pos apos : Pos} {pl : Sem Bool}
theorem c_law_replaced {K : PySem.W.Frag} (B : Bx X W k) (ha : PA X (e :: es) ta) (hK : X.K = K := by rfl) (hl : 1 ≤ k := by decide) (hg : Gl X "_law_replaced" := by rfl) (hst : starEach (e :: es) X.env = (false, eval e X.env) :: starEach es X.env := by rfl) (hpl : (backTo pos (starEach es X.env)).any (·.1) = false := by rfl) : PE X (.Call (.Name "_law_replaced" p) (e :: es) [] pos) (tFn (spRepl) W ta) := by
  subst hK
  exact k_fun (w_law_replaced B.wx) (B.rm.mono hl) B.wx.toTx.d_law_replaced.kp B.wx.toTx.g_law_replaced B.hx ha hg (by decide) hst hpl
end
/-! ### a setting -/
def spSet : Sp := fun vs H Q _ => ∃ (a : Addr) (ns : List Int), vs = [.ref a] ∧ H a = some (.lst (ns.map V.int)) ∧ (ns.length : Int) = 12 ∧
  ∀ p q H' pu c0 c1 c2 c3, H p = none → H q = none → Ex H H' → H' p = some (.tup [.int pu, .ref q]) → H' q = some (.lst [.int c0, .int c1, .int c2, .int c3]) → (0 ≤ pu ∧ pu ≤ 1000000000000) → (∀ c ∈ [c0, c1, c2, c3], 0 ≤ c ∧ c ≤ 3) → Q (.ref p) H'
section
variable {P : Program} {w : World} {K : PySem.W.Frag} {mg : Str → Option Value} {base : Heap}
theorem sc_law_setting : FnScope ["_law_draws_here", "_law_purse", "_law_draw"] ["_law_draws_here"] xlaw_setting.scope := ⟨rfl, rfl, rfl, by decide +kernel, rfl, by decide +kernel, by decide +kernel⟩
theorem w_law_setting (T : Wx P K mg) : FnR P w K mg base (L2N.CX P w) 1 (He.ga K "_law_setting") (spSet) :=
  mkR 0 T T.toTx.d_law_setting sc_law_setting (by rintro vs H Q E ⟨_, _, rfl, _⟩; rfl) (fun _ _ _ _ _ _ us hl => match us, hl with | [_], _ => rfl) (fun cdv A outer s H vs Q E B hsp => by
  obtain ⟨a, ns, rfl, ha, hl, hq⟩ := hsp
  refine ⟨_, (pss_cons (st_set (i := 1) sc_law_setting.nd (pe_ix (ix_seqK K) (pe_lst (pa_cons pe_int (pa_cons pe_int (pa_cons pe_int (pa_cons pe_int (pa_cons pe_int (pa_cons pe_int (pa_cons (pe_op op_sub (pe_op op_pow pe_int pe_int) (pe_op op_mod (pe_callTy call_int (by rfl) B.wx.toTx.f_int b_int (pa_cons (pe_ix (ix_seqK K) (pv 0) pe_int (fun _ _ => rfl)) pa_nil)) pe_int)) (pa_cons (pe_op op_mod (pe_callTy call_int (by rfl) B.wx.toTx.f_int b_int (pa_cons (pe_ix (ix_seqK K) (pv 0) pe_int (fun _ _ => rfl)) pa_nil)) pe_int) pa_nil))))))))) (pe_op op_mod (pe_callTy call_int (by rfl) B.wx.toTx.f_int b_int (pa_cons (pe_ix (ix_seqK K) (pv 0) pe_int (fun _ _ => rfl)) pa_nil)) pe_int) (fun _ _ => rfl)))
    (pss_cons (ps_if (pt_cmpR (o_eqK K B.hu64) (pe_op op_mod (pe_callTy call_int (by rfl) B.wx.toTx.f_int b_int (pa_cons (pe_ix (ix_seqK K) (pv 0) pe_int (fun _ _ => rfl)) pa_nil)) pe_int) pe_int (nomark _)) (pss_one (ps_ret (pe_tup (pa_cons (pv 1) (pa_cons (pe_lst (pa_cons pe_int (pa_cons pe_int (pa_cons pe_int (pa_cons pe_int pa_nil))))) pa_nil))))) pss_nil)
    (pss_one (ps_ret (pe_tup (pa_cons (pv 1) (pa_cons (pe_lcB (own := [("_law_draw", 2)]) B sc_law_setting.nd (pi_list (pe_slice sl_any (pv 0) (po_some pe_int) (po_some pe_int))) (blkOk_by (N := ["_law_draws_here", "_law_purse", "_law_draw"]) (sc := xlaw_setting.scope) (by decide +kernel)) (fun _ _ _ _ _ => pg_name (i := 2) sc_law_setting.nd rfl (by first | exact .inl rfl | exact .inr rfl)) (fun _ _ _ _ _ B => pts_nil) (fun _ _ _ _ _ B => (pe_op op_mod (pe_callTy call_int (by rfl) B.wx.toTx.f_int b_int (pa_cons (pv 2) pa_nil)) pe_int))) pa_nil))))))), ?_⟩
  obtain ⟨n0, n1, n2, n3, n4, n5, n6, n7, n8, n9, n10, n11, rfl⟩ := len12 hl
  have ha : H a = some (.lst [.int n0, .int n1, .int n2, .int n3, .int n4, .int n5, .int n6, .int n7, .int n8, .int n9, .int n10, .int n11]) := ha
  have e12 : (10 : Int) ^ ((12 : Int).toNat) = 1000000000000 := by decide
  refine ⟨_, _, rfl, rfl, ⟨by decide, by decide, by decide⟩, _, rfl, ixl ha rfl (.inl (.inl ⟨_, rfl, _, _, rfl, rfl, show (0 : Int) < 4 by decide, _, _, rfl, rfl, _, rfl, ixl ha rfl (.inl (.inl ⟨_, rfl, _, _, rfl, rfl, show (0 : Int) < 13 by decide, by walk_at "le", fun L hL => ?_⟩))⟩))⟩
  rw [e12]
  have e1 := Ex.new (o := .lst [V.int 0, V.int 1, V.int 2, V.int 3, V.int 5, V.int 12, V.int (1000000000000 - n1 % 4), V.int (n1 % 13)]) hL
  obtain ⟨pu, hpu, hat⟩ := atI_in (f := V.int) (xs := [(0 : Int), 1, 2, 3, 5, 12, 1000000000000 - n1 % 4, n1 % 13]) (modR (a := n0) (show (0 : Int) < 8 by decide)).1 (modR (a := n0) (show (0 : Int) < 8 by decide)).2
  have ha1 := e1 _ _ ha
  have hL1 : (upd H L (.lst [V.int 0, V.int 1, V.int 2, V.int 3, V.int 5, V.int 12, V.int (1000000000000 - n1 % 4), V.int (n1 % 13)])) L = some (.lst ([(0 : Int), 1, 2, 3, 5, 12, 1000000000000 - n1 % 4, n1 % 13].map V.int)) := upd_same
  refine ⟨_, rfl, ixl ha1 rfl (.inl (.inl ⟨_, rfl, _, _, rfl, rfl, show (0 : Int) < 8 by decide, ixl hL1 hat ?_⟩))⟩
  walk_at "st"
  have hpb : 0 ≤ pu ∧ pu ≤ 1000000000000 := by
    have h1 := modR (a := n1) (show (0 : Int) < 4 by decide)
    have h2 := modR (a := n1) (show (0 : Int) < 13 by decide)
    simp only [List.mem_cons, List.not_mem_nil, or_false] at hpu
    omega
  generalize upd H L (.lst [V.int 0, V.int 1, V.int 2, V.int 3, V.int 5, V.int 12, V.int (1000000000000 - n1 % 4), V.int (n1 % 13)]) = H1 at *
  refine qwh (b := decide (n2 % 2 = 0)) (a_test fun Q q => ⟨_, rfl, ixl ha1 rfl (.inl (.inl ⟨_, rfl, _, _, rfl, rfl, show (0 : Int) < 2 by decide, eqI q⟩))⟩) (fun _ => ?_) (fun _ => ?_)
  · refine ⟨_, rfl, by walk_at "le", fun q hq1 => ⟨by walk_at "le", fun p hp => ?_⟩⟩
    exact hq p q _ pu 0 0 1 1 (fresh_back (e1.trans (Ex.new hq1)) hp) (fresh_back e1 hq1) (e1.trans ((Ex.new hq1).trans (Ex.new hp))) upd_same ((Ex.new hp) _ _ upd_same) hpb (by simp)
  · refine ⟨_, rfl, _, rfl, _, rfl, _, rfl, sll ha1 fun q hq1 => ⟨q, rfl, ⟨_, sq_of upd_same⟩, fun D hD => ?_⟩⟩
    have e2 := Ex.new (o := .lst (cutV [.int n0, .int n1, .int n2, .int n3, .int n4, .int n5, .int n6, .int n7, .int n8, .int n9, .int n10, .int n11] (some 3) (some 7))) hq1
    have hq2 : (upd H1 q (.lst (cutV [.int n0, .int n1, .int n2, .int n3, .int n4, .int n5, .int n6, .int n7, .int n8, .int n9, .int n10, .int n11] (some 3) (some 7)))) q = some (.lst ([n3, n4, n5, n6].map V.int)) := upd_same
    generalize upd H1 q (.lst (cutV [.int n0, .int n1, .int n2, .int n3, .int n4, .int n5, .int n6, .int n7, .int n8, .int n9, .int n10, .int n11] (some 3) (some 7))) = H2 at *
    refine lcX (walk_list (xs := [n3, n4, n5, n6].map V.int)) _ yAt (show 4 < 100000 from by decide) hD (fun H' e => ex_l e (sq_of hq2)) (fun _ _ => true) (fun i acc => acc = (([n3, n4, n5, n6].take i).map fun z => V.int (z % 4))) rfl ?_ (fun i x acc H1 hi hx r e Q q => q H1 (Ex.refl H1)) (fun i x acc H1 hi hx r e hf Q q => ?_) (fun i x acc hi hx r hf => by cases hf) (fun H4 ys e4 hD4 r hl2 => ?_)
    · exact fun _ => rfl
    · rw [List.getElem?_map] at hx
      obtain ⟨z, hz1, rfl⟩ := Option.map_eq_some_iff.mp hx
      refine ⟨_, rfl, .inl (.inl ⟨_, rfl, _, _, rfl, rfl, show (0 : Int) < 4 by decide, q _ _ (Ex.refl H1) ?_⟩)⟩
      rw [take_snoc hz1, List.map_append, r]
      rfl
    · have r : ys = [n3, n4, n5, n6].map fun z => V.int (z % 4) := r
      subst r
      refine ⟨by walk_at "le", fun p hp => ?_⟩
      have m4 : ∀ z : Int, 0 ≤ z % 4 ∧ z % 4 ≤ 3 := fun z => by
        have := modR (a := z) (show (0 : Int) < 4 by decide)
        omega
      refine hq p D _ pu (n3 % 4) (n4 % 4) (n5 % 4) (n6 % 4) (fresh_back (e1.trans (e2.trans e4)) hp) (fresh_back (e1.trans e2) hD) (e1.trans (e2.trans (e4.trans (Ex.new hp)))) upd_same ((Ex.new hp) _ _ hD4) hpb ?_
      intro c hc
      simp only [List.mem_cons, List.not_mem_nil, or_false] at hc
      rcases hc with rfl | rfl | rfl | rfl <;> exact m4 _)
end
section
variable {X : Cx} {W : WX} {k : Nat} {e o : Expr} {es : List Expr} {ta : TA} {to : TE} {p pos apos : Pos} {pl : Sem Bool}
theorem c_law_setting {K : PySem.W.Frag} (B : Bx X W k) (ha : PA X (e :: es) ta) (hK : X.K = K := by rfl) (hl : 1 ≤ k := by decide) (hg : Gl X "_law_setting" := by rfl) (hst : starEach (e :: es) X.env = (false, eval e X.env) :: starEach es X.env := by rfl) (hpl : (backTo pos (starEach es X.env)).any (·.1) = false := by rfl) : PE X (.Call (.Name "_law_setting" p) (e :: es) [] pos) (tFn (spSet) W ta) := by
  subst hK
  exact k_fun (w_law_setting B.wx) (B.rm.mono hl) B.wx.toTx.d_law_setting.kp B.wx.toTx.g_law_setting B.hx ha hg (by decide) hst hpl
end
end Bm
set_option Elab.async false
set_option linter.all false
set_option maxRecDepth 10000
set_option maxHeartbeats 400000
set_option pp.deepTerms false
set_option pp.maxSteps 1500
set_option maxErrors 6
/-! Walks: the law's words. -/
namespace Bm
open PySem PySem.Spec PyProof.Rows L2 Evl TL RZ
local macro_rules | `(tactic| walk_at "sz") => `(tactic| first | assumption | (refine sz_of ?_; omega) | (refine sz_lt ?_; omega))
local macro_rules | `(tactic| walk_at "ne") => `(tactic| first | assumption | (refine Ne.symm ?_; assumption) | exact ne_new (by assumption) (by walk_at "hp") | exact Ne.symm (ne_new (by assumption) (by walk_at "hp")))
local macro_rules | `(tactic| walk_at "hp") => `(tactic| first | assumption | exact upd_same | (refine (upd_ne (by walk_at "ne")).trans ?_; walk_at "hp") | (refine Ex.at_ (by assumption) ?_; walk_at "hp"))
local macro_rules | `(tactic| walk_at "sq") => `(tactic| first | assumption | (refine sq_of ?_; walk_at "hp") | (refine st_of ?_; walk_at "hp") | (refine ex_l (by assumption) ?_; walk_at "sq") | (refine ex_t (by assumption) ?_; walk_at "sq"))
local macro_rules | `(tactic| walk_at "sd") => `(tactic| first | exact (show (0 : Int) < _ from by omega) | exact (show (0 : Int) < _ ∧ _ < (1073741824 : Int) from ⟨by omega, by omega⟩) | exact (show CPow _ _ from ⟨by decide, by decide, by decide⟩) | exact (show CMul _ _ from .inl ⟨by omega, by omega⟩) | exact (show CMul _ _ from .inr ⟨by omega, by omega⟩))
local macro_rules | `(tactic| walk_at "g1") => `(tactic| first
  | refine ⟨_, rfl, ?_⟩
  | refine ⟨_, _, rfl, rfl, ?_⟩
  | refine .inl ⟨_, _, rfl, rfl, ?_⟩
  | refine .inl ⟨rfl, ?_⟩
  | refine .inl (.inl ⟨_, rfl, ?_⟩)
  | (refine ⟨_, _, rfl, ⟨?_, rfl⟩, ?_⟩; (walk_at "sz"))
  | refine ⟨(by walk_at "sd"), ?_⟩)
local macro_rules | `(tactic| walk_at "go") => `(tactic| repeat walk_at "g1")
local macro_rules | `(tactic| walk_at "st") => `(tactic| dsimp only [gName])
local macro_rules | `(tactic| walk_at "ln") => `(tactic| first | exact (show 0 < 1000 from by decide) | exact (show 1 < 1000 from by decide) | exact (show 2 < 1000 from by decide) | exact (show 3 < 1000 from by decide) | exact (show 4 < 1000 from by decide) | exact (show 5 < 1000 from by decide) | exact (show 6 < 1000 from by decide) | exact (show 7 < 1000 from by decide))
local macro_rules | `(tactic| walk_at "le") => `(tactic| first | exact (show 0 ≤ sizeLine from by decide) | exact (show 1 ≤ sizeLine from by decide) | exact (show 2 ≤ sizeLine from by decide) | exact (show 3 ≤ sizeLine from by decide) | exact (show 4 ≤ sizeLine from by decide) | exact (show 5 ≤ sizeLine from by decide) | exact (show 6 ≤ sizeLine from by decide) | exact (show 7 ≤ sizeLine from by decide) | exact (show 8 ≤ sizeLine from by decide))
local macro_rules | `(tactic| walk_at "nt") => `(tactic| first | exact nt_ins | exact nt_lst | exact nt_dK)
local macro_rules | `(tactic| walk_at "fr") => `(tactic| first | assumption | exact Fr.refl | exact Fr.ex (by assumption) | (refine Fr.put ?_ (by walk_at "hp") (by walk_at "nt") (by simp); walk_at "fr") | (refine Fr.new ?_ (by assumption); walk_at "fr"))
theorem mem_cut {xs : List V} {lo hi : Option Int} {x : V} (h : x ∈ cutV xs lo hi) : x ∈ xs := List.mem_of_mem_drop (List.mem_of_mem_take h)
theorem atI_mem {α : Type} {xs : List α} {j : Int} (h0 : 0 ≤ j) (h1 : j < xs.length) : ∃ z ∈ xs, atI xs j = some z := by
  obtain ⟨z, hz, e⟩ := atI_in (f := id) h0 h1
  rw [List.map_id] at e
  exact ⟨z, hz, e⟩
abbrev sg (c : Nat) : Str := ⟨#[c]⟩
theorem joinL_sg : ∀ cs : List Nat, joinL [] ((cs.map sg).map tl) = cs
  | [] => rfl
  | [c] => rfl
  | c :: d :: r => by
    show [c] ++ ([] ++ joinL [] (((d :: r).map sg).map tl)) = c :: d :: r
    rw [joinL_sg (d :: r)]
    rfl
theorem tl_join1 (cs : List Nat) : tl (Txt.join "" (cs.map sg)) = cs := by
  rw [join_eq, tl_join]
  exact joinL_sg cs
theorem sum_sg : ∀ cs : List Nat, ((cs.map sg).map (·.length)).sum = cs.length
  | [] => rfl
  | c :: r => by
    show 1 + ((r.map sg).map (·.length)).sum = r.length + 1
    rw [sum_sg r]
    omega
theorem letters_len : letters.length = 26 := rfl
theorem letters_tl : letters.cps.toList.length = 26 := rfl
theorem occ_letters : (letters.cps.toList.all fun c => !(Builtin.Str.occurrences letters (sg c) 0 letters.length 1).isEmpty) = true := by decide +kernel
theorem occ_at {c : Nat} (h : c ∈ letters.cps.toList) : ∃ i rest, Builtin.Str.occurrences letters (sg c) 0 letters.length 1 = i :: rest := by
  have z := List.all_eq_true.mp occ_letters c h
  cases e : Builtin.Str.occurrences letters (sg c) 0 letters.length 1 with
  | nil => rw [e] at z; cases z
  | cons i r => exact ⟨i, r, rfl⟩
def spWords : Sp := fun vs H Q _ => ∃ c : Int, vs = [.int c] ∧ ∀ p H' (ws : List Str), H p = none → Ex H H' → H' p = some (.lst (ws.map V.str)) → ws.length = 3 → (∀ w ∈ ws, w.length ≤ 20) → Q (.ref p) H'
section
variable {P : Program} {w : World} {K : PySem.W.Frag} {mg : Str → Option Value} {base : Heap}
theorem sc_law_words : FnScope ["_law_cell_here", "_law_letters", "_law_draws_here", "_law_size", "_law_at", "_law_one", "_law_place", "_law_draw"] ["_law_cell_here"] xlaw_words.scope := ⟨rfl, rfl, rfl, by decide +kernel, rfl, by decide +kernel, by decide +kernel⟩
theorem w_law_words (T : Wx P K mg) : FnR P w K mg base (L2N.CX P w) 3 (He.ga K "_law_words") (spWords) :=
  mkR 2 T T.toTx.d_law_words sc_law_words (by rintro vs H Q E ⟨_, rfl, _⟩; rfl) (fun _ _ _ _ _ _ us hl => match us, hl with | [_], _ => rfl) (fun cdv A outer s H vs Q E B hsp => by
  obtain ⟨c, rfl, hq⟩ := hsp
  refine ⟨_, (pss_cons (st_set (i := 1) sc_law_words.nd pe_str)
    (pss_cons (st_set (i := 2) sc_law_words.nd (c_law_draws (K := K) B (pa_cons (pv 0) (pa_cons pe_int (pa_cons (pe_op op_pow pe_int pe_int) pa_nil)))))
    (pss_cons (st_set (i := 3) sc_law_words.nd (pe_op (o_addK K) pe_int (pe_op op_mod (pe_callTy call_int (by rfl) B.wx.toTx.f_int b_int (pa_cons (pe_ix (ix_seqK K) (pv 2) pe_int (fun _ _ => rfl)) pa_nil)) pe_int)))
    (pss_cons (st_set (i := 4) sc_law_words.nd (pe_op op_mod (pe_callTy call_int (by rfl) B.wx.toTx.f_int b_int (pa_cons (pe_ix (ix_seqK K) (pv 2) pe_int (fun _ _ => rfl)) pa_nil)) (pv 3)))
    (pss_cons (st_set (i := 5) sc_law_words.nd (pe_join pe_str (pe_lcB (own := [("_law_draw", 7)]) B sc_law_words.nd (pi_list (pe_slice sl_any (pv 2) po_none (po_some (pv 3)))) (blkOk_by (N := ["_law_cell_here", "_law_letters", "_law_draws_here", "_law_size", "_law_at", "_law_one", "_law_place", "_law_draw"]) (sc := xlaw_words.scope) (by decide +kernel)) (fun _ _ _ _ _ => pg_name (i := 7) sc_law_words.nd rfl (by first | exact .inl rfl | exact .inr rfl)) (fun _ _ _ _ _ B => pts_nil) (fun _ _ _ _ _ B => (pe_ix (ix_seqK K) (pv 1) (pe_op op_mod (pe_callTy call_int (by rfl) B.wx.toTx.f_int b_int (pa_cons (pv 7) pa_nil)) pe_int) (fun _ _ => rfl))))))
    (pss_cons (st_set (i := 6) sc_law_words.nd (pe_op op_mod (pe_callTy call_int (by rfl) B.wx.toTx.f_int b_int (pa_cons (pe_op (o_addK K) (pe_op (o_addK K) (pe_m1 PySem.F.slot_str_index PySem.F.type_str_index mt_sindex (pv 1) (pe_ix (ix_seqK K) (pv 5) (pv 4) (fun _ _ => rfl))) pe_int) (pe_op op_mod (pe_callTy call_int (by rfl) B.wx.toTx.f_int b_int (pa_cons (pe_ix (ix_seqK K) (pv 2) pe_int (fun _ _ => rfl)) pa_nil)) pe_int)) pa_nil)) pe_int))
    (pss_one (ps_ret (pe_lst (pa_cons (pv 5) (pa_cons (pe_op (o_addK K) (pe_op (o_addK K) (pe_slice sl_any (pv 5) po_none (po_some (pv 4))) (pe_ix (ix_seqK K) (pv 1) (pv 6) (fun _ _ => rfl))) (pe_slice sl_any (pv 5) (po_some (pe_op (o_addK K) (pv 4) pe_int)) po_none)) (pa_cons (pe_op (o_addK K) (pv 5) pe_str) pa_nil)))))))))))), ?_⟩
  refine qc ?_
  refine ⟨_, rfl, _, _, rfl, rfl, ⟨by decide, by decide, by decide⟩, c, 8, _, rfl, by decide, by decide, by decide, by decide, fun p H1 ns hp e1 hp1 hlen hr => ?_⟩
  walk_at "st"
  obtain ⟨n0, n1, n2, n3, n4, n5, n6, n7, rfl⟩ := len8 hlen
  have hp1 : H1 p = some (.lst [.int n0, .int n1, .int n2, .int n3, .int n4, .int n5, .int n6, .int n7]) := hp1
  refine ⟨_, rfl, ixl hp1 rfl (.inl (.inl ⟨_, rfl, _, _, rfl, rfl, show (0 : Int) < 5 by decide, adi ?_⟩))⟩
  walk_at "st"
  obtain ⟨s, hs⟩ : ∃ s, s = 1 + n5 % 5 := ⟨_, rfl⟩
  have hsb : 1 ≤ s ∧ s ≤ 5 := by
    have := modR (a := n5) (show (0 : Int) < 5 by decide)
    omega
  rw [← hs]
  refine ⟨_, rfl, ixl hp1 rfl (.inl (.inl ⟨_, rfl, _, rfl, _, _, rfl, rfl, show (0 : Int) < s by omega, ?_⟩))⟩
  walk_at "st"
  obtain ⟨a, ha⟩ : ∃ a, a = n6 % s := ⟨_, rfl⟩
  have hab : 0 ≤ a ∧ a < s := by
    rw [ha]
    exact modR (by omega)
  rw [← ha]
  refine ⟨⟨_, rfl⟩, _, rfl, _, rfl, _, rfl, sll hp1 fun q hq1 => ⟨q, rfl, ⟨_, sq_of upd_same⟩, fun D hD => ?_⟩⟩
  obtain ⟨LL, hLL⟩ : ∃ LL, LL = cutV [.int n0, .int n1, .int n2, .int n3, .int n4, .int n5, .int n6, .int n7] none (some s) := ⟨_, rfl⟩
  have hLm : ∀ x ∈ LL, ∃ z : Int, x = .int z := fun x hx => by
    rw [hLL] at hx
    have h := mem_cut hx
    simp only [List.mem_cons, List.not_mem_nil, or_false] at h
    rcases h with rfl | rfl | rfl | rfl | rfl | rfl | rfl | rfl <;> exact ⟨_, rfl⟩
  have hLs : (LL.length : Int) = s := by
    rw [hLL, cut_toI (by omega), List.length_take]
    show ((min s.toNat 8 : Nat) : Int) = s
    omega
  rw [← hLL] at hD ⊢
  have e2 := Ex.new (o := .lst LL) hq1
  have hq2 : (upd H1 q (.lst LL)) q = some (.lst LL) := upd_same
  generalize upd H1 q (.lst LL) = H2 at *
  refine lcX (walk_list (xs := LL)) _ yAt (by omega) hD (fun H' e => ex_l e (sq_of hq2)) (fun _ _ => true) (fun i acc => ∃ cs : List Nat, acc = cs.map (fun c => V.str (sg c)) ∧ cs.length = i ∧ ∀ c ∈ cs, c ∈ letters.cps.toList) ⟨[], rfl, rfl, by simp⟩ ?_ (fun i x acc H1 hi hx r e Q q => q H1 (Ex.refl H1)) (fun i x acc H1 hi hx r e hf Q q => ?_) (fun i x acc hi hx r hf => by cases hf) (fun H4 ys e4 hD4 r hl2 => ?_)
  · exact fun _ => rfl
  · obtain ⟨z, rfl⟩ := hLm x (List.mem_of_getElem? hx)
    obtain ⟨cs, rfl, r2, r3⟩ := r
    have hz := modR (a := z) (show (0 : Int) < 26 by decide)
    obtain ⟨l, hl, hat⟩ := atI_mem (xs := letters.cps.toList) hz.1 hz.2
    refine ⟨_, rfl, _, rfl, .inl (.inl ⟨_, rfl, _, _, rfl, rfl, show (0 : Int) < 26 by decide, ixs (z := letters) (by decide) hat (q _ _ (Ex.refl H1) ⟨cs ++ [l], by rw [List.map_append]; rfl, by rw [List.length_append, r2]; rfl, fun c hc => ?_⟩)⟩)⟩
    rcases List.mem_append.mp hc with h | h
    · exact r3 c h
    · rw [List.mem_singleton.mp h]
      exact hl
  · obtain ⟨cs, rfl, r2, r3⟩ := r
    have hD5 : H4 D = some (.lst ((cs.map sg).map V.str)) := by
      rw [hD4, List.map_map]
      rfl
    refine ⟨_, D, cs.map sg, rfl, rfl, .inl (sq_of hD5), ?_, ?_⟩
    · rw [sum_sg]
      show cs.length + (cs.map sg).length * 0 ≤ 16777216
      omega
    walk_at "st"
    obtain ⟨one, hone⟩ : ∃ one, one = Txt.join "" (cs.map sg) := ⟨_, rfl⟩
    have ho1 : tl one = cs := by rw [hone, tl_join1]
    have hol : one.length = cs.length := by rw [len_tl, ho1]
    rw [← hone]
    have hosz : one.length ≤ sizeLine := sz_of (by omega)
    obtain ⟨l, hl, hat⟩ := atI_mem (xs := one.cps.toList) (j := a) hab.1 (by show a < ((tl one).length : Int); rw [ho1]; omega)
    have hlm : l ∈ letters.cps.toList := r3 l (by rw [← ho1]; exact hl)
    obtain ⟨oi, rest, hocc⟩ := occ_at hlm
    have hp4 := e4 _ _ (e2 _ _ hp1)
    refine ⟨_, rfl, ⟨_, rfl⟩, _, rfl, _, rfl, ixs hosz hat ⟨_, _, oi, rest, rfl, rfl, hocc, adi ⟨_, rfl, ixl hp4 rfl (.inl (.inl ⟨_, rfl, _, _, rfl, rfl, show (0 : Int) < 25 by decide, adi (.inl (.inl ⟨_, rfl, _, _, rfl, rfl, show (0 : Int) < 26 by decide, ?_⟩))⟩))⟩⟩⟩
    walk_at "st"
    obtain ⟨pl, hpl⟩ : ∃ pl, pl = (((oi : Nat) : Int) + 1 + n7 % 25) % 26 := ⟨_, rfl⟩
    have hplb : 0 ≤ pl ∧ pl < 26 := by
      rw [hpl]
      exact modR (by decide)
    rw [← hpl]
    obtain ⟨m, hm, hat2⟩ := atI_mem (xs := letters.cps.toList) (j := pl) hplb.1 hplb.2
    have c1 := cutS_length one none (some a)
    have c2 := cutS_length one (some (a + 1)) none
    have l1 : (⟨#[m]⟩ : Str).length = 1 := rfl
    have l2 : ("q" : Str).length = 1 := rfl
    refine ⟨_, rfl, _, rfl, _, rfl, _, rfl, sls hosz ⟨_, rfl, _, rfl, ixs (z := letters) (by decide) hat2 (ads (by omega) ⟨_, rfl, _, rfl, adi ⟨_, rfl, sls hosz (ads (by rw [len_app]; omega) ⟨_, rfl, ads (by omega) ⟨by walk_at "le", fun p3 hp3 => ?_⟩⟩)⟩⟩)⟩⟩
    refine hq p3 _ [one, cutS one none (some a) ++ ⟨#[m]⟩ ++ cutS one (some (a + 1)) none, one ++ "q"] (fresh_back (e1.trans (e2.trans e4)) hp3) ((e1.trans (e2.trans e4)).trans (Ex.new hp3)) upd_same rfl ?_
    intro w hw
    simp only [List.mem_cons, List.not_mem_nil, or_false] at hw
    rcases hw with rfl | rfl | rfl
    · omega
    · rw [len_app, len_app]
      omega
    · rw [len_app]
      omega)
end
section
variable {X : Cx} {W : WX} {k : Nat} {e o : Expr} {es : List Expr} {ta : TA} {to : TE} {p pos apos : Pos} {pl : Sem Bool}
theorem c_law_words {K : PySem.W.Frag} (B : Bx X W k) (ha : PA X (e :: es) ta) (hK : X.K = K := by rfl) (hl : 3 ≤ k := by decide) (hg : Gl X "_law_words" := by rfl) (hst : starEach (e :: es) X.env = (false, eval e X.env) :: starEach es X.env := by rfl) (hpl : (backTo pos (starEach es X.env)).any (·.1) = false := by rfl) : PE X (.Call (.Name "_law_words" p) (e :: es) [] pos) (tFn (spWords) W ta) := by
  subst hK
  exact k_fun (w_law_words B.wx) (B.rm.mono hl) B.wx.toTx.d_law_words.kp B.wx.toTx.g_law_words B.hx ha hg (by decide) hst hpl
end
end Bm
set_option Elab.async false
set_option linter.all false
set_option maxRecDepth 10000
set_option maxHeartbeats 400000
set_option pp.deepTerms false
set_option pp.maxSteps 1500
set_option maxErrors 6
/-! Walks: the law's own rows; a line drawn. -/
namespace Bm
open PySem PySem.Spec PyProof.Rows L2 Evl TL RZ
local macro_rules | `(tactic| walk_at "sz") => `(tactic| first | assumption | (refine sz_of ?_; omega) | (refine sz_lt ?_; omega))
local macro_rules | `(tactic| walk_at "ne") => `(tactic| first | assumption | (refine Ne.symm ?_; assumption) | exact ne_new (by assumption) (by walk_at "hp") | exact Ne.symm (ne_new (by assumption) (by walk_at "hp")))
local macro_rules | `(tactic| walk_at "hp") => `(tactic| first | assumption | exact upd_same | (refine (upd_ne (by walk_at "ne")).trans ?_; walk_at "hp") | (refine Ex.at_ (by assumption) ?_; walk_at "hp"))
local macro_rules | `(tactic| walk_at "sq") => `(tactic| first | assumption | (refine sq_of ?_; walk_at "hp") | (refine st_of ?_; walk_at "hp") | (refine ex_l (by assumption) ?_; walk_at "sq") | (refine ex_t (by assumption) ?_; walk_at "sq"))
local macro_rules | `(tactic| walk_at "sd") => `(tactic| first | exact (show (0 : Int) < _ from by omega) | exact (show (0 : Int) < _ ∧ _ < (1073741824 : Int) from ⟨by omega, by omega⟩) | exact (show CPow _ _ from ⟨by decide, by decide, by decide⟩) | exact (show CMul _ _ from .inl ⟨by omega, by omega⟩) | exact (show CMul _ _ from .inr ⟨by omega, by omega⟩))
local macro_rules | `(tactic| walk_at "g1") => `(tactic| first
  | refine ⟨_, rfl, ?_⟩
  | refine ⟨_, _, rfl, rfl, ?_⟩
  | refine .inl ⟨_, _, rfl, rfl, ?_⟩
  | refine .inl ⟨rfl, ?_⟩
  | refine .inl (.inl ⟨_, rfl, ?_⟩)
  | (refine ⟨_, _, rfl, ⟨?_, rfl⟩, ?_⟩; (walk_at "sz"))
  | refine ⟨(by walk_at "sd"), ?_⟩)
local macro_rules | `(tactic| walk_at "go") => `(tactic| repeat walk_at "g1")
local macro_rules | `(tactic| walk_at "st") => `(tactic| dsimp only [gName])
local macro_rules | `(tactic| walk_at "ln") => `(tactic| first | exact (show 0 < 1000 from by decide) | exact (show 1 < 1000 from by decide) | exact (show 2 < 1000 from by decide) | exact (show 3 < 1000 from by decide) | exact (show 4 < 1000 from by decide) | exact (show 5 < 1000 from by decide) | exact (show 6 < 1000 from by decide) | exact (show 7 < 1000 from by decide))
local macro_rules | `(tactic| walk_at "le") => `(tactic| first | exact (show 0 ≤ sizeLine from by decide) | exact (show 1 ≤ sizeLine from by decide) | exact (show 2 ≤ sizeLine from by decide) | exact (show 3 ≤ sizeLine from by decide) | exact (show 4 ≤ sizeLine from by decide) | exact (show 5 ≤ sizeLine from by decide) | exact (show 6 ≤ sizeLine from by decide) | exact (show 7 ≤ sizeLine from by decide) | exact (show 8 ≤ sizeLine from by decide))
local macro_rules | `(tactic| walk_at "nt") => `(tactic| first | exact nt_ins | exact nt_lst | exact nt_dK)
local macro_rules | `(tactic| walk_at "fr") => `(tactic| first | assumption | exact Fr.refl | exact Fr.ex (by assumption) | (refine Fr.put ?_ (by walk_at "hp") (by walk_at "nt") (by simp); walk_at "fr") | (refine Fr.new ?_ (by assumption); walk_at "fr"))
structure RL where
  w : Str
  hues : List Int
  st : List Int
def dRL (r : RL) : Dt := .seq true [dS r.w, .seq false (r.hues.map dI), .seq false (r.st.map dI)]
structure RLOk (N : Nat) (r : RL) : Prop where
  wl : r.w.length ≤ 20
  h1 : 1 ≤ r.hues.length
  hl : r.hues.length ≤ N + 10
  sl : r.st.length ≤ N + 10
  hr : ∀ x ∈ r.hues, 0 ≤ x ∧ x ≤ 10000000
  sr : ∀ x ∈ r.st, 0 ≤ x ∧ x ≤ 10000000
theorem RLOk.mono {N M : Nat} {r : RL} (h : RLOk N r) (l : N ≤ M) : RLOk M r := ⟨h.wl, h.h1, by have := h.hl; omega, by have := h.sl; omega, h.hr, h.sr⟩
def RsOk (N : Nat) (rs : List RL) : Prop := rs.length ≤ N ∧ ∀ r ∈ rs, RLOk N r
section
variable {α β : Type} {F : α → β → Prop}
theorem pr_getR : ∀ {xs : List α} {ys : List β} {i : Nat} {y : β}, Paired F xs ys → ys[i]? = some y → ∃ x, xs[i]? = some x ∧ F x y
  | _, _, _, _, .nil, h => by simp at h
  | _, _, 0, y, .cons a r, h => by
    simp at h
    subst h
    exact ⟨_, rfl, a⟩
  | _, _, i + 1, y, .cons a r, h => by
    obtain ⟨x, e, f⟩ := pr_getR (i := i) r (by simpa using h)
    exact ⟨x, by simpa using e, f⟩
theorem pr_set : ∀ {xs : List α} {ys : List β} (i : Nat) {x : α} {y : β}, Paired F xs ys → F x y → Paired F (xs.set i x) (ys.set i y)
  | _, _, _, _, _, .nil, _ => .nil
  | _, _, 0, _, _, .cons a r, h => .cons h r
  | _, _, i + 1, _, _, .cons a r, h => .cons a (pr_set i r h)
end
section
variable {n : Nat} {H H' : Hp} {x : V}
theorem hd_sc {v : V} (h : Hd n H x (.sc v)) : x = v := by
  cases n with
  | zero =>
    obtain ⟨e, _⟩ := h
    injection e with e
    exact e.symm
  | succ n =>
    rcases h with ⟨e, _⟩ | ⟨_, _, _, _, _, e, _⟩
    · injection e with e
      exact e.symm
    · cases e
theorem hd_inv {tp : Bool} {ds : List Dt} (h : Hd (n + 1) H x (.seq tp ds)) : ∃ a xs, x = .ref a ∧ H a = some (if tp = true then .tup xs else .lst xs) ∧ xs.length ≤ 90000 ∧ Paired (Hd n H) xs ds := by
  rcases h with ⟨e, _⟩ | ⟨a, xs, tp', ds', rfl, e, h1, h2, h3⟩
  · cases e
  · injection e with e1 e2
    subst e1 e2
    exact ⟨a, xs, rfl, h1, h2, h3⟩
theorem pr_ints : ∀ {ys : List V} {l : List Int}, Paired (Hd n H) ys (l.map dI) → ys = l.map V.int
  | _, [], .nil => rfl
  | _, i :: r, .cons a q => by
    rw [hd_sc a, pr_ints q]
    rfl
theorem rl_inv {r : RL} (h : Hd 2 H x (dRL r)) : ∃ t hu st, x = .ref t ∧ H t = some (.tup [.str r.w, .ref hu, .ref st]) ∧ H hu = some (.lst (r.hues.map V.int)) ∧ H st = some (.lst (r.st.map V.int)) := by
  obtain ⟨t, xs, rfl, ht, _, p⟩ := hd_inv h
  cases p with
  | cons a p =>
    cases p with
    | cons b p =>
      cases p with
      | cons c p =>
        cases p
        have e1 := hd_sc a
        obtain ⟨hu, ys, rfl, hhu, _, p2⟩ := hd_inv b
        obtain ⟨st, zs, rfl, hst, _, p3⟩ := hd_inv c
        have e2 := pr_ints p2
        have e3 := pr_ints p3
        subst e1 e2 e3
        exact ⟨t, hu, st, rfl, ht, hhu, hst⟩
theorem rl_mk {r : RL} {t hu st : Addr} (ht : H t = some (.tup [.str r.w, .ref hu, .ref st])) (h1 : H hu = some (.lst (r.hues.map V.int))) (h2 : H st = some (.lst (r.st.map V.int))) (z1 : r.hues.length ≤ 90000) (z2 : r.st.length ≤ 90000) : Hd 2 H (.ref t) (dRL r) :=
  hd_tup ht (show 3 ≤ 90000 from by decide) (.cons hd_str (.cons (hd_lst h1 (by rw [List.length_map]; exact z1) hd_ints) (.cons (hd_lst h2 (by rw [List.length_map]; exact z2) hd_ints) .nil)))
end
theorem shw_len {i : Int} (h0 : 0 ≤ i) (h1 : i ≤ 10000000) : (shw i).length ≤ 8 := by
  obtain ⟨n, rfl⟩ : ∃ n : Nat, i = n := ⟨i.toNat, by omega⟩
  rw [len_tl]
  show (tl (Str.ofString (toString ((n : Nat) : Int)))).length ≤ 8
  rw [tl_num]
  exact numL_len (by decide) (by show n < 100000000; omega)
theorem sum_le8 : ∀ {hs : List Int}, (∀ h ∈ hs, 0 ≤ h ∧ h ≤ 10000000) → (((hs.map shw).map (·.length)).sum) ≤ 8 * hs.length
  | [], _ => Nat.zero_le _
  | i :: r, h => by
    have h1 := h i (List.mem_cons_self ..)
    have h2 := shw_len h1.1 h1.2
    have h3 := sum_le8 (hs := r) fun x hx => h x (List.mem_cons_of_mem _ hx)
    show (shw i).length + ((r.map shw).map (·.length)).sum ≤ 8 * (r.length + 1)
    omega
open Classical in
/-- of the heap F what stood in G or is new since H -/
noncomputable def only (G H F : Hp) : Hp := fun b => if G b ≠ none ∨ H b = none then F b else none
section
variable {G H F : Hp}
theorem only_ex : Ex (only G H F) F := fun b o h => by
  unfold only at h
  split at h
  · exact h
  · cases h
theorem only_new {z : Addr} {o : HO} (n : H z = none) (h : F z = some o) : only G H F z = some o := by
  unfold only
  rw [if_pos (.inr n)]
  exact h
theorem only_old (e : Ex G F) : Ex G (only G H F) := fun b o h => by
  unfold only
  rw [if_pos (.inl (by rw [h]; exact fun z => by cases z))]
  exact e b o h
theorem only_out {z : Addr} {o : HO} (h : G z = none) (n : H z = some o) : only G H F z = none := by
  unfold only
  refine if_neg fun q => ?_
  rcases q with q | q
  · exact q h
  · rw [n] at q
    cases q
end
theorem ex_out {G H : Hp} {L : Addr} {o : HO} (e : Ex G H) (h : G L = none) : Ex G (upd H L o) := fun b u hb => by
  rw [upd_ne (fun z => by rw [z, h] at hb; cases hb)]
  exact e b u hb
def spLineL : Sp := fun vs H Q _ => ∃ (a b w : Addr) (ns : List Int) (rs : List RL) (N : Nat) (ws : List Str) (G : Hp), vs = [.ref a, .ref b, .ref w] ∧ H a = some (.lst (ns.map V.int)) ∧ (ns.length : Int) = 11 ∧ (∀ x ∈ ns, 0 ≤ x ∧ x < 1000000) ∧
  Ex G H ∧ Hd 3 G (.ref b) (.seq false (rs.map dRL)) ∧ RsOk N rs ∧ N ≤ 100 ∧ H w = some (.lst (ws.map V.str)) ∧ ws.length = 3 ∧ (∀ w ∈ ws, w.length ≤ 20) ∧
  ∀ p c z H' rs', Ex H H' → H' p = some (.tup [.str z, .ref c]) → Hd 3 (only G H H') (.ref c) (.seq false (rs'.map dRL)) → RsOk (N + 1) rs' → z.length ≤ 200 → Q (.ref p) H'
theorem qjn {t tz : TS} {D : Ends} {σ : L2.St} {H : Hp} (P : L2.St → Hp → Prop) (h : ∀ D' : Ends, (∀ σ' H', P σ' H' → D'.nx σ' H') → t D' σ H) (hz : ∀ σ' H', P σ' H' → tz D σ' H') : tSeq t tz D σ H := h { D with nx := tz D } hz
theorem ls_grow : ("grow " : Str).length = 5 := rfl
theorem ls_take : ("take " : Str).length = 5 := rfl
theorem ls_coins : ("coins " : Str).length = 6 := rfl
theorem ls_blank : (" " : Str).length = 1 := rfl
section
variable {N : Nat} {rs : List RL} {r : RL}
theorem RsOk.snoc (h : RsOk N rs) (k : RLOk (N + 1) r) : RsOk (N + 1) (rs ++ [r]) := by
  refine ⟨?_, fun q hq => ?_⟩
  · rw [List.length_append]
    have := h.1
    show rs.length + 1 ≤ N + 1
    omega
  · rcases List.mem_append.mp hq with z | z
    · exact (h.2 q z).mono (Nat.le_succ _)
    · rw [List.mem_singleton.mp z]
      exact k
theorem RsOk.mono (h : RsOk N rs) : RsOk (N + 1) rs := ⟨Nat.le_succ_of_le h.1, fun q hq => (h.2 q hq).mono (Nat.le_succ _)⟩
theorem RsOk.set (h : RsOk N rs) (k : RLOk (N + 1) r) (i : Nat) : RsOk (N + 1) (rs.set i r) := by
  refine ⟨?_, fun q hq => ?_⟩
  · rw [List.length_set]
    exact Nat.le_succ_of_le h.1
  · rcases List.mem_or_eq_of_mem_set hq with z | z
    · exact (h.2 q z).mono (Nat.le_succ _)
    · rw [z]
      exact k
end
end Bm
set_option Elab.async false
set_option linter.all false
set_option maxRecDepth 10000
set_option maxHeartbeats 400000
set_option pp.deepTerms false
set_option pp.maxSteps 1500
set_option maxErrors 6
set_option maxHeartbeats 4000000
/-! Walks: a line drawn. -/
namespace Bm
open PySem PySem.Spec PyProof.Rows L2 Evl TL RZ
local macro_rules | `(tactic| walk_at "sz") => `(tactic| first | assumption | (refine sz_of ?_; omega) | (refine sz_lt ?_; omega))
local macro_rules | `(tactic| walk_at "ne") => `(tactic| first | assumption | (refine Ne.symm ?_; assumption) | exact ne_new (by assumption) (by walk_at "hp") | exact Ne.symm (ne_new (by assumption) (by walk_at "hp")))
local macro_rules | `(tactic| walk_at "hp") => `(tactic| first | assumption | exact upd_same | (refine (upd_ne (by walk_at "ne")).trans ?_; walk_at "hp") | (refine Ex.at_ (by assumption) ?_; walk_at "hp"))
local macro_rules | `(tactic| walk_at "sq") => `(tactic| first | assumption | (refine sq_of ?_; walk_at "hp") | (refine st_of ?_; walk_at "hp") | (refine ex_l (by assumption) ?_; walk_at "sq") | (refine ex_t (by assumption) ?_; walk_at "sq"))
local macro_rules | `(tactic| walk_at "sd") => `(tactic| first | exact (show (0 : Int) < _ from by omega) | exact (show (0 : Int) < _ ∧ _ < (1073741824 : Int) from ⟨by omega, by omega⟩) | exact (show CPow _ _ from ⟨by decide, by decide, by decide⟩) | exact (show CMul _ _ from .inl ⟨by omega, by omega⟩) | exact (show CMul _ _ from .inr ⟨by omega, by omega⟩))
local macro_rules | `(tactic| walk_at "g1") => `(tactic| first
  | refine ⟨_, rfl, ?_⟩
  | refine ⟨_, _, rfl, rfl, ?_⟩
  | refine .inl ⟨_, _, rfl, rfl, ?_⟩
  | refine .inl ⟨rfl, ?_⟩
  | refine .inl (.inl ⟨_, rfl, ?_⟩)
  | (refine ⟨_, _, rfl, ⟨?_, rfl⟩, ?_⟩; (walk_at "sz"))
  | refine ⟨(by walk_at "sd"), ?_⟩)
local macro_rules | `(tactic| walk_at "go") => `(tactic| repeat walk_at "g1")
local macro_rules | `(tactic| walk_at "st") => `(tactic| dsimp only [gName])
local macro_rules | `(tactic| walk_at "ln") => `(tactic| first | exact (show 0 < 1000 from by decide) | exact (show 1 < 1000 from by decide) | exact (show 2 < 1000 from by decide) | exact (show 3 < 1000 from by decide) | exact (show 4 < 1000 from by decide) | exact (show 5 < 1000 from by decide) | exact (show 6 < 1000 from by decide) | exact (show 7 < 1000 from by decide))
local macro_rules | `(tactic| walk_at "le") => `(tactic| first | exact (show 0 ≤ sizeLine from by decide) | exact (show 1 ≤ sizeLine from by decide) | exact (show 2 ≤ sizeLine from by decide) | exact (show 3 ≤ sizeLine from by decide) | exact (show 4 ≤ sizeLine from by decide) | exact (show 5 ≤ sizeLine from by decide) | exact (show 6 ≤ sizeLine from by decide) | exact (show 7 ≤ sizeLine from by decide) | exact (show 8 ≤ sizeLine from by decide))
local macro_rules | `(tactic| walk_at "nt") => `(tactic| first | exact nt_ins | exact nt_lst | exact nt_dK)
local macro_rules | `(tactic| walk_at "fr") => `(tactic| first | assumption | exact Fr.refl | exact Fr.ex (by assumption) | (refine Fr.put ?_ (by walk_at "hp") (by walk_at "nt") (by simp); walk_at "fr") | (refine Fr.new ?_ (by assumption); walk_at "fr"))
section
variable {P : Program} {w : World} {K : PySem.W.Frag} {mg : Str → Option Value} {base : Heap}
theorem sc_law_line : FnScope ["_law_picks", "_law_rows", "_law_words_here", "_law_what", "_law_used", "_law_free", "_law_size", "_law_word", "_law_hues", "_law_line_here", "_law_at", "_law_row", "_law_bead", "_law_left", "_law_hue", "_law_behind", "_law_pick", "_law_other"] ["_law_picks", "_law_rows", "_law_words_here"] xlaw_line.scope := ⟨rfl, rfl, rfl, by decide +kernel, rfl, by decide +kernel, by decide +kernel⟩
theorem w_law_line (T : Wx P K mg) : FnR P w K mg base (L2N.CX P w) 2 (He.ga K "_law_line") (spLineL) :=
  mkR 1 T T.toTx.d_law_line sc_law_line (by rintro vs H Q E ⟨_, _, _, _, _, _, _, _, rfl, _⟩; rfl) (fun _ _ _ _ _ _ us hl => match us, hl with | [_, _, _], _ => rfl) (fun cdv A outer s H vs Q E B hsp => by
  obtain ⟨a, b, w, ns, rs, N, ws, G, rfl, ha, hl, hr, eG, hbG, hrs, hN, hw, hwl, hwz, hq⟩ := hsp
  refine ⟨_, (pss_cons (st_set (i := 3) sc_law_line.nd (pe_op op_mod (pe_callTy call_int (by rfl) B.wx.toTx.f_int b_int (pa_cons (pe_ix (ix_seqK K) (pv 0) pe_int (fun _ _ => rfl)) pa_nil)) pe_int))
    (pss_cons (st_set (i := 4) sc_law_line.nd (pe_lcB (own := [("_law_row", 11)]) B sc_law_line.nd (pi_list (pv 1)) (blkOk_by (N := ["_law_picks", "_law_rows", "_law_words_here", "_law_what", "_law_used", "_law_free", "_law_size", "_law_word", "_law_hues", "_law_line_here", "_law_at", "_law_row", "_law_bead", "_law_left", "_law_hue", "_law_behind", "_law_pick", "_law_other"]) (sc := xlaw_line.scope) (by decide +kernel)) (fun _ _ _ _ _ => pg_name (i := 11) sc_law_line.nd rfl (by first | exact .inl rfl | exact .inr rfl)) (fun _ _ _ _ _ B => pts_nil) (fun _ _ _ _ _ B => (pe_ix (ix_seqK K) (pv 11) pe_int (fun _ _ => rfl)))))
    (pss_cons (ps_setLcB (i := 5) (own := [("_law_word", 7)]) B sc_law_line.nd rfl rfl (sw_true rfl rfl rfl (by decide +kernel)) (pi_list (pv 2)) (blkOk_by (N := ["_law_picks", "_law_rows", "_law_words_here", "_law_what", "_law_used", "_law_free", "_law_size", "_law_word", "_law_hues", "_law_line_here", "_law_at", "_law_row", "_law_bead", "_law_left", "_law_hue", "_law_behind", "_law_pick", "_law_other"]) (sc := xlaw_line.scope) (by decide +kernel)) (fun _ _ _ _ _ => pg_name (i := 7) sc_law_line.nd rfl (by first | exact .inl rfl | exact .inr rfl)) (fun _ _ _ _ _ B => (pts_one (pt_cmpR (o_niK K) (pv 7) (pv 4) (by with_unfolding_all rfl)))) (fun _ _ _ _ _ B => (pv 7)))
    (pss_cons (st_set (i := 6) sc_law_line.nd (pe_op (o_addK K) pe_int (pe_op op_mod (pe_callTy call_int (by rfl) B.wx.toTx.f_int b_int (pa_cons (pe_ix (ix_seqK K) (pv 0) pe_int (fun _ _ => rfl)) pa_nil)) pe_int)))
    (pss_cons (ps_if (PW.pt (pw_or (pt_cmpR (o_eqN K B.hu64) (pv 1) (pe_lst pa_nil) (nomark _)) (pw_or1 (PW.pt (pw_and (pt_cmpR op_lt (pv 3) pe_int (nomark _)) (pw_and1 (pt_cmpR (o_neN K B.hu64) (pv 5) (pe_lst pa_nil) (nomark _)))))))) (pss_cons (st_set (i := 7) sc_law_line.nd (pe_ix (ix_seqK K) (pv 5) (pe_op op_mod (pe_callTy call_int (by rfl) B.wx.toTx.f_int b_int (pa_cons (pe_ix (ix_seqK K) (pv 0) pe_int (fun _ _ => rfl)) pa_nil)) (pe_callB (call_lenK K) (by rfl) B.wx.toTx.f_len b_len (pa_cons (pv 5) pa_nil))) (fun _ _ => rfl)))
    (pss_cons (ps_setLcB (i := 8) (own := [("_law_pick", 16)]) B sc_law_line.nd rfl rfl (sw_true rfl rfl rfl (by decide +kernel)) (pi_list (pe_slice sl_any (pv 0) (po_some pe_int) (po_some (pe_op (o_addK K) pe_int (pv 6))))) (blkOk_by (N := ["_law_picks", "_law_rows", "_law_words_here", "_law_what", "_law_used", "_law_free", "_law_size", "_law_word", "_law_hues", "_law_line_here", "_law_at", "_law_row", "_law_bead", "_law_left", "_law_hue", "_law_behind", "_law_pick", "_law_other"]) (sc := xlaw_line.scope) (by decide +kernel)) (fun _ _ _ _ _ => pg_name (i := 16) sc_law_line.nd rfl (by first | exact .inl rfl | exact .inr rfl)) (fun _ _ _ _ _ B => pts_nil) (fun _ _ _ _ _ B => (pe_op (o_addK K) (pe_op op_mod (pe_callTy call_int (by rfl) B.wx.toTx.f_int b_int (pa_cons (pe_ix (ix_seqK K) (pv 0) pe_int (fun _ _ => rfl)) pa_nil)) pe_int) (pe_op op_mod (pe_callTy call_int (by rfl) B.wx.toTx.f_int b_int (pa_cons (pv 16) pa_nil)) (pe_op (o_addK K) pe_int (pe_op op_mod (pe_callTy call_int (by rfl) B.wx.toTx.f_int b_int (pa_cons (pe_ix (ix_seqK K) (pv 0) pe_int (fun _ _ => rfl)) pa_nil)) pe_int))))))
    (pss_cons (st_set (i := 9) sc_law_line.nd (pe_join pe_str (pe_op (o_addK K) (pe_lst (pa_cons pe_str (pa_cons (pv 7) pa_nil))) (pe_lcB (own := [("_law_hue", 14)]) B sc_law_line.nd (pi_list (pv 8)) (blkOk_by (N := ["_law_picks", "_law_rows", "_law_words_here", "_law_what", "_law_used", "_law_free", "_law_size", "_law_word", "_law_hues", "_law_line_here", "_law_at", "_law_row", "_law_bead", "_law_left", "_law_hue", "_law_behind", "_law_pick", "_law_other"]) (sc := xlaw_line.scope) (by decide +kernel)) (fun _ _ _ _ _ => pg_name (i := 14) sc_law_line.nd rfl (by first | exact .inl rfl | exact .inr rfl)) (fun _ _ _ _ _ B => pts_nil) (fun _ _ _ _ _ B => (pe_callTy call_str_int (by rfl) B.wx.toTx.f_str b_str (pa_cons (pv 14) pa_nil)))))))
    (pss_one (ps_ret (pe_tup (pa_cons (pv 9) (pa_cons (pe_op (o_addK K) (pv 1) (pe_lst (pa_cons (pe_tup (pa_cons (pv 7) (pa_cons (pv 8) (pa_cons (pe_listRg B.calm (by rfl) B.wx.toTx.f_list (prg_1 (by rfl) B.wx.toTx.f_range (pv 6))) pa_nil)))) pa_nil))) pa_nil)))))))) pss_nil)
    (pss_cons (st_set (i := 10) sc_law_line.nd (pe_op op_mod (pe_callTy call_int (by rfl) B.wx.toTx.f_int b_int (pa_cons (pe_ix (ix_seqK K) (pv 0) pe_int (fun _ _ => rfl)) pa_nil)) (pe_callB (call_lenK K) (by rfl) B.wx.toTx.f_len b_len (pa_cons (pv 1) pa_nil))))
    (pss_cons (st_set (i := 11) sc_law_line.nd (pe_ix (ix_seqK K) (pv 1) (pv 10) (fun _ _ => rfl)))
    (pss_cons (ps_if (PW.pt (pw_and (pt_cmpR op_lt (pv 3) pe_int (nomark _)) (pw_and1 (pt_cmpR op_gt (pe_callB (call_lenK K) (by rfl) B.wx.toTx.f_len b_len (pa_cons (pe_ix (ix_seqK K) (pv 11) pe_int (fun _ _ => rfl)) pa_nil)) pe_int (nomark _))))) (pss_cons (st_set (i := 12) sc_law_line.nd (pe_ix (ix_seqK K) (pe_ix (ix_seqK K) (pv 11) pe_int (fun _ _ => rfl)) (pe_op (o_addK K) pe_int (pe_op op_mod (pe_callTy call_int (by rfl) B.wx.toTx.f_int b_int (pa_cons (pe_ix (ix_seqK K) (pv 0) pe_int (fun _ _ => rfl)) pa_nil)) (pe_op op_sub (pe_callB (call_lenK K) (by rfl) B.wx.toTx.f_len b_len (pa_cons (pe_ix (ix_seqK K) (pv 11) pe_int (fun _ _ => rfl)) pa_nil)) pe_int))) (fun _ _ => rfl)))
    (pss_cons (ps_setLcB (i := 13) (own := [("_law_other", 17)]) B sc_law_line.nd rfl rfl (sw_true rfl rfl rfl (by decide +kernel)) (pi_list (pe_ix (ix_seqK K) (pv 11) pe_int (fun _ _ => rfl))) (blkOk_by (N := ["_law_picks", "_law_rows", "_law_words_here", "_law_what", "_law_used", "_law_free", "_law_size", "_law_word", "_law_hues", "_law_line_here", "_law_at", "_law_row", "_law_bead", "_law_left", "_law_hue", "_law_behind", "_law_pick", "_law_other"]) (sc := xlaw_line.scope) (by decide +kernel)) (fun _ _ _ _ _ => pg_name (i := 17) sc_law_line.nd rfl (by first | exact .inl rfl | exact .inr rfl)) (fun _ _ _ _ _ B => (pts_one (pt_cmpR (o_neK K B.hu64) (pv 17) (pv 12) (nomark _)))) (fun _ _ _ _ _ B => (pv 17)))
    (pss_one (ps_ret (pe_tup (pa_cons (pe_op (o_addK K) (pe_op (o_addK K) (pe_op (o_addK K) pe_str (pe_ix (ix_seqK K) (pv 11) pe_int (fun _ _ => rfl))) pe_str) (pe_callTy call_str_int (by rfl) B.wx.toTx.f_str b_str (pa_cons (pv 12) pa_nil))) (pa_cons (c_law_replaced (K := K) B (pa_cons (pv 1) (pa_cons (pv 10) (pa_cons (pe_tup (pa_cons (pe_ix (ix_seqK K) (pv 11) pe_int (fun _ _ => rfl)) (pa_cons (pe_ix (ix_seqK K) (pv 11) pe_int (fun _ _ => rfl)) (pa_cons (pv 13) pa_nil)))) pa_nil)))) pa_nil))))))) pss_nil)
    (pss_cons (ps_if (pt_cmpR (o_eqK K B.hu64) (pv 3) pe_int (nomark _)) (pss_one (ps_ret (pe_tup (pa_cons (pe_op (o_addK K) pe_str (pe_callTy call_str_int (by rfl) B.wx.toTx.f_str b_str (pa_cons (pe_op (o_addK K) pe_int (pe_op op_mod (pe_callTy call_int (by rfl) B.wx.toTx.f_int b_int (pa_cons (pe_ix (ix_seqK K) (pv 0) pe_int (fun _ _ => rfl)) pa_nil)) pe_int)) pa_nil))) (pa_cons (pv 1) pa_nil))))) pss_nil)
    (pss_cons (st_set (i := 14) sc_law_line.nd (pe_ix (ix_seqK K) (pe_ix (ix_seqK K) (pv 11) pe_int (fun _ _ => rfl)) (pe_op op_mod (pe_callTy call_int (by rfl) B.wx.toTx.f_int b_int (pa_cons (pe_ix (ix_seqK K) (pv 0) pe_int (fun _ _ => rfl)) pa_nil)) (pe_callB (call_lenK K) (by rfl) B.wx.toTx.f_len b_len (pa_cons (pe_ix (ix_seqK K) (pv 11) pe_int (fun _ _ => rfl)) pa_nil))) (fun _ _ => rfl)))
    (pss_cons (ps_if (pt_cmpR (o_eqK K B.hu64) (pv 3) pe_int (nomark _)) (pss_one (st_set (i := 14) sc_law_line.nd (pe_op op_mod (pe_callTy call_int (by rfl) B.wx.toTx.f_int b_int (pa_cons (pe_ix (ix_seqK K) (pv 0) pe_int (fun _ _ => rfl)) pa_nil)) pe_int))) pss_nil)
    (pss_cons (st_set (i := 15) sc_law_line.nd (pe_tup (pa_cons (pe_ix (ix_seqK K) (pv 11) pe_int (fun _ _ => rfl)) (pa_cons (pe_op (o_addK K) (pe_ix (ix_seqK K) (pv 11) pe_int (fun _ _ => rfl)) (pe_lst (pa_cons (pv 14) pa_nil))) (pa_cons (pe_op (o_addK K) (pe_ix (ix_seqK K) (pv 11) pe_int (fun _ _ => rfl)) (pe_lst (pa_cons (pe_callB (call_lenK K) (by rfl) B.wx.toTx.f_len b_len (pa_cons (pe_ix (ix_seqK K) (pv 11) pe_int (fun _ _ => rfl)) pa_nil)) pa_nil))) pa_nil)))))
    (pss_one (ps_ret (pe_tup (pa_cons (pe_op (o_addK K) (pe_op (o_addK K) (pe_op (o_addK K) pe_str (pe_ix (ix_seqK K) (pv 11) pe_int (fun _ _ => rfl))) pe_str) (pe_callTy call_str_int (by rfl) B.wx.toTx.f_str b_str (pa_cons (pv 14) pa_nil))) (pa_cons (c_law_replaced (K := K) B (pa_cons (pv 1) (pa_cons (pv 10) (pa_cons (pv 15) pa_nil)))) pa_nil))))))))))))))))), ?_⟩
  obtain ⟨n0, n1, n2, n3, n4, n5, n6, n7, n8, n9, n10, rfl⟩ := len11 hl
  have ha : H a = some (.lst [.int n0, .int n1, .int n2, .int n3, .int n4, .int n5, .int n6, .int n7, .int n8, .int n9, .int n10]) := ha
  have n1b : 0 ≤ n1 ∧ n1 < 1000000 := hr n1 (by simp)
  obtain ⟨b', rv, eb, hbl, hbz, hbp⟩ := hd_inv hbG
  cases eb
  have hbl : H b = some (.lst rv) := eG _ _ hbl
  have hrl : rv.length = rs.length := by rw [Paired.length hbp, List.length_map]
  have hrn := hrs.1
  refine ⟨_, rfl, ixl ha rfl (.inl (.inl ⟨_, rfl, _, _, rfl, rfl, show (0 : Int) < 9 by decide, ?_⟩))⟩
  walk_at "st"
  obtain ⟨wh, hwh⟩ : ∃ wh, wh = n0 % 9 := ⟨_, rfl⟩
  rw [← hwh]
  refine ⟨_, rfl, b, rfl, ⟨_, sq_of hbl⟩, fun D hD => ?_⟩
  refine lcX (walk_list (xs := rv)) _ yAt (by omega) hD (fun H' e => ex_l e (sq_of hbl)) (fun _ _ => true) (fun i acc => acc = ((rs.take i).map fun r => V.str r.w)) rfl ?_ (fun i x acc H1 hi hx r e Q q => q H1 (Ex.refl H1)) (fun i x acc H1 hi hx r e hf Q q => ?_) (fun i x acc hi hx r hf => by cases hf) (fun H1 ys e1 hD1 r hl2 => ?_)
  · exact fun _ => rfl
  · obtain ⟨d, hd, hxd⟩ := pr_get hbp hx
    rw [List.getElem?_map] at hd
    obtain ⟨r0, hr0, rfl⟩ := Option.map_eq_some_iff.mp hd
    obtain ⟨t, hu, st, rfl, ht, _, _⟩ := rl_inv (Hd.ex hxd (eG.trans e))
    refine ⟨_, rfl, ixt ht rfl (q _ _ (Ex.refl H1) ?_)⟩
    rw [take_snoc hr0, List.map_append, r]
    rfl
  rw [hrl, take_all] at r
  subst r
  walk_at "st"
  have hw1 := e1 _ _ hw
  refine ⟨_, rfl, w, rfl, ⟨_, sq_of hw1⟩, fun D2 hD2 => ?_⟩
  have hfl : (rs.map fun r => V.str r.w).all flatV = true := by
    rw [List.all_eq_true]
    intro x hx
    obtain ⟨z, _, rfl⟩ := List.mem_map.mp hx
    rfl
  refine lcX (walk_list (xs := ws.map V.str)) _ yAt (by rw [List.length_map]; omega) hD2 (fun H' e => ex_l e (sq_of hw1)) (fun _ x => !inV x (rs.map fun r => V.str r.w)) (fun i acc => ∃ fs : List Str, acc = fs.map V.str ∧ (∀ z ∈ fs, z.length ≤ 20) ∧ (rs = [] → fs.length = i)) ⟨[], rfl, by simp, fun _ => rfl⟩ ?_ (fun i x acc H1' hi hx r e Q q => ?_) (fun i x acc H1' hi hx r e hf Q q => ?_) (fun i x acc hi hx r hf => ?_) (fun H2 ys e2 hF r hl3 => ?_)
  · exact fun _ => rfl
  · rw [List.getElem?_map] at hx
    obtain ⟨z, hz1, rfl⟩ := Option.map_eq_some_iff.mp hx
    refine ⟨_, rfl, _, rfl, .inl ⟨D, _, rfl, .inl (sq_of (e _ _ hD1)), rfl, hfl, ?_⟩⟩
    rw [if_pos rfl]
    exact ⟨_, rfl, q _ (Ex.refl _)⟩
  · rw [List.getElem?_map] at hx
    obtain ⟨z, hz1, rfl⟩ := Option.map_eq_some_iff.mp hx
    obtain ⟨fs, rfl, r2, r3⟩ := r
    refine ⟨_, rfl, q _ _ (Ex.refl _) ⟨fs ++ [z], by rw [List.map_append]; rfl, fun y hy => ?_, fun h0 => by rw [List.length_append, r3 h0]; rfl⟩⟩
    rcases List.mem_append.mp hy with h | h
    · exact r2 y h
    · rw [List.mem_singleton.mp h]
      exact hwz z (List.mem_of_getElem? hz1)
  · obtain ⟨fs, rfl, r2, r3⟩ := r
    refine ⟨fs, rfl, r2, fun h0 => ?_⟩
    subst h0
    cases hf
  obtain ⟨fs, rfl, hfz, hf3⟩ := r
  rw [List.length_map, hwl] at hf3
  rw [List.length_map, List.length_map, hwl] at hl3
  walk_at "st"
  have e12 := e1.trans e2
  have ha2 := e12 _ _ ha
  refine ⟨_, rfl, ixl ha2 rfl (.inl (.inl ⟨_, rfl, _, _, rfl, rfl, show (0 : Int) < 4 by decide, adi ?_⟩))⟩
  walk_at "st"
  obtain ⟨s, hs⟩ : ∃ s, s = 2 + n2 % 4 := ⟨_, rfl⟩
  have hsb : 2 ≤ s ∧ s ≤ 5 := by
    have := modR (a := n2) (show (0 : Int) < 4 by decide)
    omega
  rw [← hs]
  refine qwhX (b := decide (rv = []) || (decide (wh < 2) && !decide (fs.map V.str = []))) (ax_or (fun Q q => ?_) fun _ H3 e3 => ax_and (Ans.x (a_test fun Q q => ⟨_, rfl, _, _, rfl, rfl, q⟩)) fun _ H4 e4 Q q => ?_) (fun hc H5 e5 => ?_) (fun hc H5 e5 => ?_)
  · exact ⟨_, rfl, by walk_at "le", fun L hL => ⟨b, L, _, rfl, rfl, sq_of ((Ex.new hL) _ _ (e12 _ _ hbl)), sq_of upd_same, _, rfl, q _ (Ex.new hL)⟩⟩
  · exact ⟨_, rfl, by walk_at "le", fun L hL => ⟨D2, L, _, rfl, rfl, sq_of ((Ex.new hL) _ _ ((e3.trans e4) _ _ hF)), sq_of upd_same, _, rfl, q _ (Ex.new hL)⟩⟩
  · -- a row is laid
    have hfs : fs ≠ [] := fun h0 => by
      have h1 : decide (rv = []) = true ∨ (decide (wh < 2) && !decide (fs.map V.str = [])) = true := by simpa only [Bool.or_eq_true] using hc
      rcases h1 with h1 | h1
      · have h2 : rv = [] := of_decide_eq_true h1
        have h3 : rs = [] := List.length_eq_zero_iff.mp (by rw [← hrl, h2]; rfl)
        have := hf3 h3
        rw [h0] at this
        cases this
      · rw [h0] at h1
        simp at h1
    have hfn : 0 < fs.length := List.length_pos_iff.mpr hfs
    have e15 := e12.trans e5
    have ha5 := e15 _ _ ha
    have hF5 := e5 _ _ hF
    have hmf := modR (a := n1) (m := ((fs.map V.str).length : Int)) (by rw [List.length_map]; omega)
    obtain ⟨wo, hwo, hat⟩ := atI_in (f := V.str) (xs := fs) hmf.1 (by have := hmf.2; rw [List.length_map] at this ⊢; exact this)
    have hwo20 := hfz wo hwo
    refine ⟨_, rfl, _, rfl, ixl ha5 rfl (.inl (.inl ⟨_, rfl, _, rfl, _, _, rfl, lenl hF5, _, _, rfl, rfl, show (0 : Int) < ((fs.map V.str).length : Nat) by rw [List.length_map]; omega, ixl hF5 hat ?_⟩))⟩
    walk_at "st"
    refine ⟨_, rfl, _, rfl, _, rfl, adi ⟨_, rfl, sll ha5 fun q hq1 => ⟨q, rfl, ⟨_, sq_of upd_same⟩, fun D3 hD3 => ?_⟩⟩⟩
    obtain ⟨LL, hLL⟩ : ∃ LL, LL = cutV [.int n0, .int n1, .int n2, .int n3, .int n4, .int n5, .int n6, .int n7, .int n8, .int n9, .int n10] (some 5) (some (5 + s)) := ⟨_, rfl⟩
    have hLm : ∀ x ∈ LL, ∃ z : Int, x = .int z := fun x hx => by
      rw [hLL] at hx
      have h := mem_cut hx
      simp only [List.mem_cons, List.not_mem_nil, or_false] at h
      rcases h with rfl | rfl | rfl | rfl | rfl | rfl | rfl | rfl | rfl | rfl | rfl <;> exact ⟨_, rfl⟩
    have hLs : (LL.length : Int) = s := by
      rw [hLL]
      rcases (show s = 2 ∨ s = 3 ∨ s = 4 ∨ s = 5 by omega) with h | h | h | h <;> rw [h] <;> rfl
    rw [← hLL] at hD3 ⊢
    have e6 := Ex.new (o := .lst LL) hq1
    have hq2 : (upd H5 q (.lst LL)) q = some (.lst LL) := upd_same
    generalize upd H5 q (.lst LL) = H6 at *
    have e16 := e15.trans e6
    have ha6 := e16 _ _ ha
    refine lcX (walk_list (xs := LL)) _ yAt (by omega) hD3 (fun H' e => ex_l e (sq_of hq2)) (fun _ _ => true) (fun i acc => ∃ hs : List Int, acc = hs.map V.int ∧ hs.length = i ∧ ∀ h ∈ hs, 0 ≤ h ∧ h ≤ 10000000) ⟨[], rfl, rfl, by simp⟩ ?_ (fun i x acc H1 hi hx r e Q q => q H1 (Ex.refl H1)) (fun i x acc H1 hi hx r e hf Q q => ?_) (fun i x acc hi hx r hf => by cases hf) (fun H7 ys e7 hD7 r hl4 => ?_)
    · exact fun _ => rfl
    · obtain ⟨z, rfl⟩ := hLm x (List.mem_of_getElem? hx)
      obtain ⟨cs, rfl, r2, r3⟩ := r
      have m4 := modR (a := n4) (show (0 : Int) < 4 by decide)
      have m9 := modR (a := n3) (show (0 : Int) < 900 by decide)
      have mz := modR (a := z) (m := 1 + n4 % 4) (by omega)
      refine ⟨_, rfl, ixl (e _ _ ha6) rfl (.inl (.inl ⟨_, rfl, _, _, rfl, rfl, show (0 : Int) < 900 by decide, _, rfl, .inl (.inl ⟨_, rfl, _, rfl, ixl (e _ _ ha6) rfl (.inl (.inl ⟨_, rfl, _, _, rfl, rfl, show (0 : Int) < 4 by decide, adi ⟨_, _, rfl, rfl, show (0 : Int) < 1 + n4 % 4 by omega, adi (q _ _ (Ex.refl H1) ⟨cs ++ [n3 % 900 + z % (1 + n4 % 4)], by rw [List.map_append]; rfl, by rw [List.length_append, r2]; rfl, fun h hh => ?_⟩)⟩⟩))⟩)⟩))⟩
      rcases List.mem_append.mp hh with h | h
      · exact r3 _ h
      · rw [List.mem_singleton.mp h]
        omega
    obtain ⟨hs2, rfl, hsl, hsr⟩ := r
    walk_at "st"
    have e17 := e16.trans e7
    refine ⟨⟨_, rfl⟩, _, rfl, by walk_at "le", fun L1 hL1 => ⟨_, rfl, D3, rfl, ⟨_, sq_of ((Ex.new hL1) _ _ hD7)⟩, fun D4 hD4 => ?_⟩⟩
    have e8 := Ex.new (o := .lst [.str "lay", .str wo]) hL1
    have hL18 : (upd H7 L1 (.lst [.str "lay", .str wo])) L1 = some (.lst [.str "lay", .str wo]) := upd_same
    have hD8 := e8 _ _ hD7
    generalize upd H7 L1 (.lst [.str "lay", .str wo]) = H8 at *
    have hsl5 : hs2.length ≤ 5 := by omega
    refine lcX (walk_list (xs := hs2.map V.int)) _ yAt (by rw [List.length_map]; omega) hD4 (fun H' e => ex_l e (sq_of hD8)) (fun _ _ => true) (fun i acc => acc = ((hs2.take i).map shw).map V.str) rfl ?_ (fun i x acc H1 hi hx r e Q q => q H1 (Ex.refl H1)) (fun i x acc H1 hi hx r e hf Q q => ?_) (fun i x acc hi hx r hf => by cases hf) (fun H9 ys e9 hD9 r hl5 => ?_)
    · exact fun _ => rfl
    · rw [List.getElem?_map] at hx
      obtain ⟨z, hz1, rfl⟩ := Option.map_eq_some_iff.mp hx
      have hzr := hsr z (List.mem_of_getElem? hz1)
      refine ⟨_, rfl, z, rfl, lgs (by omega), q _ _ (Ex.refl H1) ?_⟩
      rw [take_snoc hz1, List.map_append, List.map_append, r]
      rfl
    rw [List.length_map, take_all] at r
    subst r
    have e19 := e17.trans (e8.trans e9)
    have hs8 := sum_le8 hsr
    refine adl (e9 _ _ hL18) hD9 (by rw [List.length_map, List.length_map]; show 2 + hs2.length ≤ 100000; omega) fun L2 hL2 => ?_
    have e10 := Ex.new (o := .lst ([.str "lay", .str wo] ++ (hs2.map shw).map V.str)) hL2
    refine ⟨_, L2, "lay" :: wo :: hs2.map shw, rfl, rfl, .inl (sq_of upd_same), ?_, ?_⟩
    · show 3 + (wo.length + ((hs2.map shw).map (·.length)).sum) + ((hs2.map shw).length + 1 + 1) * 1 ≤ 16777216
      rw [List.length_map]
      omega
    walk_at "st"
    generalize upd H9 L2 (.lst ([.str "lay", .str wo] ++ (hs2.map shw).map V.str)) = H10 at *
    have e20 := e19.trans e10
    have hjl := join_len (ws := "lay" :: wo :: hs2.map shw) (by simp)
    have hjl2 : (("lay" :: wo :: hs2.map shw : List Str).map (·.length)).sum = 3 + (wo.length + ((hs2.map shw).map (·.length)).sum) := rfl
    have hjl3 : ("lay" :: wo :: hs2.map shw : List Str).length = hs2.length + 2 := by
      show (hs2.map shw).length + 1 + 1 = _
      rw [List.length_map]
    have hD10 := (e9.trans e10) _ _ hD8
    refine ⟨_, rfl, _, rfl, _, rfl, _, rfl, _, rfl, _, rfl, RgOk.of_le (by decide) (by omega) (by decide) (by omega), fun r1 hr1 => ⟨by walk_at "le", fun t ht => ⟨by walk_at "le", fun l hl => ?_⟩⟩⟩
    have e11 := Ex.new (o := .lst (rgV 0 s)) hr1
    have e21 := Ex.new (o := .tup [.str wo, .ref D3, .ref r1]) ht
    have e22 := Ex.new (o := .lst [.ref t]) hl
    have e23 := e11.trans (e21.trans e22)
    refine adl ((e20.trans e23) _ _ hbl) upd_same (by show rv.length + 1 ≤ 100000; omega) fun c hc => ⟨by walk_at "le", fun p hp => ?_⟩
    have e24 := Ex.new (o := .lst (rv ++ [.ref t])) hc
    have e25 := Ex.new (o := .tup [.str (Txt.join " " ("lay" :: wo :: hs2.map shw)), .ref c]) hp
    have e26 := e20.trans (e23.trans (e24.trans e25))
    have hrg : rgV 0 s = ((List.range s.toNat).map fun (i : Nat) => (i : Int)).map V.int := by
      unfold rgV
      rw [List.map_map, Int.sub_zero]
      refine List.map_congr_left fun i _ => ?_
      show V.int (0 + (i : Int)) = V.int (i : Int)
      rw [Int.zero_add]
    have hr1' := (e21.trans (e22.trans (e24.trans e25))) _ _ (show (upd H10 r1 (.lst (rgV 0 s))) r1 = some (.lst (((List.range s.toNat).map fun (i : Nat) => (i : Int)).map V.int)) from by rw [upd_same, hrg])
    have hrow : Hd 2 (only G H _) (.ref t) (dRL ⟨wo, hs2, (List.range s.toNat).map fun (i : Nat) => (i : Int)⟩) := rl_mk (only_new (fresh_back (e20.trans e11) ht) ((e22.trans (e24.trans e25)) _ _ upd_same)) (only_new (fresh_back e16 hD3) ((e23.trans (e24.trans e25)) _ _ hD10)) (only_new (fresh_back e20 hr1) hr1') (show hs2.length ≤ 90000 by omega) (by show (List.map _ _).length ≤ 90000; rw [List.length_map, List.length_range]; omega)
    refine hq p c _ _ (rs ++ [⟨wo, hs2, (List.range s.toNat).map fun (i : Nat) => (i : Int)⟩]) e26 upd_same (hd_lst (only_new (fresh_back (e20.trans e23) hc) (e25 _ _ upd_same)) (by rw [List.length_append]; show rv.length + 1 ≤ 90000; omega) ?_) ?_ ?_
    · rw [List.map_append]
      exact pr_app (Paired.mapP hbp fun _ _ q => Hd.ex q (only_old (eG.trans e26))) (pr_one hrow)
    · refine hrs.snoc ⟨hwo20, show 1 ≤ hs2.length by omega, show hs2.length ≤ _ by omega, ?_, hsr, fun x hx => ?_⟩
      · show (List.map _ _).length ≤ N + 1 + 10
        rw [List.length_map, List.length_range]
        omega
      · obtain ⟨i, hi, rfl⟩ := List.mem_map.mp hx
        have := List.mem_range.mp hi
        omega
    · have : (Txt.join " " ("lay" :: wo :: hs2.map shw)).length + 1 = _ := hjl
      omega
  · -- no row is laid
    have hrv : rv ≠ [] := fun h0 => by
      rw [decide_eq_true h0] at hc
      cases hc
    have hrn1 : 0 < rv.length := List.length_pos_iff.mpr hrv
    have e15 := e12.trans e5
    have ha5 := e15 _ _ ha
    have hb5 := e15 _ _ hbl
    have hma := modR (a := n1) (m := (rv.length : Int)) (by omega)
    refine ⟨_, rfl, ixl ha5 rfl (.inl (.inl ⟨_, rfl, _, rfl, _, _, rfl, lenl hb5, _, _, rfl, rfl, show (0 : Int) < (rv.length : Nat) by omega, ?_⟩))⟩
    walk_at "st"
    obtain ⟨k, hk⟩ : ∃ k, k = n1 % ((rv.length : Nat) : Int) := ⟨_, rfl⟩
    rw [← hk] at hma ⊢
    obtain ⟨r0, hr0⟩ : ∃ r0, rs[k.toNat]? = some r0 := ⟨_, List.getElem?_eq_getElem (by omega)⟩
    have hr0m : r0 ∈ rs := List.mem_of_getElem? hr0
    have ok0 := hrs.2 r0 hr0m
    obtain ⟨x0, hx0, hx0d⟩ := pr_getR (y := dRL r0) hbp (by rw [List.getElem?_map, hr0]; rfl)
    obtain ⟨t, hu, st, rfl, htG, hhuG, hstG⟩ := rl_inv hx0d
    have eG5 := eG.trans e15
    have ht := eG5 _ _ htG
    have hhu := eG5 _ _ hhuG
    have hst := eG5 _ _ hstG
    have hat : atI rv k = some (.ref t) := by
      have e : k = ((k.toNat : Nat) : Int) := by omega
      rw [e]
      exact atI_nat hx0
    refine ⟨_, rfl, _, rfl, ixl hb5 hat ?_⟩
    walk_at "st"
    refine qwh (b := decide (wh < 7) && decide (2 < (r0.st.length : Int))) (a_and (a_test fun Q q => ⟨_, rfl, _, _, rfl, rfl, q⟩) fun _ => a_test fun Q q => ⟨_, rfl, ixt ht rfl ⟨_, _, rfl, lenl hst, _, _, rfl, rfl, ?_⟩⟩) (fun h => ?_) (fun h => ?_)
    · show Q (.bl (decide ((2 : Int) < (((r0.st.map V.int).length : Nat) : Int)))) _
      rw [List.length_map]
      exact q
    · -- a bead is taken
      have h2 : 2 < (r0.st.length : Int) := by
        have h3 : wh < 7 ∧ 2 < (r0.st.length : Int) := by simpa only [Bool.and_eq_true, decide_eq_true_eq] using h
        exact h3.2
      have hml := modR (a := n2) (m := (((r0.st.map V.int).length : Nat) : Int) - 2) (by rw [List.length_map]; omega)
      obtain ⟨bd, hbd, hatb⟩ := atI_in (f := V.int) (xs := r0.st) (j := 1 + n2 % ((((r0.st.map V.int).length : Nat) : Int) - 2)) (by omega) (by rw [List.length_map] at hml ⊢; omega)
      have hbdr := ok0.sr bd hbd
      refine ⟨_, rfl, ixt ht rfl ⟨_, rfl, ixl ha5 rfl (.inl (.inl ⟨_, rfl, _, rfl, ixt ht rfl ⟨_, _, rfl, lenl hst, _, _, rfl, rfl, _, _, rfl, rfl, show (0 : Int) < (((r0.st.map V.int).length : Nat) : Int) - 2 by rw [List.length_map]; omega, adi (ixl hst hatb ?_)⟩⟩))⟩⟩
      walk_at "st"
      refine ⟨_, rfl, ixt ht rfl ⟨st, rfl, ⟨_, sq_of hst⟩, fun D3 hD3 => ?_⟩⟩
      have okl := ok0.sl
      have okh := ok0.hl
      refine lcX (walk_list (xs := r0.st.map V.int)) _ yAt (by rw [List.length_map]; omega) hD3 (fun H' e => ex_l e (sq_of hst)) (fun _ x => !decide (x = V.int bd)) (fun i acc => ∃ ls : List Int, acc = ls.map V.int ∧ ls.length ≤ i ∧ ∀ x ∈ ls, 0 ≤ x ∧ x ≤ 10000000) ⟨[], rfl, Nat.zero_le _, by simp⟩ ?_ (fun i x acc H1 hi hx r e Q q => ?_) (fun i x acc H1 hi hx r e hf Q q => ?_) (fun i x acc hi hx r hf => ?_) (fun H7 ys e7 hD7 r hl4 => ?_)
      · exact fun _ => rfl
      · rw [List.getElem?_map] at hx
        obtain ⟨z, hz1, rfl⟩ := Option.map_eq_some_iff.mp hx
        exact ⟨_, rfl, _, rfl, .inl ⟨rfl, _, rfl, q H1 (Ex.refl H1)⟩⟩
      · rw [List.getElem?_map] at hx
        obtain ⟨z, hz1, rfl⟩ := Option.map_eq_some_iff.mp hx
        obtain ⟨ls, rfl, r2, r3⟩ := r
        refine ⟨_, rfl, q _ _ (Ex.refl _) ⟨ls ++ [z], by rw [List.map_append]; rfl, by rw [List.length_append]; show ls.length + 1 ≤ i + 1; omega, fun y hy => ?_⟩⟩
        rcases List.mem_append.mp hy with h | h
        · exact r3 y h
        · rw [List.mem_singleton.mp h]
          exact ok0.sr z (List.mem_of_getElem? hz1)
      · obtain ⟨ls, rfl, r2, r3⟩ := r
        exact ⟨ls, rfl, by omega, r3⟩
      obtain ⟨ls, rfl, hll, hlr⟩ := r
      rw [List.length_map] at hll
      walk_at "st"
      have e17 := e15.trans e7
      have ht7 := e7 _ _ ht
      have hsh := shw_len hbdr.1 hbdr.2
      have hwl0 := ok0.wl
      refine ⟨_, rfl, ixt ht7 rfl (ads (by rw [ls_take]; omega) (ads (by rw [len_app, ls_take, ls_blank]; omega) ⟨_, rfl, bd, rfl, lgs (by omega), ads ?_ ⟨_, rfl, _, rfl, _, rfl, ixt ht7 rfl ⟨_, rfl, ixt ht7 rfl ⟨_, rfl, by walk_at "le", fun t2 ht2 => ⟨b, k, .ref t2, rv, rfl, (e7.trans (Ex.new ht2)) _ _ hb5, hma.1, hma.2, by omega, fun c H8 hc8 e8 hcc => ⟨by walk_at "le", fun p hp => ?_⟩⟩⟩⟩⟩⟩))⟩
      · rw [len_app, len_app, ls_take, ls_blank]
        show 5 + r0.w.length + 1 + (shw bd).length ≤ 100000
        omega
      have e9 := Ex.new (o := .tup [.str (("take " : Str) ++ r0.w ++ " " ++ shw bd), .ref c]) hp
      have en := Ex.new (o := .tup [.str r0.w, .ref hu, .ref D3]) ht2
      have e89 := en.trans (e8.trans e9)
      have hrow : Hd 2 (only G H _) (.ref t2) (dRL ⟨r0.w, r0.hues, ls⟩) := rl_mk (only_new (fresh_back e17 ht2) ((e8.trans e9) _ _ upd_same)) (only_old (eG.trans (e17.trans e89)) _ _ hhuG) (only_new (fresh_back e15 hD3) (e89 _ _ hD7)) (show r0.hues.length ≤ 90000 by omega) (show ls.length ≤ 90000 by omega)
      refine hq p c _ _ (rs.set k.toNat ⟨r0.w, r0.hues, ls⟩) (e17.trans e89) upd_same (hd_lst (only_new (fresh_back (e17.trans en) hc8) (e9 _ _ hcc)) (by rw [List.length_set]; omega) ?_) (hrs.set (r := ⟨r0.w, r0.hues, ls⟩) ⟨hwl0, ok0.h1, by show r0.hues.length ≤ _; omega, by show ls.length ≤ _; omega, ok0.hr, hlr⟩ _) ?_
      · rw [List.map_set]
        exact pr_set _ (Paired.mapP hbp fun _ _ q => Hd.ex q (only_old (eG.trans (e17.trans e89)))) hrow
      · rw [len_app, len_app, len_app, ls_take, ls_blank]
        show 5 + r0.w.length + 1 + (shw bd).length ≤ 200
        omega
    · refine qwh (b := decide (wh = 7)) (a_test fun Q q => ⟨_, rfl, eqI q⟩) (fun _ => ?_) (fun _ => ?_)
      · have m4 := modR (a := n2) (show (0 : Int) < 4 by decide)
        have hsh := shw_len (i := 1 + n2 % 4) (by omega) (by omega)
        refine ⟨_, rfl, ixl ha5 rfl (.inl (.inl ⟨_, rfl, _, _, rfl, rfl, show (0 : Int) < 4 by decide, adi ⟨_, rfl, lgs (by omega), ads ?_ ⟨_, rfl, by walk_at "le", fun p hp => ?_⟩⟩⟩))⟩
        · rw [ls_coins]
          show 6 + (shw (1 + n2 % 4)).length ≤ 100000
          omega
        · refine hq p b _ _ rs (e15.trans (Ex.new hp)) upd_same (Hd.ex hbG (only_old (eG.trans (e15.trans (Ex.new hp))))) hrs.mono ?_
          rw [len_app, ls_coins]
          show 6 + (shw (1 + n2 % 4)).length ≤ 200
          omega
      · have okl := ok0.sl
        have okh := ok0.hl
        have okh1 := ok0.h1
        have hmh := modR (a := n3) (m := (((r0.hues.map V.int).length : Nat) : Int)) (by rw [List.length_map]; omega)
        obtain ⟨h0, hh0, hath⟩ := atI_in (f := V.int) (xs := r0.hues) hmh.1 (by have := hmh.2; rw [List.length_map] at this ⊢; exact this)
        have hh0r := ok0.hr h0 hh0
        refine ⟨_, rfl, ixt ht rfl ⟨_, rfl, ixl ha5 rfl (.inl (.inl ⟨_, rfl, _, rfl, ixt ht rfl ⟨_, _, rfl, lenl hhu, _, _, rfl, rfl, show (0 : Int) < (((r0.hues.map V.int).length : Nat) : Int) by rw [List.length_map]; omega, ixl hhu hath ?_⟩⟩))⟩⟩
        walk_at "st"
        refine qjn (fun σ' H' => H' = H5 ∧ ∃ h : Int, σ' = [some (.ref a), some (.ref b), some (.ref w), some (.int wh), some (.ref D), some (.ref D2), some (.int s), none, none, none, some (.int k), some (.ref t), none, none, some (.int h), none, none, none] ∧ 0 ≤ h ∧ h ≤ 10000000) (fun D' hD' => ?_) ?_
        · refine swh (b := decide (wh = 8)) (a_test fun Q q => ⟨_, rfl, eqI q⟩) (fun _ => ?_) (fun _ => hD' _ _ ⟨rfl, h0, rfl, hh0r.1, hh0r.2⟩)
          have m1 := modR (a := n4) (show (0 : Int) < 1000 by decide)
          exact ⟨_, rfl, ixl ha5 rfl (.inl (.inl ⟨_, rfl, _, _, rfl, rfl, show (0 : Int) < 1000 by decide, hD' _ _ ⟨rfl, n4 % 1000, rfl, m1.1, by omega⟩⟩))⟩
        · rintro σ' H' ⟨rfl, h, rfl, hh1, hh2⟩
          refine ⟨_, rfl, ixt ht rfl ⟨_, rfl, ixt ht rfl ⟨_, rfl, by walk_at "le", fun l1 hl1 => ?_⟩⟩⟩
          have g1 := Ex.new (o := .lst [.int h]) hl1
          refine adl (g1 _ _ hhu) upd_same (by rw [List.length_map]; show r0.hues.length + 1 ≤ 100000; omega) fun l2 hl2 => ?_
          have g2 := Ex.new (o := .lst (r0.hues.map V.int ++ [.int h])) hl2
          have g12 := g1.trans g2
          refine ⟨_, rfl, ixt (g12 _ _ ht) rfl ⟨_, rfl, ixt (g12 _ _ ht) rfl ⟨_, _, rfl, lenl (g12 _ _ hhu), by walk_at "le", fun l3 hl3 => ?_⟩⟩⟩
          have g3 := Ex.new (o := .lst [.int (((r0.hues.map V.int).length : Nat) : Int)]) hl3
          refine adl ((g12.trans g3) _ _ hst) upd_same (by rw [List.length_map]; show r0.st.length + 1 ≤ 100000; omega) fun l4 hl4 => ⟨by walk_at "le", fun t2 ht2 => ?_⟩
          have g4 := Ex.new (o := .lst (r0.st.map V.int ++ [.int (((r0.hues.map V.int).length : Nat) : Int)])) hl4
          have g5 := Ex.new (o := .tup [.str r0.w, .ref l2, .ref l4]) ht2
          have g35 := g3.trans (g4.trans g5)
          have g15 := g12.trans g35
          have nt2 := fresh_back (e15.trans (g12.trans (g3.trans g4))) ht2
          have nl2 := fresh_back (e15.trans g1) hl2
          have nl4 := fresh_back (e15.trans (g12.trans g3)) hl4
          have k2 := g35 _ _ (upd_same (a := l2))
          have k4 := g5 _ _ (upd_same (a := l4))
          have k5 := upd_same (H := upd (upd (upd (upd H' l1 (.lst [.int h])) l2 (.lst (r0.hues.map V.int ++ [.int h]))) l3 (.lst [.int (((r0.hues.map V.int).length : Nat) : Int)])) l4 (.lst (r0.st.map V.int ++ [.int (((r0.hues.map V.int).length : Nat) : Int)]))) (a := t2) (o := .tup [.str r0.w, .ref l2, .ref l4])
          walk_at "st"
          generalize upd (upd (upd (upd (upd H' l1 (.lst [.int h])) l2 (.lst (r0.hues.map V.int ++ [.int h]))) l3 (.lst [.int (((r0.hues.map V.int).length : Nat) : Int)])) l4 (.lst (r0.st.map V.int ++ [.int (((r0.hues.map V.int).length : Nat) : Int)]))) t2 (.tup [.str r0.w, .ref l2, .ref l4]) = H6 at *
          have hsh := shw_len hh1 hh2
          have hwl0 := ok0.wl
          refine ⟨_, rfl, ixt (g15 _ _ ht) rfl (ads (by rw [ls_grow]; omega) (ads (by rw [len_app, ls_grow, ls_blank]; omega) ⟨_, rfl, h, rfl, lgs (by omega), ads ?_ ⟨_, rfl, _, rfl, _, rfl, b, k, .ref t2, rv, rfl, g15 _ _ hb5, hma.1, hma.2, by omega, fun c H8 hc8 e8 hcc => ⟨by walk_at "le", fun p hp => ?_⟩⟩⟩))⟩
          · rw [len_app, len_app, ls_grow, ls_blank]
            show 5 + r0.w.length + 1 + (shw h).length ≤ 100000
            omega
          have e9 := Ex.new (o := .tup [.str (("grow " : Str) ++ r0.w ++ " " ++ shw h), .ref c]) hp
          have e89 := e8.trans e9
          have hrow : Hd 2 (only G H _) (.ref t2) (dRL ⟨r0.w, r0.hues ++ [h], r0.st ++ [((r0.hues.length : Nat) : Int)]⟩) := rl_mk (only_new nt2 (e89 _ _ k5)) (only_new nl2 (by show _ = some (HO.lst ((r0.hues ++ [h]).map V.int)); rw [List.map_append]; exact e89 _ _ k2)) (only_new nl4 (by show _ = some (HO.lst ((r0.st ++ [((r0.hues.length : Nat) : Int)]).map V.int)); rw [List.length_map] at k4; rw [List.map_append]; exact e89 _ _ k4)) (by show (r0.hues ++ [h]).length ≤ 90000; rw [List.length_append]; show r0.hues.length + 1 ≤ 90000; omega) (by show (r0.st ++ _).length ≤ 90000; rw [List.length_append]; show r0.st.length + 1 ≤ 90000; omega)
          have eall := e15.trans (g15.trans e89)
          refine hq p c _ _ (rs.set k.toNat ⟨r0.w, r0.hues ++ [h], r0.st ++ [((r0.hues.length : Nat) : Int)]⟩) eall upd_same (hd_lst (only_new (fresh_back (e15.trans g15) hc8) (e9 _ _ hcc)) (by rw [List.length_set]; omega) ?_) (hrs.set (r := ⟨r0.w, r0.hues ++ [h], r0.st ++ [((r0.hues.length : Nat) : Int)]⟩) ⟨hwl0, ?_, ?_, ?_, fun x hx => ?_, fun x hx => ?_⟩ _) ?_
          · rw [List.map_set]
            exact pr_set _ (Paired.mapP hbp fun _ _ q => Hd.ex q (only_old (eG.trans eall))) hrow
          · show 1 ≤ (r0.hues ++ [h]).length
            rw [List.length_append]
            show 1 ≤ r0.hues.length + 1
            omega
          · show (r0.hues ++ [h]).length ≤ N + 1 + 10
            rw [List.length_append]
            show r0.hues.length + 1 ≤ _
            omega
          · show (r0.st ++ [((r0.hues.length : Nat) : Int)]).length ≤ N + 1 + 10
            rw [List.length_append]
            show r0.st.length + 1 ≤ _
            omega
          · rcases List.mem_append.mp hx with z | z
            · exact ok0.hr x z
            · rw [List.mem_singleton.mp z]
              exact ⟨hh1, hh2⟩
          · rcases List.mem_append.mp hx with z | z
            · exact ok0.sr x z
            · rw [List.mem_singleton.mp z]
              omega
          · rw [len_app, len_app, len_app, ls_grow, ls_blank]
            show 5 + r0.w.length + 1 + (shw h).length ≤ 200
            omega)
end
section
variable {X : Cx} {W : WX} {k : Nat} {e o : Expr} {es : List Expr} {ta : TA} {to : TE} {p pos apos : Pos} {pl : Sem Bool}
theorem c_law_line {K : PySem.W.Frag} (B : Bx X W k) (ha : PA X (e :: es) ta) (hK : X.K = K := by rfl) (hl : 2 ≤ k := by decide) (hg : Gl X "_law_line" := by rfl) (hst : starEach (e :: es) X.env = (false, eval e X.env) :: starEach es X.env := by rfl) (hpl : (backTo pos (starEach es X.env)).any (·.1) = false := by rfl) : PE X (.Call (.Name "_law_line" p) (e :: es) [] pos) (tFn (spLineL) W ta) := by
  subst hK
  exact k_fun (w_law_line B.wx) (B.rm.mono hl) B.wx.toTx.d_law_line.kp B.wx.toTx.g_law_line B.hx ha hg (by decide) hst hpl
end
end Bm
set_option Elab.async false
set_option linter.all false
set_option maxRecDepth 10000
set_option maxHeartbeats 400000
set_option pp.deepTerms false
set_option pp.maxSteps 1500
set_option maxErrors 6
/-! Walks: a bad line. -/
namespace Bm
open PySem PySem.Spec PyProof.Rows L2 Evl TL RZ
local macro_rules | `(tactic| walk_at "sz") => `(tactic| first | assumption | (refine sz_of ?_; omega) | (refine sz_lt ?_; omega))
local macro_rules | `(tactic| walk_at "ne") => `(tactic| first | assumption | (refine Ne.symm ?_; assumption) | exact ne_new (by assumption) (by walk_at "hp") | exact Ne.symm (ne_new (by assumption) (by walk_at "hp")))
local macro_rules | `(tactic| walk_at "hp") => `(tactic| first | assumption | exact upd_same | (refine (upd_ne (by walk_at "ne")).trans ?_; walk_at "hp") | (refine Ex.at_ (by assumption) ?_; walk_at "hp"))
local macro_rules | `(tactic| walk_at "sq") => `(tactic| first | assumption | (refine sq_of ?_; walk_at "hp") | (refine st_of ?_; walk_at "hp") | (refine ex_l (by assumption) ?_; walk_at "sq") | (refine ex_t (by assumption) ?_; walk_at "sq"))
local macro_rules | `(tactic| walk_at "sd") => `(tactic| first | exact (show (0 : Int) < _ from by omega) | exact (show (0 : Int) < _ ∧ _ < (1073741824 : Int) from ⟨by omega, by omega⟩) | exact (show CPow _ _ from ⟨by decide, by decide, by decide⟩) | exact (show CMul _ _ from .inl ⟨by omega, by omega⟩) | exact (show CMul _ _ from .inr ⟨by omega, by omega⟩))
local macro_rules | `(tactic| walk_at "g1") => `(tactic| first
  | refine ⟨_, rfl, ?_⟩
  | refine ⟨_, _, rfl, rfl, ?_⟩
  | refine .inl ⟨_, _, rfl, rfl, ?_⟩
  | refine .inl ⟨rfl, ?_⟩
  | refine .inl (.inl ⟨_, rfl, ?_⟩)
  | (refine ⟨_, _, rfl, ⟨?_, rfl⟩, ?_⟩; (walk_at "sz"))
  | refine ⟨(by walk_at "sd"), ?_⟩)
local macro_rules | `(tactic| walk_at "go") => `(tactic| repeat walk_at "g1")
local macro_rules | `(tactic| walk_at "st") => `(tactic| dsimp only [gName])
local macro_rules | `(tactic| walk_at "ln") => `(tactic| first | exact (show 0 < 1000 from by decide) | exact (show 1 < 1000 from by decide) | exact (show 2 < 1000 from by decide) | exact (show 3 < 1000 from by decide) | exact (show 4 < 1000 from by decide) | exact (show 5 < 1000 from by decide) | exact (show 6 < 1000 from by decide) | exact (show 7 < 1000 from by decide))
local macro_rules | `(tactic| walk_at "le") => `(tactic| first | exact (show 0 ≤ sizeLine from by decide) | exact (show 1 ≤ sizeLine from by decide) | exact (show 2 ≤ sizeLine from by decide) | exact (show 3 ≤ sizeLine from by decide) | exact (show 4 ≤ sizeLine from by decide) | exact (show 5 ≤ sizeLine from by decide) | exact (show 6 ≤ sizeLine from by decide) | exact (show 7 ≤ sizeLine from by decide) | exact (show 8 ≤ sizeLine from by decide))
local macro_rules | `(tactic| walk_at "nt") => `(tactic| first | exact nt_ins | exact nt_lst | exact nt_dK)
local macro_rules | `(tactic| walk_at "fr") => `(tactic| first | assumption | exact Fr.refl | exact Fr.ex (by assumption) | (refine Fr.put ?_ (by walk_at "hp") (by walk_at "nt") (by simp); walk_at "fr") | (refine Fr.new ?_ (by assumption); walk_at "fr"))
def spBad : Sp := fun vs H Q _ => ∃ (a b w : Addr) (n0 n1 : Int) (rs : List RL) (N : Nat) (ws : List Str), vs = [.ref a, .ref b, .ref w] ∧ H a = some (.lst [.int n0, .int n1]) ∧
  Hd 3 H (.ref b) (.seq false (rs.map dRL)) ∧ RsOk N rs ∧ N ≤ 1000 ∧ H w = some (.lst (ws.map V.str)) ∧ ws.length = 3 ∧ (∀ w ∈ ws, w.length ≤ 20) ∧ ∀ z H', Ex H H' → z.length ≤ 100 → Q (.str z) H'
theorem la : ("grow " : Str).length = 5 ∧ ("take " : Str).length = 5 ∧ ("lay " : Str).length = 4 ∧ ("Take " : Str).length = 5 ∧ (" 1000" : Str).length = 5 ∧ (" 0" : Str).length = 2 ∧ (" 99" : Str).length = 3 ∧ (" 1 2" : Str).length = 4 ∧ (" 1" : Str).length = 2 ∧ (" 01" : Str).length = 3 := ⟨rfl, rfl, rfl, rfl, rfl, rfl, rfl, rfl, rfl, rfl⟩
def bad1 (y : Str) : List Str := ["", "take " ++ y, "coins 0", "lay zz 1", "take zz 1", "grow " ++ y ++ " 1000", "take " ++ y ++ " 0"]
def bad2 (y : Str) : List Str := ["take " ++ y ++ " 99", "lay " ++ y ++ " 1 2", "coins 1000000001", "Take " ++ y ++ " 1"]
def bad3 (y : Str) : List Str := ["lay  1 2", "take " ++ y ++ " 01", "coins 1 "]
def badL (y : Str) : List Str := bad1 y ++ bad2 y ++ bad3 y
theorem badL_len {y z : Str} (hy : y.length ≤ 20) (h : z ∈ badL y) : z.length ≤ 100 := by
  obtain ⟨l1, l2, l3, l4, l5, l6, l7, l8, l9, l10⟩ := la
  unfold badL bad1 bad2 bad3 at h
  simp only [List.cons_append, List.nil_append, List.mem_cons, List.not_mem_nil, or_false] at h
  rcases h with rfl | rfl | rfl | rfl | rfl | rfl | rfl | rfl | rfl | rfl | rfl | rfl | rfl | rfl <;> first | decide | (simp only [len_app]; omega)
section
variable {P : Program} {w : World} {K : PySem.W.Frag} {mg : Str → Option Value} {base : Heap}
theorem sc_law_bad_line : FnScope ["_law_picks", "_law_rows", "_law_words_here", "_law_word", "_law_lines_here"] ["_law_picks", "_law_rows", "_law_words_here"] xlaw_bad_line.scope := ⟨rfl, rfl, rfl, by decide +kernel, rfl, by decide +kernel, by decide +kernel⟩
theorem w_law_bad_line (T : Wx P K mg) : FnR P w K mg base (L2N.CX P w) 1 (He.ga K "_law_bad_line") (spBad) :=
  mkR 0 T T.toTx.d_law_bad_line sc_law_bad_line (by rintro vs H Q E ⟨_, _, _, _, _, _, _, _, rfl, _⟩; rfl) (fun _ _ _ _ _ _ us hl => match us, hl with | [_, _, _], _ => rfl) (fun cdv A outer s H vs Q E B hsp => by
  obtain ⟨a, b, w, n0, n1, rs, N, ws, rfl, ha, hb, hrs, hN, hw, hwl, hwz, hq⟩ := hsp
  refine ⟨_, (pss_cons (st_set (i := 3) sc_law_bad_line.nd (pe_ix (ix_seqK K) (pv 2) pe_int (fun _ _ => rfl)))
    (pss_cons (ps_if (pt_cmpR (o_neN K B.hu64) (pv 1) (pe_lst pa_nil) (nomark _)) (pss_one (st_set (i := 3) sc_law_bad_line.nd (pe_ix (ix_seqK K) (pe_ix (ix_seqK K) (pv 1) (pe_op op_mod (pe_callTy call_int (by rfl) B.wx.toTx.f_int b_int (pa_cons (pe_ix (ix_seqK K) (pv 0) pe_int (fun _ _ => rfl)) pa_nil)) (pe_callB (call_lenK K) (by rfl) B.wx.toTx.f_len b_len (pa_cons (pv 1) pa_nil))) (fun _ _ => rfl)) pe_int (fun _ _ => rfl)))) pss_nil)
    (pss_cons (st_set (i := 4) sc_law_bad_line.nd (pe_lst (pa_cons pe_str (pa_cons (pe_op (o_addK K) pe_str (pv 3)) (pa_cons pe_str (pa_cons pe_str (pa_cons pe_str (pa_cons (pe_op (o_addK K) (pe_op (o_addK K) pe_str (pv 3)) pe_str) (pa_cons (pe_op (o_addK K) (pe_op (o_addK K) pe_str (pv 3)) pe_str) pa_nil)))))))))
    (pss_cons (st_set (i := 4) sc_law_bad_line.nd (pe_op (o_addK K) (pv 4) (pe_lst (pa_cons (pe_op (o_addK K) (pe_op (o_addK K) pe_str (pv 3)) pe_str) (pa_cons (pe_op (o_addK K) (pe_op (o_addK K) pe_str (pv 3)) pe_str) (pa_cons pe_str (pa_cons (pe_op (o_addK K) (pe_op (o_addK K) pe_str (pv 3)) pe_str) pa_nil)))))))
    (pss_cons (st_set (i := 4) sc_law_bad_line.nd (pe_op (o_addK K) (pv 4) (pe_lst (pa_cons pe_str (pa_cons (pe_op (o_addK K) (pe_op (o_addK K) pe_str (pv 3)) pe_str) (pa_cons pe_str pa_nil))))))
    (pss_one (ps_ret (pe_ix (ix_seqK K) (pv 4) (pe_op op_mod (pe_callTy call_int (by rfl) B.wx.toTx.f_int b_int (pa_cons (pe_ix (ix_seqK K) (pv 0) pe_int (fun _ _ => rfl)) pa_nil)) pe_int) (fun _ _ => rfl))))))))), ?_⟩
  obtain ⟨b', rv, eb, hbl, hbz, hbp⟩ := hd_inv hb
  cases eb
  have hbl : H b = some (.lst rv) := hbl
  have hrl : rv.length = rs.length := by rw [Paired.length hbp, List.length_map]
  obtain ⟨w0, w1, w2, rfl⟩ : ∃ w0 w1 w2, ws = [w0, w1, w2] := by
    match ws, hwl with
    | [x, y, z], _ => exact ⟨_, _, _, rfl⟩
  refine ⟨_, rfl, ixl hw (v := .str w0) rfl ?_⟩
  walk_at "st"
  have h20 := hwz w0 (by simp)
  refine qjn (fun σ' H' => Ex H H' ∧ ∃ y : Str, σ' = [some (.ref a), some (.ref b), some (.ref w), some (.str y), none] ∧ y.length ≤ 20) (fun D' hD' => ?_) ?_
  · refine swhX (b := !decide (rv = [])) (fun Q q => ?_) (fun hc H1 e1 => ?_) (fun hc H1 e1 => hD' _ _ ⟨e1, w0, rfl, h20⟩)
    · exact ⟨_, rfl, by walk_at "le", fun L hL => ⟨b, L, _, rfl, rfl, sq_of ((Ex.new hL) _ _ hbl), sq_of upd_same, _, rfl, q _ (Ex.new hL)⟩⟩
    · have hrv : rv ≠ [] := fun h0 => by
        rw [decide_eq_true h0] at hc
        cases hc
      have hrn1 : 0 < rv.length := List.length_pos_iff.mpr hrv
      have hma := modR (a := n1) (m := ((rv.length : Nat) : Int)) (by omega)
      have hb1 := e1 _ _ hbl
      obtain ⟨k, hk⟩ : ∃ k, k = n1 % ((rv.length : Nat) : Int) := ⟨_, rfl⟩
      rw [← hk] at hma
      obtain ⟨r0, hr0⟩ : ∃ r0, rs[k.toNat]? = some r0 := ⟨_, List.getElem?_eq_getElem (by omega)⟩
      have ok0 := hrs.2 r0 (List.mem_of_getElem? hr0)
      obtain ⟨x0, hx0, hx0d⟩ := pr_getR (y := dRL r0) hbp (by rw [List.getElem?_map, hr0]; rfl)
      obtain ⟨t, hu, st, rfl, ht, hhu, hst⟩ := rl_inv (Hd.ex hx0d e1)
      have hat : atI rv (n1 % ((rv.length : Nat) : Int)) = some (.ref t) := by
        rw [← hk]
        have e : k = ((k.toNat : Nat) : Int) := by omega
        rw [e]
        exact atI_nat hx0
      exact ⟨_, rfl, _, rfl, ixl (e1 _ _ ha) rfl (.inl (.inl ⟨_, rfl, _, rfl, _, _, rfl, lenl hb1, _, _, rfl, rfl, show (0 : Int) < ((rv.length : Nat) : Int) by omega, ixl hb1 hat (ixt ht rfl (hD' _ _ ⟨e1, r0.w, rfl, ok0.wl⟩))⟩))⟩
  · rintro σ' H1 ⟨e1, y, rfl, hy⟩
    obtain ⟨l1, l2, l3, l4, l5, l6, l7, l8, l9, l10⟩ := la
    refine ⟨_, rfl, ads (by omega) ⟨_, rfl, ads (by omega) (ads (by rw [len_app]; omega) ⟨_, rfl, ads (by omega) (ads (by rw [len_app]; omega) ⟨by walk_at "le", fun L1 hL1 => ?_⟩)⟩)⟩⟩
    have e2 := Ex.new (o := .lst ((bad1 y).map V.str)) hL1
    have k1 : (upd H1 L1 (.lst ((bad1 y).map V.str))) L1 = some (.lst ((bad1 y).map V.str)) := upd_same
    walk_at "st"
    refine qasg (fun x H2 => ∃ L2, x = .ref L2 ∧ Ex H H2 ∧ H2 L2 = some (.lst ((bad1 y ++ bad2 y).map V.str))) (fun Q q => ?_) ?_
    · refine ⟨_, rfl, _, rfl, ads (by omega) (ads (by rw [len_app]; omega) ⟨_, rfl, ads (by omega) (ads (by rw [len_app]; omega) ⟨_, rfl, ads (by omega) (ads (by rw [len_app]; omega) ⟨by walk_at "le", fun M hM => ?_⟩)⟩)⟩)⟩
      have e3 := Ex.new (o := .lst ((bad2 y).map V.str)) hM
      refine adl (e3 _ _ k1) upd_same (show 7 + 4 ≤ 100000 by decide) fun L2 hL2 => q _ _ ⟨L2, rfl, e1.trans (e2.trans (e3.trans (Ex.new hL2))), upd_same⟩
    rintro _ H2 ⟨L2, rfl, e4, k2⟩
    refine qasg (fun x H2 => ∃ L2, x = .ref L2 ∧ Ex H H2 ∧ H2 L2 = some (.lst ((badL y).map V.str))) (fun Q q => ?_) ?_
    · refine ⟨_, rfl, _, rfl, ads (by omega) (ads (by rw [len_app]; omega) ⟨by walk_at "le", fun M hM => ?_⟩)⟩
      have e3 := Ex.new (o := .lst ((bad3 y).map V.str)) hM
      refine adl (e3 _ _ k2) upd_same (show 11 + 3 ≤ 100000 by decide) fun L3 hL3 => q _ _ ⟨L3, rfl, e4.trans (e3.trans (Ex.new hL3)), upd_same⟩
    rintro _ H3 ⟨L3, rfl, e5, k3⟩
    have m14 := modR (a := n0) (show (0 : Int) < 14 by decide)
    obtain ⟨z, hz, hat⟩ := atI_in (f := V.str) (xs := badL y) m14.1 (show _ < ((14 : Nat) : Int) from m14.2)
    exact ⟨_, rfl, _, rfl, ixl (e5 _ _ ha) rfl (.inl (.inl ⟨_, rfl, _, _, rfl, rfl, show (0 : Int) < 14 by decide, ixl k3 hat (hq z H3 e5 (badL_len hy hz))⟩))⟩)
end
section
variable {X : Cx} {W : WX} {k : Nat} {e o : Expr} {es : List Expr} {ta : TA} {to : TE} {p pos apos : Pos} {pl : Sem Bool}
theorem c_law_bad_line {K : PySem.W.Frag} (B : Bx X W k) (ha : PA X (e :: es) ta) (hK : X.K = K := by rfl) (hl : 1 ≤ k := by decide) (hg : Gl X "_law_bad_line" := by rfl) (hst : starEach (e :: es) X.env = (false, eval e X.env) :: starEach es X.env := by rfl) (hpl : (backTo pos (starEach es X.env)).any (·.1) = false := by rfl) : PE X (.Call (.Name "_law_bad_line" p) (e :: es) [] pos) (tFn (spBad) W ta) := by
  subst hK
  exact k_fun (w_law_bad_line B.wx) (B.rm.mono hl) B.wx.toTx.d_law_bad_line.kp B.wx.toTx.g_law_bad_line B.hx ha hg (by decide) hst hpl
end
end Bm
set_option Elab.async false
set_option linter.all false
set_option maxRecDepth 10000
set_option maxHeartbeats 400000
set_option pp.deepTerms false
set_option pp.maxSteps 1500
set_option maxErrors 6
/-! Walks: the lines drawn. -/
namespace Bm
open PySem PySem.Spec PyProof.Rows L2 Evl TL RZ
local macro_rules | `(tactic| walk_at "sz") => `(tactic| first | assumption | (refine sz_of ?_; omega) | (refine sz_lt ?_; omega))
local macro_rules | `(tactic| walk_at "ne") => `(tactic| first | assumption | (refine Ne.symm ?_; assumption) | exact ne_new (by assumption) (by walk_at "hp") | exact Ne.symm (ne_new (by assumption) (by walk_at "hp")))
local macro_rules | `(tactic| walk_at "hp") => `(tactic| first | assumption | exact upd_same | (refine (upd_ne (by walk_at "ne")).trans ?_; walk_at "hp") | (refine Ex.at_ (by assumption) ?_; walk_at "hp"))
local macro_rules | `(tactic| walk_at "sq") => `(tactic| first | assumption | (refine sq_of ?_; walk_at "hp") | (refine st_of ?_; walk_at "hp") | (refine ex_l (by assumption) ?_; walk_at "sq") | (refine ex_t (by assumption) ?_; walk_at "sq"))
local macro_rules | `(tactic| walk_at "sd") => `(tactic| first | exact (show (0 : Int) < _ from by omega) | exact (show (0 : Int) < _ ∧ _ < (1073741824 : Int) from ⟨by omega, by omega⟩) | exact (show CPow _ _ from ⟨by decide, by decide, by decide⟩) | exact (show CMul _ _ from .inl ⟨by omega, by omega⟩) | exact (show CMul _ _ from .inr ⟨by omega, by omega⟩))
local macro_rules | `(tactic| walk_at "g1") => `(tactic| first
  | refine ⟨_, rfl, ?_⟩
  | refine ⟨_, _, rfl, rfl, ?_⟩
  | refine .inl ⟨_, _, rfl, rfl, ?_⟩
  | refine .inl ⟨rfl, ?_⟩
  | refine .inl (.inl ⟨_, rfl, ?_⟩)
  | (refine ⟨_, _, rfl, ⟨?_, rfl⟩, ?_⟩; (walk_at "sz"))
  | refine ⟨(by walk_at "sd"), ?_⟩)
local macro_rules | `(tactic| walk_at "go") => `(tactic| repeat walk_at "g1")
local macro_rules | `(tactic| walk_at "st") => `(tactic| dsimp only [gName])
local macro_rules | `(tactic| walk_at "ln") => `(tactic| first | exact (show 0 < 1000 from by decide) | exact (show 1 < 1000 from by decide) | exact (show 2 < 1000 from by decide) | exact (show 3 < 1000 from by decide) | exact (show 4 < 1000 from by decide) | exact (show 5 < 1000 from by decide) | exact (show 6 < 1000 from by decide) | exact (show 7 < 1000 from by decide))
local macro_rules | `(tactic| walk_at "le") => `(tactic| first | exact (show 0 ≤ sizeLine from by decide) | exact (show 1 ≤ sizeLine from by decide) | exact (show 2 ≤ sizeLine from by decide) | exact (show 3 ≤ sizeLine from by decide) | exact (show 4 ≤ sizeLine from by decide) | exact (show 5 ≤ sizeLine from by decide) | exact (show 6 ≤ sizeLine from by decide) | exact (show 7 ≤ sizeLine from by decide) | exact (show 8 ≤ sizeLine from by decide))
local macro_rules | `(tactic| walk_at "nt") => `(tactic| first | exact nt_ins | exact nt_lst | exact nt_dK)
local macro_rules | `(tactic| walk_at "fr") => `(tactic| first | assumption | exact Fr.refl | exact Fr.ex (by assumption) | (refine Fr.put ?_ (by walk_at "hp") (by walk_at "nt") (by simp); walk_at "fr") | (refine Fr.new ?_ (by assumption); walk_at "fr"))
def spLines (K : PySem.W.Frag) : Sp := fun vs H Q _ => ∃ (sc r w : Addr) (f n : Int) (ns : List Int) (ws : List Str), vs = [.ref sc, .int f, .int n, .ref r, .ref w] ∧ SqL K H sc (ns.map V.int) ∧ 0 ≤ f ∧ 0 ≤ n ∧ n ≤ 8 ∧ H r = some (.lst []) ∧ H w = some (.lst (ws.map V.str)) ∧ ws.length = 3 ∧ (∀ w ∈ ws, w.length ≤ 20) ∧
  ∀ p l1 l2 H' (ls : List Str) (vs : List V) (x : V) (rs : List RL), Ex H H' → H' p = some (.tup [.ref l1, .ref l2]) → H l1 = none → H l2 = none → H' l1 = some (.lst (ls.map V.str)) → ls.length ≤ 8 → (∀ z ∈ ls, z.length ≤ 200) → H' l2 = some (.lst (vs ++ [x])) → H p = none → (∃ G, Ex G H' ∧ Hd 3 G x (.seq false (rs.map dRL)) ∧ ∀ b o, H b = some o → b ≠ r → G b = none) → RsOk 8 rs → Q (.ref p) H'
theorem RsOk.up {N M : Nat} {rs : List RL} (h : RsOk N rs) (l : N ≤ M) : RsOk M rs := ⟨Nat.le_trans h.1 l, fun q hq => (h.2 q hq).mono l⟩
def oneL (r : Addr) : Hp := fun z => if z = r then some (.lst []) else none
theorem oneL_at {r : Addr} : oneL r r = some (.lst []) := if_pos rfl
theorem oneL_ne {r z : Addr} (h : z ≠ r) : oneL r z = none := if_neg h
theorem oneL_ex {r : Addr} {H : Hp} (h : H r = some (.lst [])) : Ex (oneL r) H := fun z o hz => by
  by_cases e : z = r
  · rw [e, oneL_at] at hz
    rw [e, h]
    exact hz
  · rw [oneL_ne e] at hz
    cases hz
section
variable {P : Program} {w : World} {K : PySem.W.Frag} {mg : Str → Option Value} {base : Heap}
theorem sc_law_lines : FnScope ["_law_script", "_law_first", "_law_count", "_law_rows", "_law_words_here", "_law_lines_here", "_law_states", "_law_k", "_law_picks", "_law_drawn"] ["_law_script", "_law_first", "_law_count", "_law_rows", "_law_words_here"] xlaw_lines.scope := ⟨rfl, rfl, rfl, by decide +kernel, rfl, by decide +kernel, by decide +kernel⟩
theorem w_law_lines (T : Wx P K mg) : FnR P w K mg base (L2N.CX P w) 3 (He.ga K "_law_lines") (spLines K) :=
  mkR 2 T T.toTx.d_law_lines sc_law_lines (by rintro vs H Q E ⟨_, _, _, _, _, _, _, rfl, _⟩; rfl) (fun _ _ _ _ _ _ us hl => match us, hl with | [_, _, _, _, _], _ => rfl) (fun cdv A outer s H vs Q E B hsp => by
  obtain ⟨sc, r, w, f, n, ns, ws, rfl, hsc, hf0, hn0, hn8, hr, hw, hwl, hwz, hq⟩ := hsp
  refine ⟨_, (pss_cons (st_set (i := 5) sc_law_lines.nd (pe_lst pa_nil))
    (pss_cons (st_set (i := 6) sc_law_lines.nd (pe_lst (pa_cons (pv 3) pa_nil)))
    (pss_cons (ps_for (L2.passes_of rfl) B.calm (pi_range1 (by rfl) B.wx.toTx.f_range (pa_cons (pv 2) pa_nil)) (pg_name (i := 7) sc_law_lines.nd rfl (by first | exact .inl rfl | exact .inr rfl)) (pss_cons (st_set (i := 8) sc_law_lines.nd (c_law_draws (K := K) B (pa_cons (pe_op (o_addK K) (c_law_cell (K := K) B (pa_cons (pv 0) (pa_cons (pe_op (o_addK K) (pv 1) (pv 7)) pa_nil))) (pv 7)) (pa_cons pe_int (pa_cons (pe_op op_pow pe_int pe_int) pa_nil)))))
    (pss_cons (st_set (i := 9) sc_law_lines.nd (c_law_line (K := K) B (pa_cons (pv 8) (pa_cons (pe_ix (ix_seqK K) (pv 6) (pe_un un_neg pe_int) (fun _ _ => rfl)) (pa_cons (pv 4) pa_nil)))))
    (pss_cons (ps_expr (pe_bmK K PySem.F.plainAttrs_list PySem.F.slot_list_append PySem.F.type_list_append mt_append (pv 5) (pa_cons (pe_ix (ix_seqK K) (pv 9) pe_int (fun _ _ => rfl)) pa_nil)))
    (pss_one (ps_expr (pe_bmK K PySem.F.plainAttrs_list PySem.F.slot_list_append PySem.F.type_list_append mt_append (pv 6) (pa_cons (pe_ix (ix_seqK K) (pv 9) pe_int (fun _ _ => rfl)) pa_nil))))))))
    (pss_one (ps_ret (pe_tup (pa_cons (pv 5) (pa_cons (pv 6) pa_nil)))))))), ?_⟩
  refine ⟨by walk_at "le", fun L1 hL1 => ?_⟩
  have e1 := Ex.new (o := .lst []) hL1
  have k1 : (upd H L1 (.lst [])) L1 = some (.lst (([] : List Str).map V.str)) := upd_same
  walk_at "st"
  generalize upd H L1 (.lst []) = H1 at *
  refine ⟨_, rfl, by walk_at "le", fun L2 hL2 => ?_⟩
  have hL2H := fresh_back e1 hL2
  have e2 := Ex.new (o := .lst [.ref r]) hL2
  have k2 : (upd H1 L2 (.lst [.ref r])) L2 = some (.lst ([] ++ [.ref r])) := upd_same
  have k12 := e2 _ _ k1
  have n12 : L1 ≠ L2 := ne_of_none k1 hL2
  walk_at "st"
  have e02 := e1.trans e2
  generalize upd H1 L2 (.lst [.ref r]) = H2 at *
  refine ⟨_, rfl, n, rfl, by omega, by omega, for_it walk_range (fun i σ' H' => Ex H H' ∧ (∃ u v y, σ' = [some (.ref sc), some (.int f), some (.int n), some (.ref r), some (.ref w), some (.ref L1), some (.ref L2), u, v, y]) ∧ ∃ (ls : List Str) (vs : List V) (b : Addr) (rs : List RL) (G : Hp), H' L1 = some (.lst (ls.map V.str)) ∧ ls.length = i ∧ (∀ z ∈ ls, z.length ≤ 200) ∧ H' L2 = some (.lst (vs ++ [.ref b])) ∧ vs.length = i ∧ Ex G H' ∧ G L1 = none ∧ G L2 = none ∧ Hd 3 G (.ref b) (.seq false (rs.map dRL)) ∧ RsOk i rs ∧ ∀ b o, H b = some o → b ≠ r → G b = none)
    ⟨e02, ⟨none, none, none, rfl⟩, [], [], r, [], oneL r, k12, rfl, by simp, k2, rfl, oneL_ex (e02 _ _ hr), oneL_ne (fun z => by rw [z, hr] at hL1; cases hL1), oneL_ne (fun z => by rw [z, hr] at hL2H; cases hL2H), hd_lst oneL_at (show 0 ≤ 90000 by decide) .nil, ⟨Nat.le_refl _, by simp⟩, fun z o _ hz => oneL_ne hz⟩ (fun _ _ _ _ _ => True.intro) ?_ ?_⟩
  · rintro i x σ' H' H'' hi ⟨e3, ⟨u, v, y, rfl⟩, ls, vs, b, rs, G, h1, hl, hz, h2, hvl, eG, g1, g2, hb, hrs, hGn⟩ ⟨rfl, rfl⟩
    walk_at "st"
    have hi8 : i < 8 := by omega
    refine ⟨_, rfl, _, rfl, _, rfl, adi ⟨sc, _, ns, rfl, ex_l e3 hsc, by omega, fun cc => ⟨_, rfl, adi ⟨_, _, rfl, rfl, ⟨by decide, by decide, by decide⟩, _, 11, _, rfl, by decide, by decide, by decide, by decide, fun p1 H4 ns1 hp1 e4 hp2 hlen hr1 => ?_⟩⟩⟩⟩
    have e6 : (10 : Int) ^ ((6 : Int).toNat) = 1000000 := by decide
    rw [e6] at hr1
    walk_at "st"
    refine ⟨_, rfl, _, rfl, _, rfl, ixl (e4 _ _ h2) (atI_last _ _) ⟨_, rfl, p1, b, w, ns1, rs, i, ws, G, rfl, hp2, hlen, hr1, eG.trans e4, hb, hrs, by omega, (e3.trans e4) _ _ hw, hwl, hwz, fun p2 c z H5 rs2 e5 hp5 hc hrs2 hzl => ?_⟩⟩
    walk_at "st"
    have h15 := (e4.trans e5) _ _ h1
    have h25 := (e4.trans e5) _ _ h2
    have g1' : only G H4 H5 L1 = none := only_out g1 (e4 _ _ h1)
    have g2' : only G H4 H5 L2 = none := only_out g2 (e4 _ _ h2)
    have e35 := e3.trans (e4.trans e5)
    refine ⟨_, rfl, .inl ⟨rfl, _, sq_of h15⟩, _, rfl, ixt hp5 rfl ⟨L1, _, _, rfl, rfl, h15, sz_lt (by rw [List.length_map]; omega), ?_⟩⟩
    have f1 := Ex.mut (o := .lst (ls.map V.str ++ [.str z])) e35 hL1
    have h1n : (upd H5 L1 (.lst (ls.map V.str ++ [.str z]))) L1 = some (.lst ((ls ++ [z]).map V.str)) := by
      rw [upd_same, List.map_append]
      rfl
    have h2n : (upd H5 L1 (.lst (ls.map V.str ++ [.str z]))) L2 = some (.lst (vs ++ [.ref b])) := (upd_ne (Ne.symm n12)).trans h25
    have hp5n : (upd H5 L1 (.lst (ls.map V.str ++ [.str z]))) p2 = some (.tup [.str z, .ref c]) := (upd_ne (fun q => by rw [q, h15] at hp5; cases hp5)).trans hp5
    have eG1 : Ex (only G H4 H5) (upd H5 L1 (.lst (ls.map V.str ++ [.str z]))) := ex_out only_ex g1'
    generalize upd H5 L1 (.lst (ls.map V.str ++ [.str z])) = H6 at *
    refine ⟨_, rfl, .inl ⟨rfl, _, sq_of h2n⟩, _, rfl, ixt hp5n rfl ⟨L2, _, _, rfl, rfl, h2n, sz_lt (by rw [List.length_append]; show vs.length + 1 < 100000; omega), ?_⟩⟩
    refine ⟨Ex.mut f1 hL2H, ⟨_, _, _, rfl⟩, ls ++ [z], vs ++ [.ref b], c, rs2, only G H4 H5, (upd_ne n12).trans h1n, by rw [List.length_append, hl]; rfl, fun y hy => ?_, upd_same, by rw [List.length_append, hvl]; rfl, ex_out eG1 g2', g1', g2', hc, hrs2, fun z o hz hzr => only_out (hGn z o hz hzr) ((e3.trans e4) _ _ hz)⟩
    rcases List.mem_append.mp hy with h | h
    · exact hz y h
    · rw [List.mem_singleton.mp h]
      exact hzl
  · rintro σ' H' ⟨e3, ⟨u, v, y, rfl⟩, ls, vs, b, rs, G, h1, hl, hz, h2, hvl, eG, g1, g2, hb, hrs, hGn⟩
    refine ⟨_, rfl, _, rfl, by walk_at "le", fun p hp => ?_⟩
    have e4 := Ex.new (o := .tup [.ref L1, .ref L2]) hp
    exact hq p L1 L2 _ ls vs (.ref b) rs (e3.trans e4) upd_same hL1 hL2H (e4 _ _ h1) (by omega) hz (e4 _ _ h2) (fresh_back e3 hp) ⟨G, eG.trans e4, hb, hGn⟩ (hrs.up (by omega)))
end
section
variable {X : Cx} {W : WX} {k : Nat} {e o : Expr} {es : List Expr} {ta : TA} {to : TE} {p pos apos : Pos} {pl : Sem Bool}
theorem c_law_lines {K : PySem.W.Frag} (B : Bx X W k) (ha : PA X (e :: es) ta) (hK : X.K = K := by rfl) (hl : 3 ≤ k := by decide) (hg : Gl X "_law_lines" := by rfl) (hst : starEach (e :: es) X.env = (false, eval e X.env) :: starEach es X.env := by rfl) (hpl : (backTo pos (starEach es X.env)).any (·.1) = false := by rfl) : PE X (.Call (.Name "_law_lines" p) (e :: es) [] pos) (tFn (spLines K) W ta) := by
  subst hK
  exact k_fun (w_law_lines B.wx) (B.rm.mono hl) B.wx.toTx.d_law_lines.kp B.wx.toTx.g_law_lines B.hx ha hg (by decide) hst hpl
end
end Bm
set_option Elab.async false
set_option linter.all false
set_option maxRecDepth 10000
set_option maxHeartbeats 400000
set_option pp.deepTerms false
set_option pp.maxSteps 1500
set_option maxErrors 6
set_option maxHeartbeats 2000000
/-! Walks: a first line that is spoilt. -/
namespace Bm
open PySem PySem.Spec PyProof.Rows L2 Evl TL RZ
local macro_rules | `(tactic| walk_at "sz") => `(tactic| first | assumption | (refine sz_of ?_; omega) | (refine sz_lt ?_; omega))
local macro_rules | `(tactic| walk_at "ne") => `(tactic| first | assumption | (refine Ne.symm ?_; assumption) | exact ne_new (by assumption) (by walk_at "hp") | exact Ne.symm (ne_new (by assumption) (by walk_at "hp")))
local macro_rules | `(tactic| walk_at "hp") => `(tactic| first | assumption | exact upd_same | (refine (upd_ne (by walk_at "ne")).trans ?_; walk_at "hp") | (refine Ex.at_ (by assumption) ?_; walk_at "hp"))
local macro_rules | `(tactic| walk_at "sq") => `(tactic| first | assumption | (refine sq_of ?_; walk_at "hp") | (refine st_of ?_; walk_at "hp") | (refine ex_l (by assumption) ?_; walk_at "sq") | (refine ex_t (by assumption) ?_; walk_at "sq"))
local macro_rules | `(tactic| walk_at "sd") => `(tactic| first | exact (show (0 : Int) < _ from by omega) | exact (show (0 : Int) < _ ∧ _ < (1073741824 : Int) from ⟨by omega, by omega⟩) | exact (show CPow _ _ from ⟨by decide, by decide, by decide⟩) | exact (show CMul _ _ from .inl ⟨by omega, by omega⟩) | exact (show CMul _ _ from .inr ⟨by omega, by omega⟩))
local macro_rules | `(tactic| walk_at "g1") => `(tactic| first
  | refine ⟨_, rfl, ?_⟩
  | refine ⟨_, _, rfl, rfl, ?_⟩
  | refine .inl ⟨_, _, rfl, rfl, ?_⟩
  | refine .inl ⟨rfl, ?_⟩
  | refine .inl (.inl ⟨_, rfl, ?_⟩)
  | (refine ⟨_, _, rfl, ⟨?_, rfl⟩, ?_⟩; (walk_at "sz"))
  | refine ⟨(by walk_at "sd"), ?_⟩)
local macro_rules | `(tactic| walk_at "go") => `(tactic| repeat walk_at "g1")
local macro_rules | `(tactic| walk_at "st") => `(tactic| dsimp only [gName])
local macro_rules | `(tactic| walk_at "ln") => `(tactic| first | exact (show 0 < 1000 from by decide) | exact (show 1 < 1000 from by decide) | exact (show 2 < 1000 from by decide) | exact (show 3 < 1000 from by decide) | exact (show 4 < 1000 from by decide) | exact (show 5 < 1000 from by decide) | exact (show 6 < 1000 from by decide) | exact (show 7 < 1000 from by decide))
local macro_rules | `(tactic| walk_at "le") => `(tactic| first | exact (show 0 ≤ sizeLine from by decide) | exact (show 1 ≤ sizeLine from by decide) | exact (show 2 ≤ sizeLine from by decide) | exact (show 3 ≤ sizeLine from by decide) | exact (show 4 ≤ sizeLine from by decide) | exact (show 5 ≤ sizeLine from by decide) | exact (show 6 ≤ sizeLine from by decide) | exact (show 7 ≤ sizeLine from by decide) | exact (show 8 ≤ sizeLine from by decide))
local macro_rules | `(tactic| walk_at "nt") => `(tactic| first | exact nt_ins | exact nt_lst | exact nt_dK)
local macro_rules | `(tactic| walk_at "fr") => `(tactic| first | assumption | exact Fr.refl | exact Fr.ex (by assumption) | (refine Fr.put ?_ (by walk_at "hp") (by walk_at "nt") (by simp); walk_at "fr") | (refine Fr.new ?_ (by assumption); walk_at "fr"))
/-- few texts, none long -/
def Tl (M n : Nat) (ws : List Str) : Prop := ws.length ≤ n ∧ ∀ w ∈ ws, w.length ≤ M
def cutL {α : Type} (xs : List α) (lo hi : Option Int) : List α := (xs.drop (HT.sIx xs.length 0 lo)).take (HT.sIx xs.length xs.length hi - HT.sIx xs.length 0 lo)
theorem cut_map {α : Type} {f : α → V} {ws : List α} {lo hi : Option Int} : cutV (ws.map f) lo hi = (cutL ws lo hi).map f := by
  unfold cutV cutL
  rw [List.length_map, ← List.map_drop, ← List.map_take]
section
variable {M n m : Nat} {a b : List Str} {w : Str} {lo hi : Option Int}
theorem Tl.app (h : Tl M n a) (k : Tl M m b) : Tl M (n + m) (a ++ b) := ⟨by
  rw [List.length_append]
  have h1 := h.1
  have h2 := k.1
  omega, fun w hw => (List.mem_append.mp hw).elim (h.2 w) (k.2 w)⟩
theorem Tl.cut (h : Tl M n a) : Tl M n (cutL a lo hi) := ⟨by
  unfold cutL
  rw [List.length_take, List.length_drop]
  have h1 := h.1
  omega, fun w hw => h.2 w (List.mem_of_mem_drop (List.mem_of_mem_take hw))⟩
theorem Tl.one (h : w.length ≤ M) : Tl M 1 [w] := ⟨Nat.le_refl _, fun x hx => by rw [List.mem_singleton.mp hx]; exact h⟩
theorem Tl.up {k : Nat} (h : Tl M n a) (l : n ≤ k) : Tl M k a := ⟨Nat.le_trans h.1 l, h.2⟩
theorem Tl.set (h : Tl M n a) (k : w.length ≤ M) (i : Nat) : Tl M n (a.set i w) := ⟨by
  rw [List.length_set]
  exact h.1, fun x hx => (List.mem_or_eq_of_mem_set hx).elim (h.2 x) fun z => by
    rw [z]
    exact k⟩
theorem Tl.sum : ∀ {a : List Str}, (∀ w ∈ a, w.length ≤ M) → (a.map (·.length)).sum ≤ M * a.length
  | [], _ => Nat.zero_le _
  | x :: r, h => by
    have h1 := h x (List.mem_cons_self ..)
    have h2 := Tl.sum (a := r) fun w hw => h w (List.mem_cons_of_mem _ hw)
    show x.length + (r.map (·.length)).sum ≤ M * (r.length + 1)
    rw [Nat.mul_add, Nat.mul_one]
    omega
end
theorem cutL_to {α : Type} {xs : List α} {k : Int} (h : 0 ≤ k) : (cutL xs none (some k)).length = min k.toNat xs.length := by
  unfold cutL
  rw [HT.sIx_none, List.drop_zero, Nat.sub_zero, List.length_take]
  have e : HT.sIx xs.length xs.length (some k) = min k.toNat xs.length := by
    show (if k < 0 then (k + (xs.length : Int)).toNat else min k.toNat xs.length) = _
    rw [if_neg (by omega)]
  rw [e]
  omega
theorem cutL_from {α : Type} {xs : List α} {k : Int} (h : 0 ≤ k) : (cutL xs (some k) none).length = xs.length - min k.toNat xs.length := by
  unfold cutL
  rw [HT.sIx_none, List.length_take, List.length_drop]
  have e : HT.sIx xs.length 0 (some k) = min k.toNat xs.length := by
    show (if k < 0 then (k + (xs.length : Int)).toNat else min k.toNat xs.length) = _
    rw [if_neg (by omega)]
  rw [e]
  omega
theorem Tl.by {M n : Nat} {m : Nat} {a : List Str} (h : Tl M m a) (l : a.length ≤ n) : Tl M n a := ⟨l, h.2⟩
theorem map_set {xs : List Str} {i : Nat} {w : Str} : (xs.map V.str).set i (.str w) = (xs.set i w).map V.str := by
  rw [List.map_set]
theorem ixN_of {n : Nat} {k : Int} (h0 : 0 ≤ k) (h1 : k < n) : ixN n k = some k.toNat := by
  unfold ixN
  rw [if_pos h0, if_pos h1]
theorem shwN {i : Int} (h0 : 0 ≤ i) (h1 : i < 100000000000000) : (shw i).length ≤ 14 := by
  obtain ⟨n, rfl⟩ : ∃ n : Nat, i = n := ⟨i.toNat, by omega⟩
  rw [len_tl]
  show (tl (Str.ofString (toString ((n : Nat) : Int)))).length ≤ 14
  rw [tl_num]
  exact numL_len (by decide) (by show n < 100000000000000; omega)
def spFL : Sp := fun vs H Q _ => ∃ (l : Str) (a : Addr) (n0 n1 n2 n3 : Int), vs = [.str l, .ref a] ∧ l.length ≤ 100 ∧ (wds l).length = 6 ∧ H a = some (.lst [.int n0, .int n1, .int n2, .int n3]) ∧ (0 ≤ n3 ∧ n3 < 1000000) ∧ ∀ z H', Ex H H' → z.length ≤ 1100 → Q (.str z) H'
section
variable {P : Program} {w : World} {K : PySem.W.Frag} {mg : Str → Option Value} {base : Heap}
theorem sc_law_first_line : FnScope ["_law_line_here", "_law_picks", "_law_words_here", "_law_at", "_law_number_here", "_law_most", "_law_bad", "_law_choice"] ["_law_line_here", "_law_picks"] xlaw_first_line.scope := ⟨rfl, rfl, rfl, by decide +kernel, rfl, by decide +kernel, by decide +kernel⟩
theorem w_law_first_line (T : Wx P K mg) : FnR P w K mg base (L2N.CX P w) 1 (He.ga K "_law_first_line") (spFL) :=
  mkR 0 T T.toTx.d_law_first_line sc_law_first_line (by rintro vs H Q E ⟨_, _, _, _, _, _, rfl, _⟩; rfl) (fun _ _ _ _ _ _ us hl => match us, hl with | [_, _], _ => rfl) (fun cdv A outer s H vs Q E B hsp => by
  obtain ⟨l, a, n0, n1, n2, n3, rfl, hz, h6, ha, ⟨hn0, hn1⟩, hq⟩ := hsp
  refine ⟨_, (pss_cons (st_set (i := 2) sc_law_first_line.nd (pe_split (pv 0) pe_str))
    (pss_cons (st_set (i := 3) sc_law_first_line.nd (pe_op (o_addK K) pe_int (pe_op op_mod (pe_callTy call_int (by rfl) B.wx.toTx.f_int b_int (pa_cons (pe_ix (ix_seqK K) (pv 1) pe_int (fun _ _ => rfl)) pa_nil)) pe_int)))
    (pss_cons (st_set (i := 4) sc_law_first_line.nd (pe_callTy call_int (by rfl) B.wx.toTx.f_int b_int (pa_cons (pe_ix (ix_seqK K) (pv 1) pe_int (fun _ _ => rfl)) pa_nil)))
    (pss_cons (st_set (i := 5) sc_law_first_line.nd (pe_op op_pow pe_int pe_int))
    (pss_cons (ps_if (pt_cmpR (o_eqK K B.hu64) (pv 3) pe_int (nomark _)) (pss_one (st_set (i := 5) sc_law_first_line.nd (pe_op op_pow pe_int pe_int))) pss_nil)
    (pss_cons (st_set (i := 6) sc_law_first_line.nd (pe_lst (pa_cons (pe_op (o_addK K) pe_str (pe_ix (ix_seqK K) (pv 2) (pv 3) (fun _ _ => rfl))) (pa_cons pe_str (pa_cons pe_str (pa_cons pe_str (pa_cons (pe_callTy call_str_int (by rfl) B.wx.toTx.f_str b_str (pa_cons (pe_op (o_addK K) (pe_op (o_addK K) (pv 5) pe_int) (pv 4)) pa_nil)) (pa_cons (pe_callTy call_str_int (by rfl) B.wx.toTx.f_str b_str (pa_cons (pe_op (o_addK K) (pe_op op_pow pe_int pe_int) (pv 4)) pa_nil)) (pa_cons pe_str (pa_cons pe_str pa_nil))))))))))
    (pss_cons (st_set (i := 7) sc_law_first_line.nd (pe_op op_mod (pe_callTy call_int (by rfl) B.wx.toTx.f_int b_int (pa_cons (pe_ix (ix_seqK K) (pv 1) pe_int (fun _ _ => rfl)) pa_nil)) pe_int))
    (pss_cons (ps_if (pt_cmpR op_lt (pv 7) pe_int (nomark _)) (pss_one (ps_asg (pe_ix (ix_seqK K) (pv 6) (pv 7) (fun _ _ => rfl)) (pg_sub (pv 2) (pv 3) set_list))) pss_nil)
    (pss_cons (ps_if (pt_cmpR (o_eqK K B.hu64) (pv 7) pe_int (nomark _)) (pss_one (st_set (i := 2) sc_law_first_line.nd (pe_op (o_addK K) (pe_slice sl_any (pv 2) po_none (po_some (pv 3))) (pe_slice sl_any (pv 2) (po_some (pe_op (o_addK K) (pv 3) pe_int)) po_none)))) pss_nil)
    (pss_cons (ps_if (pt_cmpR (o_eqK K B.hu64) (pv 7) pe_int (nomark _)) (pss_one (st_set (i := 2) sc_law_first_line.nd (pe_op (o_addK K) (pe_op (o_addK K) (pe_slice sl_any (pv 2) po_none (po_some (pv 3))) (pe_lst (pa_cons pe_str pa_nil))) (pe_slice sl_any (pv 2) (po_some (pv 3)) po_none)))) pss_nil)
    (pss_cons (ps_if (pt_cmpR (o_eqK K B.hu64) (pv 7) pe_int (nomark _)) (pss_one (ps_asg (pe_ix (ix_seqK K) (pe_lst (pa_cons pe_str (pa_cons pe_str (pa_cons pe_str (pa_cons pe_str pa_nil))))) (pe_op op_mod (pv 4) pe_int) (fun _ _ => rfl)) (pg_sub (pv 2) pe_int set_list))) pss_nil)
    (pss_cons (ps_if (pt_cmpR (o_eqK K B.hu64) (pv 7) pe_int (nomark _)) (pss_one (ps_asg (pe_callTy call_str_int (by rfl) B.wx.toTx.f_str b_str (pa_cons (pe_op op_mod (pv 4) pe_int) pa_nil)) (pg_sub (pv 2) pe_int set_list))) pss_nil)
    (pss_one (ps_ret (pe_join pe_str (pv 2)))))))))))))))), ?_⟩
  have hws : ∀ z ∈ wds l, z.length ≤ 100 := fun z hm => Nat.le_trans (wds_mem hm) hz
  have hsw : Txt.split l " " = wds l := rfl
  refine ⟨_, rfl, ⟨l, rfl⟩, l, _, rfl, rfl, rfl, sz_of (by omega), fun p hp => ?_⟩
  rw [hsw]
  have e1 := Ex.new (o := .lst ((wds l).map V.str)) hp
  have hp1 : (upd H p (.lst ((wds l).map V.str))) p = some (.lst ((wds l).map V.str)) := upd_same
  have ha1 := e1 _ _ ha
  walk_at "st"
  generalize upd H p (.lst ((wds l).map V.str)) = H1 at *
  obtain ⟨ws, hwe⟩ : ∃ ws, ws = wds l := ⟨_, rfl⟩
  rw [← hwe] at hp1 h6 hws
  refine ⟨_, rfl, ixl ha1 rfl (.inl (.inl ⟨_, rfl, _, _, rfl, rfl, show (0 : Int) < 5 by decide, adi ?_⟩))⟩
  walk_at "st"
  obtain ⟨k, hk⟩ : ∃ k, k = 1 + n2 % 5 := ⟨_, rfl⟩
  have hkb : 1 ≤ k ∧ k ≤ 5 := by
    have := modR (a := n2) (show (0 : Int) < 5 by decide)
    omega
  rw [← hk]
  refine ⟨_, rfl, ixl ha1 rfl (.inl (.inl ⟨_, rfl, ?_⟩))⟩
  walk_at "st"
  refine ⟨_, _, rfl, rfl, ⟨by decide, by decide, by decide⟩, ?_⟩
  have e9 : (10 : Int) ^ ((9 : Int).toNat) = 1000000000 := by decide
  have e12 : (10 : Int) ^ ((12 : Int).toNat) = 1000000000000 := by decide
  have e13 : (10 : Int) ^ ((13 : Int).toNat) = 10000000000000 := by decide
  walk_at "st"
  rw [e9]
  refine qjn (fun σ' H' => H' = H1 ∧ ∃ mo : Int, σ' = [some (.str l), some (.ref a), some (.ref p), some (.int k), some (.int n3), some (.int mo), none, none] ∧ 0 ≤ mo ∧ mo ≤ 1000000000000) (fun D' hD' => ?_) ?_
  · exact swh (b := decide (k = 1)) (a_test fun Q q => ⟨_, rfl, eqI q⟩) (fun _ => ⟨_, _, rfl, rfl, ⟨by decide, by decide, by decide⟩, hD' _ _ ⟨rfl, 10 ^ ((12 : Int).toNat), rfl, by decide, by decide⟩⟩) (fun _ => hD' _ _ ⟨rfl, 1000000000, rfl, by decide, by decide⟩)
  rintro σ' H' ⟨rfl, mo, rfl, hm0, hm1⟩
  obtain ⟨wk, hwk, hat⟩ := atI_in (f := V.str) (xs := ws) (j := k) (by omega) (by omega)
  have hwkl := hws wk hwk
  have lz : ("0" : Str).length = 1 := rfl
  refine ⟨_, rfl, _, rfl, ixl hp1 hat (ads (by omega) ⟨_, rfl, adi ⟨_, rfl, adi ⟨_, rfl, lgs (by omega), _, _, rfl, rfl, ⟨by decide, by decide, by decide⟩, _, rfl, adi ⟨_, rfl, lgs (by rw [e13]; omega), by walk_at "le", fun bd hbd => ?_⟩⟩⟩⟩)⟩
  rw [e13]
  have hbs : Tl 150 8 ["0" ++ wk, "", "-1", "+1", shw (mo + 1 + n3), shw (10000000000000 + n3), "1_0", "x"] := by
    refine ⟨Nat.le_refl _, fun w hw => ?_⟩
    have s1 := shwN (i := mo + 1 + n3) (by omega) (by omega)
    have s2 := shwN (i := 10000000000000 + n3) (by omega) (by omega)
    simp only [List.mem_cons, List.not_mem_nil, or_false] at hw
    rcases hw with rfl | rfl | rfl | rfl | rfl | rfl | rfl | rfl
    · rw [len_app]
      omega
    · decide
    · decide
    · decide
    · omega
    · omega
    · decide
    · decide
  obtain ⟨bs, hbe⟩ : ∃ bs : List Str, bs = ["0" ++ wk, "", "-1", "+1", shw (mo + 1 + n3), shw (10000000000000 + n3), "1_0", "x"] := ⟨_, rfl⟩
  have hb8 : bs.length = 8 := by rw [hbe] <;> rfl
  rw [← hbe] at hbs
  have e2 := Ex.new (o := .lst (bs.map V.str)) hbd
  have hb2 : (upd H' bd (.lst (bs.map V.str))) bd = some (.lst (bs.map V.str)) := upd_same
  have hp2 := e2 _ _ hp1
  have npb : p ≠ bd := ne_of_none hp1 hbd
  have hve : [V.str ("0" ++ wk), V.str "", V.str "-1", V.str "+1", V.str (shw (mo + 1 + n3)), V.str (shw (10000000000000 + n3)), V.str "1_0", V.str "x"] = bs.map V.str := by
    rw [hbe] <;> rfl
  walk_at "st"
  rw [hve]
  have e02 := e1.trans e2
  generalize upd H' bd (.lst (bs.map V.str)) = H2 at *
  refine ⟨_, rfl, ixl (e2 _ _ ha1) rfl (.inl (.inl ⟨_, rfl, _, _, rfl, rfl, show (0 : Int) < 12 by decide, ?_⟩))⟩
  walk_at "st"
  obtain ⟨ch, hch⟩ : ∃ ch, ch = n1 % 12 := ⟨_, rfl⟩
  have hcb : 0 ≤ ch ∧ ch < 12 := by
    rw [hch]
    exact modR (by decide)
  rw [← hch]
  have htl : Tl 150 6 ws := ⟨by omega, fun w hw => Nat.le_trans (hws w hw) (by decide)⟩
  refine qjn (fun σ' H' => ∃ (p : Addr) (ws : List Str), σ' = [some (.str l), some (.ref a), some (.ref p), some (.int k), some (.int n3), some (.int mo), some (.ref bd), some (.int ch)] ∧ Ex H H' ∧ H p = none ∧ H' p = some (.lst (ws.map V.str)) ∧ 5 ≤ ws.length ∧ Tl 150 6 ws) (fun D' hD' => ?_) ?_
  · refine swh (b := decide (ch < 8)) (a_test fun Q q => ⟨_, rfl, _, _, rfl, rfl, q⟩) (fun hc => ?_) (fun _ => hD' _ _ ⟨p, ws, rfl, e02, hp, hp2, by omega, htl⟩)
    have hc8 := of_decide_eq_true hc
    obtain ⟨w8, hw8, hat8⟩ := atI_in (f := V.str) (xs := bs) (j := ch) hcb.1 (by omega)
    refine ⟨_, rfl, _, rfl, ixl hb2 hat8 ⟨_, rfl, _, rfl, p, _, k, k.toNat, rfl, rfl, hp2, ixN_of (by omega) (by rw [List.length_map]; omega), hD' _ _ ⟨p, ws.set k.toNat w8, rfl, Ex.mut e02 hp, hp, ?_, by rw [List.length_set]; omega, htl.set (hbs.2 w8 hw8) _⟩⟩⟩
    rw [upd_same, map_set]
  rintro σ' H3 ⟨p, ws, rfl, e3, hpn, hp3, hl5, ht3⟩
  refine qjn (fun σ' H' => ∃ (p : Addr) (ws : List Str), σ' = [some (.str l), some (.ref a), some (.ref p), some (.int k), some (.int n3), some (.int mo), some (.ref bd), some (.int ch)] ∧ Ex H H' ∧ H p = none ∧ H' p = some (.lst (ws.map V.str)) ∧ 2 ≤ ws.length ∧ Tl 150 6 ws) (fun D' hD' => ?_) ?_
  · refine swh (b := decide (ch = 8)) (a_test fun Q q => ⟨_, rfl, eqI q⟩) (fun hc => ?_) (fun _ => hD' _ _ ⟨p, ws, rfl, e3, hpn, hp3, by omega, ht3.up (by decide)⟩)
    refine ⟨_, rfl, _, rfl, _, rfl, sll hp3 fun q1 hq1 => ?_⟩
    rw [cut_map]
    have g1 := Ex.new (o := .lst ((cutL ws none (some k)).map V.str)) hq1
    have c1 : Tl 150 6 (cutL ws none (some k)) := ht3.cut
    refine ⟨_, rfl, _, rfl, adi ⟨_, rfl, sll (g1 _ _ hp3) fun q2 hq2 => ?_⟩⟩
    rw [cut_map]
    have g2 := Ex.new (o := .lst ((cutL ws (some (k + 1)) none).map V.str)) hq2
    have c2 : Tl 150 6 (cutL ws (some (k + 1)) none) := ht3.cut
    refine adl (g2 _ _ upd_same) upd_same (by rw [List.length_map, List.length_map]; have := c1.1; have := c2.1; omega) fun q3 hq3 => ?_
    have g3 := Ex.new (o := .lst ((cutL ws none (some k)).map V.str ++ (cutL ws (some (k + 1)) none).map V.str)) hq3
    refine hD' _ _ ⟨q3, cutL ws none (some k) ++ cutL ws (some (k + 1)) none, rfl, e3.trans (g1.trans (g2.trans g3)), fresh_back (e3.trans (g1.trans g2)) hq3, by rw [upd_same, List.map_append], ?_, ?_⟩
    · rw [List.length_append, cutL_to (by omega), cutL_from (by omega)]
      omega
    · refine (c1.app c2).by ?_
      rw [List.length_append, cutL_to (by omega), cutL_from (by omega)]
      have := ht3.1
      omega
  rintro σ' H4 ⟨p, ws, rfl, e4, hpn, hp4, hl4, ht4⟩
  refine qjn (fun σ' H' => ∃ (p : Addr) (ws : List Str), σ' = [some (.str l), some (.ref a), some (.ref p), some (.int k), some (.int n3), some (.int mo), some (.ref bd), some (.int ch)] ∧ Ex H H' ∧ H p = none ∧ H' p = some (.lst (ws.map V.str)) ∧ 2 ≤ ws.length ∧ Tl 150 7 ws) (fun D' hD' => ?_) ?_
  · refine swh (b := decide (ch = 9)) (a_test fun Q q => ⟨_, rfl, eqI q⟩) (fun hc => ?_) (fun _ => hD' _ _ ⟨p, ws, rfl, e4, hpn, hp4, hl4, ht4.up (by decide)⟩)
    refine ⟨_, rfl, _, rfl, _, rfl, sll hp4 fun q1 hq1 => ?_⟩
    rw [cut_map]
    have g1 := Ex.new (o := .lst ((cutL ws none (some k)).map V.str)) hq1
    have c1 : Tl 150 6 (cutL ws none (some k)) := ht4.cut
    refine ⟨by walk_at "le", fun q2 hq2 => ?_⟩
    have g2 := Ex.new (o := .lst [.str "1"]) hq2
    refine adl (g2 _ _ upd_same) upd_same (by rw [List.length_map]; have := c1.1; show _ + 1 ≤ 100000; omega) fun q3 hq3 => ?_
    have g3 := Ex.new (o := .lst ((cutL ws none (some k)).map V.str ++ [.str "1"])) hq3
    have g13 := g1.trans (g2.trans g3)
    refine ⟨_, rfl, _, rfl, _, rfl, sll (g13 _ _ hp4) fun q4 hq4 => ?_⟩
    rw [cut_map]
    have g4 := Ex.new (o := .lst ((cutL ws (some k) none).map V.str)) hq4
    have c2 : Tl 150 6 (cutL ws (some k) none) := ht4.cut
    refine adl (g4 _ _ upd_same) upd_same (by rw [List.length_append, List.length_map, List.length_map]; have := c1.1; have := c2.1; show _ + 1 + _ ≤ 100000; omega) fun q5 hq5 => ?_
    have g5 := Ex.new (o := .lst ((cutL ws none (some k)).map V.str ++ [.str "1"] ++ (cutL ws (some k) none).map V.str)) hq5
    refine hD' _ _ ⟨q5, cutL ws none (some k) ++ [("1" : Str)] ++ cutL ws (some k) none, rfl, e4.trans (g13.trans (g4.trans g5)), fresh_back (e4.trans (g13.trans g4)) hq5, by rw [upd_same, List.map_append, List.map_append]; rfl, ?_, ?_⟩
    · rw [List.length_append, List.length_append, cutL_to (by omega), cutL_from (by omega)]
      show 2 ≤ _ + 1 + _
      omega
    · refine ((c1.app (Tl.one (w := ("1" : Str)) (by decide))).app c2).by ?_
      rw [List.length_append, List.length_append, cutL_to (by omega), cutL_from (by omega)]
      have := ht4.1
      show _ + 1 + _ ≤ 7
      omega
  rintro σ' H5 ⟨p, ws, rfl, e5, hpn, hp5, hl5, ht5⟩
  refine qjn (fun σ' H' => ∃ (p : Addr) (ws : List Str), σ' = [some (.str l), some (.ref a), some (.ref p), some (.int k), some (.int n3), some (.int mo), some (.ref bd), some (.int ch)] ∧ Ex H H' ∧ H p = none ∧ H' p = some (.lst (ws.map V.str)) ∧ 2 ≤ ws.length ∧ Tl 150 7 ws) (fun D' hD' => ?_) ?_
  · refine swh (b := decide (ch = 10)) (a_test fun Q q => ⟨_, rfl, eqI q⟩) (fun hc => ?_) (fun _ => hD' _ _ ⟨p, ws, rfl, e5, hpn, hp5, hl5, ht5⟩)
    refine ⟨by walk_at "le", fun q1 hq1 => ?_⟩
    have g1 := Ex.new (o := .lst (([("Desk" : Str), "desks", "lay", ""]).map V.str)) hq1
    have m4 := modR (a := n3) (show (0 : Int) < 4 by decide)
    obtain ⟨w4, hw4, hat4⟩ := atI_in (f := V.str) (xs := [("Desk" : Str), "desks", "lay", ""]) m4.1 (show _ < ((4 : Nat) : Int) from m4.2)
    have hw4l : w4.length ≤ 150 := by
      simp only [List.mem_cons, List.not_mem_nil, or_false] at hw4
      rcases hw4 with rfl | rfl | rfl | rfl <;> decide
    refine ⟨_, rfl, _, _, rfl, rfl, show (0 : Int) < 4 by decide, ixl (xs := ([("Desk" : Str), "desks", "lay", ""]).map V.str) upd_same hat4 ⟨_, rfl, p, _, 0, 0, rfl, rfl, g1 _ _ hp5, ixN_of (by decide) (by rw [List.length_map]; omega), hD' _ _ ⟨p, ws.set 0 w4, rfl, Ex.mut (e5.trans g1) hpn, hpn, ?_, by rw [List.length_set]; omega, ht5.set hw4l _⟩⟩⟩
    rw [upd_same, map_set]
  rintro σ' H6 ⟨p, ws, rfl, e6, hpn, hp6, hl6, ht6⟩
  refine qjn (fun σ' H' => ∃ (p : Addr) (ws : List Str), σ' = [some (.str l), some (.ref a), some (.ref p), some (.int k), some (.int n3), some (.int mo), some (.ref bd), some (.int ch)] ∧ Ex H H' ∧ H p = none ∧ H' p = some (.lst (ws.map V.str)) ∧ 2 ≤ ws.length ∧ Tl 150 7 ws) (fun D' hD' => ?_) ?_
  · refine swh (b := decide (ch = 11)) (a_test fun Q q => ⟨_, rfl, eqI q⟩) (fun hc => ?_) (fun _ => hD' _ _ ⟨p, ws, rfl, e6, hpn, hp6, hl6, ht6⟩)
    have m3 := modR (a := n3) (show (0 : Int) < 3 by decide)
    have s3 := shwN (i := n3 % 3) m3.1 (by omega)
    refine ⟨_, rfl, _, _, rfl, rfl, show (0 : Int) < 3 by decide, _, rfl, lgs (by omega), _, rfl, p, _, 1, 1, rfl, rfl, hp6, ixN_of (by decide) (by rw [List.length_map]; omega), hD' _ _ ⟨p, ws.set 1 (shw (n3 % 3)), rfl, Ex.mut e6 hpn, hpn, ?_, by rw [List.length_set]; omega, ht6.set (by omega) _⟩⟩
    rw [upd_same, map_set]
  rintro σ' H7 ⟨p, ws, rfl, e7, hpn, hp7, hl7, ht7⟩
  have hs := Tl.sum ht7.2
  have ht1 := ht7.1
  refine ⟨⟨_, rfl⟩, _, rfl, _, p, ws, rfl, rfl, .inl (sq_of hp7), ?_, hq _ H7 e7 ?_⟩
  · show (ws.map (·.length)).sum + ws.length * 1 ≤ 16777216
    omega
  · have hj : (Txt.join " " ws).length + 1 = _ := join_len (ws := ws) (fun z => by rw [z] at hl7; cases hl7)
    omega)
end
section
variable {X : Cx} {W : WX} {k : Nat} {e o : Expr} {es : List Expr} {ta : TA} {to : TE} {p pos apos : Pos} {pl : Sem Bool}
theorem c_law_first_line {K : PySem.W.Frag} (B : Bx X W k) (ha : PA X (e :: es) ta) (hK : X.K = K := by rfl) (hl : 1 ≤ k := by decide) (hg : Gl X "_law_first_line" := by rfl) (hst : starEach (e :: es) X.env = (false, eval e X.env) :: starEach es X.env := by rfl) (hpl : (backTo pos (starEach es X.env)).any (·.1) = false := by rfl) : PE X (.Call (.Name "_law_first_line" p) (e :: es) [] pos) (tFn (spFL) W ta) := by
  subst hK
  exact k_fun (w_law_first_line B.wx) (B.rm.mono hl) B.wx.toTx.d_law_first_line.kp B.wx.toTx.g_law_first_line B.hx ha hg (by decide) hst hpl
end
end Bm
set_option Elab.async false
set_option linter.all false
set_option maxRecDepth 10000
set_option maxHeartbeats 400000
set_option pp.deepTerms false
set_option pp.maxSteps 1500
set_option maxErrors 6
set_option maxHeartbeats 2000000
/-! Walks: a text that is spoilt. -/
namespace Bm
open PySem PySem.Spec PyProof.Rows L2 Evl TL RZ
local macro_rules | `(tactic| walk_at "sz") => `(tactic| first | assumption | (refine sz_of ?_; omega) | (refine sz_lt ?_; omega))
local macro_rules | `(tactic| walk_at "ne") => `(tactic| first | assumption | (refine Ne.symm ?_; assumption) | exact ne_new (by assumption) (by walk_at "hp") | exact Ne.symm (ne_new (by assumption) (by walk_at "hp")))
local macro_rules | `(tactic| walk_at "hp") => `(tactic| first | assumption | exact upd_same | (refine (upd_ne (by walk_at "ne")).trans ?_; walk_at "hp") | (refine Ex.at_ (by assumption) ?_; walk_at "hp"))
local macro_rules | `(tactic| walk_at "sq") => `(tactic| first | assumption | (refine sq_of ?_; walk_at "hp") | (refine st_of ?_; walk_at "hp") | (refine ex_l (by assumption) ?_; walk_at "sq") | (refine ex_t (by assumption) ?_; walk_at "sq"))
local macro_rules | `(tactic| walk_at "sd") => `(tactic| first | exact (show (0 : Int) < _ from by omega) | exact (show (0 : Int) < _ ∧ _ < (1073741824 : Int) from ⟨by omega, by omega⟩) | exact (show CPow _ _ from ⟨by decide, by decide, by decide⟩) | exact (show CMul _ _ from .inl ⟨by omega, by omega⟩) | exact (show CMul _ _ from .inr ⟨by omega, by omega⟩))
local macro_rules | `(tactic| walk_at "g1") => `(tactic| first
  | refine ⟨_, rfl, ?_⟩
  | refine ⟨_, _, rfl, rfl, ?_⟩
  | refine .inl ⟨_, _, rfl, rfl, ?_⟩
  | refine .inl ⟨rfl, ?_⟩
  | refine .inl (.inl ⟨_, rfl, ?_⟩)
  | (refine ⟨_, _, rfl, ⟨?_, rfl⟩, ?_⟩; (walk_at "sz"))
  | refine ⟨(by walk_at "sd"), ?_⟩)
local macro_rules | `(tactic| walk_at "go") => `(tactic| repeat walk_at "g1")
local macro_rules | `(tactic| walk_at "st") => `(tactic| dsimp only [gName])
local macro_rules | `(tactic| walk_at "ln") => `(tactic| first | exact (show 0 < 1000 from by decide) | exact (show 1 < 1000 from by decide) | exact (show 2 < 1000 from by decide) | exact (show 3 < 1000 from by decide) | exact (show 4 < 1000 from by decide) | exact (show 5 < 1000 from by decide) | exact (show 6 < 1000 from by decide) | exact (show 7 < 1000 from by decide))
local macro_rules | `(tactic| walk_at "le") => `(tactic| first | exact (show 0 ≤ sizeLine from by decide) | exact (show 1 ≤ sizeLine from by decide) | exact (show 2 ≤ sizeLine from by decide) | exact (show 3 ≤ sizeLine from by decide) | exact (show 4 ≤ sizeLine from by decide) | exact (show 5 ≤ sizeLine from by decide) | exact (show 6 ≤ sizeLine from by decide) | exact (show 7 ≤ sizeLine from by decide) | exact (show 8 ≤ sizeLine from by decide))
local macro_rules | `(tactic| walk_at "nt") => `(tactic| first | exact nt_ins | exact nt_lst | exact nt_dK)
local macro_rules | `(tactic| walk_at "fr") => `(tactic| first | assumption | exact Fr.refl | exact Fr.ex (by assumption) | (refine Fr.put ?_ (by walk_at "hp") (by walk_at "nt") (by simp); walk_at "fr") | (refine Fr.new ?_ (by assumption); walk_at "fr"))
def spSpoilt : Sp := fun vs H Q _ => ∃ (b a : Addr) (w f : Str) (r : List Str) (n0 n1 n2 n3 : Int), vs = [.ref b, .ref a, .str w] ∧ H b = some (.lst ((f :: r).map V.str)) ∧ Tl 200 9 (f :: r) ∧ (wds f).length = 6 ∧ f.length ≤ 100 ∧ H a = some (.lst [.int n0, .int n1, .int n2, .int n3]) ∧ (0 ≤ n3 ∧ n3 < 1000000) ∧ w.length ≤ 100 ∧ ∀ z H', Ex H H' → z.length ≤ 40000 → Q (.str z) H'
theorem joinL_nil_len : ∀ ps : List (List Nat), (joinL [] ps).length = (ps.map List.length).sum
  | [] => rfl
  | [p] => by simp [joinL]
  | p :: q :: r => by
    have ih := joinL_nil_len (q :: r)
    show (p ++ ([] ++ joinL [] (q :: r))).length = p.length + ((q :: r).map List.length).sum
    rw [List.length_append, List.nil_append, ih]
theorem join0_len (ws : List Str) : (Txt.join "" ws).length = (ws.map (·.length)).sum := by
  rw [len_tl, join_eq, tl_join]
  show (joinL [] (ws.map tl)).length = _
  rw [joinL_nil_len, List.map_map]
  exact congrArg List.sum (List.map_congr_left fun w _ => (len_tl w).symm)
theorem Tl.len {M n : Nat} {a : List Str} (h : Tl M n a) : (a.map V.str).length ≤ n := by
  rw [List.length_map]
  exact h.1
section
variable {P : Program} {w : World} {K : PySem.W.Frag} {mg : Str → Option Value} {base : Heap}
theorem sc_law_spoilt : FnScope ["_law_lines_here", "_law_picks", "_law_word", "_law_choice", "_law_at", "_law_changed", "_law_text", "_law_line_here"] ["_law_lines_here", "_law_picks", "_law_word"] xlaw_spoilt.scope := ⟨rfl, rfl, rfl, by decide +kernel, rfl, by decide +kernel, by decide +kernel⟩
theorem w_law_spoilt (T : Wx P K mg) : FnR P w K mg base (L2N.CX P w) 2 (He.ga K "_law_spoilt") (spSpoilt) :=
  mkR 1 T T.toTx.d_law_spoilt sc_law_spoilt (by rintro vs H Q E ⟨_, _, _, _, _, _, _, _, _, rfl, _⟩; rfl) (fun _ _ _ _ _ _ us hl => match us, hl with | [_, _, _], _ => rfl) (fun cdv A outer s H vs Q E B hsp => by
  obtain ⟨b, a, w, f, r, n0, n1, n2, n3, rfl, hb, ht, h6, hfl, ha, hn3, hw, hq⟩ := hsp
  refine ⟨_, (pss_cons (st_set (i := 3) sc_law_spoilt.nd (pe_op op_mod (pe_callTy call_int (by rfl) B.wx.toTx.f_int b_int (pa_cons (pe_ix (ix_seqK K) (pv 1) pe_int (fun _ _ => rfl)) pa_nil)) pe_int))
    (pss_cons (st_set (i := 4) sc_law_spoilt.nd (pe_op op_mod (pe_callTy call_int (by rfl) B.wx.toTx.f_int b_int (pa_cons (pe_ix (ix_seqK K) (pv 1) pe_int (fun _ _ => rfl)) pa_nil)) (pe_callB (call_lenK K) (by rfl) B.wx.toTx.f_len b_len (pa_cons (pv 0) pa_nil))))
    (pss_cons (st_set (i := 5) sc_law_spoilt.nd (pe_callTy call_list_of (by rfl) B.wx.toTx.f_list b_list (pa_cons (pv 0) pa_nil)))
    (pss_cons (ps_if (pt_cmpR op_lt (pv 3) pe_int (nomark _)) (pss_one (st_set (i := 5) sc_law_spoilt.nd (pe_op (o_addK K) (pe_op (o_addK K) (pe_slice sl_any (pv 0) po_none (po_some (pe_op (o_addK K) (pv 4) pe_int))) (pe_lst (pa_cons (pv 2) pa_nil))) (pe_slice sl_any (pv 0) (po_some (pe_op (o_addK K) (pv 4) pe_int)) po_none)))) pss_nil)
    (pss_cons (ps_if (pt_cmpR (o_eqK K B.hu64) (pv 3) pe_int (nomark _)) (pss_one (st_set (i := 5) sc_law_spoilt.nd (pe_op (o_addK K) (pe_op (o_addK K) (pe_op (o_addK K) (pe_slice sl_any (pv 0) po_none (po_some (pv 4))) (pe_slice sl_any (pv 0) (po_some (pe_op (o_addK K) (pv 4) pe_int)) (po_some (pe_op (o_addK K) (pv 4) pe_int)))) (pe_lst (pa_cons (pe_ix (ix_seqK K) (pv 0) (pv 4) (fun _ _ => rfl)) pa_nil))) (pe_slice sl_any (pv 0) (po_some (pe_op (o_addK K) (pv 4) pe_int)) po_none)))) pss_nil)
    (pss_cons (ps_if (pt_cmpR (o_eqK K B.hu64) (pv 3) pe_int (nomark _)) (pss_one (st_set (i := 5) sc_law_spoilt.nd (pe_op (o_addK K) (pe_slice sl_any (pv 0) po_none (po_some (pv 4))) (pe_slice sl_any (pv 0) (po_some (pe_op (o_addK K) (pv 4) pe_int)) po_none)))) pss_nil)
    (pss_cons (ps_if (pt_cmpR (o_eqK K B.hu64) (pv 3) pe_int (nomark _)) (pss_one (st_set (i := 5) sc_law_spoilt.nd (pe_op (o_addK K) (pe_op (o_addK K) (pe_slice sl_any (pv 0) po_none (po_some (pv 4))) (pe_lst (pa_cons pe_str pa_nil))) (pe_slice sl_any (pv 0) (po_some (pv 4)) po_none)))) pss_nil)
    (pss_cons (ps_if (pt_cmpR (o_eqK K B.hu64) (pv 3) pe_int (nomark _)) (pss_one (st_set (i := 5) sc_law_spoilt.nd (pe_op (o_addK K) (pe_slice sl_any (pv 0) po_none (po_some (pe_op (o_addK K) (pv 4) pe_int))) (pe_slice sl_any (pv 0) (po_some (pv 4)) po_none)))) pss_nil)
    (pss_cons (ps_if (pt_cmpR (o_eqK K B.hu64) (pv 3) pe_int (nomark _)) (pss_one (ps_asg (pe_op (o_addK K) (pe_ix (ix_seqK K) (pv 5) (pv 4) (fun _ _ => rfl)) pe_str) (pg_sub (pv 5) (pv 4) set_list))) pss_nil)
    (pss_cons (ps_if (PW.pt (pw_or (pt_cmpR (o_eqK K B.hu64) (pv 3) pe_int (nomark _)) (pw_or1 (pt_cmpR (o_eqK K B.hu64) (pv 3) pe_int (nomark _))))) (pss_one (ps_asg (c_law_first_line (K := K) B (pa_cons (pe_ix (ix_seqK K) (pv 0) pe_int (fun _ _ => rfl)) (pa_cons (pv 1) pa_nil))) (pg_sub (pv 5) pe_int set_list))) pss_nil)
    (pss_cons (st_set (i := 6) sc_law_spoilt.nd (pe_join pe_str (pe_lcB (own := [("_law_line_here", 7)]) B sc_law_spoilt.nd (pi_list (pv 5)) (blkOk_by (N := ["_law_lines_here", "_law_picks", "_law_word", "_law_choice", "_law_at", "_law_changed", "_law_text", "_law_line_here"]) (sc := xlaw_spoilt.scope) (by decide +kernel)) (fun _ _ _ _ _ => pg_name (i := 7) sc_law_spoilt.nd rfl (by first | exact .inl rfl | exact .inr rfl)) (fun _ _ _ _ _ B => pts_nil) (fun _ _ _ _ _ B => (pe_op (o_addK K) (pv 7) pe_str)))))
    (pss_cons (ps_if (pt_cmpR (o_eqK K B.hu64) (pv 3) pe_int (nomark _)) (pss_one (st_set (i := 6) sc_law_spoilt.nd (pe_slice sl_any (pv 6) po_none (po_some (pe_un un_neg pe_int))))) pss_nil)
    (pss_cons (ps_if (pt_cmpR (o_eqK K B.hu64) (pv 3) pe_int (nomark _)) (pss_one (st_set (i := 6) sc_law_spoilt.nd (pe_op (o_addK K) (pv 6) (pe_ix (ix_seqK K) (pe_lst (pa_cons pe_str (pa_cons pe_str (pa_cons pe_str (pa_cons pe_str pa_nil))))) (pe_op op_mod (pv 4) pe_int) (fun _ _ => rfl))))) pss_nil)
    (pss_cons (ps_if (pt_cmpR (o_eqK K B.hu64) (pv 3) pe_int (nomark _)) (pss_one (st_set (i := 6) sc_law_spoilt.nd (pe_op (o_addK K) (pv 6) pe_str))) pss_nil)
    (pss_cons (ps_if (pt_cmpR (o_eqK K B.hu64) (pv 3) pe_int (nomark _)) (pss_one (st_set (i := 6) sc_law_spoilt.nd (pe_ix (ix_seqK K) (pe_lst (pa_cons pe_str (pa_cons pe_str (pa_cons pe_str (pa_cons pe_str pa_nil))))) (pe_op op_mod (pv 4) pe_int) (fun _ _ => rfl)))) pss_nil)
    (pss_one (ps_ret (pv 6)))))))))))))))))), ?_⟩
  have htb : Tl 1100 9 (f :: r) := ⟨ht.1, fun w hw => Nat.le_trans (ht.2 w hw) (by decide)⟩
  have ht1 := ht.1
  obtain ⟨ls, hls⟩ : ∃ ls, ls = f :: r := ⟨_, rfl⟩
  have hlp : 0 < ls.length := by rw [hls]; exact Nat.succ_pos _
  rw [← hls] at hb ht htb ht1
  refine ⟨_, rfl, ixl ha rfl (.inl (.inl ⟨_, rfl, _, _, rfl, rfl, show (0 : Int) < 14 by decide, ?_⟩))⟩
  walk_at "st"
  obtain ⟨ch, hch⟩ : ∃ ch, ch = n0 % 14 := ⟨_, rfl⟩
  rw [← hch]
  refine ⟨_, rfl, ixl ha rfl (.inl (.inl ⟨_, rfl, _, rfl, _, _, rfl, lenl hb, _, _, rfl, rfl, show (0 : Int) < (((ls.map V.str).length : Nat) : Int) by rw [List.length_map]; omega, ?_⟩))⟩
  walk_at "st"
  have hkm := modR (a := n1) (m := (((ls.map V.str).length : Nat) : Int)) (by rw [List.length_map]; omega)
  obtain ⟨k, hk⟩ : ∃ k, k = n1 % (((ls.map V.str).length : Nat) : Int) := ⟨_, rfl⟩
  rw [← hk] at hkm ⊢
  rw [List.length_map] at hkm
  refine ⟨_, rfl, b, _, rfl, .inl (sq_of hb), fun p hp => ?_⟩
  have e1 := Ex.new (o := .lst (ls.map V.str)) hp
  have hp1 : (upd H p (.lst (ls.map V.str))) p = some (.lst (ls.map V.str)) := upd_same
  walk_at "st"
  generalize upd H p (.lst (ls.map V.str)) = H1 at *
  -- ch < 2
  refine qjn (fun σ' H' => ∃ (p : Addr) (ws : List Str), σ' = [some (.ref b), some (.ref a), some (.str w), some (.int ch), some (.int k), some (.ref p), none, none] ∧ Ex H H' ∧ H p = none ∧ H' p = some (.lst (ws.map V.str)) ∧ Tl 1100 30 ws ∧ (2 ≤ ch → ws = ls)) (fun D' hD' => ?_) ?_
  · refine swh (b := decide (ch < 2)) (a_test fun Q q => ⟨_, rfl, _, _, rfl, rfl, q⟩) (fun hc => ?_) (fun _ => hD' _ _ ⟨p, ls, rfl, e1, hp, hp1, htb.up (by decide), fun _ => rfl⟩)
    have hc2 := of_decide_eq_true hc
    refine ⟨_, rfl, _, rfl, adi ⟨_, rfl, sll (e1 _ _ hb) fun q1 hq1 => ?_⟩⟩
    rw [cut_map]
    have g1 := Ex.new (o := .lst ((cutL ls none (some (k + 1))).map V.str)) hq1
    have c1 : Tl 1100 9 (cutL ls none (some (k + 1))) := htb.cut
    refine ⟨_, rfl, by walk_at "le", fun q2 hq2 => ?_⟩
    have g2 := Ex.new (o := .lst [.str w]) hq2
    refine adl (g2 _ _ upd_same) upd_same (by have := c1.len; show _ + 1 ≤ 100000; omega) fun q3 hq3 => ?_
    have g3 := Ex.new (o := .lst ((cutL ls none (some (k + 1))).map V.str ++ [.str w])) hq3
    have g13 := e1.trans (g1.trans (g2.trans g3))
    refine ⟨_, rfl, _, rfl, adi ⟨_, rfl, sll (g13 _ _ hb) fun q4 hq4 => ?_⟩⟩
    rw [cut_map]
    have g4 := Ex.new (o := .lst ((cutL ls (some (k + 1)) none).map V.str)) hq4
    have c2 : Tl 1100 9 (cutL ls (some (k + 1)) none) := htb.cut
    refine adl (g4 _ _ upd_same) upd_same (by rw [List.length_append]; have := c1.len; have := c2.len; show _ + 1 + _ ≤ 100000; omega) fun q5 hq5 => ?_
    have g5 := Ex.new (o := .lst ((cutL ls none (some (k + 1))).map V.str ++ [.str w] ++ (cutL ls (some (k + 1)) none).map V.str)) hq5
    exact hD' _ _ ⟨q5, cutL ls none (some (k + 1)) ++ [w] ++ cutL ls (some (k + 1)) none, rfl, g13.trans (g4.trans g5), fresh_back (g13.trans g4) hq5, by rw [upd_same, List.map_append, List.map_append]; rfl, ((c1.app (Tl.one (by omega))).app c2).up (by decide), fun z => by omega⟩
  rintro σ' H2 ⟨p, ws, rfl, e2, hpn, hp2, ht2, hw2⟩
  -- ch = 2
  refine qjn (fun σ' H' => ∃ (p : Addr) (ws : List Str), σ' = [some (.ref b), some (.ref a), some (.str w), some (.int ch), some (.int k), some (.ref p), none, none] ∧ Ex H H' ∧ H p = none ∧ H' p = some (.lst (ws.map V.str)) ∧ Tl 1100 30 ws ∧ (3 ≤ ch → ws = ls)) (fun D' hD' => ?_) ?_
  · refine swh (b := decide (ch = 2)) (a_test fun Q q => ⟨_, rfl, eqI q⟩) (fun hc => ?_) (fun _ => hD' _ _ ⟨p, ws, rfl, e2, hpn, hp2, ht2, fun z => hw2 (by omega)⟩)
    have hc2 := of_decide_eq_true hc
    obtain ⟨wk, hwk, hat⟩ := atI_in (f := V.str) (xs := ls) (j := k) hkm.1 (by omega)
    refine ⟨_, rfl, _, rfl, _, rfl, sll (e2 _ _ hb) fun q1 hq1 => ?_⟩
    rw [cut_map]
    have g1 := Ex.new (o := .lst ((cutL ls none (some k)).map V.str)) hq1
    have c1 : Tl 1100 9 (cutL ls none (some k)) := htb.cut
    refine ⟨_, rfl, _, rfl, adi ⟨_, rfl, _, rfl, adi ⟨_, rfl, sll ((e2.trans g1) _ _ hb) fun q2 hq2 => ?_⟩⟩⟩
    rw [cut_map]
    have g2 := Ex.new (o := .lst ((cutL ls (some (k + 1)) (some (k + 2))).map V.str)) hq2
    have c2 : Tl 1100 9 (cutL ls (some (k + 1)) (some (k + 2))) := htb.cut
    refine adl (g2 _ _ upd_same) upd_same (by have := c1.len; have := c2.len; omega) fun q3 hq3 => ?_
    have g3 := Ex.new (o := .lst ((cutL ls none (some k)).map V.str ++ (cutL ls (some (k + 1)) (some (k + 2))).map V.str)) hq3
    have g13 := e2.trans (g1.trans (g2.trans g3))
    refine ⟨_, rfl, _, rfl, ixl (g13 _ _ hb) hat ⟨by walk_at "le", fun q4 hq4 => ?_⟩⟩
    have g4 := Ex.new (o := .lst [.str wk]) hq4
    refine adl (g4 _ _ upd_same) upd_same (by rw [List.length_append]; have := c1.len; have := c2.len; show _ + _ + 1 ≤ 100000; omega) fun q5 hq5 => ?_
    have g5 := Ex.new (o := .lst ((cutL ls none (some k)).map V.str ++ (cutL ls (some (k + 1)) (some (k + 2))).map V.str ++ [.str wk])) hq5
    have g15 := g13.trans (g4.trans g5)
    refine ⟨_, rfl, _, rfl, adi ⟨_, rfl, sll (g15 _ _ hb) fun q6 hq6 => ?_⟩⟩
    rw [cut_map]
    have g6 := Ex.new (o := .lst ((cutL ls (some (k + 2)) none).map V.str)) hq6
    have c3 : Tl 1100 9 (cutL ls (some (k + 2)) none) := htb.cut
    refine adl (g6 _ _ upd_same) upd_same (by rw [List.length_append, List.length_append]; have := c1.len; have := c2.len; have := c3.len; show _ + _ + 1 + _ ≤ 100000; omega) fun q7 hq7 => ?_
    have g7 := Ex.new (o := .lst ((cutL ls none (some k)).map V.str ++ (cutL ls (some (k + 1)) (some (k + 2))).map V.str ++ [.str wk] ++ (cutL ls (some (k + 2)) none).map V.str)) hq7
    exact hD' _ _ ⟨q7, cutL ls none (some k) ++ cutL ls (some (k + 1)) (some (k + 2)) ++ [wk] ++ cutL ls (some (k + 2)) none, rfl, g15.trans (g6.trans g7), fresh_back (g15.trans g6) hq7, by rw [upd_same, List.map_append, List.map_append, List.map_append]; rfl, (((c1.app c2).app (Tl.one (htb.2 wk hwk))).app c3).up (by decide), fun z => by omega⟩
  rintro σ' H3 ⟨p, ws, rfl, e3, hpn, hp3, ht3, hw3⟩
  -- ch = 3
  refine qjn (fun σ' H' => ∃ (p : Addr) (ws : List Str), σ' = [some (.ref b), some (.ref a), some (.str w), some (.int ch), some (.int k), some (.ref p), none, none] ∧ Ex H H' ∧ H p = none ∧ H' p = some (.lst (ws.map V.str)) ∧ Tl 1100 30 ws ∧ (4 ≤ ch → ws = ls)) (fun D' hD' => ?_) ?_
  · refine swh (b := decide (ch = 3)) (a_test fun Q q => ⟨_, rfl, eqI q⟩) (fun hc => ?_) (fun _ => hD' _ _ ⟨p, ws, rfl, e3, hpn, hp3, ht3, fun z => hw3 (by omega)⟩)
    have hc2 := of_decide_eq_true hc
    refine ⟨_, rfl, _, rfl, _, rfl, sll (e3 _ _ hb) fun q1 hq1 => ?_⟩
    rw [cut_map]
    have g1 := Ex.new (o := .lst ((cutL ls none (some k)).map V.str)) hq1
    have c1 : Tl 1100 9 (cutL ls none (some k)) := htb.cut
    refine ⟨_, rfl, _, rfl, adi ⟨_, rfl, sll ((e3.trans g1) _ _ hb) fun q2 hq2 => ?_⟩⟩
    rw [cut_map]
    have g2 := Ex.new (o := .lst ((cutL ls (some (k + 1)) none).map V.str)) hq2
    have c2 : Tl 1100 9 (cutL ls (some (k + 1)) none) := htb.cut
    refine adl (g2 _ _ upd_same) upd_same (by have := c1.len; have := c2.len; omega) fun q3 hq3 => ?_
    have g3 := Ex.new (o := .lst ((cutL ls none (some k)).map V.str ++ (cutL ls (some (k + 1)) none).map V.str)) hq3
    exact hD' _ _ ⟨q3, cutL ls none (some k) ++ cutL ls (some (k + 1)) none, rfl, e3.trans (g1.trans (g2.trans g3)), fresh_back (e3.trans (g1.trans g2)) hq3, by rw [upd_same, List.map_append], (c1.app c2).up (by decide), fun z => by omega⟩
  rintro σ' H4 ⟨p, ws, rfl, e4, hpn, hp4, ht4, hw4⟩
  -- ch = 4
  refine qjn (fun σ' H' => ∃ (p : Addr) (ws : List Str), σ' = [some (.ref b), some (.ref a), some (.str w), some (.int ch), some (.int k), some (.ref p), none, none] ∧ Ex H H' ∧ H p = none ∧ H' p = some (.lst (ws.map V.str)) ∧ Tl 1100 30 ws ∧ (5 ≤ ch → ws = ls)) (fun D' hD' => ?_) ?_
  · refine swh (b := decide (ch = 4)) (a_test fun Q q => ⟨_, rfl, eqI q⟩) (fun hc => ?_) (fun _ => hD' _ _ ⟨p, ws, rfl, e4, hpn, hp4, ht4, fun z => hw4 (by omega)⟩)
    have hc2 := of_decide_eq_true hc
    refine ⟨_, rfl, _, rfl, _, rfl, sll (e4 _ _ hb) fun q1 hq1 => ?_⟩
    rw [cut_map]
    have g1 := Ex.new (o := .lst ((cutL ls none (some k)).map V.str)) hq1
    have c1 : Tl 1100 9 (cutL ls none (some k)) := htb.cut
    refine ⟨by walk_at "le", fun q2 hq2 => ?_⟩
    have g2 := Ex.new (o := .lst [.str ""]) hq2
    refine adl (g2 _ _ upd_same) upd_same (by have := c1.len; show _ + 1 ≤ 100000; omega) fun q3 hq3 => ?_
    have g3 := Ex.new (o := .lst ((cutL ls none (some k)).map V.str ++ [.str ""])) hq3
    have g13 := e4.trans (g1.trans (g2.trans g3))
    refine ⟨_, rfl, _, rfl, _, rfl, sll (g13 _ _ hb) fun q4 hq4 => ?_⟩
    rw [cut_map]
    have g4 := Ex.new (o := .lst ((cutL ls (some k) none).map V.str)) hq4
    have c2 : Tl 1100 9 (cutL ls (some k) none) := htb.cut
    refine adl (g4 _ _ upd_same) upd_same (by rw [List.length_append]; have := c1.len; have := c2.len; show _ + 1 + _ ≤ 100000; omega) fun q5 hq5 => ?_
    have g5 := Ex.new (o := .lst ((cutL ls none (some k)).map V.str ++ [.str ""] ++ (cutL ls (some k) none).map V.str)) hq5
    exact hD' _ _ ⟨q5, cutL ls none (some k) ++ [("" : Str)] ++ cutL ls (some k) none, rfl, g13.trans (g4.trans g5), fresh_back (g13.trans g4) hq5, by rw [upd_same, List.map_append, List.map_append]; rfl, ((c1.app (Tl.one (w := ("" : Str)) (by decide))).app c2).up (by decide), fun z => by omega⟩
  rintro σ' H5 ⟨p, ws, rfl, e5, hpn, hp5, ht5, hw5⟩
  -- ch = 5
  refine qjn (fun σ' H' => ∃ (p : Addr) (ws : List Str), σ' = [some (.ref b), some (.ref a), some (.str w), some (.int ch), some (.int k), some (.ref p), none, none] ∧ Ex H H' ∧ H p = none ∧ H' p = some (.lst (ws.map V.str)) ∧ Tl 1100 30 ws ∧ (6 ≤ ch → ws = ls)) (fun D' hD' => ?_) ?_
  · refine swh (b := decide (ch = 5)) (a_test fun Q q => ⟨_, rfl, eqI q⟩) (fun hc => ?_) (fun _ => hD' _ _ ⟨p, ws, rfl, e5, hpn, hp5, ht5, fun z => hw5 (by omega)⟩)
    have hc2 := of_decide_eq_true hc
    refine ⟨_, rfl, _, rfl, adi ⟨_, rfl, sll (e5 _ _ hb) fun q1 hq1 => ?_⟩⟩
    rw [cut_map]
    have g1 := Ex.new (o := .lst ((cutL ls none (some (k + 1))).map V.str)) hq1
    have c1 : Tl 1100 9 (cutL ls none (some (k + 1))) := htb.cut
    refine ⟨_, rfl, _, rfl, _, rfl, sll ((e5.trans g1) _ _ hb) fun q2 hq2 => ?_⟩
    rw [cut_map]
    have g2 := Ex.new (o := .lst ((cutL ls (some k) none).map V.str)) hq2
    have c2 : Tl 1100 9 (cutL ls (some k) none) := htb.cut
    refine adl (g2 _ _ upd_same) upd_same (by have := c1.len; have := c2.len; omega) fun q3 hq3 => ?_
    have g3 := Ex.new (o := .lst ((cutL ls none (some (k + 1))).map V.str ++ (cutL ls (some k) none).map V.str)) hq3
    exact hD' _ _ ⟨q3, cutL ls none (some (k + 1)) ++ cutL ls (some k) none, rfl, e5.trans (g1.trans (g2.trans g3)), fresh_back (e5.trans (g1.trans g2)) hq3, by rw [upd_same, List.map_append], (c1.app c2).up (by decide), fun z => by omega⟩
  rintro σ' H6 ⟨p, ws, rfl, e6, hpn, hp6, ht6, hw6⟩
  -- ch = 6
  refine qjn (fun σ' H' => ∃ (p : Addr) (ws : List Str), σ' = [some (.ref b), some (.ref a), some (.str w), some (.int ch), some (.int k), some (.ref p), none, none] ∧ Ex H H' ∧ H p = none ∧ H' p = some (.lst (ws.map V.str)) ∧ Tl 1100 30 ws ∧ (7 ≤ ch → ws = ls)) (fun D' hD' => ?_) ?_
  · refine swh (b := decide (ch = 6)) (a_test fun Q q => ⟨_, rfl, eqI q⟩) (fun hc => ?_) (fun _ => hD' _ _ ⟨p, ws, rfl, e6, hpn, hp6, ht6, fun z => hw6 (by omega)⟩)
    have hc2 := of_decide_eq_true hc
    have hwe := hw6 (by omega)
    subst hwe
    obtain ⟨wk, hwk, hat⟩ := atI_in (f := V.str) (xs := ws) (j := k) hkm.1 (by omega)
    have hwl := ht.2 wk hwk
    have lb : (" " : Str).length = 1 := rfl
    refine ⟨_, rfl, _, rfl, ixl hp6 hat (ads (by omega) ⟨_, rfl, _, rfl, p, _, k, k.toNat, rfl, rfl, hp6, ixN_of hkm.1 (by rw [List.length_map]; omega), hD' _ _ ⟨p, ws.set k.toNat (wk ++ " "), rfl, Ex.mut e6 hpn, hpn, ?_, ht6.set (by rw [len_app]; omega) _, fun z => by omega⟩⟩)⟩
    rw [upd_same, map_set]
  rintro σ' H7 ⟨p, ws, rfl, e7, hpn, hp7, ht7, hw7⟩
  -- ch = 7, 8
  refine qjn (fun σ' H' => ∃ (p : Addr) (ws : List Str), σ' = [some (.ref b), some (.ref a), some (.str w), some (.int ch), some (.int k), some (.ref p), none, none] ∧ Ex H H' ∧ H p = none ∧ H' p = some (.lst (ws.map V.str)) ∧ Tl 1100 30 ws) (fun D' hD' => ?_) ?_
  · refine swh (b := decide (ch = 7) || decide (ch = 8)) (a_or (a_test fun Q q => ⟨_, rfl, eqI q⟩) fun _ => a_test fun Q q => ⟨_, rfl, eqI q⟩) (fun hc => ?_) (fun _ => hD' _ _ ⟨p, ws, rfl, e7, hpn, hp7, ht7⟩)
    have hc2 : ch = 7 ∨ ch = 8 := by simpa only [Bool.or_eq_true, decide_eq_true_eq] using hc
    have hwe := hw7 (by omega)
    have hat0 : atI (ls.map V.str) 0 = some (.str f) := by
      rw [hls]
      exact atI_nat (j := 0) rfl
    refine ⟨_, rfl, ixl (e7 _ _ hb) hat0 ⟨_, rfl, f, a, n0, n1, n2, n3, rfl, hfl, h6, e7 _ _ ha, hn3, fun z H8 e8 hz => ⟨_, rfl, p, _, 0, 0, rfl, rfl, e8 _ _ hp7, ixN_of (by decide) (by rw [List.length_map, hwe]; omega), hD' _ _ ⟨p, ws.set 0 z, rfl, Ex.mut (e7.trans e8) hpn, hpn, ?_, ht7.set hz _⟩⟩⟩⟩
    rw [upd_same, map_set]
  rintro σ' H8 ⟨p, ws, rfl, e8, hpn, hp8, ht8⟩
  -- the text
  have ht81 := ht8.1
  refine qasg (fun x H' => ∃ z : Str, x = .str z ∧ Ex H H' ∧ z.length ≤ 33030) (fun Q q => ?_) ?_
  · refine ⟨⟨_, rfl⟩, _, rfl, p, rfl, ⟨_, sq_of hp8⟩, fun D hD => ?_⟩
    refine lcX (walk_list (xs := ws.map V.str)) _ yAt (by rw [List.length_map]; omega) hD (fun H' e => ex_l e (sq_of hp8)) (fun _ _ => true) (fun i acc => acc = ((ws.take i).map fun l : Str => l ++ ("\n" : Str)).map V.str) rfl ?_ (fun i x acc H1 hi hx r e Q q => q H1 (Ex.refl H1)) (fun i x acc H1 hi hx r e hf Q q => ?_) (fun i x acc hi hx r hf => by cases hf) (fun H9 ys e9 hD9 r hl2 => ?_)
    · exact fun _ => rfl
    · rw [List.getElem?_map] at hx
      obtain ⟨y, hy, rfl⟩ := Option.map_eq_some_iff.mp hx
      have hyl := ht8.2 y (List.mem_of_getElem? hy)
      refine ⟨_, rfl, ads (by show y.length + 1 ≤ 100000; omega) (q _ _ (Ex.refl H1) ?_)⟩
      rw [take_snoc hy, List.map_append, List.map_append, r]
      rfl
    · rw [List.length_map, take_all] at r
      subst r
      have hsum : ((ws.map fun l : Str => l ++ ("\n" : Str)).map (·.length)).sum ≤ 1101 * ws.length := sum_le (fun l hl => by
        have := ht8.2 l hl
        rw [len_app]
        show l.length + 1 ≤ 1101
        omega)
      refine ⟨_, D, ws.map fun l : Str => l ++ ("\n" : Str), rfl, rfl, .inl (sq_of hD9), ?_, q _ H9 ⟨_, rfl, e8.trans e9, ?_⟩⟩
      · have e7 : ("" : Str).length = 0 := rfl
        rw [e7, Nat.mul_zero, Nat.add_zero]
        omega
      · have hj : (Txt.join "" (ws.map fun l : Str => l ++ ("\n" : Str))).length = ((ws.map fun l : Str => l ++ ("\n" : Str)).map (·.length)).sum := by
          exact join0_len _
        rw [hj]
        omega
  rintro _ H9 ⟨z, rfl, e9, hz9⟩
  have lx : ("x" : Str).length = 1 ∧ (" " : Str).length = 1 ∧ ("coins 1" : Str).length = 7 ∧ ("desk" : Str).length = 4 ∧ ("\n" : Str).length = 1 ∧ ("desk 0 0 0 1 1" : Str).length = 14 ∧ ("" : Str).length = 0 := ⟨rfl, rfl, rfl, rfl, rfl, rfl, rfl⟩
  have m4 := modR (a := k) (show (0 : Int) < 4 by decide)
  refine qjn (fun σ' H' => ∃ z : Str, σ' = [some (.ref b), some (.ref a), some (.str w), some (.int ch), some (.int k), some (.ref p), some (.str z), none] ∧ Ex H H' ∧ z.length ≤ 33030) (fun D' hD' => ?_) ?_
  · refine swh (b := decide (ch = 9)) (a_test fun Q q => ⟨_, rfl, eqI q⟩) (fun _ => ?_) (fun _ => hD' _ _ ⟨z, rfl, e9, hz9⟩)
    refine ⟨_, rfl, _, rfl, _, rfl, sls (sz_of (by omega)) (hD' _ _ ⟨_, rfl, e9, ?_⟩)⟩
    have := cutS_length z none (some (-1))
    omega
  rintro σ' H10 ⟨z, rfl, e10, hz10⟩
  refine qjn (fun σ' H' => ∃ z : Str, σ' = [some (.ref b), some (.ref a), some (.str w), some (.int ch), some (.int k), some (.ref p), some (.str z), none] ∧ Ex H H' ∧ z.length ≤ 33050) (fun D' hD' => ?_) ?_
  · refine swh (b := decide (ch = 10)) (a_test fun Q q => ⟨_, rfl, eqI q⟩) (fun _ => ?_) (fun _ => hD' _ _ ⟨z, rfl, e10, by omega⟩)
    obtain ⟨w4, hw4, hat4⟩ := atI_in (f := V.str) (xs := [("x" : Str), " ", "coins 1", "desk"]) m4.1 (show _ < ((4 : Nat) : Int) from m4.2)
    have hw4l : w4.length ≤ 14 := by
      simp only [List.mem_cons, List.not_mem_nil, or_false] at hw4
      rcases hw4 with rfl | rfl | rfl | rfl <;> decide
    refine ⟨_, rfl, by walk_at "le", fun q1 hq1 => ?_⟩
    exact ⟨_, rfl, _, _, rfl, rfl, show (0 : Int) < 4 by decide, ixl (xs := ([("x" : Str), " ", "coins 1", "desk"]).map V.str) upd_same hat4 (ads (by omega) (hD' _ _ ⟨_, rfl, e10.trans (Ex.new hq1), by rw [len_app]; omega⟩))⟩
  rintro σ' H11 ⟨z, rfl, e11, hz11⟩
  refine qjn (fun σ' H' => ∃ z : Str, σ' = [some (.ref b), some (.ref a), some (.str w), some (.int ch), some (.int k), some (.ref p), some (.str z), none] ∧ Ex H H' ∧ z.length ≤ 33060) (fun D' hD' => ?_) ?_
  · refine swh (b := decide (ch = 11)) (a_test fun Q q => ⟨_, rfl, eqI q⟩) (fun _ => ?_) (fun _ => hD' _ _ ⟨z, rfl, e11, by omega⟩)
    exact ⟨_, rfl, ads (by omega) (hD' _ _ ⟨_, rfl, e11, by rw [len_app]; omega⟩)⟩
  rintro σ' H12 ⟨z, rfl, e12, hz12⟩
  refine qjn (fun σ' H' => ∃ z : Str, σ' = [some (.ref b), some (.ref a), some (.str w), some (.int ch), some (.int k), some (.ref p), some (.str z), none] ∧ Ex H H' ∧ z.length ≤ 33060) (fun D' hD' => ?_) ?_
  · refine swh (b := decide (ch = 12)) (a_test fun Q q => ⟨_, rfl, eqI q⟩) (fun _ => ?_) (fun _ => hD' _ _ ⟨z, rfl, e12, by omega⟩)
    obtain ⟨w4, hw4, hat4⟩ := atI_in (f := V.str) (xs := [("" : Str), "\n", "desk", "desk 0 0 0 1 1"]) m4.1 (show _ < ((4 : Nat) : Int) from m4.2)
    have hw4l : w4.length ≤ 14 := by
      simp only [List.mem_cons, List.not_mem_nil, or_false] at hw4
      rcases hw4 with rfl | rfl | rfl | rfl <;> decide
    refine ⟨by walk_at "le", fun q1 hq1 => ?_⟩
    exact ⟨_, rfl, _, _, rfl, rfl, show (0 : Int) < 4 by decide, ixl (xs := ([("" : Str), "\n", "desk", "desk 0 0 0 1 1"]).map V.str) upd_same hat4 (hD' _ _ ⟨_, rfl, e12.trans (Ex.new hq1), by omega⟩)⟩
  rintro σ' H13 ⟨z, rfl, e13, hz13⟩
  exact ⟨_, rfl, hq z H13 e13 (by omega)⟩)
end
section
variable {X : Cx} {W : WX} {k : Nat} {e o : Expr} {es : List Expr} {ta : TA} {to : TE} {p pos apos : Pos} {pl : Sem Bool}
theorem c_law_spoilt {K : PySem.W.Frag} (B : Bx X W k) (ha : PA X (e :: es) ta) (hK : X.K = K := by rfl) (hl : 2 ≤ k := by decide) (hg : Gl X "_law_spoilt" := by rfl) (hst : starEach (e :: es) X.env = (false, eval e X.env) :: starEach es X.env := by rfl) (hpl : (backTo pos (starEach es X.env)).any (·.1) = false := by rfl) : PE X (.Call (.Name "_law_spoilt" p) (e :: es) [] pos) (tFn (spSpoilt) W ta) := by
  subst hK
  exact k_fun (w_law_spoilt B.wx) (B.rm.mono hl) B.wx.toTx.d_law_spoilt.kp B.wx.toTx.g_law_spoilt B.hx ha hg (by decide) hst hpl
end
end Bm
set_option Elab.async false
set_option linter.all false
set_option maxRecDepth 10000
set_option maxHeartbeats 1000000
/-! Plain law: a journal read is the desk that wrote it; what is undone is done again. -/
namespace Bm
open PySem PySem.Spec PyProof.Rows L2 Evl TL RZ
/-! ### numbers are read back -/
theorem numL_head : ∀ (n : Nat), (numL n).head? = some 48 → n = 0 := by
  intro n
  induction n using Nat.strongRecOn with
  | ind n ih =>
    intro h
    by_cases h10 : n < 10
    · rw [numL_lt h10] at h
      have : 48 + n = 48 := Option.some.inj h
      omega
    · rw [numL_step (by omega)] at h
      have hne := numL_ne (n / 10)
      cases e : numL (n / 10) with
      | nil => exact absurd e hne
      | cons c r =>
        rw [e] at h
        have h2 : (numL (n / 10)).head? = some 48 := by
          rw [e]
          exact h
        have := ih (n / 10) (by omega) h2
        omega
theorem rdNum_shw {n : Int} (h0 : 0 ≤ n) (h1 : n < 10000000000000) : rdNum (shw n) 13 = some n := by
  obtain ⟨k, rfl⟩ : ∃ k : Nat, n = k := ⟨n.toNat, by omega⟩
  have et : tl (shw ((k : Nat) : Int)) = numL k := tl_num k
  have hl : (shw ((k : Nat) : Int)).length ≤ 13 := by
    rw [len_tl, et]
    exact numL_len (by decide) (by show k < 10000000000000; omega)
  have hne : shw ((k : Nat) : Int) ≠ ("" : Str) := fun z => by
    have : tl (shw ((k : Nat) : Int)) = [] := by rw [z] <;> rfl
    rw [et] at this
    exact numL_ne k this
  have hd : (numL k).all isDig = true := by
    rw [List.all_eq_true]
    intro c hc
    have := numL_digits k c hc
    exact (isDig_iff c).mpr (by omega)
  unfold rdNum
  rw [if_neg (by rintro (z | z); exact hne z; omega), et, if_neg (by rw [hd]; exact Bool.noConfusion), if_neg ?_, numL_val]
  rintro ⟨z, z2⟩
  have hk := numL_head k z
  subst hk
  have e : (shw (((0 : Nat) : Int))).length = 1 := by
    rw [len_tl, et]
    rfl
  omega
theorem nums_shw : ∀ {l : List Int}, (∀ n ∈ l, 0 ≤ n ∧ n < 10000000000000) → nums (l.map shw) = some l
  | [], _ => rfl
  | n :: r, h => by
    have h1 := h n (List.mem_cons_self ..)
    have h2 := nums_shw (l := r) fun m hm => h m (List.mem_cons_of_mem _ hm)
    show nums (shw n :: r.map shw) = some (n :: r)
    unfold nums
    rw [rdNum_shw h1.1 h1.2, h2]
theorem shw_free {n : Int} {s : Nat} (h0 : 0 ≤ n) (hs : s < 48) : s ∉ tl (shw n) := by
  obtain ⟨k, rfl⟩ : ∃ k : Nat, n = k := ⟨n.toNat, by omega⟩
  show s ∉ tl (Str.ofString (toString ((k : Nat) : Int)))
  rw [tl_num]
  exact numL_free (.inl hs)
/-! ### the first line -/
structure OkO (o : Cost) : Prop where
  ok : okCosts o.1 o.2.1 o.2.2.1 o.2.2.2.1 o.2.2.2.2 = true
theorem OkO.rng {o : Cost} (h : OkO o) : ∀ n ∈ nsO o, 0 ≤ n ∧ n ≤ 1000000000000 := by
  have k := h.ok
  unfold okCosts at k
  simp only [Bool.and_eq_true, List.all_cons, List.all_nil, Bool.not_eq_true', decide_eq_false_iff_not, and_true] at k
  intro n hn
  unfold nsO at hn
  simp only [List.mem_cons, List.not_mem_nil, or_false] at hn
  rcases hn with rfl | rfl | rfl | rfl | rfl <;> omega
theorem wds_first {o : Cost} (h : OkO o) : wds (firstL o) = ("desk" : Str) :: (nsO o).map shw := by
  refine split_join (y := blank) (s := 32) (S := []) tl_blank blank_ok (by simp) fun p hp => ?_
  rcases List.mem_cons.mp hp with z | z
  · rw [z]
    decide
  · obtain ⟨n, hn, rfl⟩ := List.mem_map.mp z
    exact shw_free (h.rng n hn).1 (by decide)
theorem firstOf_first {o : Cost} (h : OkO o) : firstOf (firstL o) = some o := by
  unfold firstOf
  have hw := wds_first h
  rw [if_pos ⟨by unfold wd; rw [hw]; rfl, by rw [hw]; rfl⟩, hw]
  show (nums ((nsO o).map shw)).bind costOf = some o
  rw [nums_shw fun n hn => by have := h.rng n hn; omega]
  show (if okCosts o.1 o.2.1 o.2.2.1 o.2.2.2.1 o.2.2.2.2 = true then some (o.1, o.2.1, o.2.2.1, o.2.2.2.1, o.2.2.2.2) else none) = some o
  rw [if_pos h.ok]
theorem firstL_len {o : Cost} (h : OkO o) : (firstL o).length ≤ 100 := by
  have e : (firstL o).length + 1 = _ := join_len (ws := "desk" :: (nsO o).map shw) (by simp)
  have s : ∀ n ∈ nsO o, (shw n).length ≤ 14 := fun n hn => by
    have := h.rng n hn
    exact shwN this.1 (by omega)
  have e2 : (((("desk" : Str) :: (nsO o).map shw).map fun z : Str => z.length)).sum = 4 + ((shw o.1).length + ((shw o.2.1).length + ((shw o.2.2.1).length + ((shw o.2.2.2.1).length + ((shw o.2.2.2.2).length + 0))))) := rfl
  have e3 : (("desk" : Str) :: (nsO o).map shw).length = 6 := rfl
  have b1 := s o.1 (by simp [nsO])
  have b2 := s o.2.1 (by simp [nsO])
  have b3 := s o.2.2.1 (by simp [nsO])
  have b4 := s o.2.2.2.1 (by simp [nsO])
  have b5 := s o.2.2.2.2 (by simp [nsO])
  omega
theorem joinL_free {s t : Nat} (hst : t ≠ s) : ∀ ps : List (List Nat), (∀ p ∈ ps, t ∉ p) → t ∉ joinL [s] ps
  | [], _ => by simp [joinL]
  | [p], h => h p (by simp)
  | p :: q :: r, h => by
    show t ∉ p ++ ([s] ++ joinL [s] (q :: r))
    rw [List.mem_append, List.mem_append, List.mem_singleton]
    rintro (z | z | z)
    · exact h p (by simp) z
    · exact hst z
    · exact joinL_free hst (q :: r) (fun x hx => h x (List.mem_cons_of_mem _ hx)) z
theorem join_free {ws : List Str} (h : ∀ w ∈ ws, 10 ∉ tl w) : 10 ∉ tl (Txt.join blank ws) := by
  rw [join_eq, tl_join]
  show 10 ∉ joinL [32] (ws.map tl)
  refine joinL_free (by decide) _ fun p hp => ?_
  obtain ⟨w, hw, rfl⟩ := List.mem_map.mp hp
  exact h w hw
theorem wds_free {l : Str} (h : ∀ w ∈ wds l, 10 ∉ tl w) : 10 ∉ tl l := by
  rw [← wds_join l]
  exact join_free h
theorem first_free {o : Cost} (h : OkO o) : 10 ∉ tl (firstL o) := by
  refine join_free fun w hw => ?_
  rcases List.mem_cons.mp hw with z | z
  · rw [z]
    decide
  · obtain ⟨n, hn, rfl⟩ := List.mem_map.mp z
    exact shw_free (h.rng n hn).1 (by decide)
/-! ### lines that were done hold no line's end -/
def NmOk (c : Core) : Prop := ∀ p ∈ c.rows, isName p.1 = true
theorem name_free {n : Str} (h : isName n = true) : 10 ∉ tl n := fun hm => by
  unfold isName at h
  split at h
  · cases h
  · have := List.all_eq_true.mp h 10 hm
    revert this
    decide
theorem two_words' {w : List Str} (h : 2 ≤ w.length) : ∃ x y, w = x :: y :: w.drop 2 := by
  match w, h with
  | x :: y :: r, _ => exact ⟨x, y, rfl⟩
theorem nums_free {ws : List Str} {ks : List Int} (h : nums ws = some ks) : ∀ w ∈ ws, 10 ∉ tl w := by
  obtain ⟨e1, e2, _⟩ := nums_some h
  rw [e1]
  intro w hw
  obtain ⟨n, hn, rfl⟩ := List.mem_map.mp hw
  exact shw_free (e2 n hn) (by decide)
theorem act_free {c d : Core} {l : Str} (nm : NmOk c) (h : c.act l = some d) : NmOk d ∧ 10 ∉ tl l := by
  have setNm : ∀ {n : Str} {R : RowD}, ∀ p ∈ setRow c.rows n R, isName p.1 = true := fun {n R} p hp => by
    have e : p.1 ∈ (setRow c.rows n R).map (·.1) := List.mem_map_of_mem hp
    rw [setRow_names] at e
    obtain ⟨q, hq, e2⟩ := List.mem_map.mp e
    rw [← e2]
    exact nm q hq
  have rowNm : ∀ {n : Str} {R : RowD}, rowOf c.rows n = some R → isName n = true := fun h => nm _ (rowOf_mem h)
  have three : ∀ {x : Str} {ks : List Int}, wd l 0 = x → 10 ∉ tl x → isName (wd l 1) = true → 2 ≤ (wds l).length → nums ((wds l).drop 2) = some ks → 10 ∉ tl l := fun {x ks} h0 hx h1 h2 hk => by
    refine wds_free fun w hw => ?_
    rw [two_words h2] at hw
    rcases List.mem_cons.mp hw with z | z
    · rw [z]
      show 10 ∉ tl (wd l 0)
      rw [h0]
      exact hx
    · rcases List.mem_cons.mp z with y | y
      · rw [y]
        exact name_free h1
      · exact nums_free hk w y
  unfold Core.act at h
  split at h
  · rename_i e
    obtain ⟨ks, hk, h⟩ := Option.bind_eq_some_iff.mp h
    unfold Core.lay at h
    split at h
    · cases h
    rename_i h1
    split at h
    · cases h
    split at h
    · cases h
    split at h
    · cases h
    cases h
    have hn : isName (wd l 1) = true := by simpa using h1
    refine ⟨fun p hp => ?_, three e.1 (by decide) hn (by omega) hk⟩
    rcases List.mem_append.mp hp with z | z
    · exact nm p z
    · rw [List.mem_singleton.mp z]
      exact hn
  split at h
  · rename_i e
    obtain ⟨ks, hk, h⟩ := Option.bind_eq_some_iff.mp h
    unfold Core.take at h
    cases hr : rowOf c.rows (wd l 1) with
    | none => rw [hr] at h; cases h
    | some R =>
      rw [hr] at h
      dsimp only at h
      cases hm : R.mark (ks.getD 0 0) with
      | none => rw [hm] at h; cases h
      | some m =>
        rw [hm] at h
        dsimp only at h
        split at h
        · cases h
        cases h
        exact ⟨setNm, three e.1 (by decide) (rowNm hr) (by omega) hk⟩
  split at h
  · rename_i e
    obtain ⟨ks, hk, h⟩ := Option.bind_eq_some_iff.mp h
    unfold Core.grow at h
    cases hr : rowOf c.rows (wd l 1) with
    | none => rw [hr] at h; cases h
    | some R =>
      rw [hr] at h
      dsimp only at h
      split at h
      · cases h
      split at h
      · cases h
      cases h
      exact ⟨setNm, three e.1 (by decide) (rowNm hr) (by omega) hk⟩
  split at h
  · rename_i e
    obtain ⟨ks, hk, h⟩ := Option.bind_eq_some_iff.mp h
    unfold Core.pay at h
    split at h
    · cases h
    cases h
    refine ⟨nm, wds_free fun w hw => ?_⟩
    rw [one_word (w := wds l) (by omega)] at hw
    rcases List.mem_cons.mp hw with z | z
    · rw [z]
      show 10 ∉ tl (wd l 0)
      rw [e.1]
      decide
    · exact nums_free hk w z
  · cases h
theorem step_free {c d : Core} {l : Str} (nm : NmOk c) (h : c.step l = some d) : NmOk d ∧ 10 ∉ tl l := by
  unfold Core.step at h
  obtain ⟨e, he, h⟩ := Option.map_eq_some_iff.mp h
  subst h
  obtain ⟨h1, h2⟩ := act_free nm he
  exact ⟨h1, h2⟩
theorem run_free : ∀ {ls : List Str} {c d : Core}, NmOk c → c.run ls = some d → NmOk d ∧ ∀ l ∈ ls, 10 ∉ tl l
  | [], c, d, nm, h => by
    have e : c = d := Option.some.inj h
    subst e
    exact ⟨nm, by simp⟩
  | l :: r, c, d, nm, h => by
    unfold Core.run at h
    cases e : c.step l with
    | none => rw [e] at h; cases h
    | some c' =>
      rw [e] at h
      obtain ⟨h1, h2⟩ := step_free nm e
      obtain ⟨g1, g2⟩ := run_free h1 h
      refine ⟨g1, fun x hx => ?_⟩
      rcases List.mem_cons.mp hx with z | z
      · rw [z]
        exact h2
      · exact g2 x z
theorem good_free {c : Core} (g : Good c) : ∀ l ∈ c.done, 10 ∉ tl l := (run_free (c := Core.new c.opn) (fun p hp => by cases hp) g).2
/-! ### the journal read -/
theorem lines_join : ∀ ls : List Str, linesT ls = Txt.join brk (ls ++ [("" : Str)])
  | [] => rfl
  | l :: r => by
    have ih := lines_join r
    refine ext_tl ?_
    have e1 : tl (linesT (l :: r)) = tl l ++ ([10] ++ tl (linesT r)) := by
      unfold linesT
      rw [join_eq, join_eq, tl_join, tl_join]
      show joinL [] ((tl (l ++ ("\n" : Str))) :: ((r.map fun l : Str => l ++ ("\n" : Str)).map tl)) = tl l ++ ([10] ++ joinL [] ((r.map fun l : Str => l ++ ("\n" : Str)).map tl))
      cases e : (r.map fun l : Str => l ++ ("\n" : Str)).map tl with
      | nil =>
        show tl (l ++ ("\n" : Str)) = tl l ++ ([10] ++ [])
        rw [tl_append]
        rfl
      | cons x y =>
        show tl (l ++ ("\n" : Str)) ++ ([] ++ joinL [] (x :: y)) = tl l ++ ([10] ++ joinL [] (x :: y))
        rw [tl_append, List.nil_append, List.append_assoc]
        rfl
    rw [e1, ih, join_eq, join_eq, tl_join, tl_join]
    show tl l ++ ([10] ++ joinL [10] ((r ++ [("" : Str)]).map tl)) = joinL [10] (tl l :: (r ++ [("" : Str)]).map tl)
    cases e : (r ++ [("" : Str)]).map tl with
    | nil =>
      have := congrArg List.length e
      simp at this
    | cons x y => rfl
theorem split_lines {ls : List Str} (h : ∀ l ∈ ls, 10 ∉ tl l) : Txt.split (linesT ls) brk = ls ++ [("" : Str)] := by
  rw [lines_join]
  refine split_join (y := brk) (s := 10) (S := []) tl_brk brk_ok (by simp) fun p hp => ?_
  rcases List.mem_append.mp hp with z | z
  · exact h p z
  · rw [List.mem_singleton.mp z]
    decide
theorem go_run : ∀ {ls : List Str} {c d : Core} {k : Int}, c.run ls = some d → goLines c ls k = .inr d
  | [], c, d, k, h => by
    have e : c = d := Option.some.inj h
    subst e
    rfl
  | l :: r, c, d, k, h => by
    unfold Core.run at h
    unfold goLines
    cases e : c.step l with
    | none => rw [e] at h; cases h
    | some c' =>
      rw [e] at h
      exact go_run h
theorem read_back {c : Core} (g : Good c) (ho : OkO c.opn) : readJ (jText c.opn c.done) = .inr c := by
  have hs : Txt.split (jText c.opn c.done) brk = (firstL c.opn :: c.done) ++ [("" : Str)] := split_lines fun l hl => by
    rcases List.mem_cons.mp hl with z | z
    · rw [z]
      exact first_free ho
    · exact good_free g l z
  unfold readJ
  rw [hs, List.dropLast_concat, List.getLast?_concat]
  dsimp only
  rw [firstOf_first ho]
  dsimp only
  rw [go_run (show (Core.new c.opn).run c.done = some c from g)]
  dsimp only
  rw [if_pos rfl]
/-! ### undone and done again -/
theorem undo_all : ∀ (n : Nat) (c : Core) (u v : List Str), Good c → c.done.length = n → n ≤ 1000 → u.length + n ≤ 2000 → v.length + n ≤ 2000 → (∀ l ∈ c.done, l.length ≤ 80000) → MvN true (n + 1) (c, u, v) (Core.new c.opn, u ++ c.done.reverse, v ++ c.done.reverse)
  | 0, c, u, v, g, hn, h1, h2, h3, hl => by
    have hd : c.done = [] := List.length_eq_zero_iff.mp hn
    have ec : Core.new c.opn = c := by
      have g' : (Core.new c.opn).run c.done = some c := g
      rw [hd] at g'
      exact Option.some.inj g'
    rw [hd, ec]
    simp only [List.reverse_nil, List.append_nil]
    have ok : Ok2 (c, u, v) := ⟨g.ok, by show c.done.length ≤ 80000; omega, by show u.length ≤ 80000; omega, by show v.length ≤ 80000; omega⟩
    exact ⟨ok, (c, u, v), .inr ⟨hd, hd, rfl⟩, rfl, ok⟩
  | n + 1, c, u, v, g, hn, h1, h2, h3, hl => by
    obtain ⟨ls, l, hd⟩ : ∃ ls l, c.done = ls ++ [l] := by
      rcases List.eq_nil_or_concat c.done with e | ⟨i, l, e⟩
      · rw [e] at hn
        cases hn
      · exact ⟨i, l, by rw [e, List.concat_eq_append]⟩
    obtain ⟨b, gb, hb, ho, hs⟩ := good_back g hd
    have hlen : ls.length = n := by
      rw [hd, List.length_append] at hn
      exact Nat.succ.inj hn
    have ih := undo_all n b (u ++ [l]) (v ++ [l]) gb (by rw [hb]; exact hlen) (by omega) (by rw [List.length_append]; show u.length + 1 + n ≤ 2000; omega) (by rw [List.length_append]; show v.length + 1 + n ≤ 2000; omega) (fun x hx => hl x (by rw [hd]; rw [hb] at hx; exact List.mem_append_left _ hx))
    have ok : Ok2 (c, u, v) := ⟨g.ok, by show c.done.length ≤ 80000; omega, by show u.length ≤ 80000; omega, by show v.length ≤ 80000; omega⟩
    have hll := hl l (by rw [hd]; simp)
    refine ⟨ok, (b, u ++ [l], v ++ [l]), .inl ⟨l, b, u ++ [l], v ++ [l], ⟨hll, ?_⟩, ⟨hll, ?_⟩, rfl⟩, ?_⟩
    · rw [if_pos rfl]
      exact ⟨⟨ls, hd⟩, hs, gb.ok, rfl⟩
    · rw [if_pos rfl]
      exact ⟨⟨ls, hd⟩, hs, gb.ok, rfl⟩
    · rw [hb, ho] at ih
      rw [hd, List.reverse_append]
      rw [List.append_assoc, List.append_assoc] at ih
      exact ih
theorem redo_all : ∀ (ls : List Str) (c d : Core) (u v : List Str), CoreOk c → c.run ls = some d → c.done.length + ls.length ≤ 1000 → u.length + ls.length ≤ 2000 → v.length + ls.length ≤ 2000 → (∀ l ∈ ls, l.length ≤ 80000) → MvN false ls.length (c, u ++ ls.reverse, v ++ ls.reverse) (d, u, v)
  | [], c, d, u, v, ok, h, h1, h2, h3, hl => by
    have e : c = d := Option.some.inj h
    subst e
    have h1 : c.done.length + 0 ≤ 1000 := h1
    have h2 : u.length + 0 ≤ 2000 := h2
    have h3 : v.length + 0 ≤ 2000 := h3
    refine ⟨by simp, ok, by show c.done.length ≤ 80000; omega, ?_, ?_⟩
    · show (u ++ [].reverse).length ≤ 80000
      rw [List.length_append]
      show u.length + 0 ≤ 80000
      omega
    · show (v ++ [].reverse).length ≤ 80000
      rw [List.length_append]
      show v.length + 0 ≤ 80000
      omega
  | l :: r, c, d, u, v, ok, h, h1, h2, h3, hl => by
    unfold Core.run at h
    cases e : c.step l with
    | none => rw [e] at h; cases h
    | some c' =>
      rw [e] at h
      obtain ⟨ok', _, hd'⟩ := step_ok ok e
      have h1 : c.done.length + (r.length + 1) ≤ 1000 := h1
      have h2 : u.length + (r.length + 1) ≤ 2000 := h2
      have h3 : v.length + (r.length + 1) ≤ 2000 := h3
      have hdl : c'.done.length = c.done.length + 1 := by rw [hd', List.length_append] <;> rfl
      have ih := redo_all r c' d u v ok' h (by omega) (by omega) (by omega) (fun x hx => hl x (List.mem_cons_of_mem _ hx))
      have hll := hl l (List.mem_cons_self ..)
      have eu : u ++ (l :: r).reverse = (u ++ r.reverse) ++ [l] := by rw [List.reverse_cons, List.append_assoc]
      have ev : v ++ (l :: r).reverse = (v ++ r.reverse) ++ [l] := by rw [List.reverse_cons, List.append_assoc]
      have zu : ((u ++ r.reverse) ++ [l]).length ≤ 80000 := by
        rw [List.length_append, List.length_append, List.length_reverse]
        show u.length + r.length + 1 ≤ 80000
        omega
      have zv : ((v ++ r.reverse) ++ [l]).length ≤ 80000 := by
        rw [List.length_append, List.length_append, List.length_reverse]
        show v.length + r.length + 1 ≤ 80000
        omega
      rw [eu, ev]
      refine ⟨⟨ok, by show c.done.length ≤ 80000; omega, zu, zv⟩, (c', u ++ r.reverse, v ++ r.reverse), .inl ⟨l, c', u ++ r.reverse, v ++ r.reverse, ⟨hll, ?_⟩, ⟨hll, ?_⟩, rfl⟩, ih⟩
      · rw [if_neg Bool.false_ne_true]
        exact ⟨rfl, e⟩
      · rw [if_neg Bool.false_ne_true]
        exact ⟨rfl, e⟩
/-- what is undone can be done again -/
def Redo (c : Core) (un : List Str) : Prop := un = [] ∨ ∃ us l d, un = us ++ [l] ∧ c.step l = some d ∧ l.length ≤ 80000
end Bm
set_option Elab.async false
set_option linter.all false
set_option maxRecDepth 10000
set_option maxHeartbeats 400000
set_option pp.deepTerms false
set_option pp.maxSteps 1500
set_option maxErrors 6
/-! What stays while desks move; sizes; what the law's walk leans on. -/
namespace Bm
open PySem PySem.Spec PyProof.Rows L2 Evl TL RZ
local macro_rules | `(tactic| walk_at "sz") => `(tactic| first | assumption | (refine sz_of ?_; omega) | (refine sz_lt ?_; omega))
local macro_rules | `(tactic| walk_at "ne") => `(tactic| first | assumption | (refine Ne.symm ?_; assumption) | exact ne_new (by assumption) (by walk_at "hp") | exact Ne.symm (ne_new (by assumption) (by walk_at "hp")))
local macro_rules | `(tactic| walk_at "hp") => `(tactic| first | assumption | exact upd_same | (refine (upd_ne (by walk_at "ne")).trans ?_; walk_at "hp") | (refine Ex.at_ (by assumption) ?_; walk_at "hp"))
local macro_rules | `(tactic| walk_at "sq") => `(tactic| first | assumption | (refine sq_of ?_; walk_at "hp") | (refine st_of ?_; walk_at "hp") | (refine ex_l (by assumption) ?_; walk_at "sq") | (refine ex_t (by assumption) ?_; walk_at "sq"))
local macro_rules | `(tactic| walk_at "sd") => `(tactic| first | exact (show (0 : Int) < _ from by omega) | exact (show (0 : Int) < _ ∧ _ < (1073741824 : Int) from ⟨by omega, by omega⟩) | exact (show CPow _ _ from ⟨by decide, by decide, by decide⟩) | exact (show CMul _ _ from .inl ⟨by omega, by omega⟩) | exact (show CMul _ _ from .inr ⟨by omega, by omega⟩))
local macro_rules | `(tactic| walk_at "g1") => `(tactic| first
  | refine ⟨_, rfl, ?_⟩
  | refine ⟨_, _, rfl, rfl, ?_⟩
  | refine .inl ⟨_, _, rfl, rfl, ?_⟩
  | refine .inl ⟨rfl, ?_⟩
  | refine .inl (.inl ⟨_, rfl, ?_⟩)
  | (refine ⟨_, _, rfl, ⟨?_, rfl⟩, ?_⟩; (walk_at "sz"))
  | refine ⟨(by walk_at "sd"), ?_⟩)
local macro_rules | `(tactic| walk_at "go") => `(tactic| repeat walk_at "g1")
local macro_rules | `(tactic| walk_at "st") => `(tactic| dsimp only [gName])
local macro_rules | `(tactic| walk_at "ln") => `(tactic| first | exact (show 0 < 1000 from by decide) | exact (show 1 < 1000 from by decide) | exact (show 2 < 1000 from by decide) | exact (show 3 < 1000 from by decide) | exact (show 4 < 1000 from by decide) | exact (show 5 < 1000 from by decide) | exact (show 6 < 1000 from by decide) | exact (show 7 < 1000 from by decide))
local macro_rules | `(tactic| walk_at "le") => `(tactic| first | exact (show 0 ≤ sizeLine from by decide) | exact (show 1 ≤ sizeLine from by decide) | exact (show 2 ≤ sizeLine from by decide) | exact (show 3 ≤ sizeLine from by decide) | exact (show 4 ≤ sizeLine from by decide) | exact (show 5 ≤ sizeLine from by decide) | exact (show 6 ≤ sizeLine from by decide) | exact (show 7 ≤ sizeLine from by decide) | exact (show 8 ≤ sizeLine from by decide))
local macro_rules | `(tactic| walk_at "nt") => `(tactic| first | exact nt_ins | exact nt_lst | exact nt_dK)
local macro_rules | `(tactic| walk_at "fr") => `(tactic| first | assumption | exact Fr.refl | exact Fr.ex (by assumption) | (refine Fr.put ?_ (by walk_at "hp") (by walk_at "nt") (by simp); walk_at "fr") | (refine Fr.new ?_ (by assumption); walk_at "fr"))
/-- the heap without these addresses -/
def Out (X : List Addr) (H : Hp) : Hp := fun b => if b ∈ X then none else H b
structure Kp (G : Hp) (X : List Addr) (H : Hp) : Prop where
  ex : Ex G H
  out : ∀ b ∈ X, G b = none
section
variable {G H H' : Hp} {X X' Y : List Addr} {b L : Addr} {o : HO}
theorem out_at (h : H b = some o) (n : b ∉ X) : Out X H b = some o := by
  unfold Out
  rw [if_neg n]
  exact h
theorem Kp.of : Kp (Out X H) X H := ⟨fun b o h => by
  unfold Out at h
  split at h
  · cases h
  · exact h, fun b hb => if_pos hb⟩
theorem Kp.mut (k : Kp G X H) (f : Fr X H H') (n : Nw X X' H) : Kp G X' H' := ⟨fun b o h => f.1 b o (k.ex b o h) (fun m => by rw [k.out b m] at h; cases h), fun b m => (n b m).elim (k.out b) fun z => fresh_back k.ex z⟩
theorem Kp.exx (k : Kp G X H) (e : Ex H H') : Kp G X H' := ⟨k.ex.trans e, k.out⟩
theorem Kp.app (k : Kp G X H) (h : L ∈ X) : Kp G X (upd H L o) := ⟨ex_out k.ex (k.out L h), k.out⟩
theorem Kp.sub (k : Kp G X H) (h : ∀ b ∈ Y, b ∈ X) : Kp G Y H := ⟨k.ex, fun b hb => k.out b (h b hb)⟩
/-- what stood before these addresses were laid -/
theorem out_keep {H0 : Hp} (e : Ex H0 H) (h : ∀ b ∈ X, H0 b = none) : Ex H0 (Out X H) := fun b o hb => out_at (e b o hb) fun m => by rw [h b m] at hb; cases hb
theorem Fr.cons (f : Fr X H H') : Fr (L :: X) H H' := f.mono fun _ h => List.mem_cons_of_mem _ h
theorem Nw.cons (n : Nw X X' H) : Nw (L :: X) (L :: X') H := fun b hb => (List.mem_cons.mp hb).elim (fun z => .inl (by rw [z]; exact List.mem_cons_self ..)) fun z => (n b z).imp (List.mem_cons_of_mem _) id
end
theorem sizes {t : Str} (h : t.length ≤ 60000) : t.length + 2 ≤ sizeLine ∧ (Txt.split t brk).length ≤ 70000 ∧ ∀ z ∈ Txt.split t brk, z.length ≤ 80000 := by
  have e := split_len t tl_brk brk_ok
  refine ⟨sz_of (by omega), by omega, fun z hz => ?_⟩
  have := sum_ge (List.mem_map_of_mem (f := (·.length)) hz)
  omega
theorem first_eq (o : Cost) : ("desk " : Str) ++ Txt.join blank ((nsO o).map shw) = firstL o := by
  refine ext_tl ?_
  rw [tl_append]
  unfold firstL
  rw [join_eq, join_eq, tl_join, tl_join]
  rfl
theorem jText_len {o : Cost} {ls : List Str} (h1 : (firstL o).length ≤ 100) (h2 : ls.length ≤ 8) (h3 : ∀ l ∈ ls, l.length ≤ 200) : (jText o ls).length ≤ 2000 := by
  unfold jText linesT
  rw [join0_len]
  have e := sum_le (ls := firstL o :: ls) (f := fun l : Str => l ++ ("\n" : Str)) (n := 201) fun l hl => by
    rw [len_app]
    have lb : ("\n" : Str).length = 1 := rfl
    rcases List.mem_cons.mp hl with z | z
    · rw [z]
      omega
    · have := h3 l z
      omega
  have e2 : (firstL o :: ls).length = ls.length + 1 := rfl
  omega
theorem good_len {c : Core} {ls : List Str} {l : Str} (h : c.done = ls ++ [l]) : c.done.length = ls.length + 1 := by
  rw [h, List.length_append] <;> rfl
theorem snoc_of {l : List Str} (h : l ≠ []) : ∃ ls x, l = ls ++ [x] := by
  rcases List.eq_nil_or_concat l with e | ⟨i, x, e⟩
  · exact absurd e h
  · exact ⟨i, x, by rw [e, List.concat_eq_append]⟩
theorem DeskAt.at1 {K : PySem.W.Frag} {H : Hp} {a : Addr} {c : Core} {un : List Str} {X : List Addr} (h : DeskAt K H a c un X) : ∃ dx fs, H a = some (.ins (cD K) dx fs) ∧ fs.lookup ("_done" : Str) ≠ none := by
  obtain ⟨l, w, p, o, rw, dn, ud, kvs, Z, rfl, ⟨dx, hi⟩, _⟩ := h
  exact ⟨dx, _, hi, fun z => by cases z⟩
theorem Fr.one {X : List Addr} {H : Hp} {L : Addr} {xs ys : List V} (h : H L = some (.lst xs)) : Fr [L] H (L2.upd H L (.lst ys)) := Fr.upd h nt_lst (by simp)
theorem DeskAt.app {K : PySem.W.Frag} {H : Hp} {a L : Addr} {c : Core} {un : List Str} {X : List Addr} {xs ys : List V} (h : DeskAt K H a c un X) (hL : H L = some (.lst xs)) (n : L ∉ X) : DeskAt K (upd H L (.lst ys)) a c un X := h.fr (Fr.one (X := X) hL) fun b hb z => n (by rw [List.mem_singleton.mp z] at hb; exact hb)
end Bm
set_option Elab.async false
set_option linter.all false
set_option maxRecDepth 10000
set_option maxHeartbeats 400000
set_option pp.deepTerms false
set_option pp.maxSteps 1500
set_option maxErrors 6
set_option maxHeartbeats 4000000
/-! Walks: the law. -/
namespace Bm
open PySem PySem.Spec PyProof.Rows L2 Evl TL RZ
local macro_rules | `(tactic| walk_at "sz") => `(tactic| first | assumption | (refine sz_of ?_; omega) | (refine sz_lt ?_; omega))
local macro_rules | `(tactic| walk_at "ne") => `(tactic| first | assumption | (refine Ne.symm ?_; assumption) | exact ne_new (by assumption) (by walk_at "hp") | exact Ne.symm (ne_new (by assumption) (by walk_at "hp")))
local macro_rules | `(tactic| walk_at "hp") => `(tactic| first | assumption | exact upd_same | (refine (upd_ne (by walk_at "ne")).trans ?_; walk_at "hp") | (refine Ex.at_ (by assumption) ?_; walk_at "hp"))
local macro_rules | `(tactic| walk_at "sq") => `(tactic| first | assumption | (refine sq_of ?_; walk_at "hp") | (refine st_of ?_; walk_at "hp") | (refine ex_l (by assumption) ?_; walk_at "sq") | (refine ex_t (by assumption) ?_; walk_at "sq"))
local macro_rules | `(tactic| walk_at "sd") => `(tactic| first | exact (show (0 : Int) < _ from by omega) | exact (show (0 : Int) < _ ∧ _ < (1073741824 : Int) from ⟨by omega, by omega⟩) | exact (show CPow _ _ from ⟨by decide, by decide, by decide⟩) | exact (show CMul _ _ from .inl ⟨by omega, by omega⟩) | exact (show CMul _ _ from .inr ⟨by omega, by omega⟩))
local macro_rules | `(tactic| walk_at "g1") => `(tactic| first
  | refine ⟨_, rfl, ?_⟩
  | refine ⟨_, _, rfl, rfl, ?_⟩
  | refine .inl ⟨_, _, rfl, rfl, ?_⟩
  | refine .inl ⟨rfl, ?_⟩
  | refine .inl (.inl ⟨_, rfl, ?_⟩)
  | (refine ⟨_, _, rfl, ⟨?_, rfl⟩, ?_⟩; (walk_at "sz"))
  | refine ⟨(by walk_at "sd"), ?_⟩)
local macro_rules | `(tactic| walk_at "go") => `(tactic| repeat walk_at "g1")
local macro_rules | `(tactic| walk_at "st") => `(tactic| dsimp only [gName])
local macro_rules | `(tactic| walk_at "ln") => `(tactic| first | exact (show 0 < 1000 from by decide) | exact (show 1 < 1000 from by decide) | exact (show 2 < 1000 from by decide) | exact (show 3 < 1000 from by decide) | exact (show 4 < 1000 from by decide) | exact (show 5 < 1000 from by decide) | exact (show 6 < 1000 from by decide) | exact (show 7 < 1000 from by decide))
local macro_rules | `(tactic| walk_at "le") => `(tactic| first | exact (show 0 ≤ sizeLine from by decide) | exact (show 1 ≤ sizeLine from by decide) | exact (show 2 ≤ sizeLine from by decide) | exact (show 3 ≤ sizeLine from by decide) | exact (show 4 ≤ sizeLine from by decide) | exact (show 5 ≤ sizeLine from by decide) | exact (show 6 ≤ sizeLine from by decide) | exact (show 7 ≤ sizeLine from by decide) | exact (show 8 ≤ sizeLine from by decide))
local macro_rules | `(tactic| walk_at "nt") => `(tactic| first | exact nt_ins | exact nt_lst | exact nt_dK)
local macro_rules | `(tactic| walk_at "fr") => `(tactic| first | assumption | exact Fr.refl | exact Fr.ex (by assumption) | (refine Fr.put ?_ (by walk_at "hp") (by walk_at "nt") (by simp); walk_at "fr") | (refine Fr.new ?_ (by assumption); walk_at "fr"))
def spLaw (K : PySem.W.Frag) : Sp := fun vs H Q _ => ∃ (a : Addr) (ns : List Int), vs = [.ref a] ∧ SqL K H a (ns.map V.int) ∧ ∀ H', Q (.bl true) H'
section
variable {P : Program} {w : World} {K : PySem.W.Frag} {mg : Str → Option Value} {base : Heap}
theorem sc_law : FnScope ["_law_script", "_law_draws_here", "_law_words_here", "_law_setting_here", "_law_costs", "_law_desk", "_law_drawn", "_law_standing", "_law_undone", "_law_line_here", "_law_k", "_law_first", "_law_text", "_law_told_here", "_law_picks", "_law_bad", "_law_number_here"] ["_law_script"] xlaw.scope := ⟨rfl, rfl, rfl, by decide +kernel, rfl, by decide +kernel, by decide +kernel⟩
theorem w_law (T : Wx P K mg) : FnOk P w K mg base (L2N.CX P w) 14 (He.ga K "law") (fdOf K (He.ga K "law")) ["_law_script"] (spLaw K) :=
  mkOk 13 T T.toTx.d_law sc_law (by rintro vs H Q E ⟨_, _, rfl, _⟩; rfl) (fun cdv A outer s H vs Q E B hsp => by
  obtain ⟨a0, ns, rfl, hsc, hq⟩ := hsp
  refine ⟨_, (pss_cons (st_set (i := 1) sc_law.nd (c_law_draws (K := K) B (pa_cons (c_law_cell (K := K) B (pa_cons (pv 0) (pa_cons pe_int pa_nil))) (pa_cons pe_int (pa_cons (pe_op op_pow pe_int pe_int) pa_nil)))))
    (pss_cons (st_set (i := 2) sc_law.nd (c_law_words (K := K) B (pa_cons (c_law_cell (K := K) B (pa_cons (pv 0) (pa_cons pe_int pa_nil))) pa_nil)))
    (pss_cons (st_set (i := 3) sc_law.nd (c_law_setting (K := K) B (pa_cons (pv 1) pa_nil)))
    (pss_cons (st_set (i := 4) sc_law.nd (pe_ix (ix_seqK K) (pv 3) pe_int (fun _ _ => rfl)))
    (pss_cons (st_set (i := 5) sc_law.nd (cn_Desk (K := K) B (pk_cons (pe_ix (ix_seqK K) (pv 3) pe_int (fun _ _ => rfl)) (pk_cons (pe_ix (ix_seqK K) (pv 4) pe_int (fun _ _ => rfl)) (pk_cons (pe_ix (ix_seqK K) (pv 4) pe_int (fun _ _ => rfl)) (pk_cons (pe_ix (ix_seqK K) (pv 4) pe_int (fun _ _ => rfl)) (pk_cons (pe_ix (ix_seqK K) (pv 4) pe_int (fun _ _ => rfl)) pk_nil)))))))
    (pss_cons (st_set (i := 6) sc_law.nd (c_law_lines (K := K) B (pa_cons (pv 0) (pa_cons pe_int (pa_cons (pe_op op_mod (pe_callTy call_int (by rfl) B.wx.toTx.f_int b_int (pa_cons (pe_ix (ix_seqK K) (pv 1) pe_int (fun _ _ => rfl)) pa_nil)) pe_int) (pa_cons (pe_lst pa_nil) (pa_cons (pv 2) pa_nil)))))))
    (pss_cons (st_set (i := 7) sc_law.nd (pe_lst pa_nil))
    (pss_cons (st_set (i := 8) sc_law.nd (pe_lst pa_nil))
    (pss_cons (ps_for (L2.passes_of rfl) B.calm (pi_list (pe_ix (ix_seqK K) (pv 6) pe_int (fun _ _ => rfl))) (pg_name (i := 9) sc_law.nd rfl (by first | exact .inl rfl | exact .inr rfl)) (pss_one (ps_if (pt_cmpR (o_eqK K B.hu64) (pe_ix (ix_seqK K) (c_law_done (K := K) B (pa_cons (pv 5) (pa_cons (pv 9) pa_nil))) pe_int (fun _ _ => rfl)) pe_str (nomark _)) (pss_one (ps_expr (pe_bmK K PySem.F.plainAttrs_list PySem.F.slot_list_append PySem.F.type_list_append mt_append (pv 7) (pa_cons (pv 9) pa_nil)))) pss_nil)))
    (pss_cons (ps_for (L2.passes_of rfl) B.calm (pi_range1 (by rfl) B.wx.toTx.f_range (pa_cons (pe_op op_mod (pe_callTy call_int (by rfl) B.wx.toTx.f_int b_int (pa_cons (pe_ix (ix_seqK K) (pv 1) pe_int (fun _ _ => rfl)) pa_nil)) pe_int) pa_nil)) (pg_name (i := 10) sc_law.nd rfl (by first | exact .inl rfl | exact .inr rfl)) (pss_one (ps_if (pt_cmpR (o_neN K B.hu64) (pv 7) (pe_lst pa_nil) (nomark _)) (pss_cons (ps_expr (pe_bmK K PySem.F.plainAttrs_list PySem.F.slot_list_append PySem.F.type_list_append mt_append (pv 8) (pa_cons (pe_ix (ix_seqK K) (pv 7) (pe_un un_neg pe_int) (fun _ _ => rfl)) pa_nil)))
    (pss_cons (st_set (i := 7) sc_law.nd (pe_slice sl_any (pv 7) po_none (po_some (pe_un un_neg pe_int))))
    (pss_one (ps_if (pt_not (pt_truthK K (c_law_same (K := K) B (pa_cons (c_law_moved (K := K) B (pa_cons (pv 5) (pa_cons pe_bl pa_nil))) (pa_cons (pe_tup (pa_cons pe_str (pa_cons (pe_ix (ix_seqK K) (pv 8) (pe_un un_neg pe_int) (fun _ _ => rfl)) pa_nil))) pa_nil))) (fun _ => rfl))) (pss_one (ps_ret pe_bl)) pss_nil)))) pss_nil)))
    (pss_cons (st_set (i := 11) sc_law.nd (pe_op (o_addK K) pe_str (pe_join pe_str (pe_lcB (own := [("_law_number_here", 16)]) B sc_law.nd (pi_list (pe_op (o_addK K) (pe_lst (pa_cons (pe_ix (ix_seqK K) (pv 3) pe_int (fun _ _ => rfl)) pa_nil)) (pv 4))) (blkOk_by (N := ["_law_script", "_law_draws_here", "_law_words_here", "_law_setting_here", "_law_costs", "_law_desk", "_law_drawn", "_law_standing", "_law_undone", "_law_line_here", "_law_k", "_law_first", "_law_text", "_law_told_here", "_law_picks", "_law_bad", "_law_number_here"]) (sc := xlaw.scope) (by decide +kernel)) (fun _ _ _ _ _ => pg_name (i := 16) sc_law.nd rfl (by first | exact .inl rfl | exact .inr rfl)) (fun _ _ _ _ _ B => pts_nil) (fun _ _ _ _ _ B => (pe_callTy call_str_int (by rfl) B.wx.toTx.f_str b_str (pa_cons (pv 16) pa_nil)))))))
    (pss_cons (st_set (i := 12) sc_law.nd (pe_join pe_str (pe_lcB (own := [("_law_line_here", 9)]) B sc_law.nd (pi_list (pe_op (o_addK K) (pe_lst (pa_cons (pv 11) pa_nil)) (pv 7))) (blkOk_by (N := ["_law_script", "_law_draws_here", "_law_words_here", "_law_setting_here", "_law_costs", "_law_desk", "_law_drawn", "_law_standing", "_law_undone", "_law_line_here", "_law_k", "_law_first", "_law_text", "_law_told_here", "_law_picks", "_law_bad", "_law_number_here"]) (sc := xlaw.scope) (by decide +kernel)) (fun _ _ _ _ _ => pg_name (i := 9) sc_law.nd rfl (by first | exact .inl rfl | exact .inr rfl)) (fun _ _ _ _ _ B => pts_nil) (fun _ _ _ _ _ B => (pe_op (o_addK K) (pv 9) pe_str)))))
    (pss_cons (ps_if (PW.pt (pw_or (pt_not (pt_truthK K (c_law_same (K := K) B (pa_cons (c_write_journal (K := K) B (pa_cons (pv 5) pa_nil)) (pa_cons (pv 12) pa_nil))) (fun _ => rfl))) (pw_or1 (pt_not (pt_truthK K (c_law_same (K := K) B (pa_cons (c_write_journal (K := K) B (pa_cons (pv 5) pa_nil)) (pa_cons (pv 12) pa_nil))) (fun _ => rfl)))))) (pss_one (ps_ret pe_bl)) pss_nil)
    (pss_cons (st_set (i := 13) sc_law.nd (c_law_read (K := K) B (pa_cons (pv 12) pa_nil)))
    (pss_cons (ps_if (PW.pt (pw_or (pt_cmpR (o_neK K B.hu64) (pe_ix (ix_seqK K) (pv 13) pe_int (fun _ _ => rfl)) pe_str (nomark _)) (pw_or (pt_not (pt_truthK K (c_law_alike (K := K) B (pa_cons (pe_ix (ix_seqK K) (pv 13) pe_int (fun _ _ => rfl)) (pa_cons (pv 5) pa_nil))) (fun _ => rfl))) (pw_or1 (pt_not (pt_truthK K (c_law_same (K := K) B (pa_cons (c_write_journal (K := K) B (pa_cons (pe_ix (ix_seqK K) (pv 13) pe_int (fun _ _ => rfl)) pa_nil)) (pa_cons (pv 12) pa_nil))) (fun _ => rfl))))))) (pss_one (ps_ret pe_bl)) pss_nil)
    (pss_cons (ps_if (pt_not (pt_truthK K (c_law_same (K := K) B (pa_cons (c_law_moved (K := K) B (pa_cons (pe_ix (ix_seqK K) (pv 13) pe_int (fun _ _ => rfl)) (pa_cons pe_bl pa_nil))) (pa_cons (pe_tup (pa_cons pe_str (pa_cons pe_non pa_nil))) pa_nil))) (fun _ => rfl))) (pss_one (ps_ret pe_bl)) pss_nil)
    (pss_cons (ps_if (pt_not (pt_truthK K (c_law_moves_alike (K := K) B (pa_cons (pe_ix (ix_seqK K) (pv 13) pe_int (fun _ _ => rfl)) (pa_cons (pv 5) (pa_cons (pe_op (o_addK K) (pe_callB (call_lenK K) (by rfl) B.wx.toTx.f_len b_len (pa_cons (pv 7) pa_nil)) pe_int) (pa_cons pe_bl pa_nil))))) (fun _ => rfl))) (pss_one (ps_ret pe_bl)) pss_nil)
    (pss_cons (ps_if (pt_not (pt_truthK K (c_law_moves_alike (K := K) B (pa_cons (pe_ix (ix_seqK K) (pv 13) pe_int (fun _ _ => rfl)) (pa_cons (pv 5) (pa_cons (pe_callB (call_lenK K) (by rfl) B.wx.toTx.f_len b_len (pa_cons (pv 7) pa_nil)) (pa_cons pe_bl pa_nil))))) (fun _ => rfl))) (pss_one (ps_ret pe_bl)) pss_nil)
    (pss_cons (ps_if (PW.pt (pw_and (pt_cmpR (o_neN K B.hu64) (pv 8) (pe_lst pa_nil) (nomark _)) (pw_and1 (pt_not (pt_truthK K (c_law_same (K := K) B (pa_cons (c_law_moved (K := K) B (pa_cons (pv 5) (pa_cons pe_bl pa_nil))) (pa_cons (pe_tup (pa_cons pe_str (pa_cons (pe_ix (ix_seqK K) (pv 8) (pe_un un_neg pe_int) (fun _ _ => rfl)) pa_nil))) pa_nil))) (fun _ => rfl)))))) (pss_one (ps_ret pe_bl)) pss_nil)
    (pss_cons (ps_for (L2.passes_of rfl) B.calm (pi_range1 (by rfl) B.wx.toTx.f_range (pa_cons pe_int pa_nil)) (pg_name (i := 10) sc_law.nd rfl (by first | exact .inl rfl | exact .inr rfl)) (pss_cons (st_set (i := 14) sc_law.nd (c_law_draws (K := K) B (pa_cons (pe_op (o_addK K) (c_law_cell (K := K) B (pa_cons (pv 0) (pa_cons (pe_op (o_addK K) pe_int (pv 10)) pa_nil))) (pv 10)) (pa_cons pe_int (pa_cons (pe_op op_pow pe_int pe_int) pa_nil)))))
    (pss_cons (st_set (i := 15) sc_law.nd (c_law_bad_line (K := K) B (pa_cons (pe_slice sl_any (pv 14) (po_some pe_int) po_none) (pa_cons (pe_ix (ix_seqK K) (pe_ix (ix_seqK K) (pv 6) pe_int (fun _ _ => rfl)) (pe_un un_neg pe_int) (fun _ _ => rfl)) (pa_cons (pv 2) pa_nil)))))
    (pss_one (ps_if (pt_not (pt_truthK K (c_law_reads (K := K) B (pa_cons (c_law_spoilt (K := K) B (pa_cons (pe_op (o_addK K) (pe_lst (pa_cons (pv 11) pa_nil)) (pv 7)) (pa_cons (pv 14) (pa_cons (pv 15) pa_nil)))) pa_nil)) (fun _ => rfl))) (pss_one (ps_ret pe_bl)) pss_nil)))))
    (pss_one (ps_ret (c_law_reads (K := K) B (pa_cons (pv 12) pa_nil)))))))))))))))))))))))), ?_⟩
  have e6 : (10 : Int) ^ ((6 : Int).toNat) = 1000000 := by decide
  -- draws
  refine ⟨_, rfl, a0, 0, ns, rfl, hsc, by decide, fun cc => ⟨_, _, rfl, rfl, ⟨by decide, by decide, by decide⟩, cc, 12, _, rfl, by decide, by decide, by decide, by decide, fun p1 H1 ds hp1n e1 hp1 hlen hr1 => ?_⟩⟩
  walk_at "st"
  -- words
  refine ⟨_, rfl, a0, 1, ns, rfl, ex_l e1 hsc, by decide, fun cc => ⟨cc, rfl, fun pw H2 ws hpwn e2 hpw hwl hwz => ?_⟩⟩
  walk_at "st"
  -- the setting
  refine ⟨_, rfl, p1, ds, rfl, e2 _ _ hp1, hlen, fun ps pc H3 pu c0 c1 c2 c3 hpsn hpcn e3 hps hpc hpub hcb => ?_⟩
  walk_at "st"
  obtain ⟨d0, d1, d2, d3, d4, d5, d6, d7, d8, d9, d10, d11, rfl⟩ := len12 hlen
  have hp1 : H1 p1 = some (.lst [.int d0, .int d1, .int d2, .int d3, .int d4, .int d5, .int d6, .int d7, .int d8, .int d9, .int d10, .int d11]) := hp1
  have e03 := e1.trans (e2.trans e3)
  refine ⟨_, rfl, ixt hps (atI_nat (j := 1) rfl) ?_⟩
  walk_at "st"
  -- the desk
  refine ⟨_, rfl, ixt hps (atI_nat (j := 0) rfl) ?_⟩
  refine ⟨_, rfl, ixl hpc (atI_nat (j := 0) rfl) ?_⟩
  refine ⟨_, rfl, ixl hpc (atI_nat (j := 1) rfl) ?_⟩
  refine ⟨_, rfl, ixl hpc (atI_nat (j := 2) rfl) ?_⟩
  refine ⟨_, rfl, ixl hpc (atI_nat (j := 3) rfl) ?_⟩
  have r0 := hcb c0 (by simp)
  have r1 := hcb c1 (by simp)
  have r2 := hcb c2 (by simp)
  have r3 := hcb c3 (by simp)
  have hok : okCosts pu c0 c1 c2 c3 = true := (okC_iff hpub.1 r0.1 r1.1 r2.1 r3.1).mpr ⟨hpub.2, by omega, by omega, by omega, by omega⟩
  refine ⟨rfl, fun a d ha hd n => ⟨a, d, pu, c0, c1, c2, c3, rfl, upd_same, fun ho C dd H' mo f => ?_, fun ho H4 X hD f hfr => ⟨rfl, ?_⟩⟩⟩
  · rw [hok] at ho
    cases ho
  obtain ⟨o, hoe⟩ : ∃ o : Cost, o = (pu, c0, c1, c2, c3) := ⟨_, rfl⟩
  have hO : OkO o := ⟨by rw [hoe]; exact hok⟩
  rw [← hoe] at hD
  have e4 : Ex H3 H4 := ex_made ha hd f
  have hXn : ∀ b ∈ X, H3 b = none := fun b hb => (hfr b hb).elim (fun z => z ▸ ha) fun z => un_upd (un_upd z)
  walk_at "st"
  clear f hfr
  have e04 := e03.trans e4
  -- the lines
  refine ⟨_, rfl, _, rfl, ixl ((e2.trans (e3.trans e4)) _ _ hp1) (atI_nat (j := 7) rfl) (.inl (.inl ⟨_, rfl, _, _, rfl, rfl, show (0 : Int) < 9 by decide, by walk_at "le", fun r0 hr0 => ?_⟩))⟩
  have e5 := Ex.new (o := .lst []) hr0
  have m9 := modR (a := d7) (show (0 : Int) < 9 by decide)
  refine ⟨_, rfl, a0, r0, pw, 2, _, ns, ws, rfl, ex_l (e04.trans e5) hsc, by decide, m9.1, by omega, upd_same, (e3.trans (e4.trans e5)) _ _ hpw, hwl, hwz, fun pd l1 l2 H6 ls vs x rs e6' hpd hl1n hl2n hl1 hll hlz hl2 hpdn hx hrs => ?_⟩
  obtain ⟨GX, hGX, hxG, hGn⟩ := hx
  walk_at "st"
  have hD5 := hD.ex e5
  have hXt := hD5.tr
  have hD6 := hD5.ex e6'
  have hr0X : r0 ∉ X := hD.out hr0
  have hGXn : ∀ b ∈ X, GX b = none := fun b hb => by
    obtain ⟨o', ho'⟩ := hXt b hb
    exact hGn b o' ho' fun z => hr0X (z ▸ hb)
  have e36 := e4.trans (e5.trans e6')
  have nX : ∀ {b : Addr}, (upd H4 r0 (.lst [])) b = none → b ∉ X := fun h => hD5.out h
  have e06 := e04.trans (e5.trans e6')
  clear hGn
  -- two lists
  refine ⟨by walk_at "le", fun S hS => ?_⟩
  have eS := Ex.new (o := .lst []) hS
  have hSX : S ∉ X := hD6.out hS
  walk_at "st"
  refine ⟨by walk_at "le", fun U hU => ?_⟩
  have eU := Ex.new (o := .lst []) hU
  have hUX : U ∉ X := (hD6.ex eS).out hU
  have hSU : S ≠ U := ne_of_none upd_same hU
  walk_at "st"
  have hS8 := eU _ _ (upd_same (H := H6) (a := S) (o := .lst []))
  have hU8 := upd_same (H := upd H6 S (.lst [])) (a := U) (o := .lst [])
  have e68 := eS.trans eU
  have hUn6 := fresh_back eS hU
  generalize upd (upd H6 S (.lst [])) U (.lst []) = H8 at *
  have hD8 := hD6.ex e68
  -- what stays: G
  have kp8 : Kp (Out (S :: U :: X) H8) (S :: U :: X) H8 := Kp.of
  have g3 : Ex H3 (Out (S :: U :: X) H8) := out_keep (e36.trans e68) fun b hb => by
    rcases List.mem_cons.mp hb with z | z
    · rw [z]
      exact fresh_back e36 hS
    · rcases List.mem_cons.mp z with y | y
      · rw [y]
        exact fresh_back e36 hUn6
      · exact hXn b y
  have g6 : Ex GX (Out (S :: U :: X) H8) := out_keep (hGX.trans e68) fun b hb => by
    rcases List.mem_cons.mp hb with z | z
    · rw [z]
      exact fresh_back hGX hS
    · rcases List.mem_cons.mp z with y | y
      · rw [y]
        exact fresh_back hGX hUn6
      · exact hGXn b y
  have gat : ∀ {b : Addr} {o : HO}, H6 b = some o → b ∉ X → (Out (S :: U :: X) H8) b = some o := fun {b o} h hn => out_at (e68 _ _ h) fun m => by
    rcases List.mem_cons.mp m with z | z
    · rw [z, hS] at h
      cases h
    · rcases List.mem_cons.mp z with y | y
      · rw [y, hUn6] at h
        cases h
      · exact hn y
  have gpd := gat hpd (nX hpdn)
  have gl1 := gat hl1 (nX hl1n)
  have gl2 := gat hl2 (nX hl2n)
  clear gat
  generalize hGe : Out (S :: U :: X) H8 = G at *
  clear hGe
  have gsc := ex_l (e03.trans g3) hsc
  have gp1 := (e2.trans (e3.trans g3)) _ _ hp1
  have gpw := (e3.trans g3) _ _ hpw
  have gps := g3 _ _ hps
  have gpc := g3 _ _ hpc
  have gx := Hd.ex hxG g6
  -- the lines are done
  refine ⟨_, rfl, ixt ((kp8.ex) _ _ gpd) (atI_nat (j := 0) rfl) ⟨l1, rfl, ⟨_, sq_of (kp8.ex _ _ gl1)⟩, ?_⟩⟩
  refine for_it (walk_list (xs := ls.map V.str)) (fun i σ' H' => ∃ (X : List Addr) (c : Core) (u : Option V), σ' = [some (.ref a0), some (.ref p1), some (.ref pw), some (.ref ps), some (.ref pc), some (.ref a), some (.ref pd), some (.ref S), some (.ref U), u, none, none, none, none, none, none, none] ∧ DeskAt K H' a c [] X ∧ Good c ∧ c.opn = o ∧ Kp G (S :: U :: X) H' ∧ H' S = some (.lst (c.done.map V.str)) ∧ H' U = some (.lst []) ∧ c.done.length ≤ i ∧ (∀ l ∈ c.done, l.length ≤ 200) ∧ S ∉ X ∧ U ∉ X)
    ⟨X, Core.new o, none, rfl, hD8, good_new o, rfl, kp8, hS8, hU8, Nat.le_refl _, (fun l hl => by cases hl), hSX, hUX⟩ (fun i σ' H' _ ⟨_, _, _, _, _, _, _, kp, _⟩ => sq_of (kp.ex _ _ gl1)) ?_ ?_
  · rintro i x σ' H' H'' hi ⟨X, c, u, rfl, hD, hg, ho, kp, hS, hU, hcl, hcz, hSX, hUX⟩ ⟨rfl, hx⟩
    have hx : (ls.map V.str)[i]? = some x := hx
    rw [List.getElem?_map] at hx
    obtain ⟨l, hl, rfl⟩ := Option.map_eq_some_iff.mp hx
    have hlz200 := hlz l (List.mem_of_getElem? hl)
    have hi8 : i < 8 := by rw [List.length_map] at hi; omega
    walk_at "st"
    refine swP (fun b H1 => (b = false ∧ c.step l = none ∧ Ex H'' H1) ∨ (b = true ∧ ∃ d X4, c.step l = some d ∧ DeskAt K H1 a d [] X4 ∧ Fr X H'' H1 ∧ Nw X X4 H'')) (fun Q q => ?_) (fun H4 p4 => ?_) (fun H4 p4 => ?_)
    · refine ⟨_, rfl, _, rfl, a, c, [], X, l, rfl, hD, hg.ok, by omega, by omega, fun hst q1 H4 e5 hq1 => ?_, fun d hst q1 v H4 X4 hD4 f4 nw4 hq1 => ?_⟩
      · exact ixt hq1 (atI_nat (j := 0) rfl) (.inl ⟨rfl, _, rfl, q false H4 (.inl ⟨rfl, hst, e5⟩)⟩)
      · exact ixt hq1 (atI_nat (j := 0) rfl) (.inl ⟨rfl, _, rfl, q true H4 (.inr ⟨rfl, d, X4, hst, hD4, f4, nw4⟩)⟩)
    · rcases p4 with ⟨h0, _⟩ | ⟨_, d, X4, hst, hD4, f4, nw4⟩
      · cases h0
      have hS4 := f4.1 _ _ hS hSX
      have hU4 := f4.1 _ _ hU hUX
      have hSX4 : S ∉ X4 := fun m => (nw4 S m).elim hSX fun z => by rw [hS] at z; cases z
      have hUX4 : U ∉ X4 := fun m => (nw4 U m).elim hUX fun z => by rw [hU] at z; cases z
      obtain ⟨_, ho4, hd4⟩ := step_ok hg.ok hst
      have kp4 : Kp G (S :: U :: X4) H4 := kp.mut f4.cons.cons nw4.cons.cons
      refine ⟨_, rfl, .inl ⟨rfl, _, sq_of hS4⟩, _, rfl, S, _, _, rfl, rfl, hS4, sz_lt (by rw [List.length_map]; omega), ?_⟩
      refine ⟨X4, d, _, rfl, hD4.app hS4 hSX4, good_step hg hst, ho4.trans ho, kp4.app (by simp), ?_, (upd_ne (Ne.symm hSU)).trans hU4, ?_, ?_, hSX4, hUX4⟩
      · rw [upd_same, hd4, List.map_append]
        rfl
      · rw [hd4, List.length_append]
        show c.done.length + 1 ≤ i + 1
        omega
      · intro y hy
        rw [hd4] at hy
        rcases List.mem_append.mp hy with z | z
        · exact hcz y z
        · rw [List.mem_singleton.mp z]
          exact hlz200
    · rcases p4 with ⟨_, hst, e5⟩ | ⟨h0, _⟩
      · exact ⟨X, c, _, rfl, hD.ex e5, hg, ho, kp.exx e5, e5 _ _ hS, e5 _ _ hU, by omega, hcz, hSX, hUX⟩
      · cases h0
  rintro σ' H9 ⟨X, c, u9, rfl, hD9, hg, ho, kp9, hS9, hU9, hcl, hcz, hSX, hUX⟩
  rw [List.length_map] at hcl
  have hc8 : c.done.length ≤ 8 := by omega
  clear hD hD5 hXt hD6 hr0X hGXn nX kp8 hXn hcl
  walk_at "st"
  -- some deeds are undone
  have m4 := modR (a := d8) (show (0 : Int) < 4 by decide)
  refine ⟨_, rfl, ixl (kp9.ex _ _ gp1) (atI_nat (j := 8) rfl) (.inl (.inl ⟨_, rfl, _, _, rfl, rfl, show (0 : Int) < 4 by decide, _, rfl, by omega, by omega, ?_⟩))⟩
  refine for_it walk_range (fun i σ' H' => ∃ (X : List Addr) (c : Core) (un : List Str) (S : Addr) (u : Option V), σ' = [some (.ref a0), some (.ref p1), some (.ref pw), some (.ref ps), some (.ref pc), some (.ref a), some (.ref pd), some (.ref S), some (.ref U), u9, u, none, none, none, none, none, none] ∧ DeskAt K H' a c un X ∧ Good c ∧ c.opn = o ∧ Kp G (U :: X) H' ∧ H' S = some (.lst (c.done.map V.str)) ∧ H' U = some (.lst (un.map V.str)) ∧ c.done.length ≤ 8 ∧ un.length ≤ i ∧ (∀ l ∈ c.done, l.length ≤ 200) ∧ (∀ l ∈ un, l.length ≤ 200) ∧ Redo c un ∧ S ∉ X ∧ U ∉ X ∧ S ≠ U)
    ⟨X, c, [], S, none, rfl, hD9, hg, ho, kp9.sub (fun b hb => List.mem_cons_of_mem _ hb), hS9, hU9, hc8, Nat.le_refl _, hcz, (fun l hl => by cases hl), .inl rfl, hSX, hUX, hSU⟩ (fun _ _ _ _ _ => True.intro) ?_ ?_
  · rintro i x σ' H' H'' hi ⟨X, c, un, S, u, rfl, hD, hg, ho, kp, hS, hU, hcl, hul, hcz, huz, hre, hSX, hUX, hSU⟩ ⟨rfl, rfl⟩
    have hi4 : i < 4 := by omega
    walk_at "st"
    refine swhX (b := !decide (c.done.map V.str = [])) (fun Q q => ⟨_, rfl, by walk_at "le", fun L hL => ⟨S, L, _, rfl, rfl, sq_of ((Ex.new hL) _ _ hS), sq_of upd_same, _, rfl, q _ (Ex.new hL)⟩⟩) (fun hc H1 e1 => ?_) (fun hc H1 e1 => ?_)
    · have hne : c.done ≠ [] := fun z => by
        rw [z] at hc
        cases hc
      obtain ⟨ls', l, hd⟩ := snoc_of hne
      obtain ⟨b0, gb, hb, hob, hs⟩ := good_back hg hd
      have hl2 := good_len hd
      have hl200 := hcz l (by rw [hd]; simp)
      have hS1 : H1 S = some (.lst (ls'.map V.str ++ [.str l])) := by
        rw [e1 _ _ hS, hd, List.map_append]
        rfl
      have hU1 := e1 _ _ hU
      refine ⟨_, rfl, .inl ⟨rfl, _, sq_of hU1⟩, _, rfl, _, rfl, ixl hS1 (atI_last _ _) ⟨U, _, _, rfl, rfl, hU1, sz_lt (by rw [List.length_map]; omega), ?_⟩⟩
      have hD2 := (hD.ex e1).app (ys := un.map V.str ++ [.str l]) hU1 hUX
      have hS2 : (upd H1 U (.lst (un.map V.str ++ [.str l]))) S = some (.lst (ls'.map V.str ++ [.str l])) := (upd_ne hSU).trans hS1
      have hU2 : (upd H1 U (.lst (un.map V.str ++ [.str l]))) U = some (.lst (un.map V.str ++ [.str l])) := upd_same
      have kp2 : Kp G (U :: X) (upd H1 U (.lst (un.map V.str ++ [.str l]))) := (kp.exx e1).app (by simp)
      generalize upd H1 U (.lst (un.map V.str ++ [.str l])) = H2 at *
      refine ⟨_, rfl, _, rfl, _, rfl, sll hS2 fun S2 hS2n => ?_⟩
      rw [cut_m1]
      have e3 := Ex.new (o := .lst (ls'.map V.str)) hS2n
      have hS3 : (upd H2 S2 (.lst (ls'.map V.str))) S2 = some (.lst (ls'.map V.str)) := upd_same
      have hS2X : S2 ∉ X := hD2.out hS2n
      have hUS2 : U ≠ S2 := ne_of_none hU2 hS2n
      have hD3 := hD2.ex e3
      have hU3 := e3 _ _ hU2
      have kp3 := kp2.exx e3
      walk_at "st"
      generalize upd H2 S2 (.lst (ls'.map V.str)) = H3 at *
      refine swhP (fun b H1 => b = false ∧ ∃ X4, DeskAt K H1 a b0 (un ++ [l]) X4 ∧ Fr X H3 H1 ∧ Nw X X4 H3) (fun Q q => ?_) (fun H4 p4 => by cases p4.1) (fun H4 p4 => ?_)
      · refine ⟨_, rfl, a, true, c, un, X, some (l, b0, un ++ [l]), rfl, hD3, hg.ok, by omega, by omega, ⟨by omega, by rw [if_pos rfl]; exact ⟨⟨ls', hd⟩, hs, gb.ok, rfl⟩⟩, (fun z => by cases z), fun l' d' un' hr p H4 X4 hD4 f4 nw4 hp4 => ?_⟩
        cases hr
        have hU4 := f4.1 _ _ hU3 hUX
        refine ⟨_, rfl, _, rfl, ixl hU4 (atI_last _ _) ⟨by walk_at "le", fun t ht => ?_⟩⟩
        exact ⟨_, _, rfl, hd_same (n := 6) (d := .seq true [dS "ok", dS l]) (hd_tup ((Ex.new ht) _ _ hp4) (show 2 ≤ 90000 from by decide) (.cons hd_str (.cons hd_str .nil))) (hd_tup upd_same (show 2 ≤ 90000 from by decide) (.cons hd_str (.cons hd_str .nil))), true, rfl, q false _ ⟨rfl, X4, hD4.ex (Ex.new ht), f4.same (Fr.ex (Ex.new ht)), nw4⟩⟩
      · obtain ⟨_, X4, hD4, f4, nw4⟩ := p4
        have out4 : ∀ {b : Addr} {o : HO}, H3 b = some o → b ∉ X → b ∉ X4 := fun {b o} hb hn m => (nw4 b m).elim hn fun z => by rw [hb] at z; cases z
        refine ⟨X4, b0, un ++ [l], S2, _, rfl, hD4, gb, hob.trans ho, kp3.mut f4.cons nw4.cons, ?_, ?_, ?_, ?_, ?_, ?_, .inr ⟨un, l, c, rfl, hs, by omega⟩, out4 hS3 hS2X, out4 hU3 hUX, Ne.symm hUS2⟩
        · rw [hb]
          exact f4.1 _ _ hS3 hS2X
        · rw [List.map_append]
          exact f4.1 _ _ hU3 hUX
        · rw [hb]
          omega
        · rw [List.length_append]
          show un.length + 1 ≤ i + 1
          omega
        · intro y hy
          rw [hb] at hy
          exact hcz y (by rw [hd]; exact List.mem_append_left _ hy)
        · intro y hy
          rcases List.mem_append.mp hy with z | z
          · exact huz y z
          · rw [List.mem_singleton.mp z]
            exact hl200
    · exact ⟨X, c, un, S, _, rfl, hD.ex e1, hg, ho, kp.exx e1, e1 _ _ hS, e1 _ _ hU, hcl, by omega, hcz, huz, hre, hSX, hUX, hSU⟩
  rintro σ' H10 ⟨X, c, un, S, u10, rfl, hD, hg, ho, kp, hS, hU, hcl, hul, hcz, huz, hre, hSX, hUX, hSU⟩
  have hu4 : un.length ≤ 4 := by omega
  walk_at "st"
  -- what stays, anew
  have g2 : Ex G (Out X H10) := out_keep kp.ex fun b hb => kp.out b (List.mem_cons_of_mem _ hb)
  have gS := out_at hS hSX
  have gU := out_at hU hUX
  have kp2 : Kp (Out X H10) X H10 := Kp.of
  clear kp hS hU hSX hUX
  generalize Out X H10 = G2 at *
  replace gsc := ex_l g2 gsc
  replace gp1 := g2 _ _ gp1
  replace gpw := g2 _ _ gpw
  replace gps := g2 _ _ gps
  replace gpc := g2 _ _ gpc
  replace gpd := g2 _ _ gpd
  replace gl2 := g2 _ _ gl2
  replace gx := Hd.ex gx g2
  clear g2
  have hOe : nsO o = [pu, c0, c1, c2, c3] := by rw [hoe] <;> rfl
  have hOr := hO.rng
  have hf100 := firstL_len hO
  -- the first line
  refine qasg (fun x H' => x = .str (firstL o) ∧ Ex H10 H') (fun Q q => ?_) ?_
  · refine ⟨⟨_, rfl⟩, _, rfl, ixt (kp2.ex _ _ gps) (atI_nat (j := 0) rfl) ⟨by walk_at "le", fun L1 hL1 => ?_⟩⟩
    have e1 := Ex.new (o := .lst [.int pu]) hL1
    refine ⟨_, rfl, adl upd_same (e1 _ _ (kp2.ex _ _ gpc)) (show 1 + 4 ≤ 100000 by decide) fun L2 hL2 => ⟨L2, rfl, ⟨_, sq_of upd_same⟩, fun D hD => ?_⟩⟩
    have e2 := Ex.new (o := .lst ([.int pu] ++ [.int c0, .int c1, .int c2, .int c3])) hL2
    have hL22 : (upd (upd H10 L1 (.lst [.int pu])) L2 (.lst ([.int pu] ++ [.int c0, .int c1, .int c2, .int c3]))) L2 = some (.lst ((nsO o).map V.int)) := by
      rw [upd_same, hOe]
      rfl
    have e12 := e1.trans e2
    generalize upd (upd H10 L1 (.lst [.int pu])) L2 (.lst ([.int pu] ++ [.int c0, .int c1, .int c2, .int c3])) = H12 at *
    refine lcX (walk_list (xs := (nsO o).map V.int)) _ yAt (by rw [List.length_map]; exact (show 5 < 100000 from by decide)) hD (fun H' e => ex_l e (sq_of hL22)) (fun _ _ => true) (fun i acc => acc = (((nsO o).take i).map shw).map V.str) rfl ?_ (fun i x acc H1 hi hx r e Q q => q H1 (Ex.refl H1)) (fun i x acc H1 hi hx r e hf Q q => ?_) (fun i x acc hi hx r hf => by cases hf) (fun H13 ys e3 hD3 r hl2 => ?_)
    · exact fun _ => rfl
    · rw [List.getElem?_map] at hx
      obtain ⟨y, hy, rfl⟩ := Option.map_eq_some_iff.mp hx
      have hyr := hOr y (List.mem_of_getElem? hy)
      refine ⟨_, rfl, y, rfl, lgs (by omega), q _ _ (Ex.refl H1) ?_⟩
      rw [take_snoc hy, List.map_append, List.map_append, r]
      rfl
    · rw [List.length_map, take_all] at r
      subst r
      have hsum : (((nsO o).map shw).map (·.length)).sum ≤ 14 * ((nsO o).map shw).length := Tl.sum fun w hw => by
        obtain ⟨n, hn, rfl⟩ := List.mem_map.mp hw
        have := hOr n hn
        exact shwN this.1 (by omega)
      have h5 : ((nsO o).map shw).length = 5 := rfl
      have hjl := join_len (ws := (nsO o).map shw) (fun z => by cases z)
      have ld : ("desk " : Str).length = 5 := rfl
      refine ⟨_, D, (nsO o).map shw, rfl, rfl, .inl (sq_of hD3), ?_, ads ?_ ?_⟩
      · show (((nsO o).map shw).map (·.length)).sum + ((nsO o).map shw).length * 1 ≤ 16777216
        omega
      · have : (Txt.join " " ((nsO o).map shw)).length + 1 = _ := hjl
        omega
      · exact q _ _ ⟨congrArg V.str (first_eq o), e12.trans e3⟩
  rintro _ H11 ⟨rfl, e11⟩
  replace kp2 := kp2.exx e11
  replace hD := hD.ex e11
  -- the text
  refine qasg (fun x H' => x = .str (jText o c.done) ∧ Ex H11 H') (fun Q q => ?_) ?_
  · refine ⟨⟨_, rfl⟩, _, rfl, by walk_at "le", fun L1 hL1 => ?_⟩
    have e1 := Ex.new (o := .lst [.str (firstL o)]) hL1
    refine ⟨_, rfl, adl upd_same (e1 _ _ (kp2.ex _ _ gS)) (by rw [List.length_map]; show 1 + c.done.length ≤ 100000; omega) fun L2 hL2 => ⟨L2, rfl, ⟨_, sq_of upd_same⟩, fun D hD => ?_⟩⟩
    have e2 := Ex.new (o := .lst ([.str (firstL o)] ++ c.done.map V.str)) hL2
    have hL22 : (upd (upd H11 L1 (.lst [.str (firstL o)])) L2 (.lst ([.str (firstL o)] ++ c.done.map V.str))) L2 = some (.lst ((firstL o :: c.done).map V.str)) := upd_same
    have e12 := e1.trans e2
    generalize upd (upd H11 L1 (.lst [.str (firstL o)])) L2 (.lst ([.str (firstL o)] ++ c.done.map V.str)) = H12 at *
    have hl1' : (firstL o :: c.done).length = c.done.length + 1 := rfl
    refine lcX (walk_list (xs := (firstL o :: c.done).map V.str)) _ yAt (by rw [List.length_map]; omega) hD (fun H' e => ex_l e (sq_of hL22)) (fun _ _ => true) (fun i acc => acc = (((firstL o :: c.done).take i).map fun l : Str => l ++ ("\n" : Str)).map V.str) rfl ?_ (fun i x acc H1 hi hx r e Q q => q H1 (Ex.refl H1)) (fun i x acc H1 hi hx r e hf Q q => ?_) (fun i x acc hi hx r hf => by cases hf) (fun H13 ys e3 hD3 r hl2 => ?_)
    · exact fun _ => rfl
    · rw [List.getElem?_map] at hx
      obtain ⟨y, hy, rfl⟩ := Option.map_eq_some_iff.mp hx
      have hyl : y.length ≤ 200 := by
        rcases List.mem_cons.mp (List.mem_of_getElem? hy) with z | z
        · rw [z]
          omega
        · exact hcz y z
      refine ⟨_, rfl, ads (by show y.length + 1 ≤ 100000; omega) (q _ _ (Ex.refl H1) ?_)⟩
      rw [take_snoc hy, List.map_append, List.map_append, r]
      rfl
    · rw [List.length_map, take_all] at r
      subst r
      have hjt := jText_len hf100 hcl hcz
      have hjt2 : (jText o c.done).length = (((firstL o :: c.done).map fun l : Str => l ++ ("\n" : Str)).map (·.length)).sum := join0_len _
      refine ⟨_, D, (firstL o :: c.done).map fun l : Str => l ++ ("\n" : Str), rfl, rfl, .inl (sq_of hD3), ?_, q _ _ ⟨rfl, e12.trans e3⟩⟩
      have e7 : ("" : Str).length = 0 := rfl
      rw [e7, Nat.mul_zero, Nat.add_zero, ← hjt2]
      omega
  rintro _ H12 ⟨rfl, e12⟩
  replace kp2 := kp2.exx e12
  replace hD := hD.ex e12
  clear e11 e12
  have hjt := jText_len hf100 hcl hcz
  obtain ⟨t, ht⟩ : ∃ t, t = jText o c.done := ⟨_, rfl⟩
  rw [← ht] at hjt ⊢
  have hrb : readJ t = .inr c := by
    rw [ht, ← ho]
    exact read_back hg (by rw [ho]; exact hO)
  have hjw : jText c.opn c.done = t := by rw [ho, ht]
  have hsz := sizes (t := t) (by omega)
  have hWl : ∀ l ∈ c.done, l.length ≤ 10000 := fun l hl => Nat.le_trans (hcz l hl) (by decide)
  have hWn : ∀ n ∈ [c.opn.1, c.opn.2.1, c.opn.2.2.1, c.opn.2.2.2.1, c.opn.2.2.2.2], n.natAbs < 2 ^ 64 ∧ (shw n).length ≤ 100 := fun n hn => by
    rw [ho] at hn
    have h1 := hOr n hn
    have h2 := shwN h1.1 (by omega)
    exact ⟨by omega, by omega⟩
  have smT : ∀ {H : Hp}, Sm 6 H (.str (jText c.opn c.done)) (.str t) := .inl ⟨by rw [hjw], .inr (.inr ⟨_, rfl⟩)⟩
  -- the journal, twice
  refine qwhX (b := !true || !true) (ax_or (ax_not fun Q q => ?_) fun _ H1 e1 => ax_not fun Q q => ?_) (fun z => by cases z) (fun _ H13 e13 => ?_)
  · exact ⟨_, rfl, a, c, un, X, rfl, hD, by omega, hWl, hWn, fun H1 e1 => ⟨_, rfl, _, _, rfl, smT, true, rfl, q H1 e1⟩⟩
  · exact ⟨_, rfl, a, c, un, X, rfl, hD.ex e1, by omega, hWl, hWn, fun H1 e1 => ⟨_, rfl, _, _, rfl, smT, true, rfl, q H1 e1⟩⟩
  replace kp2 := kp2.exx e13
  replace hD := hD.ex e13
  -- it is read back
  refine ⟨_, rfl, t, rfl, hsz.1, hsz.2.1, hsz.2.2, fun n hn => (by rw [hrb] at hn; cases hn), fun c' hc' p2 b H14 Y e14 hE hY hp2 => ?_⟩
  have ec : c = c' := by
    have := hrb.symm.trans hc'
    injection this
  subst ec
  walk_at "st"
  have hap : Apart Y X := fun z hz hx => by
    obtain ⟨o', ho'⟩ := hD.tr z hx
    rw [hY z hz] at ho'
    cases ho'
  have kpY : ∀ z ∈ Y, G2 z = none := fun z hz => fresh_back kp2.ex (hY z hz)
  replace kp2 : Kp G2 (Y ++ X) H14 := ⟨kp2.ex.trans e14, fun z hz => (List.mem_append.mp hz).elim (kpY z) (kp2.out z)⟩
  replace hD := hD.ex e14
  refine qwhX (b := false || (!true || !true)) (ax_or (Ans.x (a_test fun Q q => ⟨_, rfl, ixt hp2 (atI_nat (j := 0) rfl) (.inl ⟨rfl, q⟩)⟩)) fun _ H1 e1 => ax_or (ax_not fun Q q => ?_) fun _ H2 e2 => ax_not fun Q q => ?_) (fun z => by cases z) (fun _ H15 e15 => ?_)
  · exact ⟨_, rfl, ixt (e1 _ _ hp2) (atI_nat (j := 1) rfl) ⟨_, rfl, b, a, c, c, [], un, Y, X, rfl, hE.ex e1, hD.ex e1, hg.ok, hg.ok, by omega, by omega, rfl, fun H' e' => ⟨true, rfl, q H' e'⟩⟩⟩
  · exact ⟨_, rfl, ixt (e2 _ _ (e1 _ _ hp2)) (atI_nat (j := 1) rfl) ⟨b, c, [], Y, rfl, (hE.ex e1).ex e2, by omega, hWl, hWn, fun H' e' => ⟨_, rfl, _, _, rfl, smT, true, rfl, q H' e'⟩⟩⟩
  replace kp2 := kp2.exx e15
  replace hD := hD.ex e15
  replace hE := hE.ex e15
  replace hp2 := e15 _ _ hp2
  -- nothing to do again
  refine qwhX (b := !true) (ax_not fun Q q => ?_) (fun z => by cases z) (fun _ H16 e16 => ?_)
  · refine ⟨_, rfl, ixt hp2 (atI_nat (j := 1) rfl) ⟨b, false, c, [], Y, none, rfl, hE, hg.ok, by omega, Nat.zero_le _, ?_, fun _ p H' e' hp' => ?_, fun _ _ _ z => (by cases z)⟩⟩
    · show (if false = true then c.done = [] else ([] : List Str) = [])
      rw [if_neg Bool.false_ne_true]
    · have hp3 : H' p = some (.tup [.str "NothingToRedo", .non]) := hp'
      refine ⟨by walk_at "le", fun t3 ht3 => ?_⟩
      exact ⟨_, _, rfl, hd_same (n := 6) (d := .seq true [dS "NothingToRedo", .sc .non]) (hd_tup ((Ex.new ht3) _ _ hp3) (show 2 ≤ 90000 from by decide) (.cons hd_str (.cons (.inl ⟨rfl, .inl rfl⟩) .nil))) (hd_tup upd_same (show 2 ≤ 90000 from by decide) (.cons hd_str (.cons (.inl ⟨rfl, .inl rfl⟩) .nil))), true, rfl, q _ (e'.trans (Ex.new ht3))⟩
  replace kp2 := kp2.exx e16
  replace hD := hD.ex e16
  replace hE := hE.ex e16
  replace hp2 := e16 _ _ hp2
  -- all is undone
  have hl80 : ∀ l ∈ c.done, l.length ≤ 80000 := fun l hl => Nat.le_trans (hcz l hl) (by decide)
  have hun := undo_all c.done.length c [] un hg rfl (by omega) (by show 0 + c.done.length ≤ 2000; omega) (by omega) hl80
  rw [ho, List.nil_append] at hun
  have hrun : (Core.new o).run c.done = some c := by
    have g : (Core.new c.opn).run c.done = some c := hg
    rw [ho] at g
    exact g
  have hrd := redo_all c.done (Core.new o) c [] un (new_core o) hrun (by show 0 + c.done.length ≤ 1000; omega) (by show 0 + c.done.length ≤ 2000; omega) (by omega) hl80
  rw [List.nil_append] at hrd
  have hcnt : ((((c.done.map V.str).length : Nat) : Int) + 1).toNat = c.done.length + 1 := by
    rw [List.length_map]
    omega
  have hcnt2 : (((c.done.map V.str).length : Nat) : Int).toNat = c.done.length := by
    rw [List.length_map]
    omega
  refine qwhP (fun b' H1 => b' = false ∧ ∃ Y4 X4, DeskAt K H1 b (Core.new o) c.done.reverse Y4 ∧ DeskAt K H1 a (Core.new o) (un ++ c.done.reverse) X4 ∧ Apart Y4 X4 ∧ Fr (Y ++ X) H16 H1 ∧ Nw (Y ++ X) (Y4 ++ X4) H16) (fun Q q => ?_) (fun H4 p4 => by cases p4.1) (fun H17 p17 => ?_)
  · refine ⟨_, rfl, ixt hp2 (atI_nat (j := 1) rfl) ⟨_, rfl, _, rfl, _, _, rfl, lenl (kp2.ex _ _ gS), adi ⟨b, a, _, true, c, [], un, Y, X, (Core.new o, c.done.reverse, un ++ c.done.reverse), rfl, by omega, by rw [List.length_map]; omega, hE, hD, hap, ?_, fun H' Y4 X4 hE4 hD4 hap4 f4 nw4 => ⟨true, rfl, q false H' ⟨rfl, Y4, X4, hE4, hD4, hap4, f4, nw4⟩⟩⟩⟩⟩
    rw [hcnt]
    exact hun
  obtain ⟨_, Y4, X4, hE4, hD4, hap4, f4, nw4⟩ := p17
  replace kp2 := kp2.mut f4 nw4
  replace hp2 := f4.2 _ _ hp2
  clear hD hE hap kpY f4 nw4
  -- and done again
  refine qwhP (fun b' H1 => b' = false ∧ ∃ Y5 X5, DeskAt K H1 b c [] Y5 ∧ DeskAt K H1 a c un X5 ∧ Apart Y5 X5 ∧ Fr (Y4 ++ X4) H17 H1 ∧ Nw (Y4 ++ X4) (Y5 ++ X5) H17) (fun Q q => ?_) (fun H4 p4 => by cases p4.1) (fun H18 p18 => ?_)
  · refine ⟨_, rfl, ixt hp2 (atI_nat (j := 1) rfl) ⟨_, rfl, _, rfl, _, _, rfl, lenl (kp2.ex _ _ gS), b, a, _, false, Core.new o, c.done.reverse, un ++ c.done.reverse, Y4, X4, (c, [], un), rfl, by omega, by rw [List.length_map]; omega, hE4, hD4, hap4, ?_, fun H' Y5 X5 hE5 hD5 hap5 f5 nw5 => ⟨true, rfl, q false H' ⟨rfl, Y5, X5, hE5, hD5, hap5, f5, nw5⟩⟩⟩⟩
    rw [hcnt2]
    exact hrd
  obtain ⟨_, Y5, X5, hE5, hD5, hap5, f5, nw5⟩ := p18
  replace kp2 := kp2.mut f5 nw5
  clear hD4 hE4 hap4 f5 nw5
  -- the last one undone is done again
  refine qwhP (fun b' H1 => b' = false ∧ Ex G2 H1) (fun Q q => ?_) (fun H4 p4 => by cases p4.1) (fun H19 p19 => ?_)
  · have hU := kp2.ex _ _ gU
    rcases hre with hun0 | ⟨us, l, d, hun0, hs, hl⟩
    · subst hun0
      refine ⟨_, rfl, by walk_at "le", fun L hL => ⟨U, L, [], rfl, rfl, sq_of ((Ex.new hL) _ _ hU), sq_of upd_same, false, rfl, iteF (q false _ ⟨rfl, kp2.ex.trans (Ex.new hL)⟩)⟩⟩
    · have hne : decide (un.map V.str = []) = false := decide_eq_false (by rw [hun0]; simp)
      refine ⟨_, rfl, by walk_at "le", fun L hL => ⟨U, L, un.map V.str, rfl, rfl, sq_of ((Ex.new hL) _ _ hU), sq_of upd_same, true, (by rw [hne]; rfl), iteT ?_⟩⟩
      have eL := Ex.new (o := .lst []) hL
      refine ⟨_, rfl, a, false, c, un, X5, some (l, d, us), rfl, hD5.ex eL, hg.ok, by omega, by omega, ⟨hl, by rw [if_neg Bool.false_ne_true]; exact ⟨hun0, hs⟩⟩, (fun z => by cases z), fun l' d' un' hr p H2 X6 hD6 f6 nw6 hp => ?_⟩
      cases hr
      have kp6 : Kp G2 X6 H2 := ((kp2.exx eL).sub (fun z hz => List.mem_append_right _ hz)).mut f6 nw6
      have hU6 : H2 U = some (.lst (us.map V.str ++ [.str l])) := by
        rw [kp6.ex _ _ gU, hun0, List.map_append]
        rfl
      refine ⟨_, rfl, _, rfl, ixl hU6 (atI_last _ _) ⟨by walk_at "le", fun t3 ht3 => ?_⟩⟩
      exact ⟨_, _, rfl, hd_same (n := 6) (d := .seq true [dS "ok", dS l]) (hd_tup ((Ex.new ht3) _ _ hp) (show 2 ≤ 90000 from by decide) (.cons hd_str (.cons hd_str .nil))) (hd_tup upd_same (show 2 ≤ 90000 from by decide) (.cons hd_str (.cons hd_str .nil))), true, rfl, q false _ ⟨rfl, kp6.ex.trans (Ex.new ht3)⟩⟩
  obtain ⟨_, k19⟩ := p19
  -- texts that are spoilt
  obtain ⟨bx, rvx, rfl, _, _, _⟩ := hd_inv gx
  have hwd6 : (wds (firstL o)).length = 6 := by rw [wds_first hO] <;> rfl
  have hTl : Tl 200 9 (firstL o :: c.done) := by
    refine ⟨by show c.done.length + 1 ≤ 9; omega, fun w hw => ?_⟩
    rcases List.mem_cons.mp hw with z | z
    · rw [z]
      omega
    · exact hcz w z
  refine ⟨2, rfl, by decide, by decide, ?_⟩
  refine for_it walk_range (fun i σ' H' => ∃ (v10 v14 v15 : Option V), σ' = [some (.ref a0), some (.ref p1), some (.ref pw), some (.ref ps), some (.ref pc), some (.ref a), some (.ref pd), some (.ref S), some (.ref U), u9, v10, some (.str (firstL o)), some (.str t), some (.ref p2), v14, v15, none] ∧ Ex G2 H') ⟨_, _, _, rfl, k19⟩ (fun _ _ _ _ _ => True.intro) ?_ ?_
  · rintro i x σ' H' H'' hi ⟨v10, v14, v15, rfl, k⟩ ⟨rfl, rfl⟩
    walk_at "st"
    refine ⟨_, rfl, _, rfl, adi ⟨a0, _, ns, rfl, ex_l k gsc, by omega, fun cc => ⟨_, rfl, adi ⟨_, _, rfl, rfl, ⟨by decide, by decide, by decide⟩, _, 4, _, rfl, by decide, by decide, by decide, by decide, fun pp H1 ns4 hpn e1 hpp hlen4 hr4 => ?_⟩⟩⟩⟩
    rw [e6] at hr4
    obtain ⟨n0, n1, n2, n3, rfl⟩ := len4 hlen4
    have hn3 := hr4 n3 (by simp)
    have hpp : H1 pp = some (.lst [.int n0, .int n1, .int n2, .int n3]) := hpp
    replace k := k.trans e1
    walk_at "st"
    refine ⟨_, rfl, _, rfl, sll hpp fun q2 hq2 => ?_⟩
    have e2 := Ex.new (o := .lst (cutV [.int n0, .int n1, .int n2, .int n3] (some 2) none)) hq2
    have hq22 : (upd H1 q2 (.lst (cutV [.int n0, .int n1, .int n2, .int n3] (some 2) none))) q2 = some (.lst [.int n2, .int n3]) := upd_same
    have hpp2 := e2 _ _ hpp
    replace k := k.trans e2
    generalize upd H1 q2 (.lst (cutV [.int n0, .int n1, .int n2, .int n3] (some 2) none)) = H2 at *
    refine ⟨_, rfl, ixt (k _ _ gpd) (atI_nat (j := 1) rfl) ⟨_, rfl, ixl (k _ _ gl2) (atI_last _ _) ⟨_, rfl, q2, bx, pw, n2, n3, rs, 8, ws, rfl, hq22, Hd.ex gx k, hrs, by decide, k _ _ gpw, hwl, hwz, fun z H3 e3 hz => ?_⟩⟩⟩
    replace k := k.trans e3
    have hpp3 := e3 _ _ hpp2
    walk_at "st"
    refine swhX (b := !true) (ax_not fun Q q => ?_) (fun z => by cases z) (fun _ H4 e4 => ⟨_, _, _, rfl, k.trans e4⟩)
    refine ⟨_, rfl, by walk_at "le", fun L1 hL1 => ?_⟩
    have g1 := Ex.new (o := .lst [.str (firstL o)]) hL1
    refine ⟨_, rfl, adl upd_same ((k.trans g1) _ _ gS) (by rw [List.length_map]; show 1 + c.done.length ≤ 100000; omega) fun L2 hL2 => ?_⟩
    have g2 := Ex.new (o := .lst ([.str (firstL o)] ++ c.done.map V.str)) hL2
    have hL22 : (upd (upd H3 L1 (.lst [.str (firstL o)])) L2 (.lst ([.str (firstL o)] ++ c.done.map V.str))) L2 = some (.lst ((firstL o :: c.done).map V.str)) := upd_same
    refine ⟨_, rfl, _, rfl, L2, pp, z, firstL o, c.done, n0, n1, n2, n3, rfl, hL22, hTl, hwd6, hf100, (g1.trans g2) _ _ hpp3, hn3, hz, fun zt H5 e5 hzt => ?_⟩
    have sz := sizes (t := zt) (by omega)
    exact ⟨zt, rfl, sz.1, sz.2.1, sz.2.2, fun H6 e6 => ⟨true, rfl, q H6 (g1.trans (g2.trans (e5.trans e6)))⟩⟩
  · rintro σ' H' ⟨v10, v14, v15, rfl, k⟩
    exact ⟨_, rfl, t, rfl, hsz.1, hsz.2.1, hsz.2.2, fun H6 e6 => hq H6⟩)
end
end Bm
set_option Elab.async false
set_option linter.all false
set_option maxRecDepth 100000
set_option maxHeartbeats 0
/-! The end: the law holds. -/
namespace Bm
open PySem PySem.Spec PyProof.Rows L2
theorem FnOk.any {P : Program} {w : World} {K : PySem.W.Frag} {mg : Str → Option Value} {base : Heap} {k : Nat} {f : Addr} {fd : FuncData} {ps : List Str} {sp : Sp} (F : FnOk P w K mg base (L2N.CX P w) k f fd ps sp) (h : ∀ vs H Q E, sp vs H Q E → sp vs H Q (fun _ _ _ => False)) : FnOk P w K mg base L2.CX0 k f fd ps sp :=
  ⟨F.len, fun A outer s H args us vs Q E hr he hb hv hs => codeAny_mono (F.run A outer s H args us vs Q (fun _ _ _ => False) hr he hb hv (h _ _ _ _ hs)) fun x s' q => by
    cases x with
    | error e =>
      obtain ⟨a, B, H', cls, d, e1, fl, ok, ub, na, os, ag, z⟩ := q
      exact z.elim
    | ok fl => cases fl <;> exact q⟩
theorem facts {P : Program} {w : World} {K : PySem.W.Frag} {h : Heap} {mg : Str → Option Value} {f : Addr} (hp : P.main.file = ("/claim/cut.py" : Str)) (hs : (P.main.scope.names.lookup ("super" : Str)).isSome = false) (X : K.In h) (G : h.Ns mainGlobals mg) (hfa : mg ("law" : Str) = some (.ref f)) (c : SaysX fb fn K) :
    ∃ fd : FuncData, (∀ (s : Shared) (v : Value), BindsTo s fd ⟨[v], []⟩ [("_law_script", v)]) ∧ ∀ base : Heap, K.In base → base.Ns mainGlobals mg → FnOk P w K mg base L2.CX0 14 f fd ["_law_script"] (spLaw K) := by
  have T : Wx P K mg := { toTx := ⟨⟨h, X, G⟩, c⟩, file := hp, noSup := hs }
  have e := hfa.symm.trans T.toTx.g_law
  cases e
  have b := FunD.bindsA (ps := ["_law_script"]) T.toTx.d_law fun _ _ _ _ _ _ us hl => match us, hl with | [_], _ => rfl
  exact ⟨_, fun s v => b s [v] rfl, fun base _ _ => FnOk.any (w_law T) fun vs H Q E q => q⟩
end Bm
open PySem PySem.W PySem.Calls PyProof.Rows
theorem PySem.Challenge.cw_beadmoot_k47_whole_journal_holds : PySem.Challenge.rw_beadmoot_k47_whole_journal.Holds := by
  w_on; o_law
  refine HandSHeadRun.head_any (r := OpenLaw.row PySem.Challenge.rw_beadmoot_k47_whole_journal) (q := view (OpenLaw.row PySem.Challenge.rw_beadmoot_k47_whole_journal).prog [77]) (H := Bm.hk) (ob := Bm.ob) (M := 10000) (loose := Bm.names) (d := HandSHeadRun.topDef (OpenLaw.row PySem.Challenge.rw_beadmoot_k47_whole_journal).prog 77) (kwd := []) Bm.ob_eq
    (by kernel_rfl) (fun s => by kernel_rfl) Bm.run (by kernel_rfl) (by kernel_rfl) (by kernel_rfl) (by rfl) (by first | assumption | decide +kernel) (by decide +kernel) ⟨rfl, rfl, rfl, rfl, rfl, by decide +kernel⟩ ?hw ?hc
  case hw => w_witness2
  case hc =>
    refine L2.walk_ofE (l := PySem.Challenge.rw_beadmoot_k47_whole_journal) (n := 63) (k := 14) (x := "_law_script") (CX := L2.CX0) rfl (by decide) (by kernel_rfl) ⟨rfl, by decide, by decide⟩ ?F (fun _ _ _ _ z => z)
    intro w mg fa h Y G hmg0
    obtain ⟨K, KX, c⟩ := Y
    have hmg : mg ("law" : PySem.Str) = some (.ref fa) := by
      have e : (HandSHeadRun.topDef (OpenLaw.row PySem.Challenge.rw_beadmoot_k47_whole_journal).prog 77).name = ("law" : PySem.Str) := by kernel_rfl
      rw [← e]
      exact hmg0
    obtain ⟨fd, hb, hF⟩ := Bm.facts (P := (PySem.Challenge.rw_beadmoot_k47_whole_journal).prog) (w := w) (by kernel_rfl) (by kernel_rfl) KX G hmg c
    exact ⟨K, fd, Bm.spLaw K, KX, hb, fun H a ns hl _ hS => ⟨a, ns, rfl, hS, fun _ => rfl⟩, hF⟩
