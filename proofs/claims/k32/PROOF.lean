import PyProof.Rows.All
import Wide.All
import OpenK.AllK
import Wide.FinOn
import KE.KStateDown
import KE.KSuper
import KE.DatumIndex
import HandS.ForMost
import HandS.ForExc
import HandS.Wide
import HandS.WideBits
import HandS.Property
import HandS.Star
import HandS.IsInst
import HandS.FStr
import HandS.RaiseMore
import HandS.OwnEq
import HandS.Flow
import HandS.Style
import HandS.TryMany
import HandS.MakeKw
import HandS.Defaults
import HandS.Zip
import HandS.Head2
import HandS.HeadEnd
import HandS.HeadHook2
import HandS.Nested
import PyProof.ReprRoads
import PyProof.Rows.StrDigitsNeg
import HandS.Walk
import PyProof.AttrMiss
import OpenK.KCls
import KE.KOpsOwn
import HandS.Conv
import PyProof.InstNe
import PyProof.CallFns
import HandS.ClsMeth
import OpenK.KOps
import HandS.SetFor
import HandS.Strs
import PyProof.AutoIntOps
import PyProof.AssignAttr
import HandS.ExcIs
import HandS.HotCalls
import HandS.TryOnly
import HandS.More
import PyProof.InstEq
import PyProof.EqKinds
import HandS.Dict
import HandS.Exc
import HandS.Text
import HandS.ExcInit
import HandS.ExcField
import PyProof.ListStr
import KE.KExcIs
import PyProof.StrBlock2
import PyProof.NeData
import HandS.Iter
import HandS.ExcInitHot
import HandS.Small
import PyProof.LongRange
import PySem.Challenge.RW_onwardlines_k32_lines_compared_start_by
set_option Elab.async false
set_option linter.all false
set_option maxRecDepth 100000
set_option maxHeartbeats 4000000
/-! Fw, part A: what the top has left, read by a hook of our own: checks of the written part, and defs by their places. -/
namespace Fw
open PySem PySem.Spec PyProof.Rows L2
open He (ga ma frG growD frG_in eqO eqO_ok relB relB_ok)
abbrev Frag := PySem.W.Frag
abbrev Ck := Frag → Bool
/-- the function at f: its name, qualified name, parameters, body, scope, the names it closes over -/
abbrev FnM : Type := Option (Str × Str × Arguments × FuncBody × Scope × Addr × List Str × Value × Addr)
def fnM (K : Frag) (f : Addr) : FnM := match K.lookup f with
  | some ⟨_, _, .func fd, _⟩ => some (fd.name, fd.qualname, fd.params, fd.body, fd.scope, fd.globals, fd.closure.map (fun c => c.1), fd.defaults, fd.builtins)
  | _ => none
structure DefM where
  at_ : Frag → Addr
  name : Str
  qual : Str
  st : Stmt
  clo : List Str := []
def DefM.val (d : DefM) : FnM := some (d.name, d.qual, defArgs d.st, .stmts (defBody d.st), defScope d.st, mainGlobals, d.clo, .none, builtinsNs)
def DefM.ok (K : Frag) (d : DefM) : Bool := PySem.W.keepIn K (.ref (d.at_ K)) && (match K.lookup (d.at_ K) with
  | some ⟨_, _, .func fd, _⟩ => PySem.W.codeIn K fd.code d.qual
  | _ => false)
/-- the function object at f -/
def fdAt (K : Frag) (f : Addr) : FuncData := match K.lookup f with
  | some ⟨_, _, .func fd, _⟩ => fd
  | _ => PySem.W.fnOf Str.empty Str.empty ⟨[], [], none, [], [], none, []⟩ [] ⟨.function, [], false, false, []⟩ .none .none .none .none none .none .none
theorem DefM.fun {K : Frag} {d : DefM} (e : fnM K (d.at_ K) = d.val) (c : d.ok K = true) (hc : d.clo = []) : Fun K d.name d.qual d.st (d.at_ K) (fdAt K (d.at_ K)) := by
  obtain ⟨kp, c2⟩ := Bool.and_eq_true_iff.mp c
  unfold fnM at e
  unfold fdAt
  cases q : K.lookup (d.at_ K) with
  | none => rw [q] at c2; cases c2
  | some o =>
    obtain ⟨oc, od, dt, osl⟩ := o
    rw [q] at c2 e
    cases dt with
    | func fd =>
      obtain ⟨n1, n2, n3, n4, n5, n6, n7, n8, n9, n10, n11, n12, n13, n14, n15⟩ := fd
      have e2 : (some (n1, n2, n3, n4, n5, n6, n7.map (fun c => c.1), n8, n15) : FnM) = some (d.name, d.qual, defArgs d.st, .stmts (defBody d.st), defScope d.st, mainGlobals, d.clo, .none, builtinsNs) := e
      rw [hc] at e2
      simp only [Option.some.injEq, Prod.mk.injEq, List.map_eq_nil_iff] at e2
      obtain ⟨h1, h2, h3, h4, h5, h6, h7, h8, h9⟩ := e2
      subst h1 h2 h3 h4 h5 h6 h7 h8 h9
      exact ⟨⟨oc, od, n9, n10, n11, n12, n13, n14, osl, rfl, q, c2⟩, kp⟩
    | _ => cases c2
/-- a def that closes over one name -/
structure FunC (K : Frag) (x qual y : Str) (st : Stmt) (f : Addr) : Prop where
  ex : ∃ (oc : Value) (od : Option Addr) (cc : Addr) (kV doc pm : Value) (an : Option Addr) (cdv ct : Value) (osl : Array (Option Value)),
    K.lookup f = some ⟨oc, od, .func (PySem.W.fnX x qual (defArgs st) (defBody st) (defScope st) [(y, cc)] .none kV doc pm an cdv ct), osl⟩ ∧ PySem.W.codeIn K cdv qual = true
  kp : PySem.W.keepIn K (.ref f) = true
theorem DefM.func {K : Frag} {d : DefM} {y : Str} (e : fnM K (d.at_ K) = d.val) (c : d.ok K = true) (hc : d.clo = [y]) : FunC K d.name d.qual y d.st (d.at_ K) := by
  obtain ⟨kp, c2⟩ := Bool.and_eq_true_iff.mp c
  unfold fnM at e
  cases q : K.lookup (d.at_ K) with
  | none => rw [q] at c2; cases c2
  | some o =>
    obtain ⟨oc, od, dt, osl⟩ := o
    rw [q] at c2 e
    cases dt with
    | func fd =>
      obtain ⟨n1, n2, n3, n4, n5, n6, n7, n8, n9, n10, n11, n12, n13, n14, n15⟩ := fd
      have e2 : (some (n1, n2, n3, n4, n5, n6, n7.map (fun c => c.1), n8, n15) : FnM) = some (d.name, d.qual, defArgs d.st, .stmts (defBody d.st), defScope d.st, mainGlobals, d.clo, .none, builtinsNs) := e
      rw [hc] at e2
      simp only [Option.some.injEq, Prod.mk.injEq] at e2
      obtain ⟨h1, h2, h3, h4, h5, h6, h7, h8, h9⟩ := e2
      obtain ⟨cc, rfl⟩ : ∃ cc, n7 = [(y, cc)] := by
        match n7, h7 with
        | [(a, b)], h7 =>
          simp only [List.map_cons, List.map_nil, List.cons.injEq, and_true] at h7
          exact ⟨b, by rw [h7]⟩
      subst h1 h2 h3 h4 h5 h6 h8 h9
      exact ⟨⟨oc, od, cc, n9, n10, n11, n12, n13, n14, osl, q, c2⟩, kp⟩
    | _ => cases c2

/-! ### the hook -/
/-- what the module's names and the statics reach in n steps -/
def asM (g : Addr → Option Obj) : Nat → List Addr
  | 0 => [mainGlobals, cStatics]
  | n + 1 => growD g (asM g n)
abbrev AlM : Type := Bool × List FnM
def obsM (ck : List Ck) (fn : List DefM) (K : Frag) : AlM := ((ck.all fun f => f K) && fn.all fun d => d.ok K, fn.map fun d => fnM K (d.at_ K))
def valM (fn : List DefM) : AlM := (true, fn.map DefM.val)
def SaysM (ck : List Ck) (fn : List DefM) (K : Frag) : Prop := obsM ck fn K = valM fn
def obsMG (n : Nat) (ck : List Ck) (fn : List DefM) (g : Addr → Option Obj) : AlM := obsM ck fn (frG g (asM g n))
def hookM (n : Nat) (ck : List Ck) (fn : List DefM) : PySem.W.Hook where
  α := AlM
  obs := fun s => obsMG n ck fn s.heap.get?
  val := fun _ => valM fn
  says := fun _ h => ∃ K : Frag, K.In h ∧ SaysM ck fn K
  of := fun _ _ e => ⟨_, frG_in, e⟩
  keeps := fun _ _ _ ⟨K, hK, c⟩ k => ⟨K, PySem.W.Frag.In.keeps hK k, c⟩
theorem obsMG_eq {n : Nat} {ck : List Ck} {fn : List DefM} {g : Addr → Option Obj} {s : Shared} (h : ∀ a, g a = s.heap.get? a) : obsMG n ck fn g = (hookM n ck fn).obs s := by
  have e : g = s.heap.get? := funext h
  rw [e] <;> rfl
/-- what the end leans on -/
structure Zs (ck : List Ck) (fn : List DefM) (K : Frag) (mg : Str → Option Value) : Prop where
  says : SaysM ck fn K
  ns : ∃ h : Heap, K.In h ∧ h.Ns mainGlobals mg
section
variable {ck : List Ck} {fn : List DefM} {K : Frag} {mg : Str → Option Value}
theorem Zs.c (Z : Zs ck fn K mg) (i : Nat) {f : Ck} (h : ck[i]? = some f := by rfl) : f K = true := by
  have c1 := (Bool.and_eq_true_iff.mp (show ((ck.all fun f => f K) && fn.all fun d => d.ok K) = true from congrArg (fun z : AlM => z.1) Z.says)).1
  exact List.all_eq_true.mp c1 f (List.mem_of_getElem? h)
theorem Zs.f0 (Z : Zs ck fn K mg) (i : Nat) {d : DefM} (h : fn[i]? = some d) : fnM K (d.at_ K) = d.val ∧ d.ok K = true := by
  have c2 := (Bool.and_eq_true_iff.mp (show ((ck.all fun f => f K) && fn.all fun d => d.ok K) = true from congrArg (fun z : AlM => z.1) Z.says)).2
  have e : fn.map (fun d => fnM K (d.at_ K)) = fn.map DefM.val := congrArg (fun z : AlM => z.2) Z.says
  have e2 : (fn.map fun d => fnM K (d.at_ K))[i]? = (fn.map DefM.val)[i]? := by rw [e]
  rw [List.getElem?_map, List.getElem?_map, h] at e2
  exact ⟨Option.some.inj e2, List.all_eq_true.mp c2 d (List.mem_of_getElem? h)⟩
theorem Zs.f (Z : Zs ck fn K mg) (i : Nat) {d : DefM} (h : fn[i]? = some d := by rfl) (hc : d.clo = [] := by rfl) : Fun K d.name d.qual d.st (d.at_ K) (fdAt K (d.at_ K)) :=
  DefM.fun (Z.f0 i h).1 (Z.f0 i h).2 hc
theorem Zs.fc (Z : Zs ck fn K mg) (i : Nat) {d : DefM} {y : Str} (h : fn[i]? = some d := by rfl) (hc : d.clo = [y] := by rfl) : FunC K d.name d.qual y d.st (d.at_ K) :=
  DefM.func (Z.f0 i h).1 (Z.f0 i h).2 hc
end
/-! ### checks -/
def cGlo (x : Str) : Ck := fun K => (He.Fa.glo x).ok K
def cFree (x : Str) : Ck := fun K => (He.Fa.free x).ok K
def cInt (x : Str) (i : Int) : Ck := fun K => (He.Fa.int x i).ok K
def cCls (x : Str) : Ck := fun K => (He.Fa.cls x).ok K
def cNoat (x f : Str) : Ck := fun K => (He.Fa.noat x f).ok K
def cMeth (x m : Str) : Ck := fun K => (He.Fa.meth x m).ok K
def cMkr (x : Str) : Ck := fun K => (He.Fa.mkr x).ok K
def cKeep (x : Str) : Ck := fun K => (He.Fa.keep x).ok K
/-- the property f of the class named x; its getter -/
def prA (K : Frag) (C : Addr) (f : Str) : Addr := match PySem.W.recIn K (ma K C f) "property" with
  | some (.ref g :: _) => g
  | _ => 0
def cProp (x f : Str) : Ck := fun K => eqO (PySem.W.findIn K (.ref (ga K x)) f) (some (some (.ref (ma K (ga K x) f)))) &&
  (eqO (PySem.W.specialIn K (.ref (ma K (ga K x) f)) "__get__") (some (some (.builtin "property.__get__"))) && (decide (PySem.W.takesIn K (.ref (ma K (ga K x) f)) = some true) &&
  (match PySem.W.recIn K (ma K (ga K x) f) "property" with
  | some (.ref g :: _) => true
  | _ => false)))
/-- the same getter in both classes -/
def cSameP (x y f : Str) : Ck := fun K => decide (prA K (ga K x) f = prA K (ga K y) f)
def cSameM (x y f : Str) : Ck := fun K => decide (ma K (ga K x) f = ma K (ga K y) f)
/-- an instance of the class named x may be called -/
def cCall (x : Str) : Ck := fun K => eqO (PySem.W.findIn K (.ref (ga K x)) "__call__") (some (some (.ref (ma K (ga K x) "__call__")))) && (PySem.W.isFn K (.ref (ma K (ga K x) "__call__")) && PySem.W.fnIn K (ma K (ga K x) "__call__"))
/-- a text constant of a class -/
def cCon (x f z : Str) : Ck := fun K => (match PySem.W.findIn K (.ref (ga K x)) f with
  | some (some (.str y t)) => decide (y = z) && (eqO (PySem.W.specialIn K (.str y t) "__get__") (some none))
  | _ => false)
section
variable {K : Frag} {mg : Str → Option Value} {ck : List Ck} {fn : List DefM}
theorem Zs.glo (Z : Zs ck fn K mg) {x : Str} (c : cGlo x K = true) : mg x = some (.ref (ga K x)) := let ⟨_, X, G⟩ := Z.ns; He.glo_ok X G c
theorem Zs.free (Z : Zs ck fn K mg) {x : Str} (c : cFree x K = true) : mg x = none := let ⟨_, X, G⟩ := Z.ns; He.free_ok X G c
theorem Zs.int (Z : Zs ck fn K mg) {x : Str} {i : Int} (c : cInt x i K = true) : ∃ u, mg x = some u ∧ RelV (.int i) u := let ⟨_, X, G⟩ := Z.ns; let ⟨t, e⟩ := He.int_ok X G c; ⟨_, e, t, rfl⟩
theorem cls_of {x : Str} (c : cCls x K = true) : Cls K (ga K x) := He.cls_ok c
theorem noat_of {x f : Str} (c : cNoat x f K = true) : NoAttr K (ga K x) f := He.noat_ok c
theorem meth_of {x m : Str} (c : cMeth x m K = true) : Meth K (ga K x) m (ma K (ga K x) m) := He.meth_ok c
theorem mkr_of {x : Str} (c : cMkr x K = true) : Mk K (ga K x) (ma K (ga K x) "__init__") := He.mkr_ok c
theorem prop_of {x f : Str} (c : cProp x f K = true) : PropOf K (ga K x) f (ma K (ga K x) f) (prA K (ga K x) f) := by
  obtain ⟨c1, c⟩ := Bool.and_eq_true_iff.mp c
  obtain ⟨c2, c⟩ := Bool.and_eq_true_iff.mp c
  obtain ⟨c3, c4⟩ := Bool.and_eq_true_iff.mp c
  refine ⟨eqO_ok c1, eqO_ok c2, of_decide_eq_true c3, ?_⟩
  unfold prA
  cases e : PySem.W.recIn K (ma K (ga K x) f) "property" with
  | none => rw [e] at c4; cases c4
  | some l =>
    rw [e] at c4
    match l, c4 with
    | (.ref g :: r), _ => exact ⟨r, rfl⟩
theorem call_of {x : Str} (c : cCall x K = true) : StX.CallO K (ga K x) (ma K (ga K x) "__call__") := by
  obtain ⟨c1, c⟩ := Bool.and_eq_true_iff.mp c
  obtain ⟨c2, c3⟩ := Bool.and_eq_true_iff.mp c
  exact ⟨eqO_ok c1, c2, c3⟩
theorem con_of {x f z : Str} (c : cCon x f z K = true) (cp : PySem.W.copiedNames.contains f = false) : ∃ u, Con K (ga K x) f (.str z) u := by
  unfold cCon at c
  cases e : PySem.W.findIn K (.ref (ga K x)) f with
  | none => rw [e] at c; cases c
  | some r =>
    rw [e] at c
    match r, c, e with
    | some (.str y t), c, e =>
      obtain ⟨c1, c2⟩ := Bool.and_eq_true_iff.mp c
      have e1 : y = z := of_decide_eq_true c1
      exact ⟨.str y t, e, ⟨t, by rw [e1]⟩, eqO_ok c2, cp⟩
end
theorem Fun.bindsAny {K : Frag} {x qual y : Str} {st : Stmt} {f : Addr} {fd : FuncData} (F : Fun K x qual st f fd) (s : Shared) (u : Value)
    (h : ∀ (kV doc pm : Value) (an : Option Addr) (cdv ct : Value), bindArgs (PySem.W.fnOf x qual (defArgs st) (defBody st) (defScope st) .none kV doc pm an cdv ct) ⟨[u], []⟩ = pure [(y, u)]) : BindsTo s fd ⟨[u], []⟩ [(y, u)] := by
  obtain ⟨oc, od, kV, doc, pm, an, cdv, ct, osl, rfl, lk, hcd⟩ := F.ex
  exact .of_eq (h kV doc pm an cdv ct)
/-! ### the end: a law's def keeps its promise -/
theorem endM {l : PySem.W.OpenLaw} {k N : Nat} {q : Program} {loose : List Str} {d : DefRec} {ck : List Ck} {fn : List DefM} {XP : (Str → Option Value) → Heap → Prop} {spL : Frag → Sp}
    (hn : l.most = some 63) (hdf : d.params.defaults = []) (hr : Room k callerA) (hd : d.name = ("law" : Str))
    (F : ∀ (w : World) (K : Frag) (mg : Str → Option Value) (base : Heap), Zs ck fn K mg → K.In base → base.Ns mainGlobals mg → FnOk l.prog w K mg base (L2.CX l.prog w) k (ga K "law") (fdAt K (ga K "law")) ["script"] (spL K))
    (hg : ∀ (K : Frag) (mg : Str → Option Value), Zs ck fn K mg → mg "law" = some (.ref (ga K "law")))
    (hb : ∀ (K : Frag) (mg : Str → Option Value), Zs ck fn K mg → ∀ (s : Shared) (u : Value), BindsTo s (fdAt K (ga K "law")) ⟨[u], []⟩ [("script", u)])
    (hs : ∀ (K : Frag) (H : Hp) (a : Addr) (ns : List Int), ns.length ≤ 63 → Only H → SqL K H a (ns.map V.int) → spL K [.ref a] H (fun v _ => v = .bl true) fun _ _ _ => False) :
    PySem.W.WalkO q loose XP (hookM N ck fn).says l.row.toRowW d [] (fun f vs => PySem.call f vs) := by
  refine Att.attach_call hn hdf fun w s₀ s₁ mg mb fa o pm cd doc a vs ns G Y ho hd' hcd hmg hobj hints hlen hgn => ?_
  obtain ⟨K, KX, c⟩ := Y
  have Z : Zs ck fn K mg := ⟨c, _, KX, G.T.g⟩
  have e : fa = ga K "law" := by
    have h1 := hg K mg Z
    rw [hd] at hmg
    rw [hmg] at h1
    cases h1
    rfl
  subst e
  exact law_call KX G.T.g G.T.b G.T.builtins G.T.nolimit hgn hobj hints (Nat.le_trans hlen (by decide)) hr (fun base h1 h2 => F w K mg base Z h1 h2) (hb K mg Z) (fun H hO hS => hs K H a ns hlen hO hS) fun H e s' h => by
    obtain ⟨_, _, _, _, _, _, _, _, _, _, _, _, z⟩ := h
    exact z.elim
end Fw

/-! Fw, part B: an __init__ that says super().__init__(..) and no more. -/
namespace Fw
open PySem PySem.Spec PyProof.Rows L2
open He (ga ma eqO eqO_ok)
/-- the address that a cell holds; the file that a code object names -/
def cellOf (K : Frag) (cc : Addr) : Option Addr := match K.lookup cc with
  | some ⟨_, _, .cell (some (.ref a)), _⟩ => some a
  | _ => none
theorem cellOf_ok {K : Frag} {cc D : Addr} (h : cellOf K cc = some D) : ∃ cl cld csl, K.lookup cc = some ⟨cl, cld, .cell (some (.ref D)), csl⟩ := by
  unfold cellOf at h
  split at h
  · rename_i a b c d e
    cases h
    exact ⟨_, _, _, e⟩
  · cases h
def fileOf (K : Frag) (v : Value) : Option Str := match v with
  | .ref c => (match K.lookup c with
    | some ⟨_, _, .fields vs, _⟩ => (match (vs.toList[2]? : Option Value) with
      | some (.str y _) => some y
      | _ => none)
    | _ => none)
  | _ => none
theorem fileOf_ok {K : Frag} {v : Value} {z : Str} (h : fileOf K v = some z) : ∃ c ccl cdd vs ccs t, v = .ref c ∧ K.lookup c = some ⟨ccl, cdd, .fields vs, ccs⟩ ∧ vs.toList[2]? = some (.str z t) := by
  unfold fileOf at h
  split at h
  · split at h
    · split at h
      · rename_i e1 _ _ _ e2
        cases h
        exact ⟨_, _, _, _, _, _, rfl, by assumption, by assumption⟩
      · cases h
    · cases h
  · cases h
def cloCell (K : Frag) (f : Addr) : Option Addr := match K.lookup f with
  | some ⟨_, _, .func fd, _⟩ => (match fd.closure with
    | [p] => cellOf K p.2
    | _ => none)
  | _ => none
def fnFile (K : Frag) (f : Addr) : Option Str := match K.lookup f with
  | some ⟨_, _, .func fd, _⟩ => fileOf K fd.code
  | _ => none
/-- what of the written part such a def leans on: f the def, D its class, f2 the __init__ of the class above, z the text's file -/
def supB (K : Frag) (f D f2 : Addr) (z : Str) : Bool :=
  decide (cloCell K f = some D) && (decide (fnFile K f = some z) &&
  ((PySem.W.clsIn K D).isSome && (decide (PySem.W.mroIn K D (.ref D) = some true) && (eqO (PySem.W.ks_superIn K D D "__init__") (some (some (.ref f2))) &&
  (decide (PySem.W.typeIn K (.ref f2) = some (.type "function")) && (PySem.W.fnIn K f2 && (eqO (PySem.W.nsIn K mainGlobals "super") (some none) && eqO (PySem.W.nsIn K cStatics "thirdparty.any") (some none))))))))
def cSup (x y z : Str) : Ck := fun K => supB K (ma K (ga K x) "__init__") (ga K x) (ma K (ga K y) "__init__") z
structure SupOk (K : Frag) (f D f2 : Addr) (z : Str) (cc : Addr) (cdv : Value) : Prop where
  cell : ∃ cl cld csl, K.lookup cc = some ⟨cl, cld, .cell (some (.ref D)), csl⟩
  code : ∃ c ccl cdd vs ccs t, cdv = .ref c ∧ K.lookup c = some ⟨ccl, cdd, .fields vs, ccs⟩ ∧ vs.toList[2]? = some (.str z t)
  cls : ∃ cd, PySem.W.clsIn K D = some cd
  mro : PySem.W.mroIn K D (.ref D) = some true
  sup : PySem.W.ks_superIn K D D "__init__" = some (some (.ref f2))
  ty : PySem.W.typeIn K (.ref f2) = some (.type "function")
  fi : PySem.W.fnIn K f2 = true
  bsup : PySem.W.nsIn K mainGlobals "super" = some none
  thrd : PySem.W.nsIn K cStatics "thirdparty.any" = some none
theorem supB_ok {K : Frag} {f D f2 : Addr} {z : Str} {fd : FuncData} {oc : Value} {od : Option Addr} {osl : Array (Option Value)} {y : Str} {cc : Addr} (h : supB K f D f2 z = true) (hf : K.lookup f = some ⟨oc, od, .func fd, osl⟩) (hc : fd.closure = [(y, cc)]) : SupOk K f D f2 z cc fd.code := by
  obtain ⟨h0, h⟩ := Bool.and_eq_true_iff.mp h
  obtain ⟨h1, h⟩ := Bool.and_eq_true_iff.mp h
  obtain ⟨h2, h⟩ := Bool.and_eq_true_iff.mp h
  obtain ⟨h3, h⟩ := Bool.and_eq_true_iff.mp h
  obtain ⟨h4, h⟩ := Bool.and_eq_true_iff.mp h
  obtain ⟨h5, h⟩ := Bool.and_eq_true_iff.mp h
  obtain ⟨h6, h⟩ := Bool.and_eq_true_iff.mp h
  obtain ⟨h7, h8⟩ := Bool.and_eq_true_iff.mp h
  have c1 : cloCell K f = some D := of_decide_eq_true h0
  have c2 : fnFile K f = some z := of_decide_eq_true h1
  unfold cloCell at c1
  unfold fnFile at c2
  rw [hf] at c1 c2
  dsimp only at c1 c2
  rw [hc] at c1
  exact ⟨cellOf_ok c1, fileOf_ok c2, Option.isSome_iff_exists.mp h2, of_decide_eq_true h3, eqO_ok h4, of_decide_eq_true h5, h6, eqO_ok h7, eqO_ok h8⟩

/-- the scope of such a def -/
structure SupScope (N ps : List Str) (sc : Scope) : Prop where
  kind : sc.kind = .function
  co : sc.isCoroutine = false
  gen : sc.isGenerator = false
  nd : N.Nodup
  pre : N = ps
  par : ∀ x ∈ ps, sc.names.lookup x = some .local
  nocell : ∀ y ∈ sc.names, y.2 ≠ .cell
  fr : ∀ y ∈ sc.names, y.2 = .free → y.1 = "__class__"
  ks : sc.names.lookup ("super" : Str) = some .globalImplicit
  kc : sc.names.lookup ("__class__" : Str) = some .free

/-- the context of such a def's body -/
def supCx (P : Program) (w : World) (K : Frag) (mg : Str → Option Value) (base : Heap) (N : List Str) (qual : Str) (scope : Scope) (f : Addr) (cd : Value) (cc : Addr) (A : Around) (outer : List Env) (s : Shared) (H : Hp) (E : XK) : Cx where
  prog := P
  w := w
  K := K
  mg := mg
  base := base
  A := A.deeper (PySem.W.ksEnv qual scope s.heap.objs.size f cd cc)
  N := N
  s_0 := s
  H_0 := H
  env := PySem.W.ksEnv qual scope s.heap.objs.size f cd cc
  outer := outer
  stack := PySem.W.ksEnv qual scope s.heap.objs.size f cd cc :: outer
  ex := []
  calm := true
  fn := fun _ => false
  pn := []
  xe := fun e s' => wpAny (model P w) (A.deeper (PySem.W.ksEnv qual scope s.heap.objs.size f cd cc)) (leaving (PySem.W.ksEnv qual scope s.heap.objs.size f cd cc) e) (fun _ s'' => L2.CX P w outer H s E e s'') (fun e' s'' => L2.CX P w outer H s E e' s'') s'

theorem rev_look {ps : List Str} {us : List Value} {i : Nat} {x : Str} {u : Value} (nd : ps.Nodup) (h1 : ps[i]? = some x) (h2 : us[i]? = some u) : (ps.zip us).reverse.lookup x = some u := NdefX.zip_look nd h1 h2

theorem sup_inv {P : Program} {w : World} {K : Frag} {mg : Str → Option Value} {base : Heap} {N ps : List Str} {qual : Str} {scope : Scope} {f D f2 cc : Addr} {z : Str} {cd : Value} {A : Around} {outer : List Env} {s : Shared} {h₁ : Heap} {tk : Nat} {H : Hp} {E : XK} {us : List Value} {vs : List V}
    (S : SupScope N ps scope) (O : SupOk K f D f2 z cc cd) (hd : A.handled = none) (e0 : Env0 P w K mg base A outer s H) (hl : vs.length = ps.length) (r : Vals vs us)
    (hns : h₁.Ns s.heap.objs.size (fun x => (ps.zip us).reverse.lookup x)) (hk : ∀ b o, s.heap.get? b = some o → h₁.get? b = some o) :
    Inv (supCx P w K mg base N qual scope f cd cc A outer s H E) [] (L2.start N vs) H { s with heap := h₁, toks := tk } := by
  have noA : ∀ b : Addr, b ∉ (supCx P w K mg base N qual scope f cd cc A outer s H E).ex := fun b z => absurd (show b ∈ ([] : List Addr) from z) (by simp)
  have cl1 : ∀ y c, (supCx P w K mg base N qual scope f cd cc A outer s H E).env.cells.lookup y = some c → y = "__class__" ∧ c = cc := fun y c h => by
    have h' : (match y == ("__class__" : Str) with | true => some cc | false => none) = some c := h
    cases e : (y == ("__class__" : Str)) with
    | true => rw [e] at h'; exact ⟨beq_iff_eq.mp e, (Option.some.inj h').symm⟩
    | false => rw [e] at h'; cases h'
  obtain ⟨cl, cld, csl, hcell⟩ := O.cell
  have KX : K.In s.heap := e0.mod.kin.keeps fun b o e => (e0.bs b o e).1
  refine ⟨⟨e0.mod, S.kind, rfl, rfl, Nat.le_refl _, fun y z c h1 h2 => ?_, fun y hy => ?_, fun y c hf _ => ?_, fun _ => hd, Around.frames_deeper e0.frames, .inr ⟨rfl, rfl⟩, fun b z => absurd z (noA b), e0.bs, e0.bsz, fun b _ _ => noA b, fun b z => absurd z (noA b), e0.funs, e0.frf⟩,
    rfl, e0.bare, Un.kept hk, ⟨_, hns, fun i y v h1 h2 h3 => ?_⟩, fun y c h => ?_, e0.hok.fresh (Nat.le_refl _), fun y c h => ?_, fun p hp => absurd (show p ∈ ([] : List (Addr × Obj)) from hp) (by simp), e0.hok.kept hk, ?_⟩
  · exact (cl1 y c h1).1.trans (cl1 z c h2).1.symm
  · have hy : scope.names.lookup y = some .cell ∨ scope.names.lookup y = some .free := hy
    rcases hy with hy | hy
    · exact absurd rfl (S.nocell _ (PySem.mem_of_lookup hy))
    · have e := S.fr _ (PySem.mem_of_lookup hy) rfl
      have e' : y = "__class__" := e
      subst e'
      exact ⟨cc, by rfl⟩
  · cases (show false = true from hf)
  · have hN : vs.length = N.length := by rw [S.pre]; exact hl
    have hs : L2.start N vs = vs.map some := by
      unfold L2.start
      rw [hN, Nat.sub_self]
      simp
    rw [hs, List.getElem?_map] at h2
    cases e : vs[i]? with
    | none => rw [e] at h2; cases h2
    | some a =>
      rw [e] at h2
      cases h2
      obtain ⟨u, hu, rv⟩ := r.get e
      have hp : ps[i]? = some y := by rw [← S.pre]; exact h1
      have nd : ps.Nodup := by rw [← S.pre]; exact S.nd
      exact ⟨u, rv, .inl ⟨S.par y (List.mem_of_getElem? hp), rev_look nd hp hu⟩⟩
  · obtain ⟨_, rfl⟩ := cl1 y c h
    exact ⟨_, _, hk _ _ (KX _ _ hcell), rfl⟩
  · obtain ⟨_, rfl⟩ := cl1 y c h
    exact (e0.bs _ _ (e0.mod.kin _ _ hcell)).2
  · rw [show (L2.start N vs).length = N.length from ?_]
    rfl
    unfold L2.start
    rw [List.length_append, List.length_map, List.length_replicate, S.pre, hl]
    omega

theorem fn_super {P : Program} {w : World} {K : Frag} {mg : Str → Option Value} {base : Heap} {k : Nat} {f D f2 : Addr} {fd2 : FuncData} {x qual z : Str} {st : Stmt} {N ps ps2 : List Str} {sp sp2 : Sp} {e : Expr} {es : List Expr} {p0 p1 apos pos pos2 : Pos} {ar : Arg} {ta : TA}
    (F : FunC K x qual "__class__" st f) (S : SupScope N ps (defScope st)) (hB : supB K f D f2 z = true) (hz : ((P.main.file : Str) == z) = true) (htop : (P.main.scope.names.lookup ("super" : Str)).isSome = false)
    (hb : defBody st = [.Expr (.Call (.Attribute (.Call (.Name "super" p0) [] [] p1) "__init__" apos) (e :: es) [] pos) pos2])
    (har : ((defArgs st).posonlyargs ++ (defArgs st).args).head? = some ar) (hself : ps[0]? = some ar.arg)
    (F2 : FnOk P w K mg base (L2.CX P w) k f2 fd2 ps2 sp2) (b2 : Binds K fd2 ps2 [])
    (len : ∀ vs H Q E, sp vs H Q E → vs.length = ps.length)
    (ha : ∀ (cdv : Value) (cc : Addr) (A : Around) (outer : List Env) (s : Shared) (H : Hp) (E : XK), PA (supCx P w K mg base N qual (defScope st) f cdv cc A outer s H E) (e :: es) ta)
    {pl : Env → Sem Bool} (ht : ∀ env : Env, eval (.Call (.Attribute (.Call (.Name "super" p0) [] [] p1) "__init__" apos) (e :: es) [] pos) env = (do
      let ov ← attributeBase (.Call (.Name "super" p0) [] [] p1) "__init__" env (eval (.Call (.Name "super" p0) [] [] p1) env)
      standAt apos.atName
      let (g, first) ← holding [ov] (getMethod ov "__init__" (pl env))
      callWith pos g first (backTo pos (starEach (e :: es) env)) []))
    (hst : ∀ env : Env, starEach (e :: es) env = (false, eval e env) :: starEach es env) (hpl : ∀ env : Env, (backTo pos (starEach es env)).any (·.1) = false)
    (hsp : ∀ vs H Q E, sp vs H Q E → ∃ xa dx fs, vs[0]? = some (.ref xa) ∧ H xa = some (.ins D dx fs) ∧ ta (L2.start N vs) H fun us H1 => sp2 (.ref xa :: us) H1 (fun v H2 => Q .non H2) E) :
    FnOk P w K mg base (L2.CX P w) (k + 1) f (fdAt K f) ps sp := by
  obtain ⟨oc, od, cc, kV, doc, pm, an, cdv, ct, osl, lk, hcd⟩ := F.ex
  have efd : fdAt K f = PySem.W.fnX x qual (defArgs st) (defBody st) (defScope st) [("__class__", cc)] .none kV doc pm an cdv ct := by
    unfold fdAt
    rw [lk]
  rw [efd]
  have O : SupOk K f D f2 z cc cdv := supB_ok hB lk rfl
  refine ⟨len, fun A outer s H args us vs Q E hr e0 hbd r hq => ?_⟩
  have hl := len _ _ _ _ hq
  have KX : K.In s.heap := e0.mod.kin.keeps fun b o e => (e0.bs b o e).1
  have lim : s.heap.NoLimit := e0.mod.nolimit.keeps fun b o e => (e0.bs b o e).1
  have hloc : ∀ y ∈ ps.zip us, (defScope st).names.lookup y.1 = some .local := fun ⟨n, v⟩ hy => S.par n (List.of_mem_zip hy).1
  refine PySem.ks_codeAny_call_defAt (fd := PySem.W.fnX x qual (defArgs st) (defBody st) (defScope st) [("__class__", cc)] .none kV doc pm an cdv ct) hr.depth (KX _ _ lk) rfl lim (PySem.W.codeRec_of KX hcd) rfl hbd S.nocell hloc (fun h₁ hns hk₁ => ?_) S.co S.gen S.kind
  have I := sup_inv (qual := qual) (E := E) (tk := s.toks + (ps.zip us).length) S O hr.hd e0 hl r hns hk₁
  obtain ⟨xa, dx, fs, hv0, hx, hta⟩ := hsp _ _ _ _ hq
  -- the body
  have hex : execs (defBody st) (PySem.W.ksEnv qual (defScope st) s.heap.objs.size f cdv cc) = execs [.Expr (.Call (.Attribute (.Call (.Name "super" p0) [] [] p1) "__init__" apos) (e :: es) [] pos) pos2] (PySem.W.ksEnv qual (defScope st) s.heap.objs.size f cdv cc) := by rw [hb]
  show PySem.wpAt (model P w) (A.deeper (PySem.W.ksEnv qual (defScope st) s.heap.objs.size f cdv cc)) (.func (defBody st) (PySem.W.ksEnv qual (defScope st) s.heap.objs.size f cdv cc)) (execs (defBody st) (PySem.W.ksEnv qual (defScope st) s.heap.objs.size f cdv cc)) _ _ _
  rw [hex]
  have hint : interactive (PySem.W.ksEnv qual (defScope st) s.heap.objs.size f cdv cc) = false := I.quiet
  have X1 : K.In h₁ := KX.keeps hk₁
  obtain ⟨cl, cld, csl, hcell⟩ := O.cell
  obtain ⟨c, ccl, cdd, vcs, ccs, tf, ecd, hcode, hvs⟩ := O.code
  obtain ⟨cdD, hcD⟩ := O.cls
  have hvs' : vcs[2]? = some (.str z tf) := by rw [← Array.getElem?_toList]; exact hvs
  obtain ⟨oD, hD1, hD2⟩ : ∃ oD, h₁.get? D = some oD ∧ oD.data = .cls cdD := by
    unfold PySem.W.clsIn at hcD
    split at hcD
    · rename_i ho
      cases hcD
      exact ⟨_, X1 _ _ ho, rfl⟩
    · cases hcD
  obtain ⟨of, hof, hofc⟩ : ∃ of, K.lookup f2 = some of ∧ of.cls = .type "function" := by
    have ht : (K.lookup f2).map (fun o => o.cls) = some (.type "function") := O.ty
    cases q : K.lookup f2 with
    | none => rw [q] at ht; cases ht
    | some o => rw [q] at ht; exact ⟨o, rfl, Option.some.inj ht⟩
  obtain ⟨mA, OM, _⟩ := ins_get I.hok hx
  obtain ⟨odx, J, _⟩ := OM.look
  obtain ⟨mb, hmb, hbb⟩ := e0.mod.blt
  have up0 : ∀ b o, base.get? b = some o → h₁.get? b = some o := fun b o q => hk₁ b o (e0.bs b o q).1
  have hself2 : (fun y => (ps.zip us).reverse.lookup y) ar.arg = some (Value.ref xa) := by
    obtain ⟨u, hu, ru⟩ := r.get hv0
    have ru' : u = Value.ref xa := ru
    subst ru'
    exact rev_look (by rw [← S.pre]; exact S.nd) hself hu
  have hka : (defScope st).names.lookup ar.arg = some .local := S.par _ (List.mem_of_getElem? hself)
  refine PySem.ks_wpAt_execs_cons (PySem.ks_wpAt_Expr_any (PySem.ks_wpAt_MethodCall ?_ (ht _)) hint rfl)
  refine PySem.ks_wpAt_super_base (attr := "__init__") (env := PySem.W.ksEnv qual (defScope st) s.heap.objs.size f cdv cc) (f := f) (cc := c) (ar := ar) (fd := PySem.W.fnX x qual (defArgs st) (defBody st) (defScope st) [("__class__", cc)] .none kV doc pm an cdv ct) S.ks S.kc (by decide) rfl (X1 _ _ lk) rfl har ecd (X1 _ _ hcode) rfl hvs' hz htop ?_
  refine PySem.W.ks_loadName_global S.kind S.ks (PySem.Calls.loadGlobal_builtin (env := PySem.W.ksEnv qual (defScope st) s.heap.objs.size f cdv cc) (e0.mod.glob.keeps up0) (PySem.W.mg_none_of e0.mod.kin e0.mod.glob O.bsup) (hmb.keeps up0) ((hbb _ (by decide +kernel)).trans (by decide +kernel)) ⟨rfl, ?_⟩)
  refine wpAny_loadName_free S.kind S.kc rfl ⟨_, X1 _ _ hcell, rfl⟩ ?_
  refine wpAny_loadName_local S.kind hka hns hself2 ?_
  refine PySem.ks_wpAny_isType_cls hD1 hD2 ⟨rfl, ?_⟩
  refine PySem.ks_wpAny_call_super hD1 hD2 J.at_ J.cls (fun c e => ?_) (PySem.W.looks_mroIn X1 O.mro) (fun h' es' kk => ?_)
  · have := J.no
    unfold PySem.W.notCls at this
    rw [e] at this
    exact Bool.noConfusion this
  -- the super object stands; its __init__, bound
  have I2 := I.kept (h' := h') (t' := s.toks + (ps.zip us).length) kk
  have X2 : K.In h' := X1.keeps kk
  have hal : PySem.W.alongIn K "__init__" ((cdD.mro.dropWhile (· != .ref D)).drop 1) = some (some (.ref f2)) := by
    have q := O.sup
    unfold PySem.W.ks_superIn at q
    rw [hcD] at q
    exact q
  refine PySem.ks_wpAny_getMethod_super es' (PySem.W.looks_opaque X2 O.thrd) (l₀ := cdD.mro) ?_ rfl X2 hal (X2 _ _ hof) hofc (PySem.W.ks_ne X1 J hcD) (by decide) ?_
  · exact fun A Q E s k q => wpAny_bind ((PySem.W.looks_clsIn X2 hcD) A _ E s k (wpAny_pure q))
  have km : ∀ b o, h'.get? b = some o → (h'.push { cls := .type "method", data := .fields #[.ref f2, .ref xa] }).get? b = some o := fun b o q => Heap.get?_push_of_some _ q
  have I3 := I2.kept (h' := h'.push { cls := .type "method", data := .fields #[.ref f2, .ref xa] }) (t' := s.toks + (ps.zip us).length + 1) km
  have hq3 : (h'.push { cls := .type "method", data := .fields #[.ref f2, .ref xa] }).get? h'.objs.size = some (PySem.W.methodObj (.ref f2) (.ref xa)) := Heap.get?_push_at rfl rfl
  have I4 := I3.pins_of (pins' := [(h'.objs.size, PySem.W.methodObj (.ref f2) (.ref xa))]) fun p hp => by
    have e : p = (h'.objs.size, PySem.W.methodObj (.ref f2) (.ref xa)) := by simpa using hp
    subst e
    exact ⟨hq3, I2.hok.fresh (Nat.le_refl _), Nat.ne_of_gt I2.lt, I2.nofs (Nat.le_refl _), fun v q => nomatch q⟩
  have hE : (backToKw pos (keywordEach [] (PySem.W.ksEnv qual (defScope st) s.heap.objs.size f cdv cc))) = [] := rfl
  rw [hst]
  refine PySem.W.callWith_of (P := PySem.W.MethP K h'.objs.size f2 (.ref xa)) (by show ((false || (backTo pos (starEach es _)).any (fun x => x.1)) || false) = false; rw [hpl]; rfl) (PySem.W.keeps_M O.fi) (Calls.evalArgs_plain ?_)
  have hrun := (ha cdv cc A outer s H E).run pos _ _ _ _ _ I4 hta
  rw [hst] at hrun
  refine thn hrun fun us2 s4 ⟨vs2, H2, I5, r2, q2⟩ => ?_
  have hm4 : s4.heap.get? h'.objs.size = some (PySem.W.methodObj (.ref f2) (.ref xa)) := (I5.pin _ (List.mem_cons_self ..)).1
  refine ⟨⟨hm4, I5.kIn⟩, wpAny_call (PySem.W.method_call hm4 ?_)⟩
  have hr2 : Room k (supCx P w K mg base N qual (defScope st) f cdv cc A outer s H E).A := hr.deeper _
  refine codeAny_mono (run_fnR (us := .ref xa :: us2) (vs := .ref xa :: vs2) ((F2.raw b2 .nil).imp fun vs H Q E q => by rw [List.append_nil]; exact q) hr2 (passes_call (takes_of rfl rfl rfl rfl) fun _ _ _ _ q => q) I5 (.cons rfl r2) q2) fun rr s5 hq5 => ?_
  cases rr with
  | error er => exact hq5
  | ok fl =>
    cases fl with
    | ret u =>
      obtain ⟨v, H', J5, _, q⟩ := hq5
      exact wpAt_of_wpAny (wpAny_execs_nil ⟨.non, H', J5.os, J5.bare, J5.base, J5.hok, rfl, q⟩)
    | next => exact False.elim hq5
    | brk => exact False.elim hq5
    | cont => exact False.elim hq5
theorem FunC.binds {K : Frag} {x qual y : Str} {st : Stmt} {f : Addr} {ps : List Str} (F : FunC K x qual y st f)
    (h : ∀ (cc : Addr) (kV doc pm : Value) (an : Option Addr) (cdv ct : Value) (us : List Value), us.length = ps.length → bindArgs (PySem.W.fnX x qual (defArgs st) (defBody st) (defScope st) [(y, cc)] .none kV doc pm an cdv ct) ⟨us, []⟩ = pure (ps.zip us)) : L2.Binds K (fdAt K f) ps [] := by
  obtain ⟨oc, od, cc, kV, doc, pm, an, cdv, ct, osl, lk, hcd⟩ := F.ex
  have efd : fdAt K f = PySem.W.fnX x qual (defArgs st) (defBody st) (defScope st) [(y, cc)] .none kV doc pm an cdv ct := by
    unfold fdAt
    rw [lk]
  rw [efd]
  exact .all (h cc kV doc pm an cdv ct)
end Fw

/-! Fw, part C: lines of any kind; calls by keywords alone; what stays of the heap. -/
namespace Fw
open PySem PySem.Spec PyProof.Rows L2
open He (ga ma eqO eqO_ok)
/-! ### calls -/
/-- f(k = v, ..), no positional value -/
theorem pe_callN0 {X : Cx} {CX : CXT} {k : Nat} {f : Addr} {fd : FuncData} {ps ks : List Str} {sp : Sp} {E : XK} {x : Str} {p pos : Pos} {kws : List Keyword} {tk : TA} {g : List Value → List Value → List Value} {gV : List V → List V → List V}
    (F : FnOk X.prog X.w X.K X.mg X.base CX k f fd ps sp) (hr : Room k X.A) (hg : Gl X x) (hm : X.mg x = some (.ref f)) (hk : PySem.W.keepIn X.K (.ref f) = true) (hb : KBn X.K fd ps 0 ks g gV) (hx : Passes CX X E) (hkw : PK X kws tk)
    (hall : (backToKw pos (keywordEach kws X.env)).all (fun q => q.1.isSome) = true := by rfl) (hks : (backToKw pos (keywordEach kws X.env)).filterMap (fun q => q.1) = ks := by rfl) (hdb : (x == ("__debug__" : Str)) = false := by decide)
    (hpl : ((backTo pos (starEach [] X.env)).any (fun q => q.1) || (backToKw pos (keywordEach kws X.env)).any (fun q => q.1.isNone)) = false := by rfl) :
    PE X (.Call (.Name x p) [] kws pos) (tCallN 0 ks.length sp gV E tNil tk) := by
  refine ⟨fun pins s σ H Q I h => ?_⟩
  refine wpAny_Call_Name_kw (ld_glob I hg hm ?_ hdb)
  refine PySem.W.callWith_KW0 (h₀ := X.base) I.ok.mod.kin hk hall ?_ hpl
  refine thn (hkw.run pos pins s σ H _ I h) fun ws s2 ⟨zs, H2, I2, rz, l1, l2, q2⟩ => ⟨I2.kIn, ?_⟩
  rw [hks]
  exact run_fnN (us := []) (vs := []) F hr hb hx I2 .nil rz rfl l2 q2
/-- how keywords bind where the def has no defaults: h by cases of the lists, each one rfl -/
theorem Fun.kb {K : Frag} {x qual : Str} {st : Stmt} {f : Addr} {fd : FuncData} {ps : List Str} (F : Fun K x qual st f fd) (n : Nat) (ks : List Str) (g : {α : Type} → List α → List α → List α)
    (hrel : ∀ {vs zs : List V} {us ws : List Value}, Vals vs us → Vals zs ws → Vals (g vs zs) (g us ws))
    (h : ∀ (kV doc pm : Value) (an : Option Addr) (cdv ct : Value) (us ws : List Value), us.length = n → ws.length = ks.length → bindArgs (PySem.W.fnOf x qual (defArgs st) (defBody st) (defScope st) .none kV doc pm an cdv ct) ⟨us, ks.zip ws⟩ = pure (ps.zip (g us ws))) :
    KBn K fd ps n ks g g := by
  obtain ⟨oc, od, kV, doc, pm, an, cdv, ct, osl, rfl, lk, hcd⟩ := F.ex
  exact ⟨fun s us ws _ l1 l2 => .of_eq (h kV doc pm an cdv ct us ws l1 l2), fun r1 r2 => hrel r1 r2⟩
/-- the items at these places -/
def pick {α : Type} (l : List α) (is : List Nat) : List α := is.filterMap fun i => l[i]?
theorem Vals.pick {vs : List V} {us : List Value} (r : Vals vs us) (is : List Nat) : Vals (Fw.pick vs is) (Fw.pick us is) := by
  unfold Fw.pick
  induction is with
  | nil => exact .nil
  | cons i is ih =>
    rw [List.filterMap_cons, List.filterMap_cons]
    cases e : vs[i]? with
    | none => rw [r.none_of e]; exact ih
    | some v =>
      obtain ⟨u, hu, rv⟩ := r.get e
      rw [hu]
      exact .cons rv ih
/-! ### lines -/
inductive LK where
  | line | walk | stop
  deriving DecidableEq
def cA (K : Frag) : LK → Addr
  | .line => ga K "Line"
  | .walk => ga K "Walk"
  | .stop => ga K "Stop"
/-- the numbers of a line -/
structure N3 where
  e : Int
  a : Int
  r : Int
  deriving DecidableEq
def N3.ok (n : N3) : Prop := 1 ≤ n.e ∧ 0 ≤ n.a ∧ n.a < n.e ∧ 0 ≤ n.r
def lf (n : N3) : List (Str × V) := putF "held_ride" (.int n.r) (putF "held_at" (.int n.a) (putF "held_every" (.int n.e) []))
theorem lf_e (n : N3) : (lf n).lookup ("held_every" : Str) = some (.int n.e) := by
  unfold lf
  rw [lookup_putF, if_neg (by decide +kernel), lookup_putF, if_neg (by decide +kernel), lookup_putF, if_pos rfl]
theorem lf_a (n : N3) : (lf n).lookup ("held_at" : Str) = some (.int n.a) := by
  unfold lf
  rw [lookup_putF, if_neg (by decide +kernel), lookup_putF, if_pos rfl]
theorem lf_r (n : N3) : (lf n).lookup ("held_ride" : Str) = some (.int n.r) := by
  unfold lf
  rw [lookup_putF, if_pos rfl]
theorem lf_no (n : N3) {m : Str} (h1 : ¬ m = "held_ride") (h2 : ¬ m = "held_at") (h3 : ¬ m = "held_every") : (lf n).lookup m = none := by
  unfold lf
  rw [lookup_putF, if_neg h1, lookup_putF, if_neg h2, lookup_putF, if_neg h3]
  rfl
/-- at a stands a line of the kind k with the numbers n -/
def LnAt (K : Frag) (H : Hp) (a : Addr) (k : LK) (n : N3) : Prop := ∃ dx, H a = some (.ins (cA K k) dx (lf n))
theorem LnAt.same {K : Frag} {H H' : Hp} {a : Addr} {k : LK} {n : N3} (h : LnAt K H a k n) (s : Same H H') : LnAt K H' a k n := let ⟨dx, e⟩ := h; ⟨dx, s _ _ e⟩
/-- what the top must say of the three classes -/
structure LnF (K : Frag) : Prop where
  cls : ∀ k, Cls K (cA K k)
  nE : ∀ k, NoAttr K (cA K k) "held_every"
  nA : ∀ k, NoAttr K (cA K k) "held_at"
  nR : ∀ k, NoAttr K (cA K k) "held_ride"
/-- e.f, a property of lines whose getter hands back the field hf -/
def tLG (K : Frag) (ta : TE) (g : N3 → Int) : TE := fun σ H Q => ta σ H fun x H1 => ∃ a k n, x = .ref a ∧ LnAt K H1 a k n ∧ Q (.int (g n)) H1
theorem pe_lget {X : Cx} {f hf : Str} {g : Addr} {fd : FuncData} {e : Expr} {pos : Pos} {ta : TE} {gg : N3 → Int} (he : PE X e ta) (L : LnF X.K) (hp : ∀ k, ∃ p, PropOf X.K (cA X.K k) f p g)
    (F : ∀ k, FnOk X.prog X.w X.K X.mg X.base (L2.CX X.prog X.w) 1 g fd ["self"] (getSp (cA X.K k) hf)) (hb : Binds X.K fd ["self"] []) (hr : Room 2 X.A) (hl : ∀ n, (lf n).lookup hf = some (.int (gg n)))
    (hab : attributeBase e f X.env (eval e X.env) = eval e X.env) : PE X (.Attribute e f pos) (tLG X.K ta gg) := by
  refine ⟨fun pins s σ H Q I h => ?_⟩
  refine attr_of hab (thn (he.run pins s σ H _ I h) fun u s1 ⟨x, H1, I1, rx, a, k, n, ex, ⟨dx, ea⟩, q⟩ => ?_)
  subst ex
  obtain rfl : u = Value.ref a := rx
  obtain ⟨p, hp⟩ := hp k
  exact getprop_ok I1 ea (L.cls k) hp (F k) hr hb .nil passL ⟨a, dx, _, _, rfl, ea, hl n, q⟩
theorem ok_getter {P : Program} {w : World} {K : Frag} {mg : Str → Option Value} {base : Heap} {CX : CXT} {x qual hf : Str} {st : Stmt} {g C : Addr} {fd : FuncData} {N : List Str} {p1 p2 p3 : Pos} (F : Fun K x qual st g fd) (S : FnScope N ["self"] (defScope st))
    (hN : N[0]? = some ("self" : Str)) (hb : defBody st = [.Return (some (.Attribute (.Name "self" p1) hf p2)) p3]) (c : Cls K C) (n : NoAttr K C hf) : FnOk P w K mg base CX 1 g fd ["self"] (getSp C hf) := by
  obtain ⟨oc, od, kV, doc, pm, an, cdv, ct, osl, rfl, lk, hcd⟩ := F.ex
  exact fn_getter lk hcd S hN hb c n
/-- o.m(e, ..), o a line, m the same def in all three classes -/
def tLM (K : Frag) (sp : Sp) (E : XK) (ta : TE) (t : TA) : TE := fun σ H Q => ta σ H fun x H1 => ∃ a k n, x = .ref a ∧ LnAt K H1 a k n ∧ t σ H1 fun vs H2 => sp (.ref a :: vs) H2 Q E
theorem pe_lmeth {X : Cx} {k0 : Nat} {f : Addr} {fd : FuncData} {ps : List Str} {sp : Sp} {E : XK} {m : Str} {pos apos : Pos} {e o : Expr} {es : List Expr} {ta : TE} {t : TA} {pl : Sem Bool} (he : PE X o ta) (L : LnF X.K) (hm : ∀ k, Meth X.K (cA X.K k) m f)
    (F : FnOk X.prog X.w X.K X.mg X.base (L2.CX X.prog X.w) k0 f fd ps sp) (hr : Room k0 X.A) (hb : Binds X.K fd ps []) (hx : Passes (L2.CX X.prog X.w) X E) (ha : PA X (e :: es) t)
    (n1 : ¬ m = "held_ride" := by decide +kernel) (n2 : ¬ m = "held_at" := by decide +kernel) (n3 : ¬ m = "held_every" := by decide +kernel)
    (hst : starEach (e :: es) X.env = (false, eval e X.env) :: starEach es X.env := by rfl) (hpl : (backTo pos (starEach es X.env)).any (fun q => q.1) = false := by rfl)
    (ht : eval (.Call (.Attribute o m apos) (e :: es) [] pos) X.env = (do
      let ov ← eval o X.env
      standAt apos.atName
      let (g, first) ← holding [ov] (getMethod ov m pl)
      callWith pos g first (backTo pos (starEach (e :: es) X.env)) (backToKw pos (keywordEach [] X.env))) := by rfl) :
    PE X (.Call (.Attribute o m apos) (e :: es) [] pos) (tLM X.K sp E ta t) := by
  refine ⟨fun pins s σ H Q I h => ?_⟩
  refine PySem.W.methodCall_KW (pl := pl) (thn (he.run pins s σ H _ I h) fun u s1 ⟨x, H1, I1, rx, a, k, n, ex, ⟨dx, ea⟩, q⟩ => ?_) ht
  subst ex
  obtain rfl : u = Value.ref a := rx
  refine getmeth_ok I1 ea (L.cls k) (hm k) (lf_no n n1 n2 n3) ?_
  refine PySem.W.callWith_K (first := [.ref a]) (h₀ := X.base) I.ok.mod.kin (hm k).kp (thn (ha.run pos pins s1 σ H1 _ I1 q) fun us s2 ⟨vs, H2, I2, r, q2⟩ => ⟨I2.kIn, ?_⟩) hst hpl
  exact run_fn (us := .ref a :: us) (vs := .ref a :: vs) F hr hb .nil hx I2 (.cons rfl r) (by rw [List.append_nil]; exact q2)
/-- o.m(), o a line -/
theorem pe_lmeth0 {X : Cx} {k0 : Nat} {f : Addr} {fd : FuncData} {ps : List Str} {sp : Sp} {E : XK} {m : Str} {pos apos : Pos} {o : Expr} {ta : TE} {pl : Sem Bool} (he : PE X o ta) (L : LnF X.K) (hm : ∀ k, Meth X.K (cA X.K k) m f)
    (F : FnOk X.prog X.w X.K X.mg X.base (L2.CX X.prog X.w) k0 f fd ps sp) (hr : Room k0 X.A) (hb : Binds X.K fd ps []) (hx : Passes (L2.CX X.prog X.w) X E)
    (n1 : ¬ m = "held_ride" := by decide +kernel) (n2 : ¬ m = "held_at" := by decide +kernel) (n3 : ¬ m = "held_every" := by decide +kernel)
    (ht : eval (.Call (.Attribute o m apos) [] [] pos) X.env = (do
      let ov ← eval o X.env
      standAt apos.atName
      let (g, first) ← holding [ov] (getMethod ov m pl)
      callWith pos g first (backTo pos (starEach [] X.env)) (backToKw pos (keywordEach [] X.env))) := by rfl) :
    PE X (.Call (.Attribute o m apos) [] [] pos) (tLM X.K sp E ta tNil) := by
  refine ⟨fun pins s σ H Q I h => ?_⟩
  refine PySem.W.methodCall_KW (pl := pl) (thn (he.run pins s σ H _ I h) fun u s1 ⟨x, H1, I1, rx, a, k, n, ex, ⟨dx, ea⟩, q⟩ => ?_) ht
  subst ex
  obtain rfl : u = Value.ref a := rx
  refine getmeth_ok I1 ea (L.cls k) (hm k) (lf_no n n1 n2 n3) ?_
  exact PySem.W.callWith_K0 (first := [.ref a]) I1.kIn (hm k).kp (run_fn (us := [.ref a]) (vs := [.ref a]) F hr hb .nil hx I1 (.cons rfl .nil) (by rw [List.append_nil]; exact q))
/-- line(e, ..) -/
theorem pe_lcall {X : Cx} {k0 : Nat} {g : Addr} {sp : Sp} {E : XK} {fe e : Expr} {es : List Expr} {tf : TE} {t : TA} {pos : Pos} (hf : PE X fe tf) (c : ∀ k, StX.CallO X.K (cA X.K k) g) (F : FnR X.prog X.w X.K X.mg X.base (L2.CX X.prog X.w) k0 g sp) (hr : Room k0 X.A) (hx : Passes (L2.CX X.prog X.w) X E)
    (ha : PA X (e :: es) t) (ht : eval (.Call fe (e :: es) [] pos) X.env = (do callWith pos (← eval fe X.env) [] (backTo pos (starEach (e :: es) X.env)) (backToKw pos (keywordEach [] X.env))) := by rfl)
    (he : starEach (e :: es) X.env = (false, eval e X.env) :: starEach es X.env := by rfl) (hpl : (backTo pos (starEach es X.env)).any (fun q => q.1) = false := by rfl) :
    PE X (.Call fe (e :: es) [] pos) (fun σ H Q => tf σ H fun y H1 => ∃ a, y = V.ref a ∧ t σ H1 fun vs H2 => (∃ k n, LnAt X.K H2 a k n) ∧ sp (V.ref a :: vs) H2 Q E) := by
  refine ⟨fun pins s σ H Q I h => ?_⟩
  refine Call_ (thn (hf.run pins s σ H _ I h) fun u s1 ⟨y, H1, I1, ry, a, ey, q⟩ => ?_) ht
  subst ey
  obtain rfl : u = Value.ref a := ry
  refine StX.callO_with (thn (ha.run pos pins s1 σ H1 _ I1 q) fun us s2 ⟨vs, H2, I2, r, ⟨k, n, dx, hi⟩, q2⟩ => ?_) he hpl
  have hI : StX.InsC X H2 a (cA X.K k) := .inr ⟨dx, _, hi⟩
  obtain ⟨ox, od, J, hd⟩ := StX.insC_at I2 hI
  exact ⟨⟨_, ox, od, J, hd⟩, StX.run_callO (c k) F hr hx I2 hI r q2⟩

/-! ### heaps: what stays -/
/-- all but what M holds is as it was -/
def Ext (M : Addr → Prop) (H H' : Hp) : Prop := ∀ b o, ¬ M b → H b = some o → H' b = some o
theorem Ext.refl {M : Addr → Prop} {H : Hp} : Ext M H H := fun _ _ _ e => e
theorem Ext.trans {M : Addr → Prop} {H H1 H2 : Hp} (a : Ext M H H1) (b : Ext M H1 H2) : Ext M H H2 := fun c o n e => b c o n (a c o n e)
theorem Ext.same {M : Addr → Prop} {H H' : Hp} (s : Same H H') : Ext M H H' := fun b o _ e => s b o e
theorem Same.new {H : Hp} {p : Addr} {o : HO} (h : H p = none) : Same H (upd H p o) := fun b u e => by rw [upd_ne (ne_of_none e h)]; exact e
theorem Ext.new {M : Addr → Prop} {H : Hp} {p : Addr} {o : HO} (h : H p = none) : Ext M H (upd H p o) := Ext.same (Same.new h)
end Fw

/-! Fw, part D: the tank of draws; numbers; the mathematics of one line taken again and again. -/
namespace Fw
open PySem PySem.Spec PyProof.Rows L2
/-! ### great numbers -/
theorem pow_lt_two {n : Nat} {i : Int} (h1 : -(2 ^ n : Int) < i) (h2 : i < (2 ^ n : Int)) : i.natAbs < 2 ^ n := by
  have e : ((2 ^ n : Nat) : Int) = (2 : Int) ^ n := by simp
  rw [← e] at h1 h2
  omega
/-- i lies within b bits -/
def Sz (b : Nat) (i : Int) : Prop := i.natAbs < 2 ^ b
theorem Sz.of {b : Nat} {i : Int} (h1 : -(2 ^ b : Int) < i) (h2 : i < (2 ^ b : Int)) : Sz b i := pow_lt_two h1 h2
theorem Sz.mono {a b : Nat} {i : Int} (h : Sz a i) (l : a ≤ b) : Sz b i := Nat.lt_of_lt_of_le h (Nat.pow_le_pow_right (by decide) l)
theorem Sz.mul {a b : Nat} {i j : Int} (h : Sz a i) (g : Sz b j) : Sz (a + b) (i * j) := wide_lt h g
theorem Sz.add {a : Nat} {i j : Int} (h : Sz a i) (g : Sz a j) : Sz (a + 1) (i + j) := by
  unfold Sz at *
  rw [Nat.pow_succ]
  omega
theorem Sz.sub {a : Nat} {i j : Int} (h : Sz a i) (g : Sz a j) : Sz (a + 1) (i - j) := by
  unfold Sz at *
  rw [Nat.pow_succ]
  omega
theorem Sz.mod {a : Nat} {i j : Int} (h : 0 < j) (g : Sz a j) : Sz a (i % j) := by
  have h1 := Int.emod_nonneg i (show j ≠ 0 by omega)
  have h2 := Int.emod_lt_of_pos i h
  unfold Sz at *
  omega
theorem Sz.cmul {a b : Nat} {i j : Int} (h : Sz a i) (g : Sz b j) (ha : 0 < a := by decide) (hb : 0 < b := by decide) (l : a + b ≤ 1000000 := by decide) : CMulW i j := wide_mul h g ha hb l
theorem Sz.div {b : Nat} {i j : Int} (h : 0 < j) (g : Sz b j) (hb : 0 < b := by decide) (l : b ≤ 9000 := by decide) : CDivW i j := wide_div h g hb l
theorem Sz.le {a : Nat} {i j : Int} (h0 : 0 ≤ i) (h : i ≤ j) (g : Sz a j) : Sz a i := wide_le h0 h g
/-! ### the tank: a list [c, mixed, drawn], c the list of the digits -/
def tkM (a c : Addr) (b : Addr) : Prop := b = a ∨ b = c
abbrev M127 : Int := 170141183460469231731687303715884105727
/-- N draws may still be made -/
def Tk (a c : Addr) (N : Nat) (H : Hp) : Prop := ∃ (ds : List Int) (m n : Int), H a = some (.lst [.ref c, .int m, .int n]) ∧ H c = some (.lst (ds.map V.int)) ∧ ds.length ≤ 100 ∧ 0 ≤ m ∧ m < M127 ∧ 0 ≤ n ∧ n + (N : Int) ≤ 2 ^ 40
theorem Tk.less {a c : Addr} {N N' : Nat} {H : Hp} (h : Tk a c N H) (l : N' ≤ N) : Tk a c N' H := by
  obtain ⟨ds, m, n, h1, h2, h3, h4, h5, h6, h7⟩ := h
  exact ⟨ds, m, n, h1, h2, h3, h4, h5, h6, by omega⟩
theorem Tk.same {a c : Addr} {N : Nat} {H H' : Hp} (h : Tk a c N H) (s : Same H H') : Tk a c N H' := by
  obtain ⟨ds, m, n, h1, h2, h3⟩ := h
  exact ⟨ds, m, n, s _ _ h1, s _ _ h2, h3⟩
theorem Tk.ne {a c : Addr} {N : Nat} {H : Hp} (h : Tk a c N H) : a ≠ c := by
  obtain ⟨ds, m, n, h1, h2, _⟩ := h
  intro e
  subst e
  rw [h1] at h2
  cases ds with
  | nil => cases h2
  | cons d r => cases h2
/-- an object that is no list is none of the tank's -/
theorem Tk.out {a c p : Addr} {N : Nat} {H : Hp} {o : HO} (h : Tk a c N H) (e : H p = some o) (d : ∀ xs, o ≠ .lst xs) : ¬ tkM a c p := by
  obtain ⟨ds, m, n, h1, h2, _⟩ := h
  rintro (rfl | rfl)
  · rw [h1] at e; cases e; exact d _ rfl
  · rw [h2] at e; cases e; exact d _ rfl
theorem Tk.fresh {a c p : Addr} {N : Nat} {H : Hp} (h : Tk a c N H) (e : H p = none) : ¬ tkM a c p := by
  obtain ⟨ds, m, n, h1, h2, _⟩ := h
  rintro (rfl | rfl)
  · rw [h1] at e; cases e
  · rw [h2] at e; cases e
theorem Tk.tup {a c p : Addr} {N : Nat} {H H' : Hp} {xs : List V} (h : Tk a c N H) (x : Ext (tkM a c) H H') (e : H p = some (.tup xs)) : H' p = some (.tup xs) := x _ _ (h.out e fun _ z => nomatch z) e
theorem Tk.line {K : Frag} {a c p : Addr} {N : Nat} {H H' : Hp} {k : LK} {n : N3} (h : Tk a c N H) (x : Ext (tkM a c) H H') (e : LnAt K H p k n) : LnAt K H' p k n := let ⟨dx, e⟩ := e; ⟨dx, x _ _ (h.out e fun _ z => nomatch z) e⟩
theorem Tk.script {K : Frag} {a c p : Addr} {N : Nat} {H H' : Hp} {xs : List V} (h : Tk a c N H) (x : Ext (tkM a c) H H') (e : SqL K H p xs) (hn : ¬ tkM a c p) : SqL K H' p xs := by
  rcases e with (e | ⟨o, e⟩) | e
  · exact .inl (.inl (x _ _ hn e))
  · exact .inl (.inr ⟨o, x _ _ hn e⟩)
  · exact .inr e
/-- sip(tank, many): some number below many, and one draw less -/
def spSip (K : Frag) : Sp := fun vs H Q _ => ∃ (a c : Addr) (N : Nat) (m : Int), vs = [.ref a, .int m] ∧ Tk a c (N + 1) H ∧ 1 ≤ m ∧ Sz 8000 m ∧
  ∀ (v : Int) (H' : Hp), 0 ≤ v → v < m → Ext (tkM a c) H H' → Tk a c N H' → Q (.int v) H'
/-- what the deep == says of a list of ints and the empty list -/
theorem eqv_nil (ds : List PyData) : PyData.eqv (.list ds) (.list []) = decide (ds = []) := by
  cases ds with
  | nil => rfl
  | cons d r => rfl
theorem dpAll_ints {K : Frag} {H : Hp} : ∀ ds : List Int, DpAll K H (ds.map V.int) (ds.map PyData.int)
  | [] => .nil
  | d :: r => .cons (.int d) (dpAll_ints r)
theorem canLay_ints : ∀ ds : List Int, PyData.canLayAll0 (ds.map PyData.int) = true
  | [] => by simp [PyData.canLayAll0]
  | d :: r => by
    rw [List.map_cons]
    simp only [PyData.canLayAll0, PyData.canLay0, canLay_ints r, Bool.and_self]
theorem depth_ints : ∀ ds : List Int, PyData.depthAll (ds.map PyData.int) = 0
  | [] => by simp [PyData.depthAll]
  | d :: r => by
    rw [List.map_cons]
    simp only [PyData.depthAll, PyData.depth, depth_ints r, Nat.max_self]
theorem shaped_ints (ds : List Int) : SeqAt.shaped (.list (ds.map PyData.int)) = true := by
  unfold SeqAt.shaped
  simp only [PyData.canLay0, canLay_ints, PyData.depth, depth_ints, Bool.true_and]
  decide
theorem ifT {p A B : Prop} [Decidable p] (h : p) (a : A) : if decide p = true then A else B := by
  rw [if_pos (decide_eq_true h)]
  exact a
theorem ifF {p A B : Prop} [Decidable p] (h : ¬ p) (b : B) : if decide p = true then A else B := by
  rw [if_neg (by rw [decide_eq_false h]; exact Bool.false_ne_true)]
  exact b
theorem ifD {p A B : Prop} [Decidable p] (h : p → A) (g : ¬ p → B) : if decide p = true then A else B := by
  by_cases c : p
  · exact ifT c (h c)
  · exact ifF c (g c)
theorem qT {p : Prop} [Decidable p] {Q : VK} {H : Hp} (h : p) (q : Q (.bl true) H) : Q (.bl (decide p)) H := by
  rw [decide_eq_true h]
  exact q
theorem qF {p : Prop} [Decidable p] {Q : VK} {H : Hp} (h : ¬ p) (q : Q (.bl false) H) : Q (.bl (decide p)) H := by
  rw [decide_eq_false h]
  exact q
theorem at0 {α : Type} {x : α} {xs : List α} : atI (x :: xs) 0 = some x := atI_nat (j := 0) rfl
theorem ix0 {n : Nat} : ixN (n + 1) 0 = some 0 := by
  unfold ixN
  rw [if_pos (by decide), if_pos (by omega)]
  rfl
theorem sq0 {n : Nat} : seqIndex? 0 (n + 1) = some 0 := by
  have h := (ixN_seq (ix0 (n := n))).1
  exact h
theorem Sz.m127 {m : Int} (h0 : 0 ≤ m) (h1 : m < M127) : Sz 127 m := by
  have a : (0 : Int) < 2 ^ 127 := by decide
  exact Sz.of (by omega) (Int.lt_of_lt_of_le h1 (by decide))
theorem Sz.n40 {n : Int} (h0 : 0 ≤ n) (h1 : n ≤ 2 ^ 40) : Sz 41 n := by
  have a : (0 : Int) < 2 ^ 41 := by decide
  have b : (2 : Int) ^ 40 < 2 ^ 41 := by decide
  exact Sz.of (by omega) (by omega)
/-- the items of a cut list of ints -/
def cutI (ns : List Int) (lo hi : Option Int) : List Int := (ns.drop (HT.sIx ns.length 0 lo)).take (HT.sIx ns.length ns.length hi - HT.sIx ns.length 0 lo)
theorem cutV_ints (ns : List Int) (lo hi : Option Int) : cutV (ns.map V.int) lo hi = (cutI ns lo hi).map V.int := by
  unfold cutV cutI
  rw [List.length_map, List.map_take, List.map_drop]
theorem cutI_le (ns : List Int) (lo hi : Option Int) : (cutI ns lo hi).length ≤ ns.length := by
  unfold cutI
  rw [List.length_take, List.length_drop]
  omega
theorem get_ints {ns : List Int} {i : Nat} {x : V} (h : (ns.map V.int)[i]? = some x) : ∃ z, ns[i]? = some z ∧ x = .int z := by
  rw [List.getElem?_map] at h
  cases e : ns[i]? with
  | none => rw [e] at h; cases h
  | some z => rw [e] at h; exact ⟨z, rfl, (Option.some.inj h).symm⟩
/-! ### rounds -/
def dep (n : N3) (t : Int) : Int := t + (n.a - t) % n.e
def rl (n : N3) : Int := n.r + (0 - n.r) % n.e
def arr (n : N3) (t m : Int) : Int := dep n t + (m - 1) * rl n + n.r
def optV : Option Int → V
  | none => .non
  | some i => .int i
def ovt (x y : N3) (t : Int) : Option Int := if arr y t 1 - arr x t 1 < 0 then some 1 else if 0 < rl x - rl y then some (2 + (arr y t 1 - arr x t 1) / (rl x - rl y)) else none
/-- the time from the first departure to the end of m rounds -/
def RR (n : N3) (m : Int) : Int := (m - 1) * rl n + n.r
theorem arr_RR (n : N3) (t m : Int) : arr n t m = dep n t + RR n m := by
  unfold arr RR
  omega
theorem rl_dvd {n : N3} (h : 0 < n.e) : ∃ k, rl n = n.e * k := by
  unfold rl
  have e := Int.emod_add_mul_ediv (0 - n.r) n.e
  refine ⟨-((0 - n.r) / n.e), ?_⟩
  rw [Int.mul_neg]
  omega
theorem RR_mod {n : N3} (h : 0 < n.e) (m : Int) : (0 - RR n m) % n.e = (0 - n.r) % n.e := by
  obtain ⟨k, e⟩ := rl_dvd h
  unfold RR
  rw [e, show (0 : Int) - ((m - 1) * (n.e * k) + n.r) = (0 - n.r) + n.e * (-((m - 1) * k)) by
    rw [Int.mul_neg, Int.mul_left_comm]
    omega]
  exact Int.add_mul_emod_self_left ..
theorem RR_add {n : N3} (h : 0 < n.e) (j k : Int) : RR n j + (0 - RR n j) % n.e + RR n k = RR n (j + k) := by
  rw [RR_mod h]
  have e : rl n = n.r + (0 - n.r) % n.e := rfl
  generalize hd : (0 - n.r) % n.e = d at e
  unfold RR
  rw [e]
  have e1 : (j + k - 1) * (n.r + d) = (j - 1) * (n.r + d) + (k - 1) * (n.r + d) + (n.r + d) := by
    rw [← Int.add_mul, show j + k - 1 = (j - 1 + (k - 1)) + 1 by omega, Int.add_mul _ 1, Int.one_mul]
  omega
theorem rl_nn {n : N3} (h : n.ok) : n.r ≤ rl n ∧ rl n < n.r + n.e := by
  obtain ⟨h1, h2, h3, h4⟩ := h
  have a := Int.emod_nonneg (0 - n.r) (show n.e ≠ 0 by omega)
  have b := Int.emod_lt_of_pos (0 - n.r) (show 0 < n.e by omega)
  unfold rl
  omega
theorem dep_le {n : N3} (h : n.ok) (t : Int) : t ≤ dep n t ∧ dep n t < t + n.e := by
  obtain ⟨h1, h2, h3, h4⟩ := h
  have a := Int.emod_nonneg (n.a - t) (show n.e ≠ 0 by omega)
  have b := Int.emod_lt_of_pos (n.a - t) (show 0 < n.e by omega)
  unfold dep
  omega
/-- the law's own arrival after m rounds -/
def farN (n : N3) (s m : Int) : Int := if m = 0 then s else arr n s m
theorem at_mem {α : Type} {xs : List α} {v : Int} (h0 : 0 ≤ v) (h1 : v < (xs.length : Int)) : ∃ x, atI xs v = some x ∧ x ∈ xs := by
  obtain ⟨j, rfl⟩ : ∃ j : Nat, v = (j : Int) := ⟨v.toNat, by omega⟩
  have hj : j < xs.length := by omega
  exact ⟨xs[j], atI_nat (List.getElem?_eq_getElem hj), List.getElem_mem hj⟩
theorem at_ints (is : List Int) {v : Int} (h0 : 0 ≤ v) (h1 : v < (is.length : Int)) : ∃ i, atI (is.map V.int) v = some (.int i) ∧ i ∈ is := by
  obtain ⟨x, e, m⟩ := at_mem (xs := is.map V.int) h0 (by rw [List.length_map]; exact h1)
  obtain ⟨i, hi, rfl⟩ := List.mem_map.mp m
  exact ⟨i, e, hi⟩
theorem mk_same {H : Hp} {x dx : Addr} {o o1 o2 : HO} (hx : H x = none) (hd : H dx = none) : Same H (upd (upd (upd H dx o) x o1) x o2) := fun b u e => by
  rw [upd_ne (ne_of_none e hx), upd_ne (ne_of_none e hx), upd_ne (ne_of_none e hd)]
  exact e
/-- a tuple of a line's three numbers -/
def T3 (H : Hp) (p : Addr) (n : N3) : Prop := H p = some (.tup [.int n.e, .int n.a, .int n.r])
theorem T3.same {H H' : Hp} {p : Addr} {n : N3} (h : T3 H p n) (s : Same H H') : T3 H' p n := s _ _ h
end Fw
namespace Fw
open PySem PySem.Spec PyProof.Rows L2
theorem lead_m (x y : N3) (s m : Int) (hm : 1 ≤ m) : farN x s m - farN y s m = (m - 1) * (rl x - rl y) - (arr y s 1 - arr x s 1) := by
  unfold farN
  rw [if_neg (by omega), if_neg (by omega)]
  unfold arr
  rw [Int.mul_sub]
  simp only [Int.sub_self, Int.zero_mul]
  omega
theorem ovt_right {x y : N3} {s : Int} (hA : arr y s 1 - arr x s 1 ≤ 10 ^ 60) :
    (ovt x y s = none ∧ arr x s 1 - arr y s 1 ≤ 0 ∧ rl x - rl y ≤ 0) ∨
    (∃ t, ovt x y s = some t ∧ ¬ (arr x s 1 - arr y s 1 ≤ 0 ∧ rl x - rl y ≤ 0) ∧ 1 ≤ t ∧ t ≤ 10 ^ 61 ∧ (1 < t → ¬ 0 < farN x s (t - 1) - farN y s (t - 1)) ∧ 0 < farN x s t - farN y s t) := by
  unfold ovt
  generalize hA' : arr y s 1 - arr x s 1 = A at *
  have eA : arr x s 1 - arr y s 1 = -A := by omega
  rw [eA]
  by_cases c : A < 0
  · rw [if_pos c]
    refine .inr ⟨1, rfl, by omega, by omega, by decide, fun h => absurd h (by decide), ?_⟩
    rw [lead_m x y s 1 (by decide), hA']
    simp only [Int.sub_self, Int.zero_mul]
    omega
  · rw [if_neg c]
    by_cases d : 0 < rl x - rl y
    · rw [if_pos d]
      have q0 : 0 ≤ A / (rl x - rl y) := Int.ediv_nonneg (by omega) (by omega)
      have q1 : A / (rl x - rl y) ≤ A := Int.ediv_le_self _ (by omega)
      have q2 := Int.emod_add_mul_ediv A (rl x - rl y)
      have q3 := Int.emod_nonneg A (show rl x - rl y ≠ 0 by omega)
      have q4 := Int.emod_lt_of_pos A d
      rw [Int.mul_comm] at q2
      refine .inr ⟨_, rfl, by omega, by omega, by omega, fun _ => ?_, ?_⟩
      · rw [lead_m x y s _ (by omega), hA', show 2 + A / (rl x - rl y) - 1 - 1 = A / (rl x - rl y) by omega]
        omega
      · rw [lead_m x y s _ (by omega), hA', show 2 + A / (rl x - rl y) - 1 = A / (rl x - rl y) + 1 by omega, Int.add_mul, Int.one_mul]
        omega
    · rw [if_neg d]
      exact .inl ⟨rfl, by omega, by omega⟩
end Fw

/-! Fw, part E: rounds. -/
namespace Fw
open PySem PySem.Spec PyProof.Rows L2
theorem farN_RR {n : N3} {s m : Int} (h : 1 ≤ m) : farN n s m = dep n s + RR n m := by
  unfold farN
  rw [if_neg (by omega), arr_RR]
theorem dep_mod {n : N3} (h : n.ok) (s : Int) : ∃ k, dep n s = n.a + n.e * k := by
  unfold dep
  have e := Int.emod_add_mul_ediv (n.a - s) n.e
  refine ⟨-((n.a - s) / n.e), ?_⟩
  rw [Int.mul_neg]
  omega
theorem farN_add {n : N3} (h : n.ok) {s m k : Int} (hm : 0 ≤ m) (hk : 0 ≤ k) : farN n (farN n s m) k = farN n s (m + k) := by
  by_cases m0 : m = 0
  · subst m0
    rw [Int.zero_add]
    unfold farN
    rw [if_pos rfl]
  by_cases k0 : k = 0
  · subst k0
    rw [Int.add_zero]
    generalize farN n s m = z
    unfold farN
    rw [if_pos rfl]
  have he : 0 < n.e := by have := h.1; omega
  rw [farN_RR (s := farN n s m) (by omega), farN_RR (s := s) (m := m) (by omega), farN_RR (by omega), ← RR_add he m k]
  obtain ⟨j, e⟩ := dep_mod h s
  have q : dep n (dep n s + RR n m) = dep n s + RR n m + (0 - RR n m) % n.e := by
    show dep n s + RR n m + (n.a - (dep n s + RR n m)) % n.e = _
    rw [show n.a - (dep n s + RR n m) = (0 - RR n m) + n.e * (-j) by rw [Int.mul_neg]; omega, Int.add_mul_emod_self_left]
  rw [q]
  omega
theorem Sz.log {b : Nat} {i : Int} (h : Sz b i) (hb : b ≤ 1920 := by decide) (h0 : 0 < b := by decide) : i.natAbs.log2 < 1920 := by
  by_cases z : i.natAbs = 0
  · rw [z]
    decide
  · have := (Nat.log2_lt z).mpr h
    omega
theorem dep_sz {n : N3} (h : n.ok) {s : Int} {b : Nat} (hs : Sz b s) (he : Sz b n.e) : Sz (b + 1) (dep n s) := by
  have d := dep_le h s
  have h1 := h.1
  unfold Sz at *
  rw [Nat.pow_succ]
  omega
def untl (n : N3) (t g : Int) : Option Int := if g ≤ t then some 0 else if g ≤ arr n t 1 then some 1 else if rl n = 0 then none else some (1 - (arr n t 1 - g) / rl n)
theorem arr1 (n : N3) (t : Int) : arr n t 1 = dep n t + n.r := by
  unfold arr
  simp only [Int.sub_self, Int.zero_mul]
  omega
theorem untl_some {n : N3} {t g : Int} (h : n.ok) (h0 : t < g) (h1 : ¬ (n.r = 0 ∧ dep n t + n.r < g)) :
    ∃ k, untl n t g = some k ∧ 1 ≤ k ∧ k ≤ g - t + rl n + 1 ∧ g ≤ farN n t k ∧ farN n t (k - 1) < g := by
  have d := dep_le h t
  have hr := rl_nn h
  have h4 := h.2.2.2
  unfold untl
  rw [if_neg (by omega), arr1]
  by_cases c : g ≤ dep n t + n.r
  · rw [if_pos c]
    refine ⟨1, rfl, by decide, by omega, ?_, ?_⟩
    · unfold farN
      rw [if_neg (by decide), arr1]
      exact c
    · unfold farN
      rw [if_pos (by decide)]
      exact h0
  · rw [if_neg c]
    have r0 : ¬ n.r = 0 := fun z => h1 ⟨z, by omega⟩
    have l0 : 0 < rl n := by omega
    rw [if_neg (by omega)]
    have e := Int.emod_add_mul_ediv (dep n t + n.r - g) (rl n)
    have m0 := Int.emod_nonneg (dep n t + n.r - g) (show rl n ≠ 0 by omega)
    have m1 := Int.emod_lt_of_pos (dep n t + n.r - g) l0
    have q0 : (dep n t + n.r - g) / rl n < 0 := Int.ediv_lt_of_lt_mul l0 (by omega)
    generalize (dep n t + n.r - g) / rl n = q at *
    generalize (dep n t + n.r - g) % rl n = r at *
    have q1 : rl n * q ≤ 1 * q := Int.mul_le_mul_of_nonpos_right (by omega) (by omega)
    refine ⟨1 - q, rfl, by omega, by omega, ?_, ?_⟩
    · unfold farN
      rw [if_neg (by omega)]
      unfold arr
      rw [show 1 - q - 1 = -q by omega, Int.neg_mul, Int.mul_comm q]
      omega
    · unfold farN
      rw [if_neg (by omega)]
      unfold arr
      rw [show 1 - q - 1 - 1 = -q - 1 by omega, Int.sub_mul, Int.neg_mul, Int.mul_comm q, Int.one_mul]
      omega
theorem untl_none {n : N3} {t g : Int} (h : n.ok) (h0 : t < g) (h1 : n.r = 0) (h2 : dep n t + n.r < g) : untl n t g = none := by
  have hr : rl n = 0 := by
    unfold rl
    rw [h1]
    simp
  unfold untl
  rw [if_neg (by omega), arr1, if_neg (by omega), if_pos hr]
/-! ### rounds one by one -/
def ends41 (n : N3) (s : Int) : List Int := (List.range 41).map fun (i : Nat) => farN n s i
/-! ### comprehensions -/
/-- i items of ys stand in the new list at D, all else is as in H1 -/
def LcP (H1 : Hp) (D : Addr) (ys : List V) (i : Nat) (H : Hp) : Prop := Same H1 H ∧ H D = some (.lst (ys.take i))
theorem LcP.start {H1 : Hp} {D : Addr} {ys : List V} (hD : H1 D = none) : LcP H1 D ys 0 (upd H1 D (.lst [])) := ⟨Same.new hD, upd_same⟩
theorem LcP.step {H1 H H4 : Hp} {D : Addr} {ys : List V} {i : Nat} {y : V} (p : LcP H1 D ys i H) (hD : H1 D = none) (hz : ys.length < sizeLine) (s : Same H H4) (hy : ys[i]? = some y) :
    ∃ acc, H4 D = some (.lst acc) ∧ acc.length < sizeLine ∧ LcP H1 D ys (i + 1) (upd H4 D (.lst (acc ++ [y]))) := by
  obtain ⟨p1, p2⟩ := p
  refine ⟨_, s _ _ p2, Nat.lt_of_le_of_lt (by rw [List.length_take]; omega) hz, fun b o e => ?_, ?_⟩
  · rw [upd_ne (ne_of_none e hD)]
    exact s _ _ (p1 _ _ e)
  · rw [upd_same, List.take_add_one, hy]
    rfl
theorem LcP.done {H1 H : Hp} {D : Addr} {ys : List V} {i : Nat} (p : LcP H1 D ys i H) (h : ys.length ≤ i) : H D = some (.lst ys) := by
  rw [p.2, List.take_of_length_le h]
end Fw

/-! Fw, part G: promises of defs that hold where no repr is under way; repr of data at any depth. -/
namespace Fw
open PySem PySem.Spec PyProof.Rows L2
open He (ga ma)
/-! ### how long a repr is -/
mutual
/-- a bound on the length of the text -/
def wt : PyData → Nat
  | .none => 4
  | .bool _ => 5
  | .int _ => 600
  | .str x => (PyData.shown (.str x)).length
  | .list xs | .tuple xs => wtAll xs + 5
  | .dict kvs => (PyData.shown (.dict kvs)).length
def wtAll : List PyData → Nat
  | [] => 0
  | x :: xs => wt x + 2 + wtAll xs
end
theorem len_app (a b : Str) : (a ++ b).length = a.length + b.length := by
  show (a.cps ++ b.cps).size = _
  rw [Array.size_append]
  rfl
theorem int_len {i : Int} (h : i.natAbs.log2 < 1920) : (Str.ofString (toString i)).length ≤ 600 := by
  have b : i.natAbs < 2 ^ 1920 := by
    by_cases z : i.natAbs = 0
    · rw [z]
      exact Nat.two_pow_pos _
    · exact (Nat.log2_lt z).mp h
  have c : (2 : Nat) ^ 1920 < 10 ^ 598 := by decide +kernel
  by_cases n : 0 ≤ i
  · refine Nat.le_trans (toString_length_le n (k := 598) (by decide) ?_) (by decide)
    have e : ((10 ^ 598 : Nat) : Int) = (10 : Int) ^ 598 := by simp
    rw [← e]
    omega
  · rw [toString_neg (by omega)]
    have q := toString_length_le (v := 0 - i) (by omega) (k := 598) (by decide) (by
      have e : ((10 ^ 598 : Nat) : Int) = (10 : Int) ^ 598 := by simp
      rw [← e]
      omega)
    rw [PyProof.Rows.ofString_length] at q ⊢
    rw [String.toList_append, List.length_append]
    have e1 : ("-" : String).toList.length = 1 := by decide
    omega
theorem textFrom_le : ∀ (ts : List Str) (k : Nat) (acc : Str), (textFrom k acc ts).length ≤ acc.length + piled ts
  | [], _, acc => by
    show acc.length ≤ _
    omega
  | t :: r, k, acc => by
    have ih := textFrom_le r (k + 1) (acc ++ (if k > 0 then ", " else "" : String) ++ t)
    show (textFrom (k + 1) _ r).length ≤ _
    rw [len_app, len_app] at ih
    rw [piled_cons]
    have s2 : (Str.ofString (if k > 0 then ", " else "" : String)).length ≤ 2 := by
      by_cases z : k > 0
      · rw [if_pos z]; decide
      · rw [if_neg z]; decide
    omega
mutual
theorem shown_wt : ∀ d : PyData, d.showable = true → (PyData.shown d).length ≤ wt d
  | .none, _ => by simp only [PyData.shown, wt]; decide
  | .bool b, _ => by cases b <;> simp only [PyData.shown, wt] <;> decide
  | .int i, h => by
    simp only [PyData.showable, decide_eq_true_eq] at h
    simp only [PyData.shown, wt]
    exact int_len h
  | .str x, _ => by simp only [wt]; exact Nat.le_refl _
  | .list xs, h => by
    simp only [PyData.showable] at h
    have q := shownAll_wt xs h
    simp only [PyData.shown, wt]
    unfold listText
    rw [len_app]
    have t := textFrom_le (PyData.shownAll xs) 0 "["
    have e1 : (Str.ofString "[").length = 1 := by decide
    have e2 : (Str.ofString "]").length = 1 := by decide
    omega
  | .tuple xs, h => by
    simp only [PyData.showable] at h
    have q := shownAll_wt xs h
    simp only [PyData.shown, wt]
    unfold tupleText
    rw [len_app, len_app]
    have e1 : (Str.ofString "(").length = 1 := by decide
    have e2 : (Str.ofString (if (PyData.shownAll xs).length == 1 then ",)" else ")" : String)).length ≤ 2 := by
      by_cases z : ((PyData.shownAll xs).length == 1) = true
      · rw [if_pos z]; decide
      · rw [if_neg z]; decide
    by_cases z : PyData.shownAll xs = []
    · rw [z] at e2 ⊢
      have e3 : (Str.join ", " ([] : List Str)).length = 0 := by decide
      omega
    · have t := join_length_add _ z
      omega
  | .dict kvs, _ => by simp only [wt]; exact Nat.le_refl _
theorem shownAll_wt : ∀ ds : List PyData, PyData.showableAll ds = true → piled (PyData.shownAll ds) ≤ wtAll ds
  | [], _ => by simp only [PyData.shownAll, wtAll]; exact Nat.le_refl _
  | d :: r, h => by
    simp only [PyData.showableAll, Bool.and_eq_true] at h
    have q1 := shown_wt d h.1
    have q2 := shownAll_wt r h.2
    simp only [PyData.shownAll, wtAll]
    rw [piled_cons]
    omega
end
/-! ### repr -/
/-- data whose repr is a text of a fit length -/
structure Fit (d : PyData) : Prop where
  sh : d.showable = true
  nd : d.hasDict = false
  dp : d.depth ≤ 40
  wt : wt d ≤ 16777216
theorem call_reprD {X : Cx} (hg : X.A.guards = some []) (hu : X.A.units + 64 < cLine) : CallR X (.builtin "repr") (fun xs H Q => ∃ a d, xs = [.ref a] ∧ Dp X.K H (.ref a) d ∧ Fit d ∧ Q (.str d.shown) H) := by
  intro pins s σ H xs us Q I r h
  obtain ⟨a, d, rfl, hd, f, q⟩ := h
  obtain ⟨u, rfl, ru⟩ := vals1 r
  obtain ⟨as, rd⟩ := Dp.reads I d (.ref a) u hd ru
  obtain rfl : u = Value.ref a := ru
  have hl : d.shown.length ≤ sizeLine := Nat.le_trans (shown_wt d f.sh) f.wt
  have hdp := f.dp
  exact repr_of_reads' rd f.sh (PyData.noDict_hsm f.nd) hg (by omega) (fun _ _ e => e) (fun h' t tk hk => ⟨.str d.shown, H, I.kept hk, ⟨_, rfl⟩, q⟩) hl
/-! ### promises where no repr is under way -/
structure FnG (P : Program) (w : World) (K : PySem.W.Frag) (mg : Str → Option Value) (base : Heap) (CX : CXT) (k : Nat) (f : Addr) (fd : FuncData) (ps : List Str) (sp : Sp) : Prop where
  count : ∀ vs H Q E, sp vs H Q E → vs.length = ps.length
  go : ∀ (A : Around) (outer : List Env) (s : Shared) (H : Hp) (args : Args) (us : List Value) (vs : List V) (Q : VK) (E : XK), A.guards = some [] → Room k A → Env0 P w K mg base A outer s H →
    BindsTo s fd args (ps.zip us) → Vals vs us → sp vs H Q E → codeAny (model P w) A (.call (.ref f) args) (CR CX outer P w H s Q E) s
section
variable {P : Program} {w : World} {K : PySem.W.Frag} {mg : Str → Option Value} {base : Heap}
theorem Fun.okG {x qual : Str} {st : Stmt} {f : Addr} {fd : FuncData} {N ps : List Str} {k : Nat} {sp : Sp} (F : Fun K x qual st f fd) (S : FnScope N ps (defScope st)) (len : ∀ vs H Q E, sp vs H Q E → vs.length = ps.length)
    (body : ∀ (cdv : Value) (A : Around) (outer : List Env) (s : Shared) (H : Hp) (vs : List V) (Q : VK) (E : XK), (A.deeper (envOfC qual (defScope st) s.heap.objs.size f cdv)).guards = some [] → Room k (A.deeper (envOfC qual (defScope st) s.heap.objs.size f cdv)) → sp vs H Q E →
      ∃ t, PSs (cxOf (L2.CX P w) P w K mg base N qual (defScope st) f cdv A outer s H E) (defBody st) t ∧ t { nx := fun _ H' => Q .non H', rt := Q } (L2.start N vs) H) : FnG P w K mg base (L2.CX P w) (k + 1) f fd ps sp := by
  obtain ⟨oc, od, kV, doc, pm, an, cdv, ct, osl, rfl, lk, hcd⟩ := F.ex
  constructor
  · exact len
  intro A outer s H args us vs Q E hg room e0 bound rv want
  have up : ∀ {b : Addr} {o : Obj}, base.get? b = some o → s.heap.get? b = some o := fun {b o} e => (e0.bs b o e).1
  have inK : K.In s.heap := e0.mod.kin.keeps fun b o e => up e
  have free : s.heap.NoLimit := e0.mod.nolimit.keeps fun b o e => up e
  obtain ⟨t, ht, hq⟩ := body cdv A outer s H vs Q E hg (room.deeper _) want
  apply codeAny_call_function room.depth (inK _ _ lk) rfl S.co S.gen rfl (PySem.W.codeRec_of inK hcd) (bound _ _ _ _ ?rest)
  apply wpAny_newFunctionEnv_cells S.kind
  · intro y hy
    obtain ⟨n, v⟩ := y
    cases S.par n (List.of_mem_zip hy).1 with
    | inl q => exact .inl q
    | inr q => exact .inr ⟨q, PySem.W.cellsFrom_some _ _ _ (.inl q)⟩
  intro env ee s1 inC
  subst ee
  refine ⟨free.keeps inC.toInCall.keep, codeAny_func ?_⟩
  have J : Inv (cxOf (L2.CX P w) P w K mg base N qual (defScope st) f cdv A outer s H E) [] (L2.start N vs) H s1 := inv_start S room.hd e0 (len _ _ _ _ want) rv inC
  have close : ∀ {s' : Shared} {τ : L2.St} {H' : Hp} {v : V} {u : Value}, Inv (cxOf (L2.CX P w) P w K mg base N qual (defScope st) f cdv A outer s H E) [] τ H' s' → RelV v u → Q v H' → CE outer P w H s Q u s' := fun i rr qq => ⟨_, _, i.os, i.bare, i.base, i.hok, rr, qq⟩
  refine wpAny_mono (ht.run [] s1 _ H _ J hq) ?_ fun _ _ z => z
  intro fl s' z
  match fl, z with
  | .ret _, ⟨_, _, _, i, rr, qq⟩ => exact close i rr qq
  | .next, ⟨_, _, i, qq⟩ => exact close (v := V.non) (u := Value.none) i rfl qq
  | .brk, ⟨_, _, _, no⟩ => exact False.elim no
  | .cont, ⟨_, _, _, no⟩ => exact False.elim no
end
section
variable {X : Cx} {CX : CXT} {k : Nat} {f : Addr} {fd : FuncData} {ps ks : List Str} {sp : Sp} {E : XK} {x : Str} {p pos : Pos} {e : Expr} {es : List Expr} {t tk : TA} {kws : List Keyword}
theorem runG {pins : List (Addr × Obj)} {σ : L2.St} {H : Hp} {s : Shared} {Q : VK} {args : Args} {us : List Value} {vs : List V} (F : FnG X.prog X.w X.K X.mg X.base CX k f fd ps sp) (hg : X.A.guards = some []) (hr : Room k X.A) (hb : BindsTo s fd args (ps.zip us)) (hx : Passes CX X E)
    (I : Inv X pins σ H s) (r : Vals vs us) (h : sp vs H Q E) : codeAny (model X.prog X.w) X.A (.call (.ref f) args) (fun r s' => match r with | .error e => X.xe e s' | .ok (.ret u) => EP X pins σ Q u s' | .ok _ => False) s := by
  refine codeAny_mono (F.go X.A X.stack s H args us vs Q E hg hr I.env0 hb r h) fun z s' q => ?_
  match z, q with
  | .error e, q => exact hx pins σ H s e s' I q
  | .ok (.ret u), q => exact I.after q
/-- f(e, ..), f a def whose promise wants that no repr is under way -/
theorem pe_callG (F : FnG X.prog X.w X.K X.mg X.base CX k f fd ps sp) (hg : X.A.guards = some []) (hr : Room k X.A) (hgl : Gl X x) (hm : X.mg x = some (.ref f)) (hk : PySem.W.keepIn X.K (.ref f) = true) (hb : Binds X.K fd ps []) (hx : Passes CX X E)
    (ha : PA X (e :: es) t) (hdb : (x == ("__debug__" : Str)) = false := by decide) (he : starEach (e :: es) X.env = (false, eval e X.env) :: starEach es X.env := by rfl) (hpl : (backTo pos (starEach es X.env)).any (fun q => q.1) = false := by rfl) :
    PE X (.Call (.Name x p) (e :: es) [] pos) (tCall sp [] E t) := by
  constructor
  intro pins s σ H Q I h
  apply wpAny_Call_Name_kw
  apply ld_glob I hgl hm _ hdb
  apply PySem.W.callWith_K (h₀ := X.base) I.ok.mod.kin hk _ he hpl
  refine thn (ha.run pos pins s σ H _ I h) fun us s1 ⟨vs, H1, I1, r, q⟩ => ⟨I1.kIn, ?_⟩
  have q : sp (vs ++ []) H1 Q E := q
  rw [List.append_nil] at q
  have len : us.length = ps.length := by rw [← r.length]; exact F.count _ _ _ _ q
  refine wpAny_call (codeAny_mono (runG F hg hr (us := us) (by have b := hb s1 us I1.kIn (by rw [List.append_nil]; exact len); rw [List.append_nil] at b; exact b) hx I1 r q) fun z s' q => ?_)
  match z, q with
  | .error e, q => exact q
  | .ok (.ret u), q => exact q
end
/-! ### the end -/
section
variable {P : Program} {w : World} {K : PySem.W.Frag} {mg mb : Str → Option Value} {CX : CXT} {k : Nat} {fa a : Addr} {fd : FuncData} {x : Str} {sp : Sp} {s₁ : Shared} {vs : List Value} {ns : List Int}
/-- from a heap H in which nothing but the script is tracked -/
theorem endG_from {H : Hp} (KX : K.In s₁.heap) (hns : s₁.heap.Ns mainGlobals mg) (hb : s₁.heap.Ns builtinsNs mb) (hbb : ∀ x : Str, x ≠ "__name__" → mb x = bootBuiltins x) (hlim : s₁.heap.NoLimit) (hg : s₁.gens = #[])
    (data : ∀ b o es ep, s₁.heap.get? b = some o → o.data = .dict es ep → H b = none) (out : ∀ b o, K.lookup b = some o → H b = none) (hr : Room k callerA)
    (F : ∀ base : Heap, K.In base → base.Ns mainGlobals mg → FnG P w K mg base CX k fa fd [x] sp) (hbind : ∀ (s : Shared) (u : Value), BindsTo s fd ⟨[u], []⟩ [(x, u)])
    (hO : Only H) (hok : HOk P w H s₁.heap) (want : sp [.ref a] H (fun v _ => v = .bl true) fun _ _ _ => False) (hCX : ∀ e s', CX [] H s₁ (fun _ _ _ => False) e s' → False) :
    codeAny (model P w) callerA (.call (.ref fa) ⟨[.ref a], []⟩) (fun r s' => r = .ok (.ret (.bool true)) ∧ OldK s₁.heap s'.heap ∧ s'.os = s₁.os ∧ AllBare s'.gens) s₁ := by
  have ns : ∀ {b : Addr} {m : Str → Option Value}, s₁.heap.Ns b m → (hidT s₁.heap H).Ns b m := by
    intro b m h
    obtain ⟨o, es, ep, e, d, r⟩ := h
    exact ⟨o, es, ep, hidT_get e (data b o es ep e d), d, r⟩
  have kin : K.In (hidT s₁.heap H) := fun b o e => hidT_get (KX b o e) (out b o e)
  obtain ⟨mc, c1, c2⟩ := hlim
  have env : Env0 P w K mg (hidT s₁.heap H) callerA [] s₁ H :=
    { frames := rfl, mod := { kin := kin, glob := ns hns, blt := ⟨mb, ns hb, hbb⟩, nolimit := ⟨mc, ns c1, c2⟩ }, bs := fun b o e => of_hidT e, bsz := Nat.le_of_eq (hidT_size _ _), funs := trivial, frf := (fun b z => nomatch z), hok := hok, bare := .of_eq hg }
  have run := (F _ kin (ns hns)).go callerA [] s₁ H ⟨[.ref a], []⟩ [.ref a] [.ref a] _ _ rfl hr env (hbind s₁ (.ref a)) (.cons rfl .nil) want
  refine codeAny_mono run ?_
  intro r s' z
  match r, z with
  | .error e, z => exact (hCX e s' z).elim
  | .ok (.ret u), ⟨v, H', os, bare, un, hok', rr, vt⟩ =>
    cases (show v = .bl true from vt)
    cases (show u = Value.bool true from rr)
    refine ⟨rfl, OldK.of_keep ?_, os, bare⟩
    intro b o e
    rcases hO b with z | ⟨ob, xs, z⟩
    · exact un.keep b o e z (fun q => nomatch q) (by simp)
    · have g2 := (hok' b _ (un.frzs b ob _ z)).1
      have g1 := (hok b _ z).1
      rw [e] at g1
      cases g1
      exact g2
theorem law_callG (KX : K.In s₁.heap) (hns : s₁.heap.Ns mainGlobals mg) (hb : s₁.heap.Ns builtinsNs mb) (hbb : ∀ x : Str, x ≠ "__name__" → mb x = bootBuiltins x) (hlim : s₁.heap.NoLimit) (hg : s₁.gens = #[])
    (ha : s₁.heap.get? a = some { cls := .type "list", data := .seq vs.toArray }) (hi : IntsAre vs ns) (hl : ns.length ≤ sizeLine) (hr : Room k callerA)
    (F : ∀ base : Heap, K.In base → base.Ns mainGlobals mg → FnG P w K mg base CX k fa fd [x] sp) (hbind : ∀ (s : Shared) (u : Value), BindsTo s fd ⟨[u], []⟩ [(x, u)])
    (hsp : ∀ H : Hp, Only H → SqL K H a (ns.map V.int) → sp [.ref a] H (fun v _ => v = .bl true) fun _ _ _ => False)
    (hCX : ∀ H e s', CX [] H s₁ (fun _ _ _ => False) e s' → False) :
    codeAny (model P w) callerA (.call (.ref fa) ⟨[.ref a], []⟩) (fun r s' => r = .ok (.ret (.bool true)) ∧ OldK s₁.heap s'.heap ∧ s'.os = s₁.os ∧ AllBare s'.gens) s₁ := by
  have rv := vals_ints hi
  have lenV := hi.length
  by_cases hk : ∃ o, K.lookup a = some o
  · obtain ⟨o, hk⟩ := hk
    have e := KX a o hk
    rw [ha] at e
    cases e
    have only : Only (fun _ => none) := fun _ => .inl rfl
    have seq : SqL K (fun _ => none) a (ns.map V.int) := .inr ⟨_, vs.toArray, _, hk, rfl, rfl, rfl, by rw [List.size_toArray, lenV]; exact hl, by simpa using rv⟩
    exact endG_from KX hns hb hbb hlim hg (fun _ _ _ _ _ _ => rfl) (fun _ _ _ => rfl) hr F hbind only (fun b u z => nomatch z) (hsp _ only seq) (hCX _)
  · have no : K.lookup a = none := by
      cases q : K.lookup a with
      | none => rfl
      | some o => exact absurd ⟨o, q⟩ hk
    let H : Hp := upd (fun _ => none) a (.frz { cls := .type "list", data := .seq vs.toArray } (.lst (ns.map V.int)))
    have at_ : H a = some (.frz { cls := .type "list", data := .seq vs.toArray } (.lst (ns.map V.int))) := upd_same
    have off : ∀ b, b ≠ a → H b = none := fun b n => upd_ne n
    have only : Only H := by
      intro b
      by_cases z : b = a
      · exact .inr ⟨_, _, by rw [z]; exact at_⟩
      · exact .inl (off b z)
    refine endG_from KX hns hb hbb hlim hg ?_ ?_ hr F hbind only ?_ (hsp H only (.inl (.inr ⟨_, at_⟩))) (hCX _)
    · intro b o es ep e d
      refine off b fun z => ?_
      rw [z, ha] at e
      cases e
      cases d
    · intro b o e
      refine off b fun z => ?_
      rw [z, no] at e
      cases e
    · intro b u e
      by_cases z : b = a
      · subst z
        rw [at_] at e
        cases e
        exact ⟨ha, by rw [List.length_map]; exact hl, vs, _, rv, ha⟩
      · rw [off b z] at e
        cases e
end
theorem endMG {l : PySem.W.OpenLaw} {k N : Nat} {q : Program} {loose : List Str} {d : DefRec} {ck : List Ck} {fn : List DefM} {XP : (Str → Option Value) → Heap → Prop} {spL : Frag → Sp}
    (hn : l.most = some 63) (hdf : d.params.defaults = []) (hr : Room k callerA) (hd : d.name = ("law" : Str))
    (F : ∀ (w : World) (K : Frag) (mg : Str → Option Value) (base : Heap), Zs ck fn K mg → K.In base → base.Ns mainGlobals mg → FnG l.prog w K mg base (L2.CX l.prog w) k (ga K "law") (fdAt K (ga K "law")) ["script"] (spL K))
    (hg : ∀ (K : Frag) (mg : Str → Option Value), Zs ck fn K mg → mg "law" = some (.ref (ga K "law")))
    (hb : ∀ (K : Frag) (mg : Str → Option Value), Zs ck fn K mg → ∀ (s : Shared) (u : Value), BindsTo s (fdAt K (ga K "law")) ⟨[u], []⟩ [("script", u)])
    (hs : ∀ (K : Frag) (H : Hp) (a : Addr) (ns : List Int), ns.length ≤ 63 → Only H → SqL K H a (ns.map V.int) → spL K [.ref a] H (fun v _ => v = .bl true) fun _ _ _ => False) :
    PySem.W.WalkO q loose XP (hookM N ck fn).says l.row.toRowW d [] (fun f vs => PySem.call f vs) := by
  refine Att.attach_call hn hdf fun w s₀ s₁ mg mb fa o pm cd doc a vs ns G Y ho hd' hcd hmg hobj hints hlen hgn => ?_
  obtain ⟨K, KX, c⟩ := Y
  have Z : Zs ck fn K mg := ⟨c, _, KX, G.T.g⟩
  have e : fa = ga K "law" := by
    have h1 := hg K mg Z
    rw [hd] at hmg
    rw [hmg] at h1
    cases h1
    rfl
  subst e
  exact law_callG KX G.T.g G.T.b G.T.builtins G.T.nolimit hgn hobj hints (Nat.le_trans hlen (by decide)) hr (fun base h1 h2 => F w K mg base Z h1 h2) (hb K mg Z) (fun H hO hS => hs K H a ns hlen hO hS) fun H e s' h => by
    obtain ⟨_, _, _, _, _, _, _, _, _, _, _, _, z⟩ := h
    exact z.elim
end Fw

/-! Fw, part H: names from a list's items; int of a bool; class constants of lines. -/
namespace Fw
open PySem PySem.Spec PyProof.Rows L2
open He (ga ma)
section
variable {X : Cx} {pos : Pos}
/-- int(b), b a bool -/
theorem call_int_bl : CallR X (.type "int") (fun xs H Q => ∃ b, xs = [.bl b] ∧ Q (.int (if b then 1 else 0)) H) := by
  intro pins s σ H xs us Q I r h
  obtain ⟨b, rfl, q⟩ := h
  obtain ⟨u, rfl, ru⟩ := vals1 r
  obtain rfl : u = Value.bool b := ru
  exact call_int_bool ⟨.int _, H, I.tok _, ⟨_, rfl⟩, q⟩
end
/-! ### the word of a kind -/
def kn : LK → Str
  | .line => "line"
  | .walk => "walk"
  | .stop => "stop"
/-! ### the feed: a list [digits, seed, count] -/
abbrev P61 : Int := 2305843009213693951
def fdM (a : Addr) (b : Addr) : Prop := b = a
/-- N counts may still be made -/
def Fd (a : Addr) (N : Nat) (H : Hp) : Prop := ∃ (d m n : Int), H a = some (.lst [.int d, .int m, .int n]) ∧ 0 ≤ d ∧ 0 ≤ m ∧ m < P61 ∧ 0 ≤ n ∧ n + (N : Int) ≤ 2 ^ 40
theorem Fd.less {a : Addr} {N N' : Nat} {H : Hp} (h : Fd a N H) (l : N' ≤ N) : Fd a N' H := by
  obtain ⟨d, m, n, h1, h2, h3, h4, h5, h6⟩ := h
  exact ⟨d, m, n, h1, h2, h3, h4, h5, by omega⟩
theorem Fd.same {a : Addr} {N : Nat} {H H' : Hp} (h : Fd a N H) (s : Same H H') : Fd a N H' := by
  obtain ⟨d, m, n, h1, h2⟩ := h
  exact ⟨d, m, n, s _ _ h1, h2⟩
theorem Fd.out {a p : Addr} {N : Nat} {H : Hp} {o : HO} (h : Fd a N H) (e : H p = some o) (d : ∀ xs, o ≠ .lst xs) : ¬ fdM a p := by
  obtain ⟨x, m, n, h1, _⟩ := h
  intro z
  rw [show p = a from z, h1] at e
  cases e
  exact d _ rfl
theorem Fd.fresh {a p : Addr} {N : Nat} {H : Hp} (h : Fd a N H) (e : H p = none) : ¬ fdM a p := by
  obtain ⟨x, m, n, h1, _⟩ := h
  intro z
  rw [show p = a from z, h1] at e
  cases e
theorem Fd.line {K : Frag} {a p : Addr} {N : Nat} {H H' : Hp} {k : LK} {n : N3} (h : Fd a N H) (x : Ext (fdM a) H H') (e : LnAt K H p k n) : LnAt K H' p k n := let ⟨dx, e⟩ := e; ⟨dx, x _ _ (h.out e fun _ z => nomatch z) e⟩
/-- what keeps all but the feed, seen from a heap in which the feed stood as well -/
theorem Ext.back {M : Addr → Prop} {H H' : Hp} {p : Addr} (x : Ext M H H') (n : ¬ M p) (e : H' p = none) : H p = none := by
  cases q : H p with
  | none => rfl
  | some o =>
    rw [x p o n q] at e
    cases e
/-- pick(feed, many): some number below many -/
def spPick (K : Frag) : Sp := fun vs H Q _ => ∃ (a : Addr) (N : Nat) (m : Int), vs = [.ref a, .int m] ∧ Fd a (N + 128) H ∧ 1 ≤ m ∧ Sz 4000 m ∧
  ∀ (v : Int) (H' : Hp), 0 ≤ v → v < m → Ext (fdM a) H H' → Fd a N H' → Q (.int v) H'
theorem bits_le {m : Int} {b : Nat} (h : Sz b m) : Builtin.Int.intBits m ≤ b := by
  unfold Builtin.Int.intBits
  by_cases z : m = 0
  · subst z
    exact Nat.zero_le _
  · have q : m.natAbs ≠ 0 := by omega
    have l := (Nat.log2_lt q).mpr h
    split
    · exact Nat.zero_le _
    · omega
theorem Sz.p61 {m : Int} (h0 : 0 ≤ m) (h1 : m < P61) : Sz 61 m := Sz.of (by omega) (Int.lt_of_lt_of_le h1 (by decide))
/-- the numbers of a line as a list, its kind ahead -/
def L4 (H : Hp) (p : Addr) (k : LK) (n : N3) : Prop := H p = some (.lst [.str (kn k), .int n.e, .int n.a, .int n.r])
/-- numbers that a line of the kind may have -/
structure NmOk (k : LK) (n : N3) : Prop where
  ok : n.ok
  walk : k = .walk → n.e = 1 ∧ n.a = 0
  stop : k = .stop → n.r = 0
/-! ### headways of which each one divides the next one -/
def limG : Bool → Int
  | true => 10 ^ 59
  | false => 60
structure ChOk (g : Bool) (cs : List Int) : Prop where
  ne : cs ≠ []
  len : cs.length ≤ 10
  pos : ∀ c ∈ cs, 1 ≤ c ∧ c ≤ limG g
  div : cs.Pairwise (fun x y => x ∣ y)
theorem ChOk.fit {g : Bool} {cs : List Int} (h : ChOk g cs) {x y : Int} (hx : x ∈ cs) (hy : y ∈ cs) : x ∣ y ∨ y ∣ x := by
  obtain ⟨i, hi, rfl⟩ := List.mem_iff_getElem.mp hx
  obtain ⟨j, hj, rfl⟩ := List.mem_iff_getElem.mp hy
  have q := List.pairwise_iff_getElem.mp h.div
  by_cases c : i < j
  · exact .inl (q i j hi hj c)
  by_cases d : j < i
  · exact .inr (q j i hj hi d)
  · have e : i = j := by omega
    subst e
    exact .inl (Int.dvd_refl _)
theorem ChOk.app {g : Bool} {ds : List Int} {l m : Int} (h : ChOk g (ds ++ [l])) (hd : ∀ x ∈ ds, x ∣ l) (hl : (ds ++ [l]).length ≤ 9) (h1 : 1 ≤ l * m) (h2 : l * m ≤ limG g) : ChOk g ((ds ++ [l]) ++ [l * m]) ∧ ∀ x ∈ ds ++ [l], x ∣ l * m := by
  have hx : ∀ x ∈ ds ++ [l], x ∣ l * m := by
    intro x hx
    rcases List.mem_append.mp hx with q | q
    · exact Int.dvd_trans (hd x q) (Int.dvd_mul_right l m)
    · rw [List.mem_singleton.mp q]
      exact Int.dvd_mul_right l m
  refine ⟨⟨by simp, by rw [List.length_append]; simp; simp at hl; omega, ?_, ?_⟩, hx⟩
  · intro c hc
    rcases List.mem_append.mp hc with q | q
    · exact h.pos c q
    · rw [List.mem_singleton.mp q]
      exact ⟨h1, h2⟩
  · rw [List.pairwise_append]
    refine ⟨h.div, List.pairwise_singleton _ _, ?_⟩
    intro x hx' y hy
    rw [List.mem_singleton.mp hy]
    exact hx x hx'
end Fw

/-! Fw, part I: methods of lines, and lines themselves, called with keywords alone. -/
namespace Fw
open PySem PySem.Spec PyProof.Rows L2
open He (ga ma)
section
variable {X : Cx} {k0 : Nat} {f : Addr} {fd : FuncData} {ps ks : List Str} {sp : Sp} {E : XK} {m : Str} {pos apos : Pos} {o fe : Expr} {kws : List Keyword} {ta tf : TE} {tk : TA} {g : List Value → List Value → List Value} {gV : List V → List V → List V}
/-- o.m(k = v, ..), o a line -/
def tLMN (K : Frag) (n : Nat) (gV : List V → List V → List V) (sp : Sp) (E : XK) (ta : TE) (tk : TA) : TE := fun σ H Q => ta σ H fun x H1 => ∃ a k nn, x = .ref a ∧ LnAt K H1 a k nn ∧ tk σ H1 fun zs H2 => zs.length = n ∧ sp (gV [.ref a] zs) H2 Q E
theorem pe_lmethN {pl : Sem Bool} (he : PE X o ta) (L : LnF X.K) (hm : ∀ k, Meth X.K (cA X.K k) m f) (F : FnOk X.prog X.w X.K X.mg X.base (L2.CX X.prog X.w) k0 f fd ps sp) (hr : Room k0 X.A) (hb : KBn X.K fd ps 1 ks g gV) (hx : Passes (L2.CX X.prog X.w) X E) (hkw : PK X kws tk)
    (n1 : ¬ m = "held_ride" := by decide +kernel) (n2 : ¬ m = "held_at" := by decide +kernel) (n3 : ¬ m = "held_every" := by decide +kernel)
    (hall : (backToKw pos (keywordEach kws X.env)).all (fun q => q.1.isSome) = true := by rfl) (hks : (backToKw pos (keywordEach kws X.env)).filterMap (fun q => q.1) = ks := by rfl)
    (hpl : ((backTo pos (starEach [] X.env)).any (fun q => q.1) || (backToKw pos (keywordEach kws X.env)).any (fun q => q.1.isNone)) = false := by rfl)
    (ht : eval (.Call (.Attribute o m apos) [] kws pos) X.env = (do
      let ov ← eval o X.env
      standAt apos.atName
      let (g, first) ← holding [ov] (getMethod ov m pl)
      callWith pos g first (backTo pos (starEach [] X.env)) (backToKw pos (keywordEach kws X.env))) := by rfl) :
    PE X (.Call (.Attribute o m apos) [] kws pos) (tLMN X.K ks.length gV sp E ta tk) := by
  constructor
  intro pins s σ H Q I h
  apply PySem.W.methodCall_KW (pl := pl) _ ht
  refine thn (he.run pins s σ H _ I h) fun u s1 ⟨x, H1, I1, rx, a, k, n, ex, ⟨dx, ea⟩, q⟩ => ?_
  subst ex
  obtain rfl : u = Value.ref a := rx
  refine getmeth_ok I1 ea (L.cls k) (hm k) (lf_no n n1 n2 n3) ?_
  apply PySem.W.callWith_KW0 (h₀ := X.base) (first := [.ref a]) I.ok.mod.kin (hm k).kp hall _ hpl
  refine thn (hkw.run pos pins s1 σ H1 _ I1 q) fun ws s2 ⟨zs, H2, I2, rz, l2, q2⟩ => ⟨I2.kIn, ?_⟩
  rw [hks]
  exact run_fnN (us := [.ref a]) (vs := [.ref a]) F hr hb hx I2 (.cons rfl .nil) rz rfl l2 q2
/-- the node of a call of an instance, keywords and all -/
theorem callKw_of {M : Model} {A : Around} {E : Value → Shared → Prop} {s : Shared} {a : Addr} {pos : Pos} {Q : Value → Shared → Prop} {args : List (Bool × Sem Value)} {keywords : List (Option Str × Sem Value)} (plain : (args.any (fun q => q.1) || keywords.any (fun q => q.1.isNone)) = false)
    (h : wpAny M A (evalArgs (.ref a) true args keywords) (fun z s₁ => (∃ C ox od, PySem.W.InstAt s₁.heap a ox C od ∧ ox.data = .plain) ∧ wpAny M A (call (.ref a) ([] ++ z.pos) z.kw) Q E s₁) E s) : wpAny M A (callWith pos (.ref a) [] args keywords) Q E s := by
  unfold callWith
  apply wpAny_bind
  apply wpAny_holding
  refine wpAny_mono h ?_ fun _ _ y => y
  intro z s₁ hz
  obtain ⟨⟨C, ox, od, J, hd⟩, hz⟩ := hz
  apply wpAny_bind
  apply wpAny_standAt
  simp only [plain]
  apply wpAny_bind
  apply (PySem.W.kco_keeper (M := M) J hd).here
  have close : ∀ {t : Sem Value}, wpAny M A t Q E s₁ → wpAny M A (t >>= fun r => holding [r] point >>= fun _ => pure r) Q E s₁ := by
    intro t ht
    apply wpAny_bind
    refine wpAny_mono ht ?_ fun _ _ y => y
    intro r s₂ hr
    apply wpAny_bind
    apply wpAny_holding
    exact wpAny_point (wpAny_pure hr)
  exact close (wpAny_operateT hz)
/-- line(k = v, ..) -/
def tLCN (K : Frag) (n : Nat) (gV : List V → List V → List V) (sp : Sp) (E : XK) (tf : TE) (tk : TA) : TE := fun σ H Q => tf σ H fun y H1 => ∃ a, y = V.ref a ∧ tk σ H1 fun zs H2 => (∃ k nn, LnAt K H2 a k nn) ∧ zs.length = n ∧ sp (gV [.ref a] zs) H2 Q E
theorem pe_lcallN (hf : PE X fe tf) (c : ∀ k, StX.CallO X.K (cA X.K k) f) (F : FnOk X.prog X.w X.K X.mg X.base (L2.CX X.prog X.w) k0 f fd ps sp) (hr : Room k0 X.A) (hb : KBn X.K fd ps 1 ks g gV) (hx : Passes (L2.CX X.prog X.w) X E) (hkw : PK X kws tk)
    (hall : (backToKw pos (keywordEach kws X.env)).all (fun q => q.1.isSome) = true := by rfl) (hks : (backToKw pos (keywordEach kws X.env)).filterMap (fun q => q.1) = ks := by rfl)
    (hpl : ((backTo pos (starEach [] X.env)).any (fun q => q.1) || (backToKw pos (keywordEach kws X.env)).any (fun q => q.1.isNone)) = false := by rfl)
    (ht : eval (.Call fe [] kws pos) X.env = (do callWith pos (← eval fe X.env) [] (backTo pos (starEach [] X.env)) (backToKw pos (keywordEach kws X.env))) := by rfl) :
    PE X (.Call fe [] kws pos) (tLCN X.K ks.length gV sp E tf tk) := by
  constructor
  intro pins s σ H Q I h
  rw [ht]
  apply wpAny_bind
  refine thn (hf.run pins s σ H _ I h) fun u s1 ⟨y, H1, I1, ry, a, ey, q⟩ => ?_
  subst ey
  obtain rfl : u = Value.ref a := ry
  apply callKw_of hpl
  apply PyProof.Rows.evalArgs_kw2_nil hall
  refine thn (hkw.run pos pins s1 σ H1 _ I1 q) fun ws s2 ⟨zs, H2, I2, rz, ⟨k, n, dx, hi⟩, l2, q2⟩ => ?_
  obtain ⟨ox, od, J, hd⟩ := StX.insC_at I2 (.inr ⟨dx, _, hi⟩ : StX.InsC X H2 a (cA X.K k))
  refine ⟨⟨_, ox, od, J, hd⟩, wpAny_call (PySem.W.kco_code (a := ⟨[], _⟩) I2.kIn J hd (c k).at_ (c k).fn (c k).fi ?_)⟩
  rw [hks]
  have rr : Vals [V.ref a] [Value.ref a] := .cons rfl .nil
  refine codeAny_mono (F.run X.A X.stack s2 H2 ⟨[.ref a], ks.zip ws⟩ (g [.ref a] ws) (gV [.ref a] zs) Q E hr I2.env0 (hb.to s2 [.ref a] ws I2.kIn rfl (rz.length.symm.trans l2)) (hb.rel rr rz) q2) ?_
  intro z s' q
  match z, q with
  | .error e, q => exact hx pins σ H2 s2 e s' I2 q
  | .ok (.ret u), q => exact I2.after q
end
end Fw

/-! Fw, part J: + and * of instances of own classes; a name that a class does not have. -/
namespace Fw
open PySem PySem.Spec PyProof.Rows L2
open PySem.W (Looks looks_findIn looks_clsIn looks_subIn looks_typeIn)
section
variable {α : Type} {prog : Program} {w : World} {A : Around} {E : Value → Shared → Prop} {s : Shared} {K : Frag}
/-- an AttributeError with a text alone is raised -/
theorem raise_attr {msg : Str} {Q : α → Shared → Prop} (hh : A.handled = none) (h : ∀ h' tk e, Heap.NewExcOf s.heap h' e "AttributeError" → E (.ref e) { s with heap := h', toks := tk }) (hm : msg.length ≤ sizeLine) :
    wpAny (model prog w) A (raiseErrorStr "AttributeError" msg : Sem α) Q E s := by
  unfold raiseErrorStr
  refine wpAny_bind (wpAny_mkStr (wpAny_bind ?_) hm)
  unfold newExc newTuple
  refine wpAny_bind (wpAny_newObj_type ?_ (by size_fits))
  refine wpAny_bind (m := firstArgMember _ _) (wpAny_of_eq (a := Value.none) (by simp only [firstArgMember, attrError_no_first]; rfl) ?_)
  rw [ownMembersOf_AttributeError]
  refine wpAny_newObj_type ?_ (by size_fits)
  unfold raiseNew
  refine wpAny_bind (wpAny_handled ?_)
  rw [hh]
  refine wpAny_bind (wpAny_pure (wpAny_throw ?_))
  refine h _ _ _ ⟨fun b ob hb => Heap.get?_push_of_some _ (Heap.get?_push_of_some _ hb), Heap.get?_none_of_le (by simp), ?_⟩
  exact ⟨_, _, Heap.get?_push_size _ rfl, rfl, rfl, rfl⟩
/-- the class at C has no such name, and its own name is short -/
structure Lacks (K : Frag) (C : Addr) (name : Str) : Prop where
  reads : PySem.W.readsIn K C (.type "type") = true
  none_ : PySem.W.findIn K (.ref C) name = some none
  meta_ : PySem.W.findIn K (.type "type") name = some none
  hook : PySem.W.findIn K (.type "type") "__getattr__" = some none
  cls : ∃ cd, PySem.W.clsIn K C = some cd ∧ cd.name.cps.foldl (fun k c => k + (Str.utf8Of c).length) 0 ≤ 100 ∧ cd.name.toString.length ≤ 1000
theorem tga_missing {C : Addr} {name : Str} {tk : Tok} {Q : Fin → Shared → Prop} (hh : A.handled = none) (X : K.In s.heap) (L : Lacks K C name) (hz : name.length ≤ 1000)
    (h : ∀ h' tk e, Heap.NewExcOf s.heap h' e "AttributeError" → E (.ref e) { s with heap := h', toks := tk }) : wpAny (model prog w) A (Builtin.«type.__getattribute__» ⟨[.ref C, .str name tk], []⟩) Q E s := by
  have hr := L.reads
  simp only [PySem.W.readsIn, Bool.and_eq_true, beq_iff_eq] at hr
  obtain ⟨⟨⟨⟨r1, r2⟩, r3⟩, r4⟩, r5⟩ := hr
  obtain ⟨cd, c1, c2, c3⟩ := L.cls
  have ho : Looks (model prog w) s.heap (opaqueClassAbove (.ref C)) none := PySem.W.looks_opaque X r1
  have ht : Looks (model prog w) s.heap (typeOf (.ref C)) (.type "type") := looks_typeIn X r2
  have l1 : Looks (model prog w) s.heap (typeLookup (.type "type") name) none := looks_findIn X L.meta_
  have l2 : Looks (model prog w) s.heap (typeLookup (.ref C) name) none := looks_findIn X L.none_
  have l3 : Looks (model prog w) s.heap (classData C) cd := looks_clsIn X c1
  obtain ⟨hp, g, d, t, os⟩ := s
  unfold Builtin.«type.__getattribute__»
  refine wpAny_bind (wpAny_pure (wpAny_bind (ho.at (wpAny_bind (ht.at (wpAny_bind (l1.at ?_)))))))
  refine wpAny_bind (wpAny_pure ?_)
  refine wpAny_bind (l2.at ?_)
  refine wpAny_bind (wpAny_rule (wpAny_bind ?_))
  show wpAny _ _ (classData C >>= _) _ _ _
  refine wpAny_bind (l3.at ?_)
  simp only [if_pos c2]
  refine wpAny_pure ?_
  refine raise_attr hh h ?_
  rw [len_app, len_app, PyProof.Rows.ofString_length, PyProof.Rows.ofString_length]
  simp only [String.toList_append, List.length_append]
  have e1 : (toString "type object '").toList.length = 13 := by decide
  have e2 : (toString "' has no attribute '").toList.length = 20 := by decide
  have e3 : ("'" : String).toList.length = 1 := by decide
  have e4 : (toString cd.name.toString).toList.length = cd.name.toString.length := rfl
  show _ ≤ 16777216
  omega
/-- the question for a name that the class lacks is answered with none -/
theorem asked_missing {C : Addr} {name : Str} {tk : Tok} {Q : Option Value → Shared → Prop} (hh : A.handled = none) (X : K.In s.heap) (L : Lacks K C name) (hz : name.length ≤ 1000)
    (h : ∀ h' t', (∀ b o, s.heap.get? b = some o → h'.get? b = some o) → Q none { s with heap := h', toks := t' }) : wpAny (model prog w) A (getAttrBy? (.ref C) (.str name tk)) Q E s := by
  have hr := L.reads
  simp only [PySem.W.readsIn, Bool.and_eq_true, beq_iff_eq] at hr
  obtain ⟨⟨⟨⟨r1, r2⟩, r3⟩, r4⟩, r5⟩ := hr
  have ht : Looks (model prog w) s.heap (typeOf (.ref C)) (.type "type") := looks_typeIn X r2
  have l1 : Looks (model prog w) s.heap (typeLookup (.type "type") "__getattribute__") (some (.builtin "type.__getattribute__")) := looks_findIn X r3
  have ls : Looks (model prog w) s.heap (isSubtype (.type "type") (.type "type")) true := looks_subIn X r5
  unfold getAttrBy?
  refine wpAny_bind (wpAny_attempt ?_)
  unfold getAttrBy
  refine wpAny_holding (wpAny_bind (ht.here (wpAny_bind (l1.here ?_))))
  dsimp only
  rw [show (onTheHeap (.type "type") && Value.builtin "type.__getattribute__" == Value.builtin "object.__getattribute__") = false from rfl, if_neg (by decide)]
  unfold getAttrByItsOwn
  refine wpAny_bind (wpAny_pure (wpAny_bind (wpAny_attempt (wpAny_holding ?_))))
  unfold callGetattribute
  rw [show (false && onTheHeap (Value.builtin "type.__getattribute__")) = false from rfl, if_neg (by decide)]
  unfold boundAndCalled
  rw [PySem.W.KF.slot_tga.bind]
  refine wpAny_bind (wpAny_pure ?_)
  show wpAny _ _ (call (.builtin "type.__getattribute__") [.ref C, .str name tk]) _ _ _
  refine wpAny_call ?_
  refine codeAny_call_builtin PySem.W.KF.slot_tga.plain PySem.W.KF.entry_tga ?_
  refine @PySem.W.check_slot (model prog w) _ _ s "type.__getattribute__" "type" "__getattribute__" (.ref C) [.str name tk] [] _ (by decide +kernel) (by decide +kernel) (ht.andThen ls) (PySem.W.KF.args_tga (.ref C) (.str name tk)) ?_
  refine tga_missing (s := s) hh X L hz ?_
  intro h' t' e ne
  have X' : K.In h' := X.keeps ne.keeps
  have ty : (⟨h', s.gens, s.drawn, t', s.os⟩ : Shared).TypeIs (.ref e) "AttributeError" := by
    obtain ⟨ob, vs, a, b, _⟩ := ne.there
    exact ⟨ob, a, b⟩
  show wpAny _ _ (getattributeRaised _ _ _ _ _ _ _) _ _ _
  unfold getattributeRaised
  refine wpAny_bind (wpAny_isInstance ty sub_AttributeError ?_)
  rw [if_pos rfl]
  have l2 : Looks (model prog w) h' (typeLookup (.type "type") "__getattr__") none := looks_findIn X' L.hook
  refine wpAny_bind ?_
  show wpAny _ _ (typeLookup (.type "type") "__getattr__") _ _ _
  refine l2.at ?_
  unfold hookOrError
  dsimp only
  unfold attributeErrorLeaves
  rw [if_pos (show (!false) = true from rfl)]
  refine wpAny_bind (wpAny_throw ?_)
  refine wpAny_bind (wpAny_isInstance ty sub_AttributeError ?_)
  rw [if_pos rfl]
  exact wpAny_pure (h h' t' ne.keeps)
theorem instAt_keeps {h h' : Heap} {x C : Addr} {ox : Obj} {od : Option Obj} (I : PySem.W.InstAt h x ox C od) (k : ∀ b o, h.get? b = some o → h'.get? b = some o) : PySem.W.InstAt h' x ox C od := by
  obtain ⟨a, b, c, d⟩ := I
  refine ⟨k _ _ a, b, c, ?_⟩
  cases e : ox.dict with
  | none =>
    rw [e] at d
    cases od with
    | none => exact trivial
    | some o => exact False.elim d
  | some dx =>
    rw [e] at d
    cases od with
    | none => exact False.elim d
    | some o => exact k _ _ d
/-- what an own class must say that its instances may stand at an operator: nm, its def f, no reflected one -/
structure OpOf (K : Frag) (C : Addr) (nm : String) (f : Addr) : Prop where
  first : PySem.W.selfFirst K C = true
  at_ : PySem.W.findIn K (.ref C) (PySem.dunder nm) = some (some (.ref f))
  fn : PySem.W.isFn K (.ref f) = true
  refl : PySem.W.findIn K (.ref C) (dunderR nm) = some none
theorem differs_not {C D f g : Addr} {nm : String} {Q : Bool → Shared → Prop} (hh : A.handled = none) (X : K.In s.heap) (c : OpOf K C nm f) (d : OpOf K D nm g) (L : Lacks K D (dunderR nm)) (hz : (dunderR nm).length ≤ 1000)
    (h : ∀ h' t', (∀ b o, s.heap.get? b = some o → h'.get? b = some o) → Q false { s with heap := h', toks := t' }) : wpAny (model prog w) A (reflectedDiffers (.ref C) (.ref D) nm) Q E s := by
  have l1 : Looks (model prog w) s.heap (numberSlotInPython (.ref C) nm) true := PySem.W.ksp_inPy X c.at_ c.refl (.inl rfl)
  have l2 : Looks (model prog w) s.heap (numberSlotInPython (.ref D) nm) true := PySem.W.ksp_inPy X d.at_ d.refl (.inl rfl)
  unfold reflectedDiffers
  refine wpAny_bind (l1.here ?_)
  rw [if_neg (by decide)]
  refine wpAny_bind (l2.here ?_)
  rw [if_neg (by decide)]
  refine wpAny_bind (wpAny_mkStr ?_ (by show _ ≤ 16777216; omega))
  refine wpAny_bind (asked_missing hh (s := { s with toks := s.toks + 1 }) X L hz ?_)
  intro h' t' k
  exact wpAny_pure (h h' t' k)
/-- x op y, x and y of two own classes that have the operator by a def and no reflected one -/
theorem binop_two {op : Operator} {x y C D f g : Addr} {ox oy : Obj} {od oe : Option Obj} {b : Bool} {Q : Value → Shared → Prop} (hh : A.handled = none) (X : K.In s.heap) (I : PySem.W.InstAt s.heap x ox C od) (J : PySem.W.InstAt s.heap y oy D oe) (ne : C ≠ D)
    (c : OpOf K C op.info.2 f) (d : OpOf K D op.info.2 g) (sub : PySem.W.subIn K (.ref D) (.ref C) = some b) (L : b = true → Lacks K D (dunderR op.info.2)) (hz : (dunderR op.info.2).length ≤ 1000)
    (h : ∀ h' t', (∀ b o, s.heap.get? b = some o → h'.get? b = some o) → wpAny (model prog w) A (call (.ref f) [.ref x, .ref y]) (PySem.W.CmpBack Q) E { s with heap := h', toks := t' }) : wpAny (model prog w) A (binaryOp op (.ref x) (.ref y)) Q E s := by
  obtain ⟨cd, rest, hcd, hm⟩ := PySem.W.ksp_first c.first
  obtain ⟨ce, rest2, hce, hm2⟩ := PySem.W.ksp_first d.first
  rcases hi : op.info with ⟨sym, nm⟩
  rw [hi] at c d L hz
  dsimp only at c d L hz
  have hne : (Value.ref C == Value.ref D) = false := Bool.eq_false_iff.mpr fun q => ne (by cases beq_iff_eq.mp q; rfl)
  have l3 : Looks (model prog w) s.heap (fillsNumberSlot (.ref C) nm) true := PySem.W.fills_K X hcd hm c.at_
  have l4 : Looks (model prog w) s.heap (fillsNumberSlot (.ref D) nm) true := PySem.W.fills_K X hce hm2 d.at_
  have l5 : Looks (model prog w) s.heap (isSubtype (.ref D) (.ref C)) b := looks_subIn X sub
  have l6 : Looks (model prog w) s.heap (numberSlotInPython (.ref C) nm) true := PySem.W.ksp_inPy X c.at_ c.refl (.inl rfl)
  have l7 : Looks (model prog w) s.heap (numberSlotInPython (.ref D) nm) true := PySem.W.ksp_inPy X d.at_ d.refl (.inl rfl)
  simp only [binaryOp, hi]
  refine wpAny_holding (wpAny_bind ?_)
  unfold binaryOp1
  refine wpAny_bind (I.type.here (wpAny_bind (J.type.here (wpAny_bind (l3.here ?_)))))
  simp only [hne, Bool.false_eq_true, if_false]
  refine wpAny_bind (l4.here ?_)
  simp only [Bool.and_self, if_true]
  refine wpAny_bind (l5.here ?_)
  cases b with
  | false =>
    simp only [Bool.false_eq_true, if_false, Bool.not_false, Bool.and_self, if_true]
    refine wpAny_bind (l6.here ?_)
    simp only [if_true]
    refine wpAny_bind (l7.here ?_)
    simp only [Bool.not_true, Bool.false_eq_true, if_false]
    refine wpAny_bind (wpAny_mono (PySem.W.ksp_try X I c.at_ c.fn (h s.heap s.toks fun _ _ e => e)) ?_ fun _ _ e => e)
    rintro r s' ⟨v, rfl, q⟩
    exact wpAny_pure (wpAny_pure q)
  | true =>
    simp only [if_true]
    refine wpAny_bind (differs_not hh X c d (L rfl) hz ?_)
    intro h' t' k
    simp only [Bool.false_eq_true, if_false, Bool.not_false, Bool.and_self, if_true]
    refine wpAny_bind ((l6.keeps k).at ?_)
    simp only [if_true]
    refine wpAny_bind ((l7.keeps k).at ?_)
    simp only [Bool.not_true, Bool.false_eq_true, if_false]
    refine wpAny_bind (wpAny_mono (PySem.W.ksp_try (X.keeps k) (instAt_keeps I k) c.at_ c.fn (h h' t' k)) ?_ fun _ _ e => e)
    rintro r s' ⟨v, rfl, q⟩
    exact wpAny_pure (wpAny_pure q)
end
open He (ga ma eqO eqO_ok)
/-! ### lines at operators -/
/-- the operator nm of lines: one def f for all three classes -/
structure OpL (K : Frag) (nm : String) (f : Addr) : Prop where
  of : ∀ k, OpOf K (cA K k) nm f
  two : ∀ k j, k ≠ j → cA K k ≠ cA K j ∧ ∃ b, PySem.W.subIn K (.ref (cA K j)) (.ref (cA K k)) = some b ∧ (b = true → Lacks K (cA K j) (dunderR nm))
/-- line op line, the result an object -/
def rLop (K : Frag) (sp : Sp) (E : XK) : R2 := fun x y H Q => ∃ a k n b j m, x = .ref a ∧ y = .ref b ∧ LnAt K H a k n ∧ LnAt K H b j m ∧ sp [.ref a, .ref b] H (fun v H' => (∃ p, v = .ref p) ∧ Q v H') E
/-- line op number, the result an object -/
def rLnum (K : Frag) (sp : Sp) (E : XK) : R2 := fun x y H Q => ∃ a k n i, x = .ref a ∧ y = .int i ∧ LnAt K H a k n ∧ sp [.ref a, .int i] H (fun v H' => (∃ p, v = .ref p) ∧ Q v H') E
section
variable {X : Cx} {op : Operator} {k0 : Nat} {f : Addr} {fd : FuncData} {ps : List Str} {sp : Sp} {E : XK}
theorem ep_back {pins : List (Addr × Obj)} {σ : L2.St} {Q : VK} {v : Value} {s' : Shared} (h : EP X pins σ (fun v H' => (∃ p, v = .ref p) ∧ Q v H') v s') : PySem.W.CmpBack (EP X pins σ Q) v s' := by
  obtain ⟨y, H', I, r, ⟨p, e⟩, q⟩ := h
  subst e
  obtain rfl : v = Value.ref p := r
  exact ⟨.ref p, H', I, rfl, q⟩
theorem op_lop (hc : X.calm = true) (O : OpL X.K op.info.2 f) (hz : (dunderR op.info.2).length ≤ 1000) (F : FnOk X.prog X.w X.K X.mg X.base (L2.CX X.prog X.w) k0 f fd ps sp) (hr : Room k0 X.A) (hb : L2.Binds X.K fd ps []) (hx : Passes (L2.CX X.prog X.w) X E) : OpR X (binaryOp op) (rLop X.K sp E) := by
  intro pins s σ H x y v u Q I rx ry h
  obtain ⟨a, k, n, b, j, m, rfl, rfl, ⟨dx, ha⟩, ⟨dy, hb'⟩, q⟩ := h
  obtain rfl : v = Value.ref a := rx
  obtain rfl : u = Value.ref b := ry
  have hh : X.A.handled = none := I.ok.hd hc
  obtain ⟨mA, OA, _⟩ := ins_get I.hok ha
  obtain ⟨od, JA, _⟩ := OA.look
  obtain ⟨mB, OB, _⟩ := ins_get I.hok hb'
  obtain ⟨oe, JB, _⟩ := OB.look
  have run : ∀ s', Inv X pins σ H s' → wpAny (model X.prog X.w) X.A (call (.ref f) [.ref a, .ref b]) (PySem.W.CmpBack (EP X pins σ Q)) X.xe s' := by
    intro s' I'
    have w := run_fn (us := [.ref a, .ref b]) (vs := [.ref a, .ref b]) F hr hb .nil hx I' (.cons rfl (.cons rfl .nil)) (by rw [List.append_nil]; exact q)
    exact wpAny_mono w (fun _ _ z => ep_back z) fun _ _ z => z
  by_cases e : k = j
  · subst e
    obtain ⟨mm, fr⟩ := I.fr
    exact PySem.W.binop_K fr I.ok.mod.kin JA JB.type (O.of k).first (O.of k).at_ (O.of k).fn (run s I)
  · obtain ⟨ne, bb, sb, L⟩ := O.two k j e
    exact binop_two hh I.kIn JA JB ne (O.of k) (O.of j) sb L hz fun h' t' kp => run _ (I.kept kp)
theorem op_lnum {fo ro : Option Value} (O : OpL X.K op.info.2 f) (h1 : PySem.W.findIn X.K (.type "int") (PySem.dunder op.info.2) = some fo) (h2 : PySem.W.findIn X.K (.type "int") (dunderR op.info.2) = some ro) (hs : ∀ k, PySem.W.subIn X.K (.type "int") (.ref (cA X.K k)) = some false)
    (F : FnOk X.prog X.w X.K X.mg X.base (L2.CX X.prog X.w) k0 f fd ps sp) (hr : Room k0 X.A) (hb : L2.Binds X.K fd ps []) (hx : Passes (L2.CX X.prog X.w) X E) : OpR X (binaryOp op) (rLnum X.K sp E) := by
  intro pins s σ H x y v u Q I rx ry h
  obtain ⟨a, k, n, i, rfl, rfl, ⟨dx, ha⟩, q⟩ := h
  obtain rfl : v = Value.ref a := rx
  obtain ⟨t, rfl⟩ := ry
  obtain ⟨mA, OA, _⟩ := ins_get I.hok ha
  obtain ⟨od, JA, _⟩ := OA.look
  obtain ⟨mm, fr⟩ := I.fr
  refine PySem.W.ksp_binT fr I.ok.mod.kin JA rfl (O.of k).first (O.of k).at_ (O.of k).fn (O.of k).refl (.inl rfl) h1 h2 (hs k) ?_
  have w := run_fn (us := [.ref a, .int i t]) (vs := [.ref a, .int i]) F hr hb .nil hx I (.cons rfl (.cons ⟨t, rfl⟩ .nil)) (by rw [List.append_nil]; exact q)
  exact wpAny_mono w (fun _ _ z => ep_back z) fun _ _ z => z
end
/-! ### the checks of the top -/
def cOpOf (x : Str) (nm : String) (f : Frag → Addr) : Ck := fun K => PySem.W.selfFirst K (ga K x) && (eqO (PySem.W.findIn K (.ref (ga K x)) (PySem.dunder nm)) (some (some (.ref (f K)))) && (PySem.W.isFn K (.ref (f K)) && eqO (PySem.W.findIn K (.ref (ga K x)) (dunderR nm)) (some none)))
def cLacks (x : Str) (name : Str) : Ck := fun K => PySem.W.readsIn K (ga K x) (.type "type") && (eqO (PySem.W.findIn K (.ref (ga K x)) name) (some none) && (eqO (PySem.W.findIn K (.type "type") name) (some none) && (eqO (PySem.W.findIn K (.type "type") "__getattr__") (some none) &&
  (match PySem.W.clsIn K (ga K x) with | some cd => decide (cd.name.cps.foldl (fun k c => k + (Str.utf8Of c).length) 0 ≤ 100) && decide (cd.name.toString.length ≤ 1000) | none => false))))
def cTwo (x y : Str) (b : Bool) : Ck := fun K => decide (ga K x ≠ ga K y) && decide (PySem.W.subIn K (.ref (ga K y)) (.ref (ga K x)) = some b)
def cIntOp (x : Str) (nm : String) : Ck := fun K => (PySem.W.findIn K (.type "int") (PySem.dunder nm)).isSome && ((PySem.W.findIn K (.type "int") (dunderR nm)).isSome && decide (PySem.W.subIn K (.type "int") (.ref (ga K x)) = some false))
section
variable {K : Frag}
theorem opOf_of {x : Str} {nm : String} {f : Frag → Addr} (c : cOpOf x nm f K = true) : OpOf K (ga K x) nm (f K) := by
  obtain ⟨c1, c⟩ := Bool.and_eq_true_iff.mp c
  obtain ⟨c2, c⟩ := Bool.and_eq_true_iff.mp c
  obtain ⟨c3, c4⟩ := Bool.and_eq_true_iff.mp c
  exact ⟨c1, eqO_ok c2, c3, eqO_ok c4⟩
theorem lacks_of {x name : Str} (c : cLacks x name K = true) : Lacks K (ga K x) name := by
  obtain ⟨c1, c⟩ := Bool.and_eq_true_iff.mp c
  obtain ⟨c2, c⟩ := Bool.and_eq_true_iff.mp c
  obtain ⟨c3, c⟩ := Bool.and_eq_true_iff.mp c
  obtain ⟨c4, c⟩ := Bool.and_eq_true_iff.mp c
  refine ⟨c1, eqO_ok c2, eqO_ok c3, eqO_ok c4, ?_⟩
  cases e : PySem.W.clsIn K (ga K x) with
  | none => rw [e] at c; cases c
  | some cd =>
    rw [e] at c
    obtain ⟨d1, d2⟩ := Bool.and_eq_true_iff.mp c
    exact ⟨cd, rfl, of_decide_eq_true d1, of_decide_eq_true d2⟩
theorem two_of {x y : Str} {b : Bool} (c : cTwo x y b K = true) : ga K x ≠ ga K y ∧ PySem.W.subIn K (.ref (ga K y)) (.ref (ga K x)) = some b := by
  obtain ⟨c1, c2⟩ := Bool.and_eq_true_iff.mp c
  exact ⟨of_decide_eq_true c1, of_decide_eq_true c2⟩
theorem intOp_of {x : Str} {nm : String} (c : cIntOp x nm K = true) : ∃ fo ro, PySem.W.findIn K (.type "int") (PySem.dunder nm) = some fo ∧ PySem.W.findIn K (.type "int") (dunderR nm) = some ro ∧ PySem.W.subIn K (.type "int") (.ref (ga K x)) = some false := by
  obtain ⟨c1, c⟩ := Bool.and_eq_true_iff.mp c
  obtain ⟨c2, c3⟩ := Bool.and_eq_true_iff.mp c
  obtain ⟨fo, e1⟩ := Option.isSome_iff_exists.mp c1
  obtain ⟨ro, e2⟩ := Option.isSome_iff_exists.mp c2
  exact ⟨fo, ro, e1, e2, of_decide_eq_true c3⟩
end
end Fw

/-! Fw, part K: t[::2] of a tuple of three; == and != of lines. -/
namespace Fw
open PySem PySem.Spec PyProof.Rows L2
open PySem.W (Looks looks_findIn looks_clsIn looks_subIn looks_typeIn)
open He (ga ma eqO eqO_ok)
section
variable {prog : Program} {w : World} {A : Around} {E : Value → Shared → Prop} {s : Shared}
theorem sliceApplied_two {sl : Addr} {vl vu vs : Value} {Q : Int × Int × Nat → Shared → Prop} (hs : s.heap.IsSliceOf sl vl vu vs) (pl : IsPart vl none) (pu : IsPart vu none) (ps : IsPart vs (some 2))
    (h : Q (0, 2, 2) s) : wpAny (model prog w) A (Builtin.Slice.sliceApplied (.ref sl) (pure (3 : Int))) Q E s := by
  obtain ⟨os, hos, hcs, hds⟩ := id hs
  unfold Builtin.Slice.sliceApplied Builtin.Slice.sliceFields
  refine wpAny_bind (wpAny_bind (wpAny_field hos hds (x := vl) rfl (wpAny_bind (wpAny_field hos hds (x := vu) rfl (wpAny_bind (wpAny_field hos hds (x := vs) rfl (wpAny_pure ?_)))))))
  refine wpAny_bind (HT.slicePart_ ps ?_)
  show wpAny _ _ (if ((2 : Int) == 0) = true then _ else _) _ _ s
  rw [if_neg (by decide)]
  refine wpAny_bind (HT.slicePart_ pl (wpAny_bind (HT.slicePart_ pu (wpAny_bind (wpAny_pure ?_)))))
  exact wpAny_pure h
theorem getItem_tuple_two {t sl : Addr} {x0 x1 x2 : Value} {vl vu vs : Value} {Q : Value → Shared → Prop} (ht : IsTup s.heap t #[x0, x1, x2]) (hs : s.heap.IsSliceOf sl vl vu vs) (pl : IsPart vl none) (pu : IsPart vu none) (ps : IsPart vs (some 2))
    (h : Q (.ref s.heap.objs.size) { s with heap := s.heap.push { cls := .type "tuple", data := .seq #[x0, x2] } }) : wpAny (model prog w) A (getItem (.ref t) (.ref sl)) Q E s := by
  have htake : sizeOk (.seq #[x0, x2]) := by
    show (2 : Nat) ≤ sizeLine
    decide
  obtain ⟨os, hos, hcs, hds⟩ := id hs
  have hTs : s.TypeIs (.ref sl) "slice" := ⟨os, hos, hcs⟩
  unfold getItem
  try with_reducible refine wpAny_holding ?_
  first | refine wpAny_bind (wpAny_pure ?_) | skip
  refine wpAny_bind (wpAny_sequenceKey ht.typeIs (by decide) ?_)
  refine wpAny_bind (wpAny_callSpecial?_slot (name := Str.ofString "__getitem__") ht.typeIs PyProof.Rows.slot_tuple_getitem
    (wpAny_call_entry PyProof.Rows.slot_tuple_getitem ht.typeIs entry_tuple_getitem ?_ (args_tuple_getitem _ _)))
  show wpAny _ _ (Builtin.Tuple.tupleItemsOf (.ref t) >>= _) _ _ s
  refine wpAny_bind (tupleItemsOf_ ht ?_)
  refine wpAny_bind (wpAny_typeOf hTs ?_)
  rw [if_pos (by decide)]
  refine wpAny_bind (sliceApplied_two hs pl pu ps ?_)
  have e : ((List.range 2).filterMap fun (m : Nat) => (#[x0, x1, x2] : Array Value)[((0 : Int) + (m : Int) * 2).toNat]?).toArray = #[x0, x2] := rfl
  show wpAny _ _ (if ((0 : Int) == 0 && (2 : Int) == 1 && (2 == 3)) = true then _ else _) _ _ s
  rw [if_neg (by decide)]
  first
    | exact wpAny_bind (m := Builtin.Tuple.tupleExact _) (wpAny_newObj_type (wpAny_pure ⟨_, rfl, wpAny_pure h⟩) htake)
    | exact wpAny_bind (m := Builtin.Tuple.tupleExact _) (wpAny_newObj_type (wpAny_bind (wpAny_pure (wpAny_pure ⟨_, rfl, wpAny_pure h⟩))) htake)
    | exact wpAny_bind (wpAny_bind (m := Builtin.Tuple.tupleExact _) (wpAny_newObj_type (wpAny_pure (wpAny_pure ⟨_, rfl, wpAny_pure h⟩)) htake))
    | exact wpAny_bind (wpAny_bind (m := Builtin.Tuple.tupleExact _) (wpAny_newObj_type (wpAny_pure ⟨_, rfl, wpAny_pure h⟩) htake))
end
/-! ### t[::2] -/
def tTup2 (K : Frag) (te : TE) : TE := fun σ H Q => te σ H fun x H1 => ∃ a x0 x1 x2, x = .ref a ∧ SqT K H1 a [x0, x1, x2] ∧ ∀ p, H1 p = none → Q (.ref p) (upd H1 p (.tup [x0, x2]))
section
variable {X : Cx}
theorem pe_tup2 {e : Expr} {te : TE} {k : Nat} {p1 p3 pos : Pos} (he : PE X e te) : PE X (.Subscript e (.Slice none none (some (.Constant (.int 2) k p1)) p3) pos) (tTup2 X.K te) := by
  refine ⟨fun pins s σ H Q I h => ?_⟩
  refine Subscript_ (thn (he.run pins s σ H _ I h) fun v s1 ⟨x, H1, I1, r1, q1⟩ => ?_)
  obtain ⟨a, x0, x1, x2, ex, hx, q⟩ := q1
  subst ex
  cases r1
  have hst : PO X (some (.Constant (.int 2) k p1)) (tPart (tC (.int 2))) := po_some pe_int
  refine wpAny_Slice (thn (po_none.run pins s1 σ H1 (fun o H2 => o = none ∧ H2 = H1) I1 ⟨rfl, rfl⟩) fun vl s2 ⟨l, H2, I2, pl, el, e2⟩ => ?_)
  subst el e2
  refine thn (po_none.run pins s2 σ H2 (fun o H3 => o = none ∧ H3 = H2) I2 ⟨rfl, rfl⟩) fun vu s3 ⟨u, H3, I3, pu, eu, e3⟩ => ?_
  subst eu e3
  refine thn (hst.run pins s3 σ H3 (fun o H4 => o = some 2 ∧ H4 = H3) I3 ⟨2, rfl, rfl, rfl⟩) fun vs s4 ⟨o, H4, I4, ps, eo, e4⟩ => ?_
  subst eo e4
  have I5 : Inv X pins σ H4 { s4 with heap := s4.heap.push { cls := .type "slice", data := .fields #[vl, vu, vs] } } := I4.kept (t' := s4.toks) fun b ob q => Heap.get?_push_of_some _ q
  obtain ⟨its, r, ht, hz⟩ := I5.tuple hx
  obtain ⟨y0, y1, y2, ei, r0, r1, r2⟩ : ∃ y0 y1 y2, its = [y0, y1, y2] ∧ RelV x0 y0 ∧ RelV x1 y1 ∧ RelV x2 y2 := by
    cases r with
    | cons a0 r => cases r with
      | cons a1 r => cases r with
        | cons a2 r => cases r with
          | nil => exact ⟨_, _, _, rfl, a0, a1, a2⟩
  subst ei
  show wpAny (model X.prog X.w) X.A (subscriptTail e (.Slice none none (some (.Constant (.int 2) k p1)) p3) (.ref a) (.ref s4.heap.objs.size)) (EP X pins σ Q) X.xe { s4 with heap := s4.heap.push { cls := .type "slice", data := .fields #[vl, vu, vs] } }
  refine tail_any (ops := [.ref a, .ref s4.heap.objs.size]) ht.typeIs (PyProof.Rows.slot_tuple_getitem.lookup) ?_ (by with_unfolding_all rfl)
  refine getItem_tuple_two ht (Heap.IsSliceOf.new _ vl vu vs) pl pu ps ?_
  refine ⟨.ref _, _, I5.laid (t' := s4.toks) (o := .tup [x0, x2]) (fun b ob q => Heap.get?_push_of_some _ q) (Nat.le_refl _) ?_, rfl, q _ (I5.hok.fresh (Nat.le_refl _))⟩
  exact ⟨by show 2 ≤ sizeLine; decide, _, .cons r0 (.cons r2 .nil), IsTup.new _ _⟩
end
/-! ### == and != of an own class -/
structure EqOf (K : Frag) (C : Addr) (f : Addr) : Prop where
  eq : PySem.W.findIn K (.ref C) "__eq__" = some (some (.ref f))
  fn : PySem.W.isFn K (.ref f) = true
  ne : PySem.W.findIn K (.ref C) "__ne__" = some (some (.builtin "object.__ne__"))
  obj : PySem.W.subIn K (.ref C) (.type "object") = some true
section
variable {prog : Program} {w : World} {A : Around} {E : Value → Shared → Prop} {s : Shared} {K : Frag} {x C f : Addr} {ox : Obj} {od : Option Obj} {y : Value}
theorem eq_try {Q : Option Value → Shared → Prop} (X : K.In s.heap) (I : PySem.W.InstAt s.heap x ox C od) (c : EqOf K C f)
    (h : wpAny (model prog w) A (call (.ref f) [.ref x, y]) (fun v s' => ∃ b, v = .bool b ∧ Q (some (.bool b)) s') E s) : wpAny (model prog w) A (tryCompare (.ref x) "__eq__" y) Q E s := by
  unfold tryCompare
  refine wpAny_bind (PySem.W.ifBound_K X I c.eq c.fn (wpAny_mono h (fun v s' hv => ?_) fun _ _ e => e))
  obtain ⟨b, rfl, q⟩ := hv
  exact wpAny_pure q
theorem objNe_own {Q : Fin → Shared → Prop} (hu : A.units < cLine) (X : K.In s.heap) (I : PySem.W.InstAt s.heap x ox C od) (c : EqOf K C f)
    (h : wpAny (model prog w) A (call (.ref f) [.ref x, y]) (fun v s' => ∃ b, v = .bool b ∧ Q (.done (.ret (.bool (!b)))) s') E s) :
    wpAny (model prog w) A (Builtin.«object.__ne__» ⟨[.ref x, y], []⟩) Q E s := by
  unfold Builtin.«object.__ne__»
  repeat (first
    | with_reducible refine wpAny_cRoomFor hu ?_
    | (refine wpAny_bind (m := callSpecialIfBound? (.ref x) (Str.ofString "__eq__") [y])
        (PySem.W.ifBound_K X I c.eq c.fn (wpAny_mono h (fun r s' hr => by
          obtain ⟨b, rfl, hq⟩ := hr
          repeat (first | exact hq | exact wpAny_pure hq | exact wpAny_truthy_bool hq | (refine wpAny_bind (m := truthy (.bool _)) (wpAny_truthy_bool ?_)) | wp_step)) fun _ _ e => e)))
    | wp_step)
theorem ne_try {Q : Option Value → Shared → Prop} (hu : A.units + 1 < cLine) (X : K.In s.heap) (I : PySem.W.InstAt s.heap x ox C od) (c : EqOf K C f)
    (h : wpAny (model prog w) A.in1 (call (.ref f) [.ref x, y]) (fun v s' => ∃ b, v = .bool b ∧ Q (some (.bool (!b))) s') E s) : wpAny (model prog w) A (tryCompare (.ref x) "__ne__" y) Q E s := by
  unfold tryCompare callSpecialIfBound? bindSpecialIfBound?
  have hb : ∀ self, bindSpecial (.builtin "object.__ne__") self = pure (.builtin "object.__ne__", [self]) := PySem.F.slot_object_ne.bind
  refine wpAny_bind (wpAny_holding (wpAny_bind (wpAny_bind (wpAny_bind (I.type.here ((PySem.W.looks_findIn X c.ne).here ?_))))))
  refine wpAny_bind (wpAny_askSetting (wpAny_ite ?_))
  have lo : Looks (model prog w) s.heap (isInstance (.ref x) (.type "object")) true := I.type.andThen (looks_subIn X c.obj)
  have go : wpAny (model prog w) A (call (.builtin "object.__ne__") [.ref x, y]) (fun v s' => ∃ b, v = .bool (!b) ∧ Q (some (.bool (!b))) s') E s := by
    refine wpAny_call (codeAny_call_builtin PySem.F.slot_object_ne.plain PySem.F.cmpEntry_ne (PySem.W.check_slot PySem.F.cmpKind_ne PySem.F.cmpSplit_ne lo (PySem.F.cmpArgs_ne _ _) (objNe_own (A := A.in1) hu X I c (wpAny_mono h (fun v s' hv => ?_) fun _ _ e => e))))
    obtain ⟨b, rfl, q⟩ := hv
    exact ⟨b, rfl, b, rfl, q⟩
  have fin : wpAny (model prog w) A (call (.builtin "object.__ne__") ([.ref x] ++ [y]) >>= fun v => pure (some v)) (fun r s' => wpAny (model prog w) A (match r with | some .notImplemented | none => pure none | some v => pure (some v)) Q E s') E s := by
    refine wpAny_bind (wpAny_mono go (fun v s' hv => ?_) fun _ _ e => e)
    obtain ⟨b, rfl, q⟩ := hv
    exact wpAny_pure (wpAny_pure q)
  simp only [hb]
  split
  · exact wpAny_bind (wpAny_pure (wpAny_pure fin))
  · exact wpAny_tryCatch (wpAny_bind (wpAny_pure (wpAny_pure fin)))
end

section
variable {X : Cx} {n : Nat} {f : Addr} {fd : FuncData} {ps : List Str} {sp : Sp} {E : XK} {pins : List (Addr × Obj)} {σ : L2.St} {H : Hp} {s : Shared} {Q : VK} {us : List Value} {vs : List V}
/-- a def called from within a built-in one -/
theorem run_in1 (F : FnOk X.prog X.w X.K X.mg X.base (L2.CX X.prog X.w) n f fd ps sp) (hr : Room (n + 1) X.A) (hb : L2.Binds X.K fd ps []) (hx : Passes (L2.CX X.prog X.w) X E) (I : Inv X pins σ H s) (r : Vals vs us) (q : sp vs H Q E) :
    wpAny (model X.prog X.w) X.A.in1 (call (.ref f) us) (EP X pins σ Q) X.xe s := by
  have sb : Sub X n X.A.in1 := Sub.in1 ⟨hr, rfl⟩
  have e0 : Env0 X.prog X.w X.K X.mg X.base X.A.in1 X.stack s H := by
    have e := I.env0
    exact ⟨by rw [sb.fr]; exact e.frames, e.mod, e.bs, e.bsz, e.funs, e.frf, e.hok, e.bare⟩
  have hl := F.len _ _ _ _ q
  have hl2 : us.length = ps.length := by rw [← r.length]; exact hl
  refine wpAny_call (codeAny_mono (F.run X.A.in1 X.stack s H ⟨us, []⟩ us vs Q E sb.room e0 (by
    have := hb s us I.kIn (by simpa using hl2)
    simpa using this) r q) fun r s' hq => ?_)
  cases r with
  | error e => exact hx pins σ H s e s' I hq
  | ok fl =>
    cases fl with
    | ret w => exact I.after hq
    | next => exact False.elim hq
    | brk => exact False.elim hq
    | cont => exact False.elim hq
end
/-- the answer is True or False -/
def isB (Q : VK) : VK := fun v H' => (∃ b, v = .bl b) ∧ Q v H'
def notB (Q : VK) : VK := fun v H' => ∃ b, v = .bl b ∧ Q (.bl (!b)) H'
structure EqL (K : Frag) (f : Addr) : Prop where
  of : ∀ k, EqOf K (cA K k) f
  two : ∀ k j, k ≠ j → cA K k ≠ cA K j ∧ ∃ b, PySem.W.subIn K (.ref (cA K j)) (.ref (cA K k)) = some b
/-- a line and what stands right of it -/
def rEqL (K : Frag) (sp : Sp) (E : XK) (N : VK → VK) : R2 := fun x y H Q => ∃ a k n, x = .ref a ∧ LnAt K H a k n ∧
  ((∃ b j m, y = .ref b ∧ LnAt K H b j m ∧ sp [.ref a, .ref b] H (N Q) E ∧ sp [.ref b, .ref a] H (N Q) E) ∨
   (∃ T, TyX K H y (.type T) ∧ PySem.W.notFirst K (cA K k) (.type T) = true ∧ sp [.ref a, y] H (N Q) E))
section
variable {prog : Program} {w : World} {A : Around} {E : Value → Shared → Prop} {s : Shared} {K : Frag} {x y C D f : Addr} {ox oy : Obj} {od oe : Option Obj} {v tb : Value}
/-- x op v by x's own __eq__ or __ne__, none of v's ahead -/
theorem cmp_own {op : CmpOp} {nm : Str} {sym : String} (hi : cmpInfo op = (sym, nm, nm)) {Q : Value → Shared → Prop} (h1 : oneThing? op (.ref x) v = none) (hu : A.units < cLine) (I : PySem.W.InstAt s.heap x ox C od) (hb : Looks (model prog w) s.heap (typeOf v) tb)
    (X : K.In s.heap) (hn : tb = .ref C ∨ PySem.W.subIn K tb (.ref C) = some false)
    (h : wpAny (model prog w) A (tryCompare (.ref x) nm v) (fun r s' => ∃ b, r = some (.bool b) ∧ Q (.bool b) s') E s) : wpAny (model prog w) A (richCompare op (.ref x) v) Q E s := by
  unfold richCompare
  rw [h1, hi]
  refine wpAny_holding (wpAny_bind (wpAny_cRoomFor hu ?_))
  dsimp only
  refine wpAny_bind (I.type.here (wpAny_bind (hb.here ?_)))
  split
  · rename_i q
    have e : PySem.W.subIn K tb (.ref C) = some false := by
      rcases hn with e | e
      · rw [e] at q; simp at q
      · exact e
    refine wpAny_bind ((looks_subIn X e).here ?_)
    simp only [Bool.false_eq_true, if_false]
    refine wpAny_bind (wpAny_mono h (fun r s' z => ?_) fun _ _ e => e)
    obtain ⟨b, rfl, hq⟩ := z
    exact wpAny_pure hq
  · refine wpAny_bind (wpAny_pure ?_)
    simp only [Bool.false_eq_true, if_false]
    refine wpAny_bind (wpAny_mono h (fun r s' z => ?_) fun _ _ e => e)
    obtain ⟨b, rfl, hq⟩ := z
    exact wpAny_pure hq
/-- x op y, y's class below x's: y's own one is asked -/
theorem cmp_below {op : CmpOp} {nm : Str} {sym : String} (hi : cmpInfo op = (sym, nm, nm)) {Q : Value → Shared → Prop} (h1 : oneThing? op (.ref x) (.ref y) = none) (hu : A.units < cLine) (I : PySem.W.InstAt s.heap x ox C od) (J : PySem.W.InstAt s.heap y oy D oe)
    (X : K.In s.heap) (ne : C ≠ D) (sb : PySem.W.subIn K (.ref D) (.ref C) = some true)
    (h : wpAny (model prog w) A (tryCompare (.ref y) nm (.ref x)) (fun r s' => ∃ b, r = some (.bool b) ∧ Q (.bool b) s') E s) : wpAny (model prog w) A (richCompare op (.ref x) (.ref y)) Q E s := by
  unfold richCompare
  rw [h1, hi]
  refine wpAny_holding (wpAny_bind (wpAny_cRoomFor hu ?_))
  dsimp only
  refine wpAny_bind (I.type.here (wpAny_bind (J.type.here ?_)))
  have hne : (Value.ref C != Value.ref D) = true := by
    rw [bne_iff_ne]
    intro z
    cases z
    exact ne rfl
  rw [if_pos hne]
  refine wpAny_bind ((looks_subIn X sb).here ?_)
  simp only [if_true]
  refine wpAny_bind (wpAny_mono h (fun r s' z => ?_) fun _ _ e => e)
  obtain ⟨b, rfl, hq⟩ := z
  exact wpAny_bind (wpAny_rule (wpAny_pure hq))
end
/-- the heap behind the making of a line at x -/
abbrev mkH (K : Frag) (H : Hp) (x dx : Addr) (k : LK) (n : N3) : Hp := upd (upd (upd H dx (.own x)) x (.ins (cA K k) dx [])) x (.ins (cA K k) dx (lf n))
theorem mkH_same {K : Frag} {H : Hp} {x dx : Addr} {k : LK} {n : N3} (hx : H x = none) (hd : H dx = none) : Same H (mkH K H x dx k n) := mk_same hx hd
theorem mkH_at {K : Frag} {H : Hp} {x dx : Addr} {k : LK} {n : N3} : LnAt K (mkH K H x dx k n) x k n := ⟨dx, upd_same⟩

section
variable {X : Cx} {k0 : Nat} {f : Addr} {fd : FuncData} {ps : List Str} {sp : Sp} {E : XK}
theorem ep_isB {pins : List (Addr × Obj)} {σ : L2.St} {Q : VK} {v : Value} {s' : Shared} (h : EP X pins σ (isB Q) v s') : ∃ b, v = .bool b ∧ (∃ c, some (Value.bool b) = some (.bool c) ∧ EP X pins σ Q (.bool c) s') := by
  obtain ⟨y, H', I', r, ⟨b, rfl⟩, q⟩ := h
  obtain rfl : v = Value.bool b := r
  exact ⟨b, rfl, b, rfl, .bl b, H', I', rfl, q⟩
theorem ep_notB {pins : List (Addr × Obj)} {σ : L2.St} {Q : VK} {v : Value} {s' : Shared} (h : EP X pins σ (notB Q) v s') : ∃ b, v = .bool b ∧ (∃ c, some (Value.bool (!b)) = some (.bool c) ∧ EP X pins σ Q (.bool c) s') := by
  obtain ⟨y, H', I', r, b, rfl, q⟩ := h
  obtain rfl : v = Value.bool b := r
  exact ⟨b, rfl, !b, rfl, .bl (!b), H', I', rfl, q⟩
theorem op_cmpL {op : CmpOp} {nm : Str} {sym : String} {N : VK → VK} (hi : cmpInfo op = (sym, nm, nm)) (hc : ∀ a b, compareOp op a b = richCompare op a b) (O : EqL X.K f) (hu : X.A.units < cLine)
    (run : ∀ (pins : List (Addr × Obj)) (s : Shared) (σ : L2.St) (H : Hp) (a : Addr) (y : V) (u : Value) (C : Addr) (ox : Obj) (od : Option Obj) (Q : VK), Inv X pins σ H s → RelV y u → PySem.W.InstAt s.heap a ox C od → EqOf X.K C f → sp [.ref a, y] H (N Q) E →
      wpAny (model X.prog X.w) X.A (tryCompare (.ref a) nm u) (fun r s' => ∃ b, r = some (.bool b) ∧ EP X pins σ Q (.bool b) s') X.xe s) : OpR X (compareOp op) (rEqL X.K sp E N) := by
  intro pins s σ H x y v u Q I rx ry h
  obtain ⟨a, k, n, rfl, ⟨dx, ha⟩, h⟩ := h
  obtain rfl : v = Value.ref a := rx
  obtain ⟨mA, OA, _⟩ := ins_get I.hok ha
  obtain ⟨od, JA, _⟩ := OA.look
  rw [hc]
  have one : ∀ b, oneThing? op (.ref a) b = none := fun b => by simp only [oneThing_ref]
  rcases h with ⟨b, j, m, rfl, ⟨dy, hb'⟩, q1, q2⟩ | ⟨T, ty, nf, q⟩
  · obtain rfl : u = Value.ref b := ry
    obtain ⟨mB, OB, _⟩ := ins_get I.hok hb'
    obtain ⟨oe, JB, _⟩ := OB.look
    by_cases e : k = j
    · subst e
      exact cmp_own hi (one _) hu JA JB.type I.kIn (.inl rfl) (run pins s σ H a (.ref b) _ _ _ _ Q I rfl JA (O.of k) q1)
    · obtain ⟨ne, bb, sb⟩ := O.two k j e
      cases bb with
      | false => exact cmp_own hi (one _) hu JA JB.type I.kIn (.inr sb) (run pins s σ H a (.ref b) _ _ _ _ Q I rfl JA (O.of k) q1)
      | true => exact cmp_below hi (one _) hu JA JB I.kIn ne sb (run pins s σ H b (.ref a) _ _ _ _ Q I rfl JB (O.of j) q2)
  · obtain ⟨P, Zk, p, hx⟩ := L2.kit_of I ry ty
    have lk := Zk.ty (model X.prog X.w) s.heap I.kIn p
    refine cmp_own hi (one _) hu JA lk I.kIn ?_ (run pins s σ H a _ _ _ _ _ Q I ry JA (O.of k) q)
    rcases Bool.or_eq_true_iff.mp nf with e | e
    · exact .inl (beq_iff_eq.mp e)
    · exact .inr (beq_iff_eq.mp e)
theorem op_eqL (O : EqL X.K f) (F : FnOk X.prog X.w X.K X.mg X.base (L2.CX X.prog X.w) k0 f fd ps sp) (hr : Room (k0 + 1) X.A) (hb : L2.Binds X.K fd ps []) (hx : Passes (L2.CX X.prog X.w) X E) : OpR X (compareOp .Eq) (rEqL X.K sp E isB) := by
  refine op_cmpL (nm := "__eq__") (sym := "==") rfl (fun _ _ => rfl) O (Nat.lt_of_succ_lt (hu_of hr)) fun pins s σ H a y u C ox od Q I ry J c q => ?_
  refine eq_try I.kIn J c ?_
  have w := run_fn (us := [.ref a, u]) (vs := [.ref a, y]) F (hr.mono (Nat.le_succ _)) hb .nil hx I (.cons rfl (.cons ry .nil)) (by rw [List.append_nil]; exact q)
  exact wpAny_mono w (fun _ _ z => ep_isB z) fun _ _ z => z
theorem op_neL (O : EqL X.K f) (F : FnOk X.prog X.w X.K X.mg X.base (L2.CX X.prog X.w) k0 f fd ps sp) (hr : Room (k0 + 1) X.A) (hb : L2.Binds X.K fd ps []) (hx : Passes (L2.CX X.prog X.w) X E) : OpR X (compareOp .NotEq) (rEqL X.K sp E notB) := by
  refine op_cmpL (nm := "__ne__") (sym := "!=") rfl (fun _ _ => rfl) O (Nat.lt_of_succ_lt (hu_of hr)) fun pins s σ H a y u C ox od Q I ry J c q => ?_
  refine ne_try (hu_of hr) I.kIn J c ?_
  have w := run_in1 (us := [.ref a, u]) (vs := [.ref a, y]) F hr hb hx I (.cons rfl (.cons ry .nil)) q
  exact wpAny_mono w (fun _ _ z => ep_notB z) fun _ _ z => z
end
/-! ### the checks of the top -/
def cEqOf (x : Str) (f : Frag → Addr) : Ck := fun K => eqO (PySem.W.findIn K (.ref (ga K x)) "__eq__") (some (some (.ref (f K)))) && (PySem.W.isFn K (.ref (f K)) && (eqO (PySem.W.findIn K (.ref (ga K x)) "__ne__") (some (some (.builtin "object.__ne__"))) && decide (PySem.W.subIn K (.ref (ga K x)) (.type "object") = some true)))
theorem eqOf_of {K : Frag} {x : Str} {f : Frag → Addr} (c : cEqOf x f K = true) : EqOf K (ga K x) (f K) := by
  obtain ⟨c1, c⟩ := Bool.and_eq_true_iff.mp c
  obtain ⟨c2, c⟩ := Bool.and_eq_true_iff.mp c
  obtain ⟨c3, c4⟩ := Bool.and_eq_true_iff.mp c
  exact ⟨eqO_ok c1, c2, eqO_ok c3, of_decide_eq_true c4⟩
def cNf (x : Str) (T : String) : Ck := fun K => PySem.W.notFirst K (ga K x) (.type T)
end Fw

/-! Fw, part L: powers of great ints; repr of None or an int; t[::-1] of a tuple of three; the tape of draws. -/
namespace Fw
open PySem PySem.Spec PyProof.Rows L2
open He (ga ma eqO eqO_ok)
/-! ### a ** b of great ints -/
def CPowW (i j : Int) : Prop := 0 ≤ j ∧ j ≤ 1000 ∧ Sz 8000 i
theorem bits_le8 {b : Nat} {m : Int} (h : Sz b m) : Builtin.Int.intBits m ≤ b := by
  unfold Builtin.Int.intBits
  by_cases z : m = 0
  · subst z
    exact Nat.zero_le _
  · have q : m.natAbs ≠ 0 := by omega
    have l := (Nat.log2_lt q).mpr h
    split
    · exact Nat.zero_le _
    · omega
section
variable {X : Cx}
theorem op_powW : OpR X (binaryOp .Pow) (rI CPowW fun i j => .int (i ^ j.toNat)) := opI fun i j _ _ _ _ _ hc q => by
  obtain ⟨h0, h1, h2⟩ := hc
  refine pow_int h0 ?_ q
  have hb := bits_le8 h2
  have e : (Builtin.Int.intBits i : Int) * j ≤ 8000 * j := Int.mul_le_mul_of_nonneg_right (by omega) h0
  omega
theorem Sz.pow3 {a : Nat} {i : Int} (h : Sz a i) : Sz (a + a + a) (i ^ (3 : Int).toNat) := by
  have e : i ^ (3 : Int).toNat = i * i * i := by
    show i ^ 3 = _
    rw [Int.pow_succ, Int.pow_succ, Int.pow_succ, Int.pow_zero, Int.one_mul]
  rw [e]
  exact (h.mul h).mul h
/-- repr of None or an int -/
theorem call_repr_opt (hu : X.A.units + 64 < cLine) : CallR X (.builtin "repr") (fun xs H Q => ∃ i : Option Int, xs = [optV i] ∧ (∀ j, i = some j → j.natAbs.log2 < 1920) ∧ Q (.str (match i with | some j => Str.ofString (toString j) | none => "None")) H) := by
  intro pins s σ H xs us Q I r h
  obtain ⟨i, rfl, hl, q⟩ := h
  cases i with
  | some j =>
    exact SkE.call_repr_int pins s σ H _ us Q I r ⟨j, rfl, hl j rfl, q⟩
  | none =>
    obtain ⟨u, rfl, ru⟩ := vals1 r
    obtain rfl : u = Value.none := ru
    exact PySem.P.repr_of_none ⟨.str "None", H, I.tok _, ⟨_, rfl⟩, q⟩
end
section
variable {prog : Program} {w : World} {A : Around} {E : Value → Shared → Prop} {s : Shared}
theorem sliceApplied_back {sl : Addr} {vl vu vs : Value} {Q : Int × Int × Nat → Shared → Prop} (hs : s.heap.IsSliceOf sl vl vu vs) (pl : IsPart vl none) (pu : IsPart vu none) (ps : IsPart vs (some (-1)))
    (h : Q (2, -1, 3) s) : wpAny (model prog w) A (Builtin.Slice.sliceApplied (.ref sl) (pure (3 : Int))) Q E s := by
  obtain ⟨os, hos, hcs, hds⟩ := id hs
  unfold Builtin.Slice.sliceApplied Builtin.Slice.sliceFields
  refine wpAny_bind (wpAny_bind (wpAny_field hos hds (x := vl) rfl (wpAny_bind (wpAny_field hos hds (x := vu) rfl (wpAny_bind (wpAny_field hos hds (x := vs) rfl (wpAny_pure ?_)))))))
  refine wpAny_bind (HT.slicePart_ ps ?_)
  show wpAny _ _ (if ((-1 : Int) == 0) = true then _ else _) _ _ s
  rw [if_neg (by decide)]
  refine wpAny_bind (HT.slicePart_ pl (wpAny_bind (HT.slicePart_ pu (wpAny_bind (wpAny_pure ?_)))))
  exact wpAny_pure h
theorem getItem_tuple_back {t sl : Addr} {x0 x1 x2 : Value} {vl vu vs : Value} {Q : Value → Shared → Prop} (ht : IsTup s.heap t #[x0, x1, x2]) (hs : s.heap.IsSliceOf sl vl vu vs) (pl : IsPart vl none) (pu : IsPart vu none) (ps : IsPart vs (some (-1)))
    (h : Q (.ref s.heap.objs.size) { s with heap := s.heap.push { cls := .type "tuple", data := .seq #[x2, x1, x0] } }) : wpAny (model prog w) A (getItem (.ref t) (.ref sl)) Q E s := by
  have htake : sizeOk (.seq #[x2, x1, x0]) := by
    show (3 : Nat) ≤ sizeLine
    decide
  obtain ⟨os, hos, hcs, hds⟩ := id hs
  have hTs : s.TypeIs (.ref sl) "slice" := ⟨os, hos, hcs⟩
  unfold getItem
  try with_reducible refine wpAny_holding ?_
  first | refine wpAny_bind (wpAny_pure ?_) | skip
  refine wpAny_bind (wpAny_sequenceKey ht.typeIs (by decide) ?_)
  refine wpAny_bind (wpAny_callSpecial?_slot (name := Str.ofString "__getitem__") ht.typeIs PyProof.Rows.slot_tuple_getitem
    (wpAny_call_entry PyProof.Rows.slot_tuple_getitem ht.typeIs entry_tuple_getitem ?_ (args_tuple_getitem _ _)))
  show wpAny _ _ (Builtin.Tuple.tupleItemsOf (.ref t) >>= _) _ _ s
  refine wpAny_bind (tupleItemsOf_ ht ?_)
  refine wpAny_bind (wpAny_typeOf hTs ?_)
  rw [if_pos (by decide)]
  refine wpAny_bind (sliceApplied_back hs pl pu ps ?_)
  show wpAny _ _ (if ((2 : Int) == 0 && (-1 : Int) == 1 && (3 == 3)) = true then _ else _) _ _ s
  rw [if_neg (by decide)]
  first
    | exact wpAny_bind (m := Builtin.Tuple.tupleExact _) (wpAny_newObj_type (wpAny_pure ⟨_, rfl, wpAny_pure h⟩) htake)
    | exact wpAny_bind (m := Builtin.Tuple.tupleExact _) (wpAny_newObj_type (wpAny_bind (wpAny_pure (wpAny_pure ⟨_, rfl, wpAny_pure h⟩))) htake)
    | exact wpAny_bind (wpAny_bind (m := Builtin.Tuple.tupleExact _) (wpAny_newObj_type (wpAny_pure (wpAny_pure ⟨_, rfl, wpAny_pure h⟩)) htake))
    | exact wpAny_bind (wpAny_bind (m := Builtin.Tuple.tupleExact _) (wpAny_newObj_type (wpAny_pure ⟨_, rfl, wpAny_pure h⟩) htake))
end
/-! ### t[::-1], t of three items -/
def tTupR (K : Frag) (te : TE) : TE := fun σ H Q => te σ H fun x H1 => ∃ a x0 x1 x2, x = .ref a ∧ SqT K H1 a [x0, x1, x2] ∧ ∀ p, H1 p = none → Q (.ref p) (upd H1 p (.tup [x2, x1, x0]))
section
variable {X : Cx}
theorem pe_tupR {e : Expr} {te : TE} {k : Nat} {p1 p2 p3 pos : Pos} (he : PE X e te) : PE X (.Subscript e (.Slice none none (some (.UnaryOp .USub (.Constant (.int 1) k p1) p2)) p3) pos) (tTupR X.K te) := by
  refine ⟨fun pins s σ H Q I h => ?_⟩
  refine Subscript_ (thn (he.run pins s σ H _ I h) fun v s1 ⟨x, H1, I1, r1, q1⟩ => ?_)
  obtain ⟨a, x0, x1, x2, ex, hx, q⟩ := q1
  subst ex
  cases r1
  have hst : PO X (some (.UnaryOp .USub (.Constant (.int 1) k p1) p2)) (tPart (tUn (rU fun i => .int (-i)) (tC (.int 1)))) := po_some (pe_un un_neg pe_int)
  refine wpAny_Slice (thn (po_none.run pins s1 σ H1 (fun o H2 => o = none ∧ H2 = H1) I1 ⟨rfl, rfl⟩) fun vl s2 ⟨l, H2, I2, pl, el, e2⟩ => ?_)
  subst el e2
  refine thn (po_none.run pins s2 σ H2 (fun o H3 => o = none ∧ H3 = H2) I2 ⟨rfl, rfl⟩) fun vu s3 ⟨u, H3, I3, pu, eu, e3⟩ => ?_
  subst eu e3
  refine thn (hst.run pins s3 σ H3 (fun o H4 => o = some (-1) ∧ H4 = H3) I3 ⟨1, rfl, -1, rfl, rfl, rfl⟩) fun vs s4 ⟨o, H4, I4, ps, eo, e4⟩ => ?_
  subst eo e4
  have I5 : Inv X pins σ H4 { s4 with heap := s4.heap.push { cls := .type "slice", data := .fields #[vl, vu, vs] } } := I4.kept (t' := s4.toks) fun b ob q => Heap.get?_push_of_some _ q
  obtain ⟨its, r, ht, hz⟩ := I5.tuple hx
  obtain ⟨y0, y1, y2, ei, r0, r1, r2⟩ : ∃ y0 y1 y2, its = [y0, y1, y2] ∧ RelV x0 y0 ∧ RelV x1 y1 ∧ RelV x2 y2 := by
    cases r with
    | cons a0 r => cases r with
      | cons a1 r => cases r with
        | cons a2 r => cases r with
          | nil => exact ⟨_, _, _, rfl, a0, a1, a2⟩
  subst ei
  show wpAny (model X.prog X.w) X.A (subscriptTail e (.Slice none none (some (.UnaryOp .USub (.Constant (.int 1) k p1) p2)) p3) (.ref a) (.ref s4.heap.objs.size)) (EP X pins σ Q) X.xe { s4 with heap := s4.heap.push { cls := .type "slice", data := .fields #[vl, vu, vs] } }
  refine tail_any (ops := [.ref a, .ref s4.heap.objs.size]) ht.typeIs (PyProof.Rows.slot_tuple_getitem.lookup) ?_ (by with_unfolding_all rfl)
  refine getItem_tuple_back ht (Heap.IsSliceOf.new _ vl vu vs) pl pu ps ?_
  refine ⟨.ref _, _, I5.laid (t' := s4.toks) (o := .tup [x2, x1, x0]) (fun b ob q => Heap.get?_push_of_some _ q) (Nat.le_refl _) ?_, rfl, q _ (I5.hok.fresh (Nat.le_refl _))⟩
  exact ⟨by show 3 ≤ sizeLine; decide, _, .cons r2 (.cons r1 (.cons r0 .nil)), IsTup.new _ _⟩
end
/-! ### the tape: a list [digits, seed, count] -/
/-- N counts may still be made -/
def Tp (a : Addr) (N : Nat) (H : Hp) : Prop := ∃ (d m n : Int), H a = some (.lst [.int d, .int m, .int n]) ∧ 0 ≤ d ∧ 0 ≤ m ∧ m < 2 ^ 140 ∧ 0 ≤ n ∧ n + (N : Int) ≤ 2 ^ 40
theorem Tp.less {a : Addr} {N N' : Nat} {H : Hp} (h : Tp a N H) (l : N' ≤ N) : Tp a N' H := by
  obtain ⟨d, m, n, h1, h2, h3, h4, h5, h6⟩ := h
  exact ⟨d, m, n, h1, h2, h3, h4, h5, by omega⟩
theorem Tp.same {a : Addr} {N : Nat} {H H' : Hp} (h : Tp a N H) (s : Same H H') : Tp a N H' := by
  obtain ⟨d, m, n, h1, h2⟩ := h
  exact ⟨d, m, n, s _ _ h1, h2⟩
theorem Tp.out {a p : Addr} {N : Nat} {H : Hp} {o : HO} (h : Tp a N H) (e : H p = some o) (d : ∀ xs, o ≠ .lst xs) : ¬ fdM a p := by
  obtain ⟨x, m, n, h1, _⟩ := h
  intro z
  rw [show p = a from z, h1] at e
  cases e
  exact d _ rfl
theorem Tp.fresh {a p : Addr} {N : Nat} {H : Hp} (h : Tp a N H) (e : H p = none) : ¬ fdM a p := by
  obtain ⟨x, m, n, h1, _⟩ := h
  intro z
  rw [show p = a from z, h1] at e
  cases e
theorem Tp.line {K : Frag} {a p : Addr} {N : Nat} {H H' : Hp} {k : LK} {n : N3} (h : Tp a N H) (x : Ext (fdM a) H H') (e : LnAt K H p k n) : LnAt K H' p k n := let ⟨dx, e⟩ := e; ⟨dx, x _ _ (h.out e fun _ z => nomatch z) e⟩
theorem Tp.tup {a p : Addr} {N : Nat} {H H' : Hp} {xs : List V} (h : Tp a N H) (x : Ext (fdM a) H H') (e : H p = some (.tup xs)) : H' p = some (.tup xs) := x _ _ (h.out e fun _ z => nomatch z) e
/-- next(tape, many): some number below many -/
def spNext (K : Frag) : Sp := fun vs H Q _ => ∃ (a : Addr) (N : Nat) (m : Int), vs = [.ref a, .int m] ∧ Tp a (N + 1) H ∧ 1 ≤ m ∧ Sz 4000 m ∧
  ∀ (v : Int) (H' : Hp), 0 ≤ v → v < m → Ext (fdM a) H H' → Tp a N H' → Q (.int v) H'
/-- headways of which each one divides the next one, up to a number -/
structure ChL (lim : Int) (cs : List Int) : Prop where
  ne : cs ≠ []
  len : cs.length ≤ 10
  pos : ∀ c ∈ cs, 1 ≤ c ∧ c ≤ lim
  div : cs.Pairwise (fun x y => x ∣ y)
theorem ChL.fit {g : Int} {cs : List Int} (h : ChL g cs) {x y : Int} (hx : x ∈ cs) (hy : y ∈ cs) : x ∣ y ∨ y ∣ x := by
  obtain ⟨i, hi, rfl⟩ := List.mem_iff_getElem.mp hx
  obtain ⟨j, hj, rfl⟩ := List.mem_iff_getElem.mp hy
  have q := List.pairwise_iff_getElem.mp h.div
  by_cases c : i < j
  · exact .inl (q i j hi hj c)
  by_cases d : j < i
  · exact .inr (q j i hj hi d)
  · have e : i = j := by omega
    subst e
    exact .inl (Int.dvd_refl _)
theorem ChL.app {g : Int} {ds : List Int} {l m : Int} (h : ChL g (ds ++ [l])) (hd : ∀ x ∈ ds, x ∣ l) (hl : (ds ++ [l]).length ≤ 9) (h1 : 1 ≤ l * m) (h2 : l * m ≤ g) : ChL g ((ds ++ [l]) ++ [l * m]) ∧ ∀ x ∈ ds ++ [l], x ∣ l * m := by
  have hx : ∀ x ∈ ds ++ [l], x ∣ l * m := by
    intro x hx
    rcases List.mem_append.mp hx with q | q
    · exact Int.dvd_trans (hd x q) (Int.dvd_mul_right l m)
    · rw [List.mem_singleton.mp q]
      exact Int.dvd_mul_right l m
  refine ⟨⟨by simp, by rw [List.length_append]; simp; simp at hl; omega, ?_, ?_⟩, hx⟩
  · intro c hc
    rcases List.mem_append.mp hc with q | q
    · exact h.pos c q
    · rw [List.mem_singleton.mp q]
      exact ⟨h1, h2⟩
  · rw [List.pairwise_append]
    refine ⟨h.div, List.pairwise_singleton _ _, ?_⟩
    intro x hx' y hy
    rw [List.mem_singleton.mp hy]
    exact hx x hx'
/-- a list at p of tuples of the numbers ns -/
def RwAt (H : Hp) (p : Addr) (rs : List Addr) (ns : List N3) : Prop := H p = some (.lst (rs.map V.ref)) ∧ rs.length = ns.length ∧ ∀ (i : Nat) r n, rs[i]? = some r → ns[i]? = some n → T3 H r n
theorem RwAt.same {H H' : Hp} {p : Addr} {rs : List Addr} {ns : List N3} (h : RwAt H p rs ns) (s : Same H H') : RwAt H' p rs ns := ⟨s _ _ h.1, h.2.1, fun i r n a b => (h.2.2 i r n a b).same s⟩
end Fw

/-! Fw, part M: defs with a star parameter, making by a star call, len of an own class, classmethods. -/
namespace Fw
open PySem PySem.Spec PyProof.Rows L2
open He (ga ma eqO eqO_ok)
/-! ### def f(a, *v) -/
def spStar (ps : List Str) (sp : Sp) : Sp := fun vs H Q E => ∃ ws rest, vs = ws ++ rest ∧ ws.length = ps.length ∧ rest.length ≤ sizeLine ∧ ∀ p, H p = none → sp (ws ++ [V.ref p]) (upd H p (.tup rest)) Q E
theorem Fun.okStar {P : Program} {w : World} {K : Frag} {mg : Str → Option Value} {base : Heap} {x qual pv : Str} {st : Stmt} {f : Addr} {fd : FuncData} {N ps : List Str} {k : Nat} {sp : Sp} (F : Fun K x qual st f fd) (S : FnScope N (ps ++ [pv]) (defScope st))
    (hb : ∀ (kV doc pm : Value) (an : Option Addr) (cdv ct : Value) (us rest : List Value), us.length = ps.length → bindArgs (PySem.W.fnOf x qual (defArgs st) (defBody st) (defScope st) .none kV doc pm an cdv ct) ⟨us ++ rest, []⟩ = (newTuple rest >>= fun t => pure (ps.zip us ++ [(pv, t)])))
    (hbody : ∀ (cdv : Value) (A : Around) (outer : List Env) (s : Shared) (H : Hp) (vs : List V) (Q : VK) (E : XK), Room k (A.deeper (envOfC qual (defScope st) s.heap.objs.size f cdv)) → sp vs H Q E →
      ∃ t, PSs (cxOf (L2.CX P w) P w K mg base N qual (defScope st) f cdv A outer s H E) (defBody st) t ∧ t { nx := fun _ H' => Q .non H', rt := Q } (L2.start N vs) H) :
    FnR P w K mg base (L2.CX P w) (k + 1) f (spStar ps sp) := by
  obtain ⟨oc, od, kV, doc, pm, an, cdv, ct, osl, rfl, lk, hcd⟩ := F.ex
  exact StX.fn_star (pv := pv) lk hcd S StX.cxUp (hb kV doc pm an cdv ct) (hbody cdv)
section
variable {X : Cx} {CX : CXT} {k : Nat} {f C : Addr} {sp : Sp} {E : XK} {e fe : Expr} {te tf : TE} {pos p sp_ : Pos}
/-- C(*e), C's value by an expression -/
def tMakeS (K : Frag) (C : Addr) (sp : Sp) (E : XK) (tf te : TE) : TE := fun σ H Q => tf σ H fun y H0 => y = V.ref C ∧ te σ H0 fun z H1 => ∃ a xs, z = V.ref a ∧ (SqT K H1 a xs ∨ SqL K H1 a xs) ∧
  ∀ x dx, H1 x = none → H1 dx = none → dx ≠ x → sp (V.ref x :: xs) (upd (upd H1 dx (.own x)) x (.ins C dx [])) (fun v H2 => v = .non ∧ Q (.ref x) H2) E
theorem pe_makeS (hf : PE X fe tf) (M : Mk X.K C f) (F : FnR X.prog X.w X.K X.mg X.base CX k f sp) (hr : Room (k + 1) X.A) (hx : Passes CX X E) (he : PE X e te)
    (hst : starEach [.Starred e sp_] X.env = [(true, eval e X.env)] := by rfl)
    (ht : eval (.Call fe [.Starred e sp_] [] pos) X.env = (do callWith pos (← eval fe X.env) [] (backTo pos (starEach [.Starred e sp_] X.env)) (backToKw pos (keywordEach [] X.env))) := by rfl) :
    PE X (.Call fe [.Starred e sp_] [] pos) (tMakeS X.K C sp E tf te) := by
  refine ⟨fun pins s σ H Q I h => ?_⟩
  refine Call_ (thn (hf.run pins s σ H _ I h) fun u s1 ⟨y, H1, I1, ry, ey, q⟩ => ?_) ht
  subst ey
  obtain rfl : u = Value.ref C := ry
  refine PySem.W.callWith_S (h₀ := X.base) I.ok.mod.kin M.kp (thn (he.run pins s1 σ H1 _ I1 q) fun v s2 ⟨z, H2, I2, rz, a, xs, ez, hxs, q2⟩ => ?_) hst
  subst ez
  obtain rfl : v = Value.ref a := rz
  exact StX.star_any I2 hxs fun us s3 I3 rv => ⟨I3.kIn, StX.run_makeR M F hr hx I3 rv q2⟩
end
/-! ### len of an own class -/
structure LenOf (K : Frag) (C f : Addr) : Prop where
  at_ : PySem.W.findIn K (.ref C) "__len__" = some (some (.ref f))
  fn : PySem.W.isFn K (.ref f) = true
def cLenOf (x : Str) : Ck := fun K => eqO (PySem.W.findIn K (.ref (ga K x)) "__len__") (some (some (.ref (ma K (ga K x) "__len__")))) && PySem.W.isFn K (.ref (ma K (ga K x) "__len__"))
theorem lenOf_of {K : Frag} {x : Str} (c : cLenOf x K = true) : LenOf K (ga K x) (ma K (ga K x) "__len__") := by
  obtain ⟨c1, c2⟩ := Bool.and_eq_true_iff.mp c
  exact ⟨eqO_ok c1, c2⟩
section
variable {X : Cx} {k0 : Nat} {f C : Addr} {fd : FuncData} {ps : List Str} {sp : Sp} {E : XK}
theorem call_lenO (c : LenOf X.K C f) (F : FnOk X.prog X.w X.K X.mg X.base (L2.CX X.prog X.w) k0 f fd ps sp) (hr : Room (k0 + 1) X.A) (hb : L2.Binds X.K fd ps []) (hx : Passes (L2.CX X.prog X.w) X E) :
    CallR X (.builtin "len") (fun xs H Q => ∃ a dx fs, xs = [.ref a] ∧ H a = some (.ins C dx fs) ∧ sp [.ref a] H (fun v H' => (∃ i : Int, v = .int i ∧ 0 ≤ i ∧ i < 2 ^ 63) ∧ Q v H') E) := by
  intro pins s σ H xs us Q I r h
  obtain ⟨a, dx, fs, rfl, ha, q⟩ := h
  obtain ⟨u, rfl, ru⟩ := vals1 r
  obtain rfl : u = Value.ref a := ru
  obtain ⟨mA, OA, _⟩ := ins_get I.hok ha
  obtain ⟨od, JA, _⟩ := OA.look
  obtain ⟨mm, fr⟩ := I.fr
  refine PySem.W.len_K fr I.ok.mod.kin JA c.at_ c.fn ?_
  have w := run_in1 (us := [.ref a]) (vs := [.ref a]) F hr hb hx I (.cons rfl .nil) q
  refine wpAny_mono w (fun v s' hv => ?_) fun _ _ z => z
  obtain ⟨y, H', I', rv, ⟨i, rfl, h0, h1⟩, q2⟩ := hv
  obtain ⟨t, rfl⟩ := rv
  exact ⟨⟨h0, h1⟩, .int i, H', I'.tok _, ⟨_, rfl⟩, q2⟩
end
/-! ### classmethods -/
/-- the def of the classmethod f of the class at C -/
def cmA (K : Frag) (C : Addr) (f : Str) : Addr := match PySem.W.recIn K (ma K C f) "classmethod" with
  | some (.ref g :: _) => g
  | _ => 0
def cCm (x f : Str) : Ck := fun K => PySem.W.readsIn K (ga K x) (.type "type") && (eqO (PySem.W.specialIn K (.ref (ga K x)) "__getattribute__") (some (some (.builtin "type.__getattribute__"))) &&
  ((match PySem.W.recIn K (ma K (ga K x) f) "classmethod" with
  | some (.ref g :: _) => PySem.W.fnIn K g
  | _ => false) &&
  (match PySem.W.findCls K (.ref (ga K x)) (.type "type") f with
  | some (.get g a o t) => g == .builtin "classmethod.__get__" && (a == .ref (ma K (ga K x) f) && (o == .none && t == .ref (ga K x)))
  | _ => false)))
theorem cm_of {K : Frag} {x f : Str} (c : cCm x f K = true) : ClX.CRead K (ga K x) (.type "type") ∧ ClX.CMet K (ga K x) (.type "type") f (ma K (ga K x) f) (cmA K (ga K x) f) := by
  obtain ⟨c1, c⟩ := Bool.and_eq_true_iff.mp c
  obtain ⟨c2, c⟩ := Bool.and_eq_true_iff.mp c
  obtain ⟨c3, c4⟩ := Bool.and_eq_true_iff.mp c
  refine ⟨⟨c1, eqO_ok c2⟩, ?_⟩
  cases e : PySem.W.recIn K (ma K (ga K x) f) "classmethod" with
  | none => rw [e] at c3; cases c3
  | some l =>
    rw [e] at c3
    match l, c3, e with
    | (.ref g :: r), c3, e =>
      have eg : cmA K (ga K x) f = g := by unfold cmA; rw [e]
      rw [eg]
      cases e2 : PySem.W.findCls K (.ref (ga K x)) (.type "type") f with
      | none => rw [e2] at c4; cases c4
      | some q =>
        rw [e2] at c4
        match q, c4, e2 with
        | .get g' a o t, c4, e2 =>
          obtain ⟨d1, d⟩ := Bool.and_eq_true_iff.mp c4
          obtain ⟨d2, d⟩ := Bool.and_eq_true_iff.mp d
          obtain ⟨d3, d4⟩ := Bool.and_eq_true_iff.mp d
          rw [beq_iff_eq.mp d1, beq_iff_eq.mp d2, beq_iff_eq.mp d3, beq_iff_eq.mp d4] at e2
          exact ⟨e2, ⟨r, e⟩, c3⟩
/-! ### routes -/
/-- the lines at rs -/
def LgAt (K : Frag) (H : Hp) (rs : List Addr) (kns : List (LK × N3)) : Prop := rs.length = kns.length ∧ ∀ (i : Nat) r kn, rs[i]? = some r → kns[i]? = some kn → LnAt K H r kn.1 kn.2
theorem LgAt.same {K : Frag} {H H' : Hp} {rs : List Addr} {kns : List (LK × N3)} (h : LgAt K H rs kns) (s : Same H H') : LgAt K H' rs kns := ⟨h.1, fun i r kn a b => (h.2 i r kn a b).same s⟩
theorem LgAt.cut {K : Frag} {H : Hp} {rs : List Addr} {kns : List (LK × N3)} (h : LgAt K H rs kns) (a b : Nat) : LgAt K H ((rs.drop a).take b) ((kns.drop a).take b) := by
  refine ⟨by rw [List.length_take, List.length_take, List.length_drop, List.length_drop, h.1], fun i r kn hr hk => ?_⟩
  have i1 : i < b := by
    have := (List.getElem?_eq_some_iff.mp hr).1
    rw [List.length_take] at this
    omega
  rw [List.getElem?_take_of_lt i1, List.getElem?_drop] at hr hk
  exact h.2 _ _ _ hr hk
/-- any two headways fit -/
def FitL (ns : List N3) : Prop := ∀ x ∈ ns, ∀ y ∈ ns, x.e ∣ y.e ∨ y.e ∣ x.e
structure OkL (kns : List (LK × N3)) : Prop where
  ok : ∀ kn ∈ kns, kn.2.ok
  fit : FitL (kns.map Prod.snd)
  lo : 1 ≤ kns.length
  hi : kns.length ≤ 60
theorem OkL.cut {kns : List (LK × N3)} (h : OkL kns) (a b : Nat) (h1 : 1 ≤ b) (h2 : a < kns.length) : OkL ((kns.drop a).take b) := by
  have sub : ∀ x ∈ (kns.drop a).take b, x ∈ kns := fun x hx => List.mem_of_mem_drop (List.mem_of_mem_take hx)
  refine ⟨fun kn hk => h.ok kn (sub _ hk), fun x hx y hy => ?_, ?_, ?_⟩
  · obtain ⟨u, hu, rfl⟩ := List.mem_map.mp hx
    obtain ⟨v, hv, rfl⟩ := List.mem_map.mp hy
    exact h.fit _ (List.mem_map.mpr ⟨u, sub _ hu, rfl⟩) _ (List.mem_map.mpr ⟨v, sub _ hv, rfl⟩)
  · rw [List.length_take, List.length_drop]
    omega
  · rw [List.length_take, List.length_drop]
    have := h.hi
    omega
def RtAt (K : Frag) (H : Hp) (p : Addr) (kns : List (LK × N3)) : Prop := ∃ dx l rs, H p = some (.ins (ga K "Route") dx (putF "held_legs" (.ref l) [])) ∧ H l = some (.lst (rs.map V.ref)) ∧ LgAt K H rs kns
theorem RtAt.same {K : Frag} {H H' : Hp} {p : Addr} {kns : List (LK × N3)} (h : RtAt K H p kns) (s : Same H H') : RtAt K H' p kns := let ⟨dx, l, rs, a, b, c⟩ := h; ⟨dx, l, rs, s _ _ a, s _ _ b, c.same s⟩
theorem get_refs {rs : List Addr} {i : Nat} {x : V} (h : (rs.map V.ref)[i]? = some x) : ∃ r, rs[i]? = some r ∧ x = .ref r := by
  rw [List.getElem?_map] at h
  cases e : rs[i]? with
  | none => rw [e] at h; cases h
  | some z => rw [e] at h; exact ⟨z, rfl, (Option.some.inj h).symm⟩
theorem cutV_refs (rs : List Addr) (lo hi : Option Int) : cutV (rs.map V.ref) lo hi = ((rs.drop (HT.sIx rs.length 0 lo)).take (HT.sIx rs.length rs.length hi - HT.sIx rs.length 0 lo)).map V.ref := by
  unfold cutV
  rw [List.length_map, List.map_take, List.map_drop]
end Fw

/-! Fw, part N: set(list of ints). -/
namespace Fw
open PySem PySem.Spec PyProof.Rows L2
section
variable {P : Program} {w : World} {A : Around} {E : Value → Shared → Prop} {s : Shared}
/-- a new set without members -/
abbrev empS (w : World) : Obj := { cls := .type "set", dict := none, data := .set #[] 0 (.fresh 0 0 (!w.params.followText "set-order")) }
/-- the set's first filling, from a list -/
theorem set_init_list {l : Addr} {items : Array Value} (ns : List Int) (hh : A.handled = none) (hl : s.heap.IsList l items) (hit : IntsAre items.toList ns) (hb : ns.length + 1 < scanBound) {R : Result → Shared → Prop}
    (h : ∀ h' tk c, SetR w h' s.heap.objs.size (fun j => decide (j ∈ ns)) c → c ≤ ns.length → (∀ b o, s.heap.get? b = some o → h'.get? b = some o) → R (.ok (.ret .none)) { s with heap := h', toks := tk }) :
    ∀ it : Addr, it = (s.heap.push (empS w)).objs.size → codeAny (model P w) A (.builtin "set.update.loop" ⟨[.ref s.heap.objs.size, .ref it], []⟩) R
      { s with heap := (s.heap.push (empS w)).push { cls := .type "list_iterator", data := .fields #[.ref l, .int 0 0] } } := by
  rintro it rfl
  have hisz : items.size = ns.length := by
    have q := IntsAre.length hit
    rwa [Array.length_toList] at q
  obtain ⟨ol, hol, hcl, nl, hdl⟩ := hl
  have hlS : l < s.heap.objs.size := Heap.lt_size hol
  have z1 : (s.heap.push (empS w)).objs.size = s.heap.objs.size + 1 := Heap.size_push ..
  have hneI : l ≠ (s.heap.push (empS w)).objs.size := Nat.ne_of_lt (by rw [z1]; exact Nat.lt_succ_of_lt hlS)
  have hSf : s.heap.objs.size ∉ [(s.heap.push (empS w)).objs.size, l] := by
    simp only [List.mem_cons, List.not_mem_nil, or_false, not_or]
    exact ⟨Nat.ne_of_lt (by rw [z1]; exact Nat.lt_succ_self _), Nat.ne_of_gt hlS⟩
  have hl1 : (s.heap.push (empS w)).IsList l items := ⟨ol, Heap.get?_push_of_some _ hol, hcl, nl, hdl⟩
  have hS : (s.heap.push (empS w)).get? s.heap.objs.size = some (empS w) := Heap.get?_push_size _ rfl
  have hh1 : A.in1.handled = none := by simp [hh]
  refine set_update_ints ((Walks.list hh1 _ l hneI items).toS) s.heap.objs.size hSf ns hisz hb (fun i v hv => ?_) (items.size - 0) 0 _ (by omega) (Nat.zero_le _) ⟨⟨_, Heap.get?_push_size _ rfl, rfl, rfl⟩, hl1.push _⟩
    ⟨0, Nat.le_refl 0, setR_new_at (Heap.get?_push_of_some _ hS)⟩ fun s' c' hm hc' hS' => ?_
  · have hi : i < ns.length := by rw [← hisz]; exact (Array.getElem?_eq_some_iff.mp hv).1
    obtain ⟨t, e⟩ := PyProof.Rows.IntsAre.int_at hit i v (by rw [Array.getElem?_toList]; exact hv)
    refine ⟨ns[i], t, List.getElem?_eq_getElem hi, ?_⟩
    rw [e, List.getD_eq_getElem?_getD, List.getElem?_eq_getElem hi] <;> rfl
  · obtain ⟨h', g2, d', tk', os'⟩ := s'
    obtain rfl : g2 = s.gens := hm.gens
    obtain rfl : d' = s.drawn := hm.drawn
    obtain rfl : os' = s.os := hm.os
    refine h h' tk' c' hS' (by omega) fun b o e => ?_
    have hb0 : b < s.heap.objs.size := Heap.lt_size e
    exact hm.heap b o (by simp only [List.mem_cons, List.not_mem_nil, or_false, not_or]; exact ⟨Nat.ne_of_lt hb0, Nat.ne_of_lt (by rw [z1]; exact Nat.lt_succ_of_lt hb0)⟩) (Heap.get?_push_of_some _ (Heap.get?_push_of_some _ e))
set_option maxHeartbeats 3200000 in
theorem call_set_listI {l : Addr} {items : Array Value} (ns : List Int) {Q : Value → Shared → Prop} (hh : A.handled = none) (hl : s.heap.IsList l items) (hit : IntsAre items.toList ns) (hb : ns.length + 1 < scanBound)
    (h : ∀ (h' : Heap) (tk c : Nat), SetR w h' s.heap.objs.size (fun j => decide (j ∈ ns)) c → c ≤ ns.length → (∀ b o, s.heap.get? b = some o → h'.get? b = some o) → Q (.ref s.heap.objs.size) { s with heap := h', toks := tk }) :
    wpAny (model P w) A (call (.type "set") [.ref l]) Q E s := by
  obtain ⟨c, tl, hmro⟩ := F.called_set.mro
  have hmade := F.called_set.made
  have hsub := F.called_set.sub
  refine wpAny_call (codeAny_of_tree ?_)
  show wpAny _ _ (callAny (.type "set") _) _ _ _
  refine wpAny_pure ⟨Code.quiet_builtin _ (by decide +kernel), codeAny_builtin F.entry_type_call ?_⟩
  rw [Around.under_plain (weight_type_call_type "set" [.ref l] []) rfl]
  have h1 := F.called_set.notType
  have h2 := F.called_set.canCreate
  have hct := F.typeCall_set_1 (.ref l)
  repeat (any_goals (first | assumption | wp_step))
  refine codeAny_mono (code_set_led1 (.ref l) (E := E) (Q₁ := fun obj s₁ => obj = .ref s.heap.objs.size ∧ s₁ = { s with heap := s.heap.push (empS w) }) ⟨rfl, rfl⟩) fun r s₁ hr => ?_
  match r, hr with
  | .error _, hr => exact hr
  | .ok (.ret obj), hr =>
    obtain ⟨rfl, rfl⟩ := hr
    have hS : (s.heap.push (empS w)).get? s.heap.objs.size = some (empS w) := Heap.get?_push_size _ rfl
    have hT : Shared.TypeIs { s with heap := s.heap.push (empS w) } (.ref s.heap.objs.size) "set" := ⟨_, hS, rfl⟩
    have hli := F.called_set.init.lookup
    have hbi := F.called_set.init.bind (.ref s.heap.objs.size)
    repeat (any_goals (first | assumption | wp_step))
    refine codeAny_mono (codeAny_call_builtin (R := wants (fun r s₂ => r = .none ∧ ∃ h' tk c, s₂ = { s with heap := h', toks := tk } ∧ SetR w h' s.heap.objs.size (fun j => decide (j ∈ ns)) c ∧ c ≤ ns.length ∧ (∀ b o, s.heap.get? b = some o → h'.get? b = some o)) E)
      F.called_set.init.plain F.entry_set_init (check_set_init_1 hT ?_)) fun r₂ s₂ hr₂ => ?_
    · have hl0 := hl
      obtain ⟨ol, hol, hcl, nl, hdl⟩ := hl0
      obtain ⟨ocls, odict, odata, oslots⟩ := ol
      simp only at hcl hdl
      subst hcl hdl
      have hol' : (s.heap.push (empS w)).get? l = some { cls := .type "list", dict := odict, data := .seq items nl, slots := oslots } := Heap.get?_push_of_some _ hol
      have hsls := F.sub_list_set
      have hslf := F.sub_list_frozenset
      have hne : (Value.type "list" == Value.type "dict") = false := by decide
      have hl1 : (s.heap.push (empS w)).IsList l items := ⟨_, hol', rfl, nl, rfl⟩
      have hh3 : A.in1.in1.in1.handled = none := by simp [hh]
      unfold Builtin.«set.__init__» noKeywords Builtin.Frozenset.updateFrom
      generalize hPI : pyIter = PI
      wp_walk
      subst hPI
      refine wpAny_pyIter_list hl1 ?_
      refine wpAny_bind (wpAny_runValue ?_)
      have key := fun (R : Result → Shared → Prop) hR => set_init_list (P := P) (w := w) (A := A.in1.in1) (R := R) ns (by simp [hh]) hl hit hb hR _ rfl
      refine key _ fun h' tk c r1 r2 r3 => ?_
      show wpAny _ _ _ _ _ _
      refine wpAny_pure ?_
      show wpAny _ _ (ret Value.none) _ _ _
      exact wpAny_pure ⟨rfl, h', tk, c, rfl, r1, r2, r3⟩
    · match r₂, hr₂ with
      | .error _, hr₂ => exact hr₂
      | .ok (.ret r), hr₂ =>
        obtain ⟨rfl, h', tk, c, rfl, q1, q2, q3⟩ := hr₂
        repeat (any_goals (first | assumption | wp_step))
        exact h _ _ _ q1 q2 q3
end
section
variable {X : Cx}
/-- what the number of a set's members is -/
theorem setR_members {w : World} {h : Heap} {a : Addr} {S : Int → Bool} {n : Nat} (R : SetR w h a S n) : ∃ es : List Int, es.Nodup ∧ es.length = n ∧ ∀ k, k ∈ es ↔ S k = true := by
  obtain ⟨o, es, ep, t, ho, hex, hd, g, nd, hm, hb, hf, hn, hr, hl⟩ := R
  exact ⟨es.toList.map keyOf, nd, by rw [List.length_map, Array.length_toList]; exact hn, fun k => (hm k).symm⟩
def rSetL (K : PySem.W.Frag) (w : World) : List V → Hp → VK → Prop := fun xs H Q => ∃ (p : Addr) (ns : List Int), xs = [.ref p] ∧ SqL K H p (ns.map V.int) ∧ ns.length ≤ 1000 ∧ ∀ a c, H a = none → c ≤ ns.length → (∃ es : List Int, es.Nodup ∧ es.length = c ∧ ∀ k, k ∈ es ↔ k ∈ ns) → Q (.ref a) (upd H a (SetO w a (fun j => decide (j ∈ ns)) c))
theorem cr_setL (hc : X.calm = true) : CallR X (.type "set") (rSetL X.K X.w) := by
  intro pins s σ H xs us Q I r h
  obtain ⟨p, ns, rfl, hl, hlen, q⟩ := h
  rw [Vals.ref1 r]
  obtain ⟨its, rv, pl, hz⟩ := I.list hl
  have hi : IntsAre its.toArray.toList ns := ints_of_vals rv
  have hn : H s.heap.objs.size = none := I.hok.fresh (Nat.le_refl _)
  refine call_set_listI ns (I.ok.hd hc) pl.isList hi (by unfold scanBound; omega) fun h' tk c R1 hc1 k => ?_
  obtain ⟨es, e1, e2, e3⟩ := setR_members R1
  exact ⟨.ref s.heap.objs.size, upd H s.heap.objs.size (SetO X.w s.heap.objs.size (fun j => decide (j ∈ ns)) c), I.laid (t' := tk) k (Nat.le_refl _) (setO_new R1), rfl, q _ c hn hc1 ⟨es, e1, e2, fun k => (e3 k).trans decide_eq_true_iff⟩⟩
end
/-- how many different ints lie in a stretch -/
theorem nodup_range : ∀ (m : Nat) (lo : Int) (es : List Int), es.Nodup → (∀ z ∈ es, lo ≤ z ∧ z < lo + m) → es.length ≤ m
  | 0, lo, es, _, h => by
    cases es with
    | nil => exact Nat.le_refl _
    | cons x r =>
      have := h x List.mem_cons_self
      omega
  | m + 1, lo, es, nd, h => by
    by_cases c : lo + m ∈ es
    · have q := nodup_range m lo (es.erase (lo + m)) (nd.erase _) fun z hz => by
        obtain ⟨a, b⟩ := (nd.mem_erase_iff).mp hz
        have := h z b
        omega
      rw [List.length_erase_of_mem c] at q
      omega
    · have q := nodup_range m lo es nd fun z hz => by
        have := h z hz
        have ne : z ≠ lo + m := fun e => c (e ▸ hz)
        omega
      omega
end Fw

/-! Fw, part R: data in the heap by their types; what stands still. -/
namespace Fw
open PySem PySem.Spec PyProof.Rows L2
open He (ga ma)
/-! ### what stands still: the heap without what M holds -/
section
open Classical in
noncomputable def Fr (M : Addr → Prop) (H : Hp) : Hp := fun p => if M p then none else H p
variable {M : Addr → Prop} {H H' : Hp} {p D : Addr} {o : HO}
theorem Fr.get (n : ¬ M p) (e : H p = some o) : Fr M H p = some o := by
  unfold Fr
  rw [if_neg n]
  exact e
theorem Fr.no (e : Fr M H p = some o) : ¬ M p := fun m => by
  unfold Fr at e
  rw [if_pos m] at e
  cases e
theorem Fr.sub : Same (Fr M H) H := fun b o e => by
  have n := Fr.no e
  unfold Fr at e
  rw [if_neg n] at e
  exact e
theorem Fr.ext (x : Ext M H H') : Same (Fr M H) (Fr M H') := fun b o e => Fr.get (Fr.no e) (x b o (Fr.no e) (Fr.sub b o e))
theorem Fr.same (s : Same H H') : Same (Fr M H) (Fr M H') := Fr.ext (Ext.same s)
/-- what may change: a list, an object of two fields -/
def MutO : HO → Prop
  | .lst _ => True
  | .ins _ _ fs => fs.length = 2
  | _ => False
/-- what M holds are such -/
def Alloc (M : Addr → Prop) (H : Hp) : Prop := ∀ p, M p → ∃ o, H p = some o ∧ MutO o
theorem Alloc.same (a : Alloc M H) (s : Same H H') : Alloc M H' := fun p m => let ⟨o, e, q⟩ := a p m; ⟨o, s _ _ e, q⟩
theorem Alloc.new (a : Alloc M H) (hp : H p = none) : ¬ M p := fun m => by
  obtain ⟨o, e, _⟩ := a p m
  rw [hp] at e
  cases e
theorem Alloc.off (a : Alloc M H) (hp : H p = some o) (d : ¬ MutO o) : ¬ M p := fun m => by
  obtain ⟨u, e, q⟩ := a p m
  rw [hp] at e
  cases e
  exact d q
def Ad (D : Addr) (M : Addr → Prop) : Addr → Prop := fun b => b = D ∨ M b
theorem Alloc.put {xs : List V} (a : Alloc M H) : Alloc (Ad D M) (upd H D (.lst xs)) := fun p m => by
  by_cases e : p = D
  · rw [e, upd_same]
    exact ⟨_, rfl, trivial⟩
  · rw [upd_ne e]
    exact a p (m.resolve_left e)
theorem Alloc.wr {xs : List V} (a : Alloc M H) : Alloc M (upd H D (.lst xs)) := fun p m => by
  by_cases e : p = D
  · rw [e, upd_same]
    exact ⟨_, rfl, trivial⟩
  · rw [upd_ne e]
    exact a p m
theorem Fr.put (hD : H D = none) : Same (Fr M H) (Fr (Ad D M) (upd H D o)) := fun b u e => by
  have n := Fr.no e
  have e2 := Fr.sub _ _ e
  have ne : b ≠ D := ne_of_none e2 hD
  exact Fr.get (fun z => z.elim ne n) (by rw [upd_ne ne]; exact e2)
theorem Fr.free : Same (Fr (Ad D M) H) (Fr M H) := fun b u e => Fr.get (fun m => Fr.no e (.inr m)) (Fr.sub _ _ e)
theorem Fr.wr (h : M D) : Same (Fr M H) (Fr M (upd H D o)) := fun b u e => Fr.get (Fr.no e) (by
  have ne : b ≠ D := fun z => Fr.no e (by rw [z]; exact h)
  rw [upd_ne ne]
  exact Fr.sub _ _ e)
theorem Fr.new (a : Alloc M H) (hp : H p = none) : Fr M (upd H p o) p = some o := Fr.get (a.new hp) upd_same
theorem Fr.mono {M' : Addr → Prop} (h : ∀ b, M' b → M b) : Same (Fr M H) (Fr M' H) := fun b u e => Fr.get (fun m => Fr.no e (h b m)) (Fr.sub _ _ e)
theorem Tp.alloc {a : Addr} {N : Nat} {H : Hp} (h : Tp a N H) : Alloc (fdM a) H := fun p m => by
  obtain ⟨d, m2, n, e, _⟩ := h
  rw [show p = a from m, e]
  exact ⟨_, rfl, trivial⟩
theorem Ext.sub {M M' : Addr → Prop} {H H' : Hp} (h : ∀ b, M b → M' b) (x : Ext M H H') : Ext M' H H' := fun b o n e => x b o (fun m => n (h b m)) e
theorem Alloc.draw {a : Addr} {N : Nat} (al : Alloc M H) (x : Ext (fdM a) H H') (t : Tp a N H') : Alloc M H' := fun p m => by
  by_cases z : fdM a p
  · exact t.alloc p z
  · obtain ⟨xs, e, hz9⟩ := al p m
    exact ⟨xs, x p _ z e, hz9⟩
theorem LnAt.fr {K : Frag} {H : Hp} {a : Addr} {k : LK} {n : N3} (h : LnAt K H a k n) (al : Alloc M H) : LnAt K (Fr M H) a k n := let ⟨dx, e⟩ := h; ⟨dx, Fr.get (al.off e (show ¬ (lf n).length = 2 from by show ¬ (3 : Nat) = 2; decide)) e⟩
theorem T3.fr {H : Hp} {a : Addr} {n : N3} (h : T3 H a n) (al : Alloc M H) : T3 (Fr M H) a n := Fr.get (al.off h fun z => z) h
theorem LgAt.fr {K : Frag} {H : Hp} {rs : List Addr} {kns : List (LK × N3)} (h : LgAt K H rs kns) (al : Alloc M H) : LgAt K (Fr M H) rs kns := ⟨h.1, fun i r kn a b => (h.2 i r kn a b).fr al⟩
theorem RwAt.fr {H : Hp} {p : Addr} {rs : List Addr} {ns : List N3} (h : RwAt H p rs ns) (al : Alloc M H) (np : ¬ M p) : RwAt (Fr M H) p rs ns := ⟨Fr.get np h.1, h.2.1, fun i r n a b => (h.2.2 i r n a b).fr al⟩
theorem Same.fin {H H' : Hp} (s : Same H H') {p : Addr} (h : H' p = none) : H p = none := by
  cases e : H p with
  | none => rfl
  | some o =>
    rw [s _ _ e] at h
    cases h
end
theorem law_back {H H1 H2 H4 : Hp} {a : Addr} (s1 : Same H H1) (s2 : Same H1 H2) (na : H1 a = none) (x : Ext (fdM a) H2 H4) : Same H H4 := fun b o e => by
  have nb : ¬ fdM a b := fun z => by
    rw [show b = a from z] at e
    rw [s1 _ _ e] at na
    cases na
  exact x b o nb (s2 _ _ (s1 _ _ e))
/-! ### a promise that is not laid open -/
@[irreducible] def sq (sp : Sp) : Sp := sp
theorem sq_eq (sp : Sp) : sq sp = sp := by
  unfold sq
  rfl
theorem sqI {sp : Sp} {vs : List V} {H : Hp} {Q : VK} {E : XK} (h : sp vs H Q E) : sq sp vs H Q E := by
  rw [sq_eq]
  exact h
section
variable {P : Program} {w : World} {K : Frag} {mg : Str → Option Value} {base : Heap} {CX : CXT} {k : Nat} {f : Addr} {fd : FuncData} {ps : List Str} {sp : Sp}
theorem okq (h : FnOk P w K mg base CX k f fd ps sp) : FnOk P w K mg base CX k f fd ps (sq sp) := by
  rw [sq_eq]
  exact h
theorem okqG (h : FnG P w K mg base CX k f fd ps sp) : FnG P w K mg base CX k f fd ps (sq sp) := by
  rw [sq_eq]
  exact h
theorem okqR (h : FnR P w K mg base CX k f sp) : FnR P w K mg base CX k f (sq sp) := by
  rw [sq_eq]
  exact h
end
/-! ### data by their types -/
class Rep (α : Type) where
  rp : Frag → Hp → V → α → Prop
  up : ∀ {K : Frag} {F F' : Hp} {v : V} {x : α}, Same F F' → rp K F v x → rp K F' v x
open Rep (rp)
instance : Rep Int := ⟨fun _ _ v i => v = .int i, fun _ h => h⟩
instance : Rep Bool := ⟨fun _ _ v i => v = .bl i, fun _ h => h⟩
instance : Rep Str := ⟨fun _ _ v i => v = .str i, fun _ h => h⟩
instance : Rep Unit := ⟨fun _ _ v _ => v = .non, fun _ h => h⟩
instance {α : Type} [Rep α] : Rep (Option α) := ⟨fun K F v x => match x with
  | none => v = .non
  | some y => rp K F v y, fun {_ _ _ _ x} s h => match x, h with
  | none, h => h
  | some _, h => Rep.up s h⟩
instance {α : Type} [Rep α] : Rep (List α) := ⟨fun K F v xs => ∃ (p : Addr) (vs : List V), v = .ref p ∧ F p = some (.lst vs) ∧ Paired (fun v x => rp K F v x) vs xs,
  fun s h => let ⟨p, vs, e, h1, h2⟩ := h; ⟨p, vs, e, s _ _ h1, L2.Paired.mapP h2 fun _ _ q => Rep.up s q⟩⟩
instance {α β : Type} [Rep α] [Rep β] : Rep (α × β) := ⟨fun K F v x => ∃ (p : Addr) (v1 v2 : V), v = .ref p ∧ F p = some (.tup [v1, v2]) ∧ rp K F v1 x.1 ∧ rp K F v2 x.2,
  fun s h => let ⟨p, v1, v2, e, h1, h2, h3⟩ := h; ⟨p, v1, v2, e, s _ _ h1, Rep.up s h2, Rep.up s h3⟩⟩
/-- a tuple of three -/
structure P3 (α β γ : Type) where
  a : α
  b : β
  c : γ
  deriving DecidableEq
instance {α β γ : Type} [Rep α] [Rep β] [Rep γ] : Rep (P3 α β γ) := ⟨fun K F v x => ∃ (p : Addr) (v1 v2 v3 : V), v = .ref p ∧ F p = some (.tup [v1, v2, v3]) ∧ rp K F v1 x.a ∧ rp K F v2 x.b ∧ rp K F v3 x.c,
  fun s h => let ⟨p, v1, v2, v3, e, h1, h2, h3, h4⟩ := h; ⟨p, v1, v2, v3, e, s _ _ h1, Rep.up s h2, Rep.up s h3, Rep.up s h4⟩⟩
/-- a tuple of a line's numbers -/
instance : Rep N3 := ⟨fun _ F v n => ∃ p : Addr, v = .ref p ∧ T3 F p n, fun s h => let ⟨p, e, h⟩ := h; ⟨p, e, h.same s⟩⟩
/-- a line of the package -/
structure Lin where
  k : LK
  n : N3
instance : Rep Lin := ⟨fun K F v l => ∃ a : Addr, v = .ref a ∧ LnAt K F a l.k l.n, fun s h => let ⟨p, e, h⟩ := h; ⟨p, e, h.same s⟩⟩
/-- a route of the package -/
structure Rou where
  l : List (LK × N3)
instance : Rep Rou := ⟨fun K F v r => ∃ a : Addr, v = .ref a ∧ RtAt K F a r.l, fun s h => let ⟨p, e, h⟩ := h; ⟨p, e, h.same s⟩⟩
/-- a tuple of any length -/
structure Tup (α : Type) where
  l : List α
  deriving DecidableEq
instance {α : Type} [Rep α] : Rep (Tup α) := ⟨fun K F v xs => ∃ (p : Addr) (vs : List V), v = .ref p ∧ F p = some (.tup vs) ∧ Paired (fun v x => rp K F v x) vs xs.l,
  fun s h => let ⟨p, vs, e, h1, h2⟩ := h; ⟨p, vs, e, s _ _ h1, L2.Paired.mapP h2 fun _ _ q => Rep.up s q⟩⟩
section
variable {α β : Type} {R : V → α → Prop}
theorem pd_get {α β : Type} {F : α → β → Prop} : ∀ {l₁ : List α} {l₂ : List β}, Paired F l₁ l₂ → ∀ {i : Nat} {x : β}, l₂[i]? = some x → ∃ u, l₁[i]? = some u ∧ F u x
  | _, _, .nil, _, _, h => by simp at h
  | _, _, .cons h t, 0, _, e => ⟨_, rfl, by cases e; exact h⟩
  | _, _, .cons _ t, i + 1, _, e => pd_get t (i := i) (by simpa using e)
theorem pd_getL {α β : Type} {F : α → β → Prop} : ∀ {l₁ : List α} {l₂ : List β}, Paired F l₁ l₂ → ∀ {i : Nat} {u : α}, l₁[i]? = some u → ∃ x, l₂[i]? = some x ∧ F u x
  | _, _, .nil, _, _, h => by simp at h
  | _, _, .cons h t, 0, _, e => ⟨_, rfl, by cases e; exact h⟩
  | _, _, .cons _ t, i + 1, _, e => pd_getL t (i := i) (by simpa using e)
theorem pd_app {α β : Type} {F : α → β → Prop} : ∀ {l₁ m₁ : List α} {l₂ m₂ : List β}, Paired F l₁ l₂ → Paired F m₁ m₂ → Paired F (l₁ ++ m₁) (l₂ ++ m₂)
  | _, _, _, _, .nil, g => g
  | _, _, _, _, .cons h t, g => .cons h (pd_app t g)
theorem pd_rev {α β : Type} {F : α → β → Prop} : ∀ {l₁ : List α} {l₂ : List β}, Paired F l₁ l₂ → Paired F l₁.reverse l₂.reverse
  | _, _, .nil => .nil
  | _, _, .cons h t => by
    rw [List.reverse_cons, List.reverse_cons]
    exact (pd_rev t).snoc h
theorem pd_drop {α β : Type} {F : α → β → Prop} : ∀ {l₁ : List α} {l₂ : List β}, Paired F l₁ l₂ → ∀ n : Nat, Paired F (l₁.drop n) (l₂.drop n)
  | _, _, .nil, n => by
    rw [List.drop_nil, List.drop_nil]
    exact .nil
  | _, _, .cons h t, 0 => .cons h t
  | _, _, .cons _ t, n + 1 => pd_drop t n
theorem pd_take {α β : Type} {F : α → β → Prop} : ∀ {l₁ : List α} {l₂ : List β}, Paired F l₁ l₂ → ∀ n : Nat, Paired F (l₁.take n) (l₂.take n)
  | _, _, .nil, n => by
    rw [List.take_nil, List.take_nil]
    exact .nil
  | _, _, .cons h t, 0 => .nil
  | _, _, .cons h t, n + 1 => .cons h (pd_take t n)
theorem pd_ints {K : Frag} {F : Hp} : ∀ {vs : List V} {xs : List Int}, Paired (fun v x => rp K F v x) vs xs → vs = xs.map V.int
  | _, _, .nil => rfl
  | _, _, .cons h t => by
    rw [List.map_cons, ← pd_ints t, show _ = V.int _ from h]
theorem pd_ofInts {K : Frag} {F : Hp} : ∀ xs : List Int, Paired (fun v x => rp K F v x) (xs.map V.int) xs
  | [] => .nil
  | _ :: r => .cons rfl (pd_ofInts r)
theorem pd_strs {K : Frag} {F : Hp} : ∀ {vs : List V} {xs : List Str}, Paired (fun v x => rp K F v x) vs xs → vs = xs.map V.str
  | _, _, .nil => rfl
  | _, _, .cons h t => by
    rw [List.map_cons, ← pd_strs t, show _ = V.str _ from h]
theorem pd_ofStrs {K : Frag} {F : Hp} : ∀ xs : List Str, Paired (fun v x => rp K F v x) (xs.map V.str) xs
  | [] => .nil
  | _ :: r => .cons rfl (pd_ofStrs r)
theorem pd_bls {K : Frag} {F : Hp} : ∀ {vs : List V} {xs : List Bool}, Paired (fun v x => rp K F v x) vs xs → vs = xs.map V.bl
  | _, _, .nil => rfl
  | _, _, .cons h t => by
    rw [List.map_cons, ← pd_bls t, show _ = V.bl _ from h]
end
theorem rp_ints {K : Frag} {F : Hp} {v : V} {xs : List Int} (h : rp K F v xs) : ∃ p, v = .ref p ∧ F p = some (.lst (xs.map V.int)) := by
  obtain ⟨p, vs, e, h1, h2⟩ := h
  exact ⟨p, e, by rw [h1, pd_ints h2]⟩
theorem rp_ofInts {K : Frag} {F : Hp} {p : Addr} {xs : List Int} (h : F p = some (.lst (xs.map V.int))) : rp K F (.ref p) xs := ⟨p, _, rfl, h, pd_ofInts xs⟩
theorem rp_strs {K : Frag} {F : Hp} {v : V} {xs : List Str} (h : rp K F v xs) : ∃ p, v = .ref p ∧ F p = some (.lst (xs.map V.str)) := by
  obtain ⟨p, vs, e, h1, h2⟩ := h
  exact ⟨p, e, by rw [h1, pd_strs h2]⟩
theorem rp_bls {K : Frag} {F : Hp} {v : V} {xs : List Bool} (h : rp K F v xs) : ∃ p, v = .ref p ∧ F p = some (.lst (xs.map V.bl)) := by
  obtain ⟨p, vs, e, h1, h2⟩ := h
  exact ⟨p, e, by rw [h1, pd_bls h2]⟩
/-- the rows of a route, both ways -/
theorem rp_rows {K : Frag} {H : Hp} {v : V} {ns : List N3} (h : rp K H v ns) : ∃ p rs, v = .ref p ∧ RwAt H p rs ns := by
  obtain ⟨p, vs, e, h1, h2⟩ := h
  have q : ∃ rs : List Addr, vs = rs.map V.ref ∧ rs.length = ns.length ∧ ∀ (i : Nat) r n, rs[i]? = some r → ns[i]? = some n → T3 H r n := by
    clear h1
    induction h2 with
    | nil => exact ⟨[], rfl, rfl, fun i r n hr _ => by simp at hr⟩
    | cons h t ih =>
      obtain ⟨rs, e1, e2, e3⟩ := ih
      obtain ⟨r, er, hr⟩ := h
      refine ⟨r :: rs, by rw [List.map_cons, e1, er], by rw [List.length_cons, List.length_cons, e2], fun i r' n' a b => ?_⟩
      cases i with
      | zero => cases a; cases b; exact hr
      | succ i => exact e3 i r' n' (by simpa using a) (by simpa using b)
  obtain ⟨rs, e1, e2, e3⟩ := q
  exact ⟨p, rs, e, by rw [h1, e1], e2, e3⟩
theorem rows_rp {K : Frag} {H : Hp} {p : Addr} {rs : List Addr} {ns : List N3} (h : RwAt H p rs ns) : rp K H (.ref p) ns := by
  obtain ⟨h1, h2, h3⟩ := h
  refine ⟨p, _, rfl, h1, ?_⟩
  clear h1
  induction rs generalizing ns with
  | nil => cases ns with
    | nil => exact .nil
    | cons _ _ => cases h2
  | cons r rs ih => cases ns with
    | nil => cases h2
    | cons n ns => exact .cons ⟨r, rfl, h3 0 r n rfl rfl⟩ (ih (by simpa using h2) fun i r' n' a b => h3 (i + 1) r' n' (by simpa using a) (by simpa using b))
/-- the lines of a route, both ways -/
theorem rp_lines {K : Frag} {H : Hp} {v : V} {ls : List Lin} (h : rp K H v ls) : ∃ p rs, v = .ref p ∧ H p = some (.lst (rs.map V.ref)) ∧ LgAt K H rs (ls.map fun l => (l.k, l.n)) := by
  obtain ⟨p, vs, e, h1, h2⟩ := h
  have q : ∃ rs : List Addr, vs = rs.map V.ref ∧ LgAt K H rs (ls.map fun l => (l.k, l.n)) := by
    clear h1
    induction h2 with
    | nil => exact ⟨[], rfl, rfl, fun i r n hr _ => by simp at hr⟩
    | cons h t ih =>
      obtain ⟨rs, e1, e2, e3⟩ := ih
      obtain ⟨r, er, hr⟩ := h
      refine ⟨r :: rs, by rw [List.map_cons, e1, er], by rw [List.map_cons, List.length_cons, List.length_cons, e2], fun i r' n' a b => ?_⟩
      cases i with
      | zero => cases a; cases b; exact hr
      | succ i => exact e3 i r' n' (by simpa using a) (by simpa using b)
  obtain ⟨rs, e1, e2⟩ := q
  exact ⟨p, rs, e, by rw [h1, e1], e2⟩
theorem lines_rp {K : Frag} {H : Hp} {p : Addr} {rs : List Addr} {kns : List (LK × N3)} (h1 : H p = some (.lst (rs.map V.ref))) (h : LgAt K H rs kns) : rp K H (.ref p) (kns.map fun kn => (⟨kn.1, kn.2⟩ : Lin)) := by
  obtain ⟨h2, h3⟩ := h
  refine ⟨p, _, rfl, h1, ?_⟩
  clear h1
  induction rs generalizing kns with
  | nil => cases kns with
    | nil => exact .nil
    | cons _ _ => cases h2
  | cons r rs ih => cases kns with
    | nil => cases h2
    | cons n ns => exact .cons ⟨r, rfl, h3 0 r n rfl rfl⟩ (ih (by simpa using h2) fun i r' n' a b => h3 (i + 1) r' n' (by simpa using a) (by simpa using b))
end Fw

/-! Fw, part S: readings over data by their types. -/
namespace Fw
open PySem PySem.Spec PyProof.Rows L2
open He (ga ma)
open Rep (rp)
/-! ### relations that are not laid open -/
abbrev RC : Type := List V → Hp → VK → Prop
abbrev RV : Type := V → Hp → VK → Prop
abbrev RS : Type := V → Option Int → Option Int → Hp → VK → Prop
abbrev RG : Type := Int → Int → Hp → VK → Prop
@[irreducible] def sqc (r : RC) : RC := r
@[irreducible] def sqv (r : RV) : RV := r
@[irreducible] def sqs (r : RS) : RS := r
@[irreducible] def sqg (r : RG) : RG := r
@[irreducible] def sq2 (r : R2) : R2 := r
theorem sqc_eq (r : RC) : sqc r = r := by
  unfold sqc
  rfl
theorem sqv_eq (r : RV) : sqv r = r := by
  unfold sqv
  rfl
theorem sqs_eq (r : RS) : sqs r = r := by
  unfold sqs
  rfl
theorem sqg_eq (r : RG) : sqg r = r := by
  unfold sqg
  rfl
theorem sq2_eq (r : R2) : sq2 r = r := by
  unfold sq2
  rfl
section
variable {X : Cx}
theorem crq {f : Value} {r : RC} (h : CallR X f r) : CallR X f (sqc r) := by
  rw [sqc_eq]
  exact h
theorem opq {f : Value → Value → Sem Value} {r : R2} (h : OpR X f r) : OpR X f (sq2 r) := by
  rw [sq2_eq]
  exact h
theorem ixq {r : R2} (h : IxR X r) : IxR X (sq2 r) := by
  rw [sq2_eq]
  exact h
theorem slq {r : RS} (h : SlR X r) : SlR X (sqs r) := by
  rw [sqs_eq]
  exact h
def rLstD : RC := fun xs H Q => xs.length ≤ sizeLine ∧ ∀ p, H p = none → Q (.ref p) (upd H p (.lst xs))
def rTupD : RC := fun xs H Q => xs.length ≤ sizeLine ∧ ∀ p, H p = none → Q (.ref p) (upd H p (.tup xs))
def rGet (K : Frag) (gg : N3 → Int) : RV := fun x H Q => ∃ a k n, x = .ref a ∧ LnAt K H a k n ∧ Q (.int (gg n)) H
def rRg : RG := fun a b H Q => RgOk a b ∧ ∀ q, H q = none → Q (.ref q) (upd H q (.lst (rgV a b)))
theorem pe_lstQ {e : Expr} {t : TA} (h : PE X e (tLst t)) : PE X e (tCB (sqc rLstD) t) := by
  rw [sqc_eq]
  exact h
theorem pe_tupQ {e : Expr} {t : TA} (h : PE X e (tTup t)) : PE X e (tCB (sqc rTupD) t) := by
  rw [sqc_eq]
  exact h
theorem pe_getQ {e : Expr} {ta : TE} {gg : N3 → Int} {K : Frag} (h : PE X e (tLG K ta gg)) : PE X e (tUn (sqv (rGet K gg)) ta) := by
  rw [sqv_eq]
  exact h
def tRgQ (te : L2.St → Hp → (Int → Int → Hp → Prop) → Prop) : TE := fun σ H Q => te σ H fun a b H1 => sqg rRg a b H1 Q
theorem pe_rgQ {e : Expr} {te : L2.St → Hp → (Int → Int → Hp → Prop) → Prop} (h : PE X e (tLstRg te)) : PE X e (tRgQ te) := by
  unfold tRgQ
  rw [sqg_eq]
  exact h
end
/-! ### subscripts, lengths, targets -/
section
variable {K : Frag} {F H H1 : Hp} {M : Addr → Prop} {v w : V} {Q : VK} {α β γ : Type} [Rep α] [Rep β] [Rep γ]
theorem rd_ixL {xs : List α} {i : Int} {x : α} (h : rp K F v xs) (hF : Same F H) (hx : atI xs i = some x) (k : ∀ u, rp K F u x → Q u H) : sq2 (rIxL K) v (.int i) H Q := by
  rw [sq2_eq]
  obtain ⟨p, vs, rfl, h1, h2⟩ := h
  obtain ⟨j, hj⟩ : ∃ j, ixN xs.length i = some j := by
    unfold atI at hx
    cases e : ixN xs.length i with
    | none => rw [e] at hx; cases hx
    | some j => exact ⟨j, rfl⟩
  have hx2 : xs[j]? = some x := by
    unfold atI at hx
    rw [hj] at hx
    exact hx
  obtain ⟨u, hu, ru⟩ := pd_get h2 hx2
  refine ⟨p, vs, i, u, rfl, rfl, SqL.of (hF _ _ h1), ?_, k u ru⟩
  unfold atI
  rw [h2.length, hj]
  exact hu
theorem rd_ixI {xs : List Int} {i x : Int} (h : rp K F v xs) (hF : Same F H) (hx : atI xs i = some x) (k : Q (.int x) H) : sq2 (rIxL K) v (.int i) H Q := rd_ixL h hF hx fun u e => by
  obtain rfl : u = V.int x := e
  exact k
theorem rd_n0 {n : N3} (h : rp K F v n) (hF : Same F H) (k : Q (.int n.e) H) : sq2 (rIxT K) v (.int 0) H Q := by
  rw [sq2_eq]
  obtain ⟨p, rfl, h1⟩ := h
  exact ⟨p, _, 0, _, rfl, rfl, SqT.of (hF _ _ h1), at0, k⟩
theorem rd_n1 {n : N3} (h : rp K F v n) (hF : Same F H) (k : Q (.int n.a) H) : sq2 (rIxT K) v (.int 1) H Q := by
  rw [sq2_eq]
  obtain ⟨p, rfl, h1⟩ := h
  exact ⟨p, _, 1, _, rfl, rfl, SqT.of (hF _ _ h1), atI_nat (j := 1) rfl, k⟩
theorem rd_n2 {n : N3} (h : rp K F v n) (hF : Same F H) (k : Q (.int n.r) H) : sq2 (rIxT K) v (.int 2) H Q := by
  rw [sq2_eq]
  obtain ⟨p, rfl, h1⟩ := h
  exact ⟨p, _, 2, _, rfl, rfl, SqT.of (hF _ _ h1), atI_nat (j := 2) rfl, k⟩
theorem rd_p0 {x : α × β} (h : rp K F v x) (hF : Same F H) (k : ∀ u, rp K F u x.1 → Q u H) : sq2 (rIxT K) v (.int 0) H Q := by
  rw [sq2_eq]
  obtain ⟨p, u1, u2, rfl, h1, r1, r2⟩ := h
  exact ⟨p, _, 0, _, rfl, rfl, SqT.of (hF _ _ h1), at0, k _ r1⟩
theorem rd_p1 {x : α × β} (h : rp K F v x) (hF : Same F H) (k : ∀ u, rp K F u x.2 → Q u H) : sq2 (rIxT K) v (.int 1) H Q := by
  rw [sq2_eq]
  obtain ⟨p, u1, u2, rfl, h1, r1, r2⟩ := h
  exact ⟨p, _, 1, _, rfl, rfl, SqT.of (hF _ _ h1), atI_nat (j := 1) rfl, k _ r2⟩
theorem rd_t0 {x : P3 α β γ} (h : rp K F v x) (hF : Same F H) (k : ∀ u, rp K F u x.a → Q u H) : sq2 (rIxT K) v (.int 0) H Q := by
  rw [sq2_eq]
  obtain ⟨p, u1, u2, u3, rfl, h1, r1, r2, r3⟩ := h
  exact ⟨p, _, 0, _, rfl, rfl, SqT.of (hF _ _ h1), at0, k _ r1⟩
theorem rd_t1 {x : P3 α β γ} (h : rp K F v x) (hF : Same F H) (k : ∀ u, rp K F u x.b → Q u H) : sq2 (rIxT K) v (.int 1) H Q := by
  rw [sq2_eq]
  obtain ⟨p, u1, u2, u3, rfl, h1, r1, r2, r3⟩ := h
  exact ⟨p, _, 1, _, rfl, rfl, SqT.of (hF _ _ h1), atI_nat (j := 1) rfl, k _ r2⟩
theorem rd_t2 {x : P3 α β γ} (h : rp K F v x) (hF : Same F H) (k : ∀ u, rp K F u x.c → Q u H) : sq2 (rIxT K) v (.int 2) H Q := by
  rw [sq2_eq]
  obtain ⟨p, u1, u2, u3, rfl, h1, r1, r2, r3⟩ := h
  exact ⟨p, _, 2, _, rfl, rfl, SqT.of (hF _ _ h1), atI_nat (j := 2) rfl, k _ r3⟩
theorem rd_len {xs : List α} (h : rp K F v xs) (hF : Same F H) (k : Q (.int (xs.length : Nat)) H) : sqc (fun xs H Q => ∃ p ys, xs = [V.ref p] ∧ (SqL K H p ys ∨ SqT K H p ys) ∧ Q (.int (ys.length : Nat)) H) [v] H Q := by
  rw [sqc_eq]
  obtain ⟨p, vs, rfl, h1, h2⟩ := h
  exact ⟨p, vs, rfl, .inl (SqL.of (hF _ _ h1)), by rw [h2.length]; exact k⟩
/-- a, b, c = a tuple of a line's numbers -/
theorem rd_un3 {n : N3} {i j l : Nat} {σ : L2.St} {R : L2.St → Hp → Prop} (h : rp K F v n) (hF : Same F H) (k : R (((σ.set i (some (.int n.e))).set j (some (.int n.a))).set l (some (.int n.r))) H) :
    gTup K 3 (gCons (gName i) (gCons (gName j) (gCons (gName l) gNil))) v σ H R := by
  obtain ⟨p, rfl, h1⟩ := h
  exact ⟨p, _, rfl, SqT.of (hF _ _ h1), rfl, _, _, rfl, _, _, rfl, _, _, rfl, rfl, k⟩
theorem rd_unP {x : α × β} {i j : Nat} {σ : L2.St} {R : L2.St → Hp → Prop} (h : rp K F v x) (hF : Same F H) (k : ∀ u1 u2, rp K F u1 x.1 → rp K F u2 x.2 → R ((σ.set i (some u1)).set j (some u2)) H) :
    gTup K 2 (gCons (gName i) (gCons (gName j) gNil)) v σ H R := by
  obtain ⟨p, u1, u2, rfl, h1, r1, r2⟩ := h
  exact ⟨p, _, rfl, SqT.of (hF _ _ h1), rfl, _, _, rfl, _, _, rfl, rfl, k _ _ r1 r2⟩
theorem rd_unT {x : P3 α β γ} {i j l : Nat} {σ : L2.St} {R : L2.St → Hp → Prop} (h : rp K F v x) (hF : Same F H) (k : ∀ u1 u2 u3, rp K F u1 x.a → rp K F u2 x.b → rp K F u3 x.c → R (((σ.set i (some u1)).set j (some u2)).set l (some u3)) H) :
    gTup K 3 (gCons (gName i) (gCons (gName j) (gCons (gName l) gNil))) v σ H R := by
  obtain ⟨p, u1, u2, u3, rfl, h1, r1, r2, r3⟩ := h
  exact ⟨p, _, rfl, SqT.of (hF _ _ h1), rfl, _, _, rfl, _, _, rfl, _, _, rfl, rfl, k _ _ _ r1 r2 r3⟩
/-! ### builtins over lists of ints -/
theorem rd_max {xs : List Int} (h : rp K F v xs) (hF : Same F H) (hn : xs ≠ []) (k : ∀ m, m ∈ xs → (∀ y, y ∈ xs → y ≤ m) → Q (.int m) H) : sqc (rMax K) [v] H Q := by
  rw [sqc_eq]
  obtain ⟨p, rfl, h1⟩ := rp_ints h
  exact ⟨p, xs, rfl, SqL.of (hF _ _ h1), List.length_pos_iff.mpr hn, k⟩
theorem rd_min {xs : List Int} (h : rp K F v xs) (hF : Same F H) (hn : xs ≠ []) (k : ∀ m, m ∈ xs → (∀ y, y ∈ xs → m ≤ y) → Q (.int m) H) : sqc (rMin K) [v] H Q := by
  rw [sqc_eq]
  obtain ⟨p, rfl, h1⟩ := rp_ints h
  exact ⟨p, xs, rfl, SqL.of (hF _ _ h1), List.length_pos_iff.mpr hn, k⟩
theorem rd_sum {xs : List Int} (h : rp K F v xs) (hF : Same F H) (k : Q (.int xs.sum) H) : sqc (rSum K) [v] H Q := by
  rw [sqc_eq]
  obtain ⟨p, rfl, h1⟩ := rp_ints h
  exact ⟨p, xs, rfl, SqL.of (hF _ _ h1), k⟩
theorem rd_all {xs : List Bool} (h : rp K F v xs) (hF : Same F H) (k : Q (.bl (xs.all id)) H) : sqc (rAll K) [v] H Q := by
  rw [sqc_eq]
  obtain ⟨p, rfl, h1⟩ := rp_bls h
  exact ⟨p, xs, rfl, SqL.of (hF _ _ h1), k⟩
/-! ### new objects -/
theorem rd_lst {vs : List V} {xs : List α} (al : Alloc M H) (hl : vs.length ≤ 1000) (h : Paired (fun v x => rp K (Fr M H) v x) vs xs) (k : ∀ v H', Same H H' → rp K (Fr M H') v xs → Q v H') : sqc rLstD vs H Q := by
  rw [sqc_eq]
  exact ⟨Nat.le_trans hl (by decide), fun p hp => k _ _ (Same.new hp) ⟨p, vs, rfl, Fr.new al hp, L2.Paired.mapP h fun _ _ q => Rep.up (Fr.same (Same.new hp)) q⟩⟩
theorem rd_tup3 {a b c : Int} (al : Alloc M H) (k : ∀ v H', Same H H' → rp K (Fr M H') v (⟨a, b, c⟩ : N3) → Q v H') : sqc rTupD [.int a, .int b, .int c] H Q := by
  rw [sqc_eq]
  exact ⟨by show 3 ≤ sizeLine; decide, fun p hp => k _ _ (Same.new hp) ⟨p, rfl, Fr.new al hp⟩⟩
theorem rd_pair {u w : V} {x : α} {y : β} (al : Alloc M H) (hu : rp K (Fr M H) u x) (hw : rp K (Fr M H) w y) (k : ∀ v H', Same H H' → rp K (Fr M H') v (x, y) → Q v H') : sqc rTupD [u, w] H Q := by
  rw [sqc_eq]
  exact ⟨by show 2 ≤ sizeLine; decide, fun p hp => k _ _ (Same.new hp) ⟨p, u, w, rfl, Fr.new al hp, Rep.up (Fr.same (Same.new hp)) hu, Rep.up (Fr.same (Same.new hp)) hw⟩⟩
theorem rd_tupT {u w t : V} {x : α} {y : β} {z : γ} (al : Alloc M H) (hu : rp K (Fr M H) u x) (hw : rp K (Fr M H) w y) (ht : rp K (Fr M H) t z) (k : ∀ v H', Same H H' → rp K (Fr M H') v (⟨x, y, z⟩ : P3 α β γ) → Q v H') : sqc rTupD [u, w, t] H Q := by
  rw [sqc_eq]
  exact ⟨by show 3 ≤ sizeLine; decide, fun p hp => k _ _ (Same.new hp) ⟨p, u, w, t, rfl, Fr.new al hp, Rep.up (Fr.same (Same.new hp)) hu, Rep.up (Fr.same (Same.new hp)) hw, Rep.up (Fr.same (Same.new hp)) ht⟩⟩
theorem rd_cat {xs ys : List α} (al : Alloc M H) (h : rp K (Fr M H) v xs) (g : rp K (Fr M H) w ys) (hl : xs.length + ys.length ≤ 100000) (k : ∀ v H', Same H H' → rp K (Fr M H') v (xs ++ ys) → Q v H') : sq2 rCat v w H Q := by
  rw [sq2_eq]
  obtain ⟨p, vs, rfl, h1, h2⟩ := h
  obtain ⟨q, ws, rfl, g1, g2⟩ := g
  refine ⟨p, q, vs, ws, rfl, rfl, Fr.sub _ _ h1, Fr.sub _ _ g1, ?_, fun r hr => k _ _ (Same.new hr) ⟨r, _, rfl, Fr.new al hr, L2.Paired.mapP (pd_app h2 g2) fun _ _ q => Rep.up (Fr.same (Same.new hr)) q⟩⟩
  rw [h2.length, g2.length]
  exact Nat.le_trans hl (by decide)
/-- the items of a slice -/
def cutX {α : Type} (xs : List α) (lo hi : Option Int) : List α := (xs.drop (HT.sIx xs.length 0 lo)).take (HT.sIx xs.length xs.length hi - HT.sIx xs.length 0 lo)
theorem rd_sl {xs : List α} {lo hi : Option Int} (al : Alloc M H) (h : rp K (Fr M H) v xs) (k : ∀ v H', Same H H' → rp K (Fr M H') v (cutX xs lo hi) → Q v H') : sqs (rSlL K) v lo hi H Q := by
  rw [sqs_eq]
  obtain ⟨p, vs, rfl, h1, h2⟩ := h
  refine ⟨p, vs, rfl, SqL.of (Fr.sub _ _ h1), fun r hr => k _ _ (Same.new hr) ⟨r, _, rfl, Fr.new al hr, ?_⟩⟩
  unfold cutV cutX
  rw [h2.length]
  exact L2.Paired.mapP (pd_take (pd_drop h2 _) _) fun _ _ q => Rep.up (Fr.same (Same.new hr)) q
theorem cutX_to {xs : List α} {n : Nat} (h : n ≤ xs.length) : cutX xs none (some (n : Int)) = xs.take n := by
  unfold cutX
  rw [HT.sIx_nat, HT.sIx_none, Nat.min_eq_left h, Nat.sub_zero, List.drop_zero]
theorem cutX_from {xs : List α} {n : Nat} (h : n ≤ xs.length) : cutX xs (some (n : Int)) none = xs.drop n := by
  unfold cutX
  rw [HT.sIx_nat, HT.sIx_none, Nat.min_eq_left h]
  exact List.take_of_length_le (by rw [List.length_drop]; omega)
theorem cutX_mid {xs : List α} {a b : Nat} (h1 : a ≤ xs.length) (h2 : b ≤ xs.length) : cutX xs (some (a : Int)) (some (b : Int)) = (xs.drop a).take (b - a) := by
  unfold cutX
  rw [HT.sIx_nat, HT.sIx_nat, Nat.min_eq_left h1, Nat.min_eq_left h2]
theorem rd_list {xs : List α} (al : Alloc M H) (h : rp K (Fr M H) v xs) (k : ∀ v H', Same H H' → rp K (Fr M H') v xs → Q v H') : sqc (fun xs H Q => ∃ p ys, xs = [V.ref p] ∧ (SqT K H p ys ∨ SqL K H p ys) ∧ ∀ l, H l = none → Q (.ref l) (upd H l (.lst ys))) [v] H Q := by
  rw [sqc_eq]
  obtain ⟨p, vs, rfl, h1, h2⟩ := h
  exact ⟨p, vs, rfl, .inr (SqL.of (Fr.sub _ _ h1)), fun r hr => k _ _ (Same.new hr) ⟨r, _, rfl, Fr.new al hr, L2.Paired.mapP h2 fun _ _ q => Rep.up (Fr.same (Same.new hr)) q⟩⟩
theorem rd_sorted {xs : List Int} (al : Alloc M H) (h : rp K (Fr M H) v xs) (hl : xs.length < 64) (k : ∀ v H' (ys : List Int), Same H H' → ys.Perm xs → ys.Pairwise (fun a b => a ≤ b) → rp K (Fr M H') v ys → Q v H') : sqc (rSorted K) [v] H Q := by
  rw [sqc_eq]
  obtain ⟨p, rfl, h1⟩ := rp_ints h
  exact ⟨p, xs, rfl, SqL.of (Fr.sub _ _ h1), hl, fun ys r hp hs hr => k _ _ ys (Same.new hr) hp hs (rp_ofInts (Fr.new al hr))⟩
end
def rgI (lo : Int) (n : Nat) : List Int := (List.range n).map fun (i : Nat) => lo + (i : Int)
theorem rgI_len (lo : Int) (n : Nat) : (rgI lo n).length = n := by
  unfold rgI
  rw [List.length_map, List.length_range]
theorem rgI_get {lo : Int} {n i : Nat} (h : i < n) : (rgI lo n)[i]? = some (lo + i) := by
  unfold rgI
  rw [List.getElem?_map, List.getElem?_range h]
  rfl
theorem rgI_mem {lo : Int} {n : Nat} {z : Int} : z ∈ rgI lo n ↔ lo ≤ z ∧ z < lo + n := by
  unfold rgI
  rw [List.mem_map]
  constructor
  · rintro ⟨a, ha, rfl⟩
    have := List.mem_range.mp ha
    omega
  · rintro ⟨h1, h2⟩
    exact ⟨(z - lo).toNat, List.mem_range.mpr (by omega), by omega⟩
/-! ### powers of ten -/
theorem p10_pos : ∀ k : Nat, 1 ≤ (10 : Int) ^ k
  | 0 => by decide
  | k + 1 => by
    have := p10_pos k
    rw [Int.pow_succ]
    omega
theorem p10_sz {k : Nat} (h : k ≤ 900) : Sz 4000 ((10 : Int) ^ k) := by
  have e : ((10 : Int) ^ k).natAbs = 10 ^ k := by
    have q : (10 : Int) ^ k = ((10 ^ k : Nat) : Int) := by simp
    rw [q, Int.natAbs_natCast]
  unfold Sz
  rw [e]
  calc 10 ^ k ≤ 16 ^ k := Nat.pow_le_pow_left (by decide) k
    _ = 2 ^ (4 * k) := by rw [Nat.pow_mul]
    _ < 2 ^ 4000 := Nat.pow_lt_pow_right (by decide) (by omega)
theorem Sz.up {z : Int} {k : Nat} (h0 : 0 ≤ z) (h : z ≤ (10 : Int) ^ k) (hk : k ≤ 900) : Sz 4000 z := Sz.le h0 h (p10_sz hk)
/-! ### items one by one -/
theorem tk_map {α β : Type} {f : α → β} {xs : List α} {i : Nat} {x : α} (h : xs[i]? = some x) : (xs.take (i + 1)).map f = (xs.take i).map f ++ [f x] := by
  rw [List.take_add_one, h, List.map_append]
  rfl
theorem tk_all {α β : Type} {f : α → β} {xs : List α} : (xs.take xs.length).map f = xs.map f := by rw [List.take_length]
theorem not_dec_true {p : Prop} [Decidable p] (h : (!decide p) = true) : ¬ p := fun q => by rw [decide_eq_true q] at h; exact Bool.noConfusion h
theorem not_dec_false {p : Prop} [Decidable p] (h : (!decide p) = false) : p := by
  by_cases q : p
  · exact q
  · rw [decide_eq_false q] at h
    exact Bool.noConfusion h
/-! ### tests -/
theorem optV_inj {x y : Option Int} (h : optV x = optV y) : x = y := by
  cases x <;> cases y <;> first | rfl | (cases h; rfl) | cases h

theorem ifNT {c A B : Prop} [Decidable c] (hc : ¬ c) (h : A) : if (!decide c) = true then A else B := by
  rw [if_pos (by rw [decide_eq_false hc]; rfl)]
  exact h
theorem ifND {c A B : Prop} [Decidable c] (h : ¬ c → A) (g : c → B) : if (!decide c) = true then A else B := by
  by_cases z : c
  · exact iteNS z (g z)
  · exact ifNT z (h z)
theorem qNT {p : Prop} [Decidable p] {Q : VK} {H : Hp} (h : ¬ p) (q : Q (.bl true) H) : Q (.bl (!decide p)) H := by
  rw [decide_eq_false h]
  exact q
/-! ### lines and routes -/
section
variable {K : Frag} {F H : Hp} {M : Addr → Prop} {v w : V} {Q : VK}
theorem rd_get {l : Lin} {gg : N3 → Int} (h : rp K F v l) (hF : Same F H) (k : Q (.int (gg l.n)) H) : sqv (rGet K gg) v H Q := by
  rw [sqv_eq]
  obtain ⟨a, rfl, L⟩ := h
  exact ⟨a, _, _, rfl, L.same hF, k⟩
theorem rp_line {l : Lin} (h : rp K F v l) (hF : Same F H) : ∃ a, v = .ref a ∧ LnAt K H a l.k l.n := by
  obtain ⟨a, rfl, L⟩ := h
  exact ⟨a, rfl, L.same hF⟩
theorem rp_rou {r : Rou} (h : rp K F v r) (hF : Same F H) : ∃ a, v = .ref a ∧ RtAt K H a r.l := by
  obtain ⟨a, rfl, L⟩ := h
  exact ⟨a, rfl, L.same hF⟩
theorem rp_rw {ns : List N3} (h : rp K F v ns) (hF : Same F H) : ∃ p rs, v = .ref p ∧ RwAt H p rs ns := by
  obtain ⟨p, rs, e, h⟩ := rp_rows h
  exact ⟨p, rs, e, h.same hF⟩
end
/-- a, b, c = a value, a value, a value by a tuple -/
theorem rd_asg3 {K : Frag} {v1 v2 v3 : V} {i j l : Nat} {σ : L2.St} {H : Hp} {R : L2.St → Hp → Prop} (k : ∀ H', Same H H' → R (((σ.set i (some v1)).set j (some v2)).set l (some v3)) H') :
    sqc rTupD [v1, v2, v3] H fun x H1 => gTup K 3 (gCons (gName i) (gCons (gName j) (gCons (gName l) gNil))) x σ H1 R := by
  rw [sqc_eq]
  exact ⟨by show 3 ≤ sizeLine; decide, fun p hp => ⟨p, _, rfl, SqT.of upd_same, rfl, _, _, rfl, _, _, rfl, _, _, rfl, rfl, k _ (Same.new hp)⟩⟩
theorem rd_asg2 {K : Frag} {v1 v2 : V} {i j : Nat} {σ : L2.St} {H : Hp} {R : L2.St → Hp → Prop} (k : ∀ H', Same H H' → R ((σ.set i (some v1)).set j (some v2)) H') :
    sqc rTupD [v1, v2] H fun x H1 => gTup K 2 (gCons (gName i) (gCons (gName j) gNil)) x σ H1 R := by
  rw [sqc_eq]
  exact ⟨by show 2 ≤ sizeLine; decide, fun p hp => ⟨p, _, rfl, SqT.of upd_same, rfl, _, _, rfl, _, _, rfl, rfl, k _ (Same.new hp)⟩⟩
section
variable {K : Frag} {F H : Hp} {M : Addr → Prop} {v w : V} {Q : VK} {α : Type} [Rep α]
theorem rp_ref {xs : List α} (h : rp K F v xs) : ∃ p, v = .ref p := let ⟨p, _, e, _⟩ := h; ⟨p, e⟩
theorem rp_refN {n : N3} (h : rp K F v n) : ∃ p, v = .ref p := let ⟨p, e, _⟩ := h; ⟨p, e⟩
/-- sorted(set(a list of ints)) -/
theorem rd_sset {W : World} {xs : List Int} (al : Alloc M H) (h : rp K (Fr M H) v xs) (hl : xs.length ≤ 1000) (h64 : ∀ es : List Int, es.Nodup → es.length ≤ xs.length → (∀ k, k ∈ es ↔ k ∈ xs) → es.length < 64) (k : ∀ v H' (ys : List Int), Same H H' → (∀ z, z ∈ ys ↔ z ∈ xs) ∧ ys.Pairwise (· < ·) ∧ ys.length ≤ xs.length → rp K (Fr M H') v ys → Q v H') :
    sqc (rSetL K W) [v] H fun x H1 => sqc (rSortedSet W) [x] H1 Q := by
  rw [sqc_eq, sqc_eq]
  obtain ⟨p, rfl, h1⟩ := rp_ints h
  refine ⟨p, xs, rfl, SqL.of (Fr.sub _ _ h1), hl, fun a c ha hc hes => ⟨a, _, c, rfl, upd_same, by obtain ⟨es, e1, e2, e3⟩ := hes; rw [← e2]; exact h64 es e1 (by rw [e2]; exact hc) e3, fun ns q pw mem hn hq => ?_⟩⟩
  have s := (Same.new (o := SetO W a (fun j => decide (j ∈ xs)) c) ha).trans (Same.new (o := .lst (ns.map V.int)) hq)
  refine k _ _ ns s ⟨fun z => (mem z).trans decide_eq_true_iff, pw, by rw [hn]; exact hc⟩ (rp_ofInts ?_)
  exact Fr.get (al.new (Same.fin (Same.new ha) hq)) upd_same
theorem rgV_eq (a b : Int) : rgV a b = (rgI a (b - a).toNat).map V.int := by
  unfold rgV rgI
  rw [List.map_map]
  rfl
/-- list(range(a, b)) -/
theorem rd_rg {lo hi : Int} (al : Alloc M H) (ok : RgOk lo hi) (k : ∀ v H', Same H H' → rp K (Fr M H') v (rgI lo (hi - lo).toNat) → Q v H') : sqg rRg lo hi H Q := by
  rw [sqg_eq]
  exact ⟨ok, fun q hq => k _ _ (Same.new hq) (rp_ofInts (by rw [← rgV_eq]; exact Fr.new al hq))⟩
theorem pd_flat {K : Frag} {F : Hp} {vs : List V} {xs : List α} (h : Paired (fun v x => rp K F v x) vs xs) : ∀ n : Nat, Paired (fun v x => rp K F v x) (List.replicate n vs).flatten (List.replicate n xs).flatten
  | 0 => .nil
  | n + 1 => by
    rw [List.replicate_succ, List.replicate_succ, List.flatten_cons, List.flatten_cons]
    exact pd_app h (pd_flat h n)
theorem rd_rep {xs : List α} {i : Int} (al : Alloc M H) (h : rp K (Fr M H) v xs) (h0 : 0 ≤ i) (h1 : i ≤ 1000) (hl : xs.length ≤ 1000) (k : ∀ v H', Same H H' → rp K (Fr M H') v (List.replicate i.toNat xs).flatten → Q v H') : sq2 rRep v (.int i) H Q := by
  rw [sq2_eq]
  obtain ⟨p, vs, rfl, e, h2⟩ := h
  refine ⟨p, i, vs, rfl, rfl, Fr.sub _ _ e, by omega, by omega, ?_, fun q hq => k _ _ (Same.new hq) ⟨q, _, rfl, Fr.new al hq, L2.Paired.mapP (pd_flat h2 _) fun _ _ z => Rep.up (Fr.same (Same.new hq)) z⟩⟩
  rw [h2.length]
  have : xs.length * i.toNat ≤ 1000 * 1000 := Nat.mul_le_mul hl (by omega)
  exact Nat.le_trans this (by decide)
end
/-! ### further rules -/
abbrev RM : Type := V → List V → Hp → VK → Prop
@[irreducible] def sqm (r : RM) : RM := r
theorem sqm_eq (r : RM) : sqm r = r := by
  unfold sqm
  rfl
theorem mtq {X : Cx} {id : String} {r : RM} (h : MtR X id r) : MtR X id (sqm r) := by
  rw [sqm_eq]
  exact h
def rIf (ta tb : TE) (σ : L2.St) : Bool → Hp → VK → Prop := fun c H Q => if c = true then ta σ H Q else tb σ H Q
@[irreducible] def sqi (r : Bool → Hp → VK → Prop) : Bool → Hp → VK → Prop := r
theorem sqi_eq (r : Bool → Hp → VK → Prop) : sqi r = r := by
  unfold sqi
  rfl
/-- a if t else b, both ways told at once -/
def tIfQ (t : TT) (ta tb : TE) : TE := fun σ H Q => t σ H fun c H1 => sqi (rIf ta tb σ) c H1 Q
theorem pe_ifQ {X : Cx} {e : Expr} {t : TT} {ta tb : TE} (h : PE X e (tIf t ta tb)) : PE X e (tIfQ t ta tb) := by
  unfold tIfQ
  simp only [sqi_eq]
  exact h
theorem rd_ifx {c : Bool} {ta tb : TE} {σ : L2.St} {H : Hp} {Q : VK} (R : V → Hp → Prop) (h1 : c = true → ∀ Q' : VK, (∀ v H', R v H' → Q' v H') → ta σ H Q') (h2 : c = false → ∀ Q' : VK, (∀ v H', R v H' → Q' v H') → tb σ H Q') (k : ∀ v H', R v H' → Q v H') : sqi (rIf ta tb σ) c H Q := by
  rw [sqi_eq]
  cases c with
  | true => exact h1 rfl Q k
  | false => exact h2 rfl Q k
theorem rd_ifT {c : Bool} {ta tb : TE} {σ : L2.St} {H : Hp} {Q : VK} (h : c = true) (k : ta σ H Q) : sqi (rIf ta tb σ) c H Q := by
  rw [sqi_eq, h]
  exact k
theorem rd_ifF {c : Bool} {ta tb : TE} {σ : L2.St} {H : Hp} {Q : VK} (h : c = false) (k : tb σ H Q) : sqi (rIf ta tb σ) c H Q := by
  rw [sqi_eq, h]
  exact k
/-- C(a, ..) by its __init__ -/
def rMake (C : Addr) (sp : Sp) (E : XK) : RC := fun vs H1 Q => ∀ x dx, H1 x = none → H1 dx = none → dx ≠ x → sp (.ref x :: vs ++ []) (upd (upd H1 dx (.own x)) x (.ins C dx [])) (fun v H2 => v = .non ∧ Q (.ref x) H2) E
theorem pe_makeQ {X : Cx} {e : Expr} {C : Addr} {sp : Sp} {E : XK} {t : TA} (h : PE X e (tMake C sp [] E t)) : PE X e (tCB (sqc (rMake C sp E)) t) := by
  rw [sqc_eq]
  exact h
def rMakeR (C : Addr) (sp : Sp) (E : XK) : RC := fun vs H1 Q => ∀ x dx, H1 x = none → H1 dx = none → dx ≠ x → sp (.ref x :: vs) (upd (upd H1 dx (.own x)) x (.ins C dx [])) (fun v H2 => v = .non ∧ Q (.ref x) H2) E
theorem pe_makeRQ {X : Cx} {e : Expr} {C : Addr} {sp : Sp} {E : XK} {t : TA} (h : PE X e (StX.tMakeR C sp E t)) : PE X e (tCB (sqc (rMakeR C sp E)) t) := by
  rw [sqc_eq]
  exact h
theorem rd_lenS {K : Frag} {H : Hp} {Q : VK} {p : Addr} {zs : List V} (h : SqL K H p zs) (k : Q (.int (zs.length : Nat)) H) : sqc (fun xs H Q => ∃ p ys, xs = [V.ref p] ∧ (SqL K H p ys ∨ SqT K H p ys) ∧ Q (.int (ys.length : Nat)) H) [V.ref p] H Q := by
  rw [sqc_eq]
  exact ⟨p, zs, rfl, .inl h, k⟩
theorem inV_ints (x : Int) : ∀ xs : List Int, inV (.int x) (xs.map V.int) = decide (x ∈ xs)
  | [] => rfl
  | y :: r => by
    have q := inV_ints x r
    unfold inV at q ⊢
    rw [List.map_cons, List.any_cons, q]
    by_cases e : y = x
    · subst e
      simp [eqV]
    · have e2 : ¬ x = y := fun z => e z.symm
      simp [eqV, e, e2]
theorem flat_ints : ∀ xs : List Int, (xs.map V.int).all flatV = true
  | [] => rfl
  | _ :: r => by
    rw [List.map_cons, List.all_cons, flat_ints r]
    rfl
theorem rd_in {K : Frag} {F H : Hp} {v : V} {Q : VK} {x : Int} {xs : List Int} (h : rp K F v xs) (hF : Same F H) (k : Q (.bl (decide (x ∈ xs))) H) : sq2 (rIn K false) (.int x) v H Q := by
  rw [sq2_eq]
  obtain ⟨p, rfl, h1⟩ := rp_ints h
  exact ⟨p, _, rfl, .inl (SqL.of (hF _ _ h1)), rfl, flat_ints xs, by rw [show (if false = true then !inV (.int x) (xs.map V.int) else inV (.int x) (xs.map V.int)) = inV (.int x) (xs.map V.int) from rfl, inV_ints]; exact k⟩
/-! ### lists that grow -/
/-- at D, which M holds, a list of xs -/
structure Mu {α : Type} [Rep α] (K : Frag) (M : Addr → Prop) (H : Hp) (D : Addr) (xs : List α) : Prop where
  ex : ∃ vs, H D = some (.lst vs) ∧ Paired (fun v x => rp K (Fr M H) v x) vs xs
section
variable {α : Type} [Rep α] {K : Frag} {M M0 : Addr → Prop} {H H' : Hp} {D : Addr} {xs : List α} {v : V} {Q : VK}
theorem Mu.ext (m : Mu K M H D xs) (s : Same (Fr M H) (Fr M H')) (e : ∀ o, H D = some o → H' D = some o) : Mu K M H' D xs := let ⟨vs, a, b⟩ := m; ⟨vs, e _ a, L2.Paired.mapP b fun _ _ q => Rep.up s q⟩
theorem Mu.same (m : Mu K M H D xs) (s : Same H H') : Mu K M H' D xs := m.ext (Fr.same s) fun o e => s _ _ e
theorem Mu.draw {a : Addr} (m : Mu K M H D xs) (x : Ext (fdM a) H H') (h : ∀ b, fdM a b → M b) (n : ¬ fdM a D) : Mu K M H' D xs := m.ext (Fr.ext (Ext.sub h x)) fun o e => x _ _ n e
theorem rd_mut (al : Alloc M H) (k : ∀ D H', H D = none → Same H H' → Mu K (Ad D M) H' D ([] : List α) → Same (Fr M H) (Fr (Ad D M) H') → Alloc (Ad D M) H' → Q (.ref D) H') : sqc rLstD [] H Q := by
  rw [sqc_eq]
  exact ⟨Nat.zero_le _, fun D hD => k D _ hD (Same.new hD) ⟨[], upd_same, .nil⟩ (Fr.put hD) al.put⟩
theorem rd_app {x : α} (m : Mu K M H D xs) (hM : M D) (al : Alloc M H) (hy : rp K (Fr M H) v x) (hl : xs.length < 1000000) (k : ∀ H', Mu K M H' D (xs ++ [x]) → Same (Fr M H) (Fr M H') → Ext (Ad D (fun _ => False)) H H' → Alloc M H' → Q .non H') : sqm rAppend (.ref D) [v] H Q := by
  rw [sqm_eq]
  obtain ⟨vs, e1, e2⟩ := m
  have s := Fr.wr (H := H) (o := .lst (vs ++ [v])) hM
  refine ⟨D, vs, v, rfl, rfl, e1, Nat.lt_trans (by rw [e2.length]; exact hl) (by decide), k _ ⟨vs ++ [v], upd_same, (L2.Paired.mapP e2 fun _ _ q => Rep.up s q).snoc (Rep.up s hy)⟩ s (fun b o n e => by rw [upd_ne (fun z => n (.inl z))]; exact e) al.wr⟩
theorem Mu.ty (m : Mu K M H D xs) : tyV K "list" (.ref D) H := let ⟨_, a, _⟩ := m; .inl ⟨rfl, _, SqL.of a⟩
/-- it grows no more -/
theorem Mu.done (m : Mu K (Ad D M0) H D xs) (n : ¬ M0 D) : rp K (Fr M0 H) (.ref D) xs := let ⟨vs, a, b⟩ := m; ⟨D, vs, rfl, Fr.get n a, L2.Paired.mapP b fun _ _ q => Rep.up Fr.free q⟩
theorem ext_drop (x : Ext (Ad D M) H H') (h : H D = none) : Ext M H H' := fun b o n e => x b o (fun z => z.elim (fun q => by rw [q, h] at e; cases e) n) e
theorem ext_drop0 (x : Ext (Ad D (fun _ => False)) H H') (h : H D = none) : Same H H' := fun b o e => ext_drop x h b o (fun z => z) e
theorem Tp.app {a : Addr} {N : Nat} (t : Tp a N H) (x : Ext (Ad D (fun _ => False)) H H') (n : ¬ fdM a D) : Tp a N H' := by
  obtain ⟨d, m, n2, h1, h2⟩ := t
  exact ⟨d, m, n2, x _ _ (fun z => z.elim (fun e => n e.symm) (fun z => z)) h1, h2⟩
/-- read while it may grow -/
theorem Mu.len (m : Mu K M H D xs) (k : Q (.int (xs.length : Nat)) H) : sqc (fun xs H Q => ∃ p ys, xs = [V.ref p] ∧ (SqL K H p ys ∨ SqT K H p ys) ∧ Q (.int (ys.length : Nat)) H) [V.ref D] H Q := by
  rw [sqc_eq]
  obtain ⟨vs, a, b⟩ := m
  exact ⟨D, vs, rfl, .inl (SqL.of a), by rw [b.length]; exact k⟩
end
/-! ### comprehensions -/
section
variable {K : Frag} {H1 : Hp} {M M0 : Addr → Prop} {I : Nat → Hp → Prop} {v : V} {Q : Addr → Hp → Prop} {α β : Type} [Rep α] [Rep β] {J : It} {n : Nat} {G : Hp → Prop} {Y : Nat → Hp → V → Hp → Prop} {g : TG} {tt : TT} {te : TE} {vs : List Nat} {σ : L2.St}
theorem lc_rep (wk : Walk J n G Y) (Ys : Nat → List β) (y0 : Ys 0 = []) (al : Alloc M H1) (hG : ∀ H, Same (Fr M H1) H → G H) (hz : n ≤ 1000000) (sub0 : ∀ p, M0 p → M p) (i0 : I 0 H1) (iup : ∀ i H D o, ¬ M0 D → I i H → I i (upd H D o)) (iAl : ∀ i H, I i H → Alloc M0 H)
    (step : ∀ (i : Nat) (x : V) (H H' : Hp) (M' : Addr → Prop) (C : V → Hp → Prop) (C0 : Hp → Prop), i < n → Same (Fr M H1) (Fr M' H) → Alloc M' H → (∀ p, M p → M' p) → Ext M0 H1 H → I i H → Y i H x H' →
      (∀ w y H4, Ext M0 H H4 → I (i + 1) H4 → Ys (i + 1) = Ys i ++ [y] → rp K (Fr M' H4) w y → C w H4) → (∀ H4, Ext M0 H H4 → I (i + 1) H4 → Ys (i + 1) = Ys i → C0 H4) →
      g x (wipe σ vs) H' fun σ2 H2 => wipe σ2 vs = wipe σ vs ∧ tt σ2 H2 fun b H3 => if b = true then te σ2 H3 C else C0 H3)
    (k : ∀ D H', Ext M0 H1 H' → I n H' → H1 D = none → rp K (Fr M H') (.ref D) (Ys n) → Q D H') :
    ∀ D, H1 D = none → ∃ W : Nat → Nat → Hp → Prop, (∃ m, W 0 m (upd H1 D (.lst []))) ∧ ∀ i m H, W i m H →
      (J.stop i H ∧ Q D H) ∨ (J.go i H ∧ ∃ Nx : Hp → Prop, (∀ H', Nx H' → ∃ m', m' < m ∧ W (i + 1) m' H') ∧ ∀ x H', J.yld i H x H' → g x (wipe σ vs) H' fun σ2 H2 => wipe σ2 vs = wipe σ vs ∧ tt σ2 H2 fun b H3 =>
        if b = true then te σ2 H3 fun y H4 => ∃ acc, H4 D = some (.lst acc) ∧ acc.length < sizeLine ∧ Nx (upd H4 D (.lst (acc ++ [y]))) else Nx H3) := by
  intro D hD
  have nM : ¬ M D := al.new hD
  have nM0 : ¬ M0 D := fun z => nM (sub0 _ z)
  have al4 : ∀ H H4, Alloc (Ad D M) H → Ext M0 H H4 → Alloc M0 H4 → Alloc (Ad D M) H4 := fun H H4 a x a0 p m => by
    by_cases q : M0 p
    · exact a0 p q
    · obtain ⟨xs, e, hz9⟩ := a p m
      exact ⟨xs, x p _ q e, hz9⟩
  refine lc_it wk (fun i H => ∃ acc, H D = some (.lst acc) ∧ acc.length ≤ i ∧ Paired (fun v x => rp K (Fr (Ad D M) H) v x) acc (Ys i) ∧ Ext M0 H1 H ∧ I i H ∧ Same (Fr M H1) (Fr (Ad D M) H) ∧ Alloc (Ad D M) H)
    ⟨[], upd_same, Nat.le_refl _, by rw [y0]; exact .nil, Ext.new hD, iup _ _ _ _ nM0 i0, Fr.put hD, al.put⟩ (fun i H _ h => ?_) ?_ (fun H h => ?_)
  · obtain ⟨_, _, _, _, _, _, s, _⟩ := h
    exact hG H (s.trans Fr.sub)
  · rintro i x H H' hi ⟨acc, e1, e2, e3, e4, e5, e6, e7⟩ hY
    have zz : acc.length < sizeLine := Nat.lt_of_lt_of_le (show acc.length < 1000001 by omega) (by decide)
    refine step i x H H' (Ad D M) _ _ hi e6 e7 (fun p m => .inr m) e4 e5 hY (fun w y H4 x4 i4 eY r4 => ?_) (fun H4 x4 i4 eY => ?_)
    · have f4 := x4 _ _ nM0 e1
      have m1 : Same (Fr (Ad D M) H) (Fr (Ad D M) H4) := Fr.ext (fun b o nb e => x4 b o (fun z => nb (.inr (sub0 _ z))) e)
      have m2 : Same (Fr (Ad D M) H4) (Fr (Ad D M) (upd H4 D (.lst (acc ++ [w])))) := Fr.wr (.inl rfl)
      refine ⟨acc, f4, zz, acc ++ [w], upd_same, by rw [List.length_append]; exact Nat.succ_le_succ e2, ?_, (fun b o nb e => by rw [upd_ne (ne_of_none e hD)]; exact x4 b o nb (e4 b o nb e)), iup _ _ _ _ nM0 i4, e6.trans (m1.trans m2), (al4 H H4 e7 x4 (iAl _ _ i4)).wr⟩
      rw [eY]
      exact Paired.snoc (L2.Paired.mapP e3 fun _ _ q => Rep.up (m1.trans m2) q) (Rep.up m2 r4)
    · have m1 : Same (Fr (Ad D M) H) (Fr (Ad D M) H4) := Fr.ext (fun b o nb e => x4 b o (fun z => nb (.inr (sub0 _ z))) e)
      exact ⟨acc, x4 _ _ nM0 e1, Nat.le_succ_of_le e2, by rw [eY]; exact L2.Paired.mapP e3 fun _ _ q => Rep.up m1 q, e4.trans x4, i4, e6.trans m1, al4 H H4 e7 x4 (iAl _ _ i4)⟩
  · obtain ⟨acc, e1, e2, e3, e4, e5, e6, e7⟩ := h
    exact k D H e4 e5 hD ⟨D, acc, rfl, Fr.get nM e1, L2.Paired.mapP e3 fun _ _ q => Rep.up Fr.free q⟩
/-- what no draw changes -/
theorem ext_none {H H' : Hp} (x : Ext (fun _ => False) H H') : Same H H' := fun b o e => x b o (fun z => z) e
theorem lc_same (wk : Walk J n G Y) (Ys : Nat → List β) (y0 : Ys 0 = []) (al : Alloc M H1) (hG : ∀ H, Same (Fr M H1) H → G H) (hz : n ≤ 1000000)
    (step : ∀ (i : Nat) (x : V) (H H' : Hp) (M' : Addr → Prop) (C : V → Hp → Prop) (C0 : Hp → Prop), i < n → Same (Fr M H1) (Fr M' H) → Alloc M' H → (∀ p, M p → M' p) → Same H1 H → Y i H x H' →
      (∀ w y H4, Same H H4 → Ys (i + 1) = Ys i ++ [y] → rp K (Fr M' H4) w y → C w H4) → (∀ H4, Same H H4 → Ys (i + 1) = Ys i → C0 H4) →
      g x (wipe σ vs) H' fun σ2 H2 => wipe σ2 vs = wipe σ vs ∧ tt σ2 H2 fun b H3 => if b = true then te σ2 H3 C else C0 H3)
    (k : ∀ D H', Same H1 H' → rp K (Fr M H') (.ref D) (Ys n) → Q D H') :
    ∀ D, H1 D = none → ∃ W : Nat → Nat → Hp → Prop, (∃ m, W 0 m (upd H1 D (.lst []))) ∧ ∀ i m H, W i m H →
      (J.stop i H ∧ Q D H) ∨ (J.go i H ∧ ∃ Nx : Hp → Prop, (∀ H', Nx H' → ∃ m', m' < m ∧ W (i + 1) m' H') ∧ ∀ x H', J.yld i H x H' → g x (wipe σ vs) H' fun σ2 H2 => wipe σ2 vs = wipe σ vs ∧ tt σ2 H2 fun b H3 =>
        if b = true then te σ2 H3 fun y H4 => ∃ acc, H4 D = some (.lst acc) ∧ acc.length < sizeLine ∧ Nx (upd H4 D (.lst (acc ++ [y]))) else Nx H3) :=
  lc_rep (M0 := fun _ => False) (I := fun _ _ => True) wk Ys y0 al hG hz (fun _ z => z.elim) trivial (fun _ _ _ _ _ _ => trivial) (fun _ _ _ _ z => z.elim)
    (fun i x H H' M' C C0 hi s6 a7 hm x4 _ hY hC hC0 => step i x H H' M' C C0 hi s6 a7 hm (ext_none x4) hY (fun w y H4 s e r => hC w y H4 (Ext.same s) trivial e r) fun H4 s e => hC0 H4 (Ext.same s) trivial e)
    fun D H' x _ _ r => k D H' (ext_none x) r
/-- a walk that gives the items of xs, one after another -/
structure TW (K : Frag) (M : Addr → Prop) (H1 : Hp) (J : It) (xs : List α) : Prop where
  ex : ∃ (G : Hp → Prop) (Y : Nat → Hp → V → Hp → Prop), Walk J xs.length G Y ∧ (∀ H, Same (Fr M H1) H → G H) ∧
    ∀ (i : Nat) (u : V) (H H' : Hp) (M' : Addr → Prop), i < xs.length → Same (Fr M H1) (Fr M' H) → Alloc M' H → Y i H u H' → ∃ x, xs[i]? = some x ∧ Same H H' ∧ rp K (Fr M' H') u x
abbrev LcW (J : It) (H1 : Hp) (g : TG) (tt : TT) (te : TE) (vs : List Nat) (σ : L2.St) (D : Addr) (Qd : Hp → Prop) : Prop :=
  ∃ W : Nat → Nat → Hp → Prop, (∃ m, W 0 m (upd H1 D (.lst []))) ∧ ∀ i m H, W i m H →
      (J.stop i H ∧ Qd H) ∨ (J.go i H ∧ ∃ Nx : Hp → Prop, (∀ H', Nx H' → ∃ m', m' < m ∧ W (i + 1) m' H') ∧ ∀ x H', J.yld i H x H' → g x (wipe σ vs) H' fun σ2 H2 => wipe σ2 vs = wipe σ vs ∧ tt σ2 H2 fun b H3 =>
        if b = true then te σ2 H3 fun y H4 => ∃ acc, H4 D = some (.lst acc) ∧ acc.length < sizeLine ∧ Nx (upd H4 D (.lst (acc ++ [y]))) else Nx H3)
/-- [f(x) for x in ..] -/
theorem lc_map {xs : List α} {ys : List β} (T : TW K M H1 J xs) (al : Alloc M H1) (hlen : ys.length = xs.length) (hz : xs.length ≤ 1000000)
    (step : ∀ (i : Nat) (x : α) (y : β) (u : V) (H : Hp) (M' : Addr → Prop) (C : V → Hp → Prop) (C0 : Hp → Prop), xs[i]? = some x → ys[i]? = some y → Same (Fr M H1) (Fr M' H) → Alloc M' H → Same H1 H → rp K (Fr M' H) u x →
      (∀ w H4, Same H H4 → rp K (Fr M' H4) w y → C w H4) → g u (wipe σ vs) H fun σ2 H2 => wipe σ2 vs = wipe σ vs ∧ tt σ2 H2 fun b H3 => if b = true then te σ2 H3 C else C0 H3)
    (k : ∀ D H', Same H1 H' → rp K (Fr M H') (.ref D) ys → Q D H') : ∀ D, H1 D = none → LcW J H1 g tt te vs σ D (Q D) := by
  obtain ⟨G, Y, wk, hG, hY⟩ := T.ex
  refine lc_rep (M0 := fun _ => False) (I := fun _ _ => True) wk (fun i => ys.take i) rfl al hG hz (fun _ z => z.elim) trivial (fun _ _ _ _ _ _ => trivial) (fun _ _ _ _ z => z.elim) ?_ (fun D H' x _ _ r => k D H' (ext_none x) (by rw [List.take_of_length_le (by rw [hlen]; exact Nat.le_refl _)] at r; exact r))
  rintro i x H H' M' C C0 hi s6 a7 hm s4 _ y7 hC _
  obtain ⟨z, hz2, s8, rz⟩ := hY i x H H' M' hi s6 a7 y7
  have iy : i < ys.length := by rw [hlen]; exact hi
  refine step i z ys[i] x H' M' C C0 hz2 (List.getElem?_eq_getElem iy) (s6.trans (Fr.same s8)) (a7.same s8) ((ext_none s4).trans s8) rz fun w H4 s r => hC w ys[i] H4 (Ext.same (s8.trans s)) trivial ?_ r
  rw [List.take_add_one, List.getElem?_eq_getElem iy]
  rfl
/-- [f(x) for x in .. if p(x)] -/
theorem lc_filt {xs : List α} (p : α → Bool) (f : α → β) (T : TW K M H1 J xs) (al : Alloc M H1) (hz : xs.length ≤ 1000000)
    (step : ∀ (i : Nat) (x : α) (u : V) (H : Hp) (M' : Addr → Prop) (C : V → Hp → Prop) (C0 : Hp → Prop), xs[i]? = some x → Same (Fr M H1) (Fr M' H) → Alloc M' H → Same H1 H → rp K (Fr M' H) u x →
      (p x = true → ∀ w H4, Same H H4 → rp K (Fr M' H4) w (f x) → C w H4) → (p x = false → ∀ H4, Same H H4 → C0 H4) → g u (wipe σ vs) H fun σ2 H2 => wipe σ2 vs = wipe σ vs ∧ tt σ2 H2 fun b H3 => if b = true then te σ2 H3 C else C0 H3)
    (k : ∀ D H', Same H1 H' → rp K (Fr M H') (.ref D) ((xs.filter p).map f) → Q D H') : ∀ D, H1 D = none → LcW J H1 g tt te vs σ D (Q D) := by
  obtain ⟨G, Y, wk, hG, hY⟩ := T.ex
  refine lc_rep (M0 := fun _ => False) (I := fun _ _ => True) wk (fun i => ((xs.take i).filter p).map f) rfl al hG hz (fun _ z => z.elim) trivial (fun _ _ _ _ _ _ => trivial) (fun _ _ _ _ z => z.elim) ?_ (fun D H' x _ _ r => k D H' (ext_none x) (by rw [List.take_of_length_le (Nat.le_refl _)] at r; exact r))
  rintro i x H H' M' C C0 hi s6 a7 hm s4 _ y7 hC hC0
  obtain ⟨z, hz2, s8, rz⟩ := hY i x H H' M' hi s6 a7 y7
  have e : ∀ b, p z = b → ((xs.take (i + 1)).filter p).map f = ((xs.take i).filter p).map f ++ (if b = true then [f z] else []) := fun b hb => by
    rw [List.take_add_one, hz2]
    show (((xs.take i) ++ [z]).filter p).map f = _
    rw [List.filter_append, List.map_append]
    congr 1
    cases b with
    | true => rw [List.filter_cons_of_pos hb, List.filter_nil]; rfl
    | false => rw [List.filter_cons_of_neg (by rw [hb]; exact Bool.false_ne_true), List.filter_nil]; rfl
  refine step i z x H' M' C C0 hz2 (s6.trans (Fr.same s8)) (a7.same s8) ((ext_none s4).trans s8) rz (fun hp w H4 s r => hC w (f z) H4 (Ext.same (s8.trans s)) trivial (e true hp) r) fun hp H4 s => hC0 H4 (Ext.same (s8.trans s)) trivial (by rw [e false hp]; exact List.append_nil _)
/-- the same where each turn draws -/
theorem lc_tape {a : Addr} {c N : Nat} {xs : List α} (p : α → Bool) (f : α → β) (T : TW K (fdM a) H1 J xs) (hT : Tp a (N + c * xs.length) H1) (hz : xs.length ≤ 1000000)
    (step : ∀ (i : Nat) (x : α) (u : V) (H : Hp) (M' : Addr → Prop) (C : V → Hp → Prop) (C0 : Hp → Prop), xs[i]? = some x → Same (Fr (fdM a) H1) (Fr M' H) → Alloc M' H → (∀ b, fdM a b → M' b) → Ext (fdM a) H1 H → Tp a (N + c * (xs.length - (i + 1)) + c) H → rp K (Fr M' H) u x →
      (p x = true → ∀ w H4, Ext (fdM a) H H4 → Tp a (N + c * (xs.length - (i + 1))) H4 → rp K (Fr M' H4) w (f x) → C w H4) → (p x = false → ∀ H4, Ext (fdM a) H H4 → Tp a (N + c * (xs.length - (i + 1))) H4 → C0 H4) → g u (wipe σ vs) H fun σ2 H2 => wipe σ2 vs = wipe σ vs ∧ tt σ2 H2 fun b H3 => if b = true then te σ2 H3 C else C0 H3)
    (k : ∀ D H', Ext (fdM a) H1 H' → Tp a N H' → rp K (Fr (fdM a) H') (.ref D) ((xs.filter p).map f) → Q D H') : ∀ D, H1 D = none → LcW J H1 g tt te vs σ D (Q D) := by
  obtain ⟨G, Y, wk, hG, hY⟩ := T.ex
  refine lc_rep (M0 := fdM a) (I := fun i H => Tp a (N + c * (xs.length - i)) H) wk (fun i => ((xs.take i).filter p).map f) rfl hT.alloc hG hz (fun _ z => z) hT (fun i H D o n t => ?_) (fun _ _ t => t.alloc) ?_ (fun D H' x i _ r => k D H' x (by rw [Nat.sub_self] at i; exact i) (by rw [List.take_of_length_le (Nat.le_refl _)] at r; exact r))
  · obtain ⟨d, m, n2, h1, h2⟩ := t
    exact ⟨d, m, n2, by rw [upd_ne fun z => n z.symm]; exact h1, h2⟩
  rintro i x H H' M' C C0 hi s6 a7 hm s4 t7 y7 hC hC0
  obtain ⟨z, hz2, s8, rz⟩ := hY i x H H' M' hi s6 a7 y7
  have e : ∀ b, p z = b → ((xs.take (i + 1)).filter p).map f = ((xs.take i).filter p).map f ++ (if b = true then [f z] else []) := fun b hb => by
    rw [List.take_add_one, hz2]
    show (((xs.take i) ++ [z]).filter p).map f = _
    rw [List.filter_append, List.map_append]
    congr 1
    cases b with
    | true => rw [List.filter_cons_of_pos hb, List.filter_nil]; rfl
    | false => rw [List.filter_cons_of_neg (by rw [hb]; exact Bool.false_ne_true), List.filter_nil]; rfl
  have t8 : Tp a (N + c * (xs.length - (i + 1)) + c) H' := by
    have q := t7.same s8
    have e2 : N + c * (xs.length - i) = N + c * (xs.length - (i + 1)) + c := by
      rw [show xs.length - i = (xs.length - (i + 1)) + 1 by omega, Nat.mul_add, Nat.mul_one]
      omega
    rw [e2] at q
    exact q
  refine step i z x H' M' C C0 hz2 (s6.trans (Fr.same s8)) (a7.same s8) hm (s4.trans (Ext.same s8)) t8 rz (fun hp w H4 s t r => hC w (f z) H4 ((Ext.same s8).trans s) t (e true hp) r) fun hp H4 s t => hC0 H4 ((Ext.same s8).trans s) t (by rw [e false hp]; exact List.append_nil _)
/-! ### the walks -/
theorem tw_list {xs : List α} (h : rp K (Fr M H1) v xs) : ∃ a, v = V.ref a ∧ (∃ zs, SqL K H1 a zs) ∧ TW K M H1 (Itl K a) xs := by
  obtain ⟨p, zs, rfl, h1, h2⟩ := id h
  refine ⟨p, rfl, ⟨zs, SqL.of (Fr.sub _ _ h1)⟩, ⟨_, _, by rw [← h2.length]; exact walk_list (xs := zs), fun H s => SqL.of (s _ _ h1), ?_⟩⟩
  rintro i u H H' M' hi s6 a7 ⟨rfl, hx⟩
  obtain ⟨z, hz2, rz⟩ := pd_getL h2 hx
  exact ⟨z, hz2, Same.refl _, Rep.up s6 rz⟩
theorem tw_range {lo : Int} {n : Nat} : TW K M H1 (Itr lo n) (rgI lo n) := by
  refine ⟨_, _, by rw [rgI_len]; exact walk_range, fun _ _ => trivial, ?_⟩
  rintro i u H H' M' hi s6 a7 ⟨rfl, rfl⟩
  rw [rgI_len] at hi
  exact ⟨lo + i, rgI_get hi, Same.refl _, rfl⟩
theorem tw_zip {w : V} {xs : List α} {ys : List β} (h : rp K (Fr M H1) v xs) (h' : rp K (Fr M H1) w ys) : ∃ a b zs us, [v, w] = [V.ref a, V.ref b] ∧ SqL K H1 a zs ∧ SqL K H1 b us ∧ TW K M H1 (Itz K a b) (xs.zip ys) := by
  obtain ⟨p, zs, rfl, h1, h2⟩ := id h
  obtain ⟨q, us, rfl, g1, g2⟩ := id h'
  refine ⟨p, q, zs, us, rfl, SqL.of (Fr.sub _ _ h1), SqL.of (Fr.sub _ _ g1), ⟨fun H => SqL K H p zs ∧ SqL K H q us, _, by rw [List.length_zip]; exact walk_zip (xs := zs) (ys := us) (by rw [h2.length, g2.length]), fun H s => ⟨SqL.of (s _ _ h1), SqL.of (s _ _ g1)⟩, ?_⟩⟩
  rintro i u H H' M' hi s6 a7 ⟨T, x1, x2, rfl, hT0, rfl, hx1, hx2⟩
  obtain ⟨y1, hy1, r1⟩ := pd_getL h2 hx1
  obtain ⟨y2, hy2, r2⟩ := pd_getL g2 hx2
  have up := s6.trans (Fr.same (M := M') (Same.new (o := .tup [x1, x2]) hT0))
  exact ⟨(y1, y2), by rw [List.getElem?_zip_eq_some]; exact ⟨hy1, hy2⟩, Same.new hT0, T, x1, x2, rfl, Fr.new a7 hT0, Rep.up up r1, Rep.up up r2⟩
def enI {α : Type} (xs : List α) : List (Int × α) := xs.mapIdx fun i x => ((i : Int), x)
theorem enI_len {α : Type} (xs : List α) : (enI xs).length = xs.length := List.length_mapIdx
theorem enI_get {α : Type} {xs : List α} {i : Nat} {x : α} (h : xs[i]? = some x) : (enI xs)[i]? = some ((i : Int), x) := by
  unfold enI
  rw [List.getElem?_mapIdx, h]
  rfl
theorem tw_enum {xs : List α} (h : rp K (Fr M H1) v xs) : ∃ a zs, [v] = [V.ref a] ∧ SqL K H1 a zs ∧ TW K M H1 (Ite K a) (enI xs) := by
  obtain ⟨p, zs, rfl, h1, h2⟩ := id h
  refine ⟨p, zs, rfl, SqL.of (Fr.sub _ _ h1), ⟨_, _, by rw [enI_len, ← h2.length]; exact walk_enum (xs := zs), fun H s => SqL.of (s _ _ h1), ?_⟩⟩
  rintro i u H H' M' hi s6 a7 ⟨T, x1, x2, rfl, hT0, rfl, hx1, hx2⟩
  obtain ⟨y2, hy2, r2⟩ := pd_getL h2 hx2
  cases hx1
  have up := s6.trans (Fr.same (M := M') (Same.new (o := .tup [.int i, x2]) hT0))
  exact ⟨((i : Int), y2), enI_get hy2, Same.new hT0, T, .int i, x2, rfl, Fr.new a7 hT0, rfl, Rep.up up r2⟩
/-! ### for -/
abbrev ForW (J : It) (g : TG) (tb : TS) (D : Ends) (σ : L2.St) (H : Hp) : Prop :=
  ∃ W : Nat → Nat → L2.St → Hp → Prop, (∃ m, W 0 m σ H) ∧ ∀ i m σ H, W i m σ H →
      (J.stop i H ∧ D.nx σ H) ∨ (J.go i H ∧ ∃ N : L2.St → Hp → Prop, (∀ σ' H', N σ' H' → ∃ m', m' < m ∧ W (i + 1) m' σ' H') ∧ ∀ x H', J.yld i H x H' → g x σ H' fun σ2 H2 => tb { D with nx := N, ct := N, bk := D.nx } σ2 H2)
/-- a for over such a walk; Pv by the turn, the slots and the heap; Mi: what the body may change -/
theorem for_tw {tb : TS} {D : Ends} {xs : List α} (T : TW K M H1 J xs) (Mi : Addr → Prop) (Pv : Nat → L2.St → Hp → Prop) (h0 : Pv 0 σ H1) (hP : ∀ i σ H, Pv i σ H → Same (Fr M H1) (Fr Mi H) ∧ Alloc Mi H)
    (hs : ∀ (i : Nat) (x : α) (u : V) (σ : L2.St) (H H' : Hp), xs[i]? = some x → Pv i σ H → Same H H' → Same (Fr M H1) (Fr Mi H') → Alloc Mi H' → rp K (Fr Mi H') u x → g u σ H' fun σ2 H2 => tb { D with nx := Pv (i + 1), ct := Pv (i + 1), bk := D.nx } σ2 H2)
    (hd : ∀ σ H, Pv xs.length σ H → D.nx σ H) : ForW J g tb D σ H1 := by
  obtain ⟨G, Y, wk, hG, hY⟩ := T.ex
  refine for_it wk Pv h0 (fun i σ H _ h => hG H ((hP i σ H h).1.trans Fr.sub)) ?_ hd
  intro i u σ H H' hi p y
  obtain ⟨s, a⟩ := hP i σ H p
  obtain ⟨x, hx, s8, r⟩ := hY i u H H' Mi hi s a y
  exact hs i x u σ H H' hx p s8 (s.trans (Fr.same s8)) (a.same s8) r
/-- [f(x) for x in ..], f told -/
theorem lc_mapF {xs : List α} (f : α → β) (T : TW K M H1 J xs) (al : Alloc M H1) (hz : xs.length ≤ 1000000)
    (step : ∀ (i : Nat) (x : α) (u : V) (H : Hp) (M' : Addr → Prop) (C : V → Hp → Prop) (C0 : Hp → Prop), xs[i]? = some x → Same (Fr M H1) (Fr M' H) → Alloc M' H → Same H1 H → rp K (Fr M' H) u x →
      (∀ w H4, Same H H4 → rp K (Fr M' H4) w (f x) → C w H4) → g u (wipe σ vs) H fun σ2 H2 => wipe σ2 vs = wipe σ vs ∧ tt σ2 H2 fun b H3 => if b = true then te σ2 H3 C else C0 H3)
    (k : ∀ D H', Same H1 H' → rp K (Fr M H') (.ref D) (xs.map f) → Q D H') : ∀ D, H1 D = none → LcW J H1 g tt te vs σ D (Q D) :=
  lc_map T al (List.length_map _) hz (fun i x y u H M' C C0 hx hy s a s1 r hC => step i x u H M' C C0 hx s a s1 r fun w H4 s4 r4 => hC w H4 s4 (by
    rw [List.getElem?_map, hx] at hy
    cases hy
    exact r4)) k
end
end Fw

/-! Fw, part T: == and repr of data by their types. -/
namespace Fw
open PySem PySem.Spec PyProof.Rows L2
open He (ga ma)
open Rep (rp)
mutual
theorem dp_same {K : Frag} {H H' : Hp} (s : Same H H') : ∀ (d : PyData) (v : V), Dp K H v d → Dp K H' v d
  | .none, _, h => by cases h; exact .non
  | .bool b, _, h => by cases h; exact .bl b
  | .int i, _, h => by cases h; exact .int i
  | .str x, _, h => by cases h; exact .str x
  | .list ds, _, h => by
    cases h with
    | lst h1 h2 => exact .lst (s.seq h1) (dp_sames s ds _ h2)
  | .tuple ds, _, h => by
    cases h with
    | tup h1 h2 => exact .tup (h1.elim (fun h => .inl (h.elim (fun h => .inl (s _ _ h)) fun ⟨o, h⟩ => .inr ⟨o, s _ _ h⟩)) fun h => .inr h) (dp_sames s ds _ h2)
  | .dict _, _, h => by cases h
theorem dp_sames {K : Frag} {H H' : Hp} (s : Same H H') : ∀ (ds : List PyData) (vs : List V), DpAll K H vs ds → DpAll K H' vs ds
  | [], _, h => by cases h; exact .nil
  | d :: ds, _, h => by
    cases h with
    | cons a b => exact .cons (dp_same s d _ a) (dp_sames s ds _ b)
end
class Dat (α : Type) extends Rep α where
  toD : α → PyData
  dp : ∀ {K : Frag} {F : Hp} {v : V} {x : α}, rp K F v x → Dp K F v (toD x)
  eqd : ∀ x y : α, PyData.eqv (toD x) (toD y) = true ↔ x = y
  ok : α → Prop
  lay : ∀ {x : α}, ok x → (toD x).canLay0 = true
  dep : Nat
  hdep : ∀ x : α, (toD x).depth ≤ dep
  fit : Nat → α → Prop
  hfit : ∀ {W : Nat} {x : α}, fit W x → (toD x).showable = true ∧ (toD x).hasDict = false ∧ wt (toD x) ≤ W
open Dat (toD)
instance : Dat Int where
  toD := .int
  dp := fun h => by rw [show _ = V.int _ from h]; exact .int _
  eqd := fun x y => by simp only [PyData.eqv, beq_iff_eq]
  ok := fun _ => True
  lay := fun _ => by simp only [PyData.canLay0]
  dep := 0
  hdep := fun x => by simp only [PyData.depth]; exact Nat.le_refl _
  fit := fun W i => Sz 1800 i ∧ 600 ≤ W
  hfit := fun h => ⟨by simp only [PyData.showable, decide_eq_true (h.1.log (by decide) (by decide))], by simp only [PyData.hasDict], by simp only [wt]; exact h.2⟩
instance : Dat Bool where
  toD := .bool
  dp := fun h => by rw [show _ = V.bl _ from h]; exact .bl _
  eqd := fun x y => by simp only [PyData.eqv, beq_iff_eq]
  ok := fun _ => True
  lay := fun _ => by simp only [PyData.canLay0]
  dep := 0
  hdep := fun x => by simp only [PyData.depth]; exact Nat.le_refl _
  fit := fun W i => 5 ≤ W
  hfit := fun h => ⟨by simp only [PyData.showable], by simp only [PyData.hasDict], by simp only [wt]; exact h⟩
instance : Dat Str where
  toD := .str
  dp := fun h => by rw [show _ = V.str _ from h]; exact .str _
  eqd := fun x y => by simp only [PyData.eqv, beq_iff_eq]
  ok := fun x => PyData.strOk x = true
  lay := fun h => by simp only [PyData.canLay0]; exact h
  dep := 0
  hdep := fun x => by simp only [PyData.depth]; exact Nat.le_refl _
  fit := fun W x => (PyData.shown (.str x)).length ≤ W
  hfit := fun h => ⟨by simp only [PyData.showable], by simp only [PyData.hasDict], by simp only [wt]; exact h⟩
instance : Dat (Option Int) where
  toD := fun x => match x with | none => .none | some i => .int i
  dp := fun {K F v x} h => match x, h with
    | none, h => by rw [show v = V.non from h]; exact .non
    | some i, h => by rw [show v = V.int i from h]; exact .int _
  eqd := fun x y => by cases x <;> cases y <;> simp [PyData.eqv]
  ok := fun _ => True
  lay := fun {x} _ => by cases x <;> simp only [PyData.canLay0]
  dep := 0
  hdep := fun x => by cases x <;> (simp only [PyData.depth]; exact Nat.le_refl _)
  fit := fun W x => 600 ≤ W ∧ ∀ i, x = some i → Sz 1800 i
  hfit := fun {W x} h => by
    cases x with
    | none => exact ⟨by simp only [PyData.showable], by simp only [PyData.hasDict], by simp only [wt]; omega⟩
    | some i => exact ⟨by simp only [PyData.showable, decide_eq_true ((h.2 i rfl).log (by decide) (by decide))], by simp only [PyData.hasDict], by simp only [wt]; exact h.1⟩
instance : Dat N3 where
  toD := fun n => .tuple [.int n.e, .int n.a, .int n.r]
  dp := fun h => by
    obtain ⟨p, rfl, h1⟩ := h
    exact .tup (SqT.of h1) (.cons (.int _) (.cons (.int _) (.cons (.int _) .nil)))
  eqd := fun x y => by
    obtain ⟨a, b, c⟩ := x
    obtain ⟨d, e, f⟩ := y
    simp [PyData.eqv, PyData.eqvAll]
  ok := fun _ => True
  lay := fun _ => by simp only [PyData.canLay0, PyData.canLayAll0, Bool.and_self]
  dep := 1
  hdep := fun x => by simp only [PyData.depth, PyData.depthAll]; decide
  fit := fun W n => Sz 1800 n.e ∧ Sz 1800 n.a ∧ Sz 1800 n.r ∧ 2000 ≤ W
  hfit := fun {W n} h => ⟨by simp only [PyData.showable, PyData.showableAll, decide_eq_true (h.1.log (by decide) (by decide)), decide_eq_true (h.2.1.log (by decide) (by decide)), decide_eq_true (h.2.2.1.log (by decide) (by decide)), Bool.and_self],
    by simp only [PyData.hasDict, PyData.hasDictAll, Bool.or_self], by simp only [wt, wtAll]; have := h.2.2.2; omega⟩
section
variable {α β γ : Type} [Dat α] [Dat β] [Dat γ]
theorem eqvAll_iff : ∀ xs ys : List α, PyData.eqvAll (xs.map toD) (ys.map toD) = true ↔ xs = ys
  | [], [] => by simp [PyData.eqvAll]
  | [], _ :: _ => by simp [PyData.eqvAll]
  | _ :: _, [] => by simp [PyData.eqvAll]
  | x :: xs, y :: ys => by
    rw [List.map_cons, List.map_cons]
    simp only [PyData.eqvAll, Bool.and_eq_true, Dat.eqd, eqvAll_iff xs ys, List.cons.injEq]
theorem dpAll_of {K : Frag} {F : Hp} : ∀ {vs : List V} {xs : List α}, Paired (fun v x => rp K F v x) vs xs → DpAll K F vs (xs.map toD)
  | _, _, .nil => .nil
  | _, _, .cons h t => .cons (Dat.dp h) (dpAll_of t)
theorem layAll : ∀ {xs : List α}, (∀ x ∈ xs, Dat.ok x) → PyData.canLayAll0 (xs.map toD) = true
  | [], _ => by simp only [List.map_nil, PyData.canLayAll0]
  | x :: xs, h => by
    rw [List.map_cons]
    simp only [PyData.canLayAll0, Dat.lay (h x List.mem_cons_self), layAll fun y hy => h y (List.mem_cons_of_mem _ hy), Bool.and_self]
theorem depAll : ∀ xs : List α, PyData.depthAll (xs.map toD) ≤ Dat.dep α
  | [] => by simp only [List.map_nil, PyData.depthAll]; exact Nat.zero_le _
  | x :: xs => by
    rw [List.map_cons]
    simp only [PyData.depthAll]
    exact Nat.max_le.mpr ⟨Dat.hdep x, depAll xs⟩
theorem fitAll {W : Nat} : ∀ {xs : List α}, (∀ x ∈ xs, Dat.fit W x) → PyData.showableAll (xs.map toD) = true ∧ PyData.hasDictAll (xs.map toD) = false ∧ wtAll (xs.map toD) ≤ xs.length * (W + 2)
  | [], _ => by simp only [List.map_nil, PyData.showableAll, PyData.hasDictAll, wtAll]; exact ⟨trivial, trivial, Nat.zero_le _⟩
  | x :: xs, h => by
    obtain ⟨a, b, c⟩ := Dat.hfit (h x List.mem_cons_self)
    obtain ⟨d, e, f⟩ := fitAll fun y hy => h y (List.mem_cons_of_mem _ hy)
    rw [List.map_cons]
    simp only [PyData.showableAll, PyData.hasDictAll, wtAll, a, b, d, e, Bool.and_self, Bool.or_self]
    refine ⟨trivial, trivial, ?_⟩
    rw [List.length_cons, Nat.succ_mul]
    omega
end
instance {α : Type} [Dat α] : Dat (List α) where
  toD := fun xs => .list (xs.map toD)
  dp := fun h => by
    obtain ⟨p, vs, rfl, h1, h2⟩ := h
    exact .lst (SqL.of h1) (dpAll_of h2)
  eqd := fun x y => by simp only [PyData.eqv]; exact eqvAll_iff x y
  ok := fun xs => ∀ x ∈ xs, Dat.ok x
  lay := fun h => by simp only [PyData.canLay0]; exact layAll h
  dep := Dat.dep α + 1
  hdep := fun x => by simp only [PyData.depth]; exact Nat.succ_le_succ (depAll x)
  fit := fun W xs => ∃ W', (∀ x ∈ xs, Dat.fit W' x) ∧ xs.length * (W' + 2) + 5 ≤ W
  hfit := fun h => by
    obtain ⟨W', h1, h2⟩ := h
    obtain ⟨a, b, c⟩ := fitAll h1
    exact ⟨by simp only [PyData.showable]; exact a, by simp only [PyData.hasDict]; exact b, by simp only [wt]; omega⟩
instance {α : Type} [Dat α] : Dat (Tup α) where
  toD := fun xs => .tuple (xs.l.map toD)
  dp := fun h => by
    obtain ⟨p, vs, rfl, h1, h2⟩ := h
    exact .tup (SqT.of h1) (dpAll_of h2)
  eqd := fun x y => by
    simp only [PyData.eqv]
    refine (eqvAll_iff x.l y.l).trans ⟨fun e => ?_, fun e => by rw [e]⟩
    cases x; cases y; exact congrArg Tup.mk e
  ok := fun xs => ∀ x ∈ xs.l, Dat.ok x
  lay := fun h => by simp only [PyData.canLay0]; exact layAll h
  dep := Dat.dep α + 1
  hdep := fun x => by simp only [PyData.depth]; exact Nat.succ_le_succ (depAll x.l)
  fit := fun W xs => ∃ W', (∀ x ∈ xs.l, Dat.fit W' x) ∧ xs.l.length * (W' + 2) + 5 ≤ W
  hfit := fun h => by
    obtain ⟨W', h1, h2⟩ := h
    obtain ⟨a, b, c⟩ := fitAll h1
    exact ⟨by simp only [PyData.showable]; exact a, by simp only [PyData.hasDict]; exact b, by simp only [wt]; omega⟩
instance {α β : Type} [Dat α] [Dat β] : Dat (α × β) where
  toD := fun x => .tuple [toD x.1, toD x.2]
  dp := fun h => by
    obtain ⟨p, v1, v2, rfl, h1, h2, h3⟩ := h
    exact .tup (SqT.of h1) (.cons (Dat.dp h2) (.cons (Dat.dp h3) .nil))
  eqd := fun x y => by
    obtain ⟨a, b⟩ := x
    obtain ⟨c, d⟩ := y
    simp only [PyData.eqv, PyData.eqvAll, Bool.and_eq_true, Dat.eqd, Prod.mk.injEq, and_true]
  ok := fun x => Dat.ok x.1 ∧ Dat.ok x.2
  lay := fun h => by simp only [PyData.canLay0, PyData.canLayAll0, Dat.lay h.1, Dat.lay h.2, Bool.and_self]
  dep := max (Dat.dep α) (Dat.dep β) + 1
  hdep := fun x => by
    have a := Dat.hdep x.1
    have b := Dat.hdep x.2
    simp only [PyData.depth, PyData.depthAll]
    omega
  fit := fun W x => ∃ W', Dat.fit W' x.1 ∧ Dat.fit W' x.2 ∧ 2 * (W' + 2) + 5 ≤ W
  hfit := fun h => by
    obtain ⟨W', h1, h2, h3⟩ := h
    obtain ⟨a, b, c⟩ := Dat.hfit h1
    obtain ⟨d, e, f⟩ := Dat.hfit h2
    exact ⟨by simp only [PyData.showable, PyData.showableAll, a, d, Bool.and_self], by simp only [PyData.hasDict, PyData.hasDictAll, b, e, Bool.or_self], by simp only [wt, wtAll]; omega⟩
instance {α β γ : Type} [Dat α] [Dat β] [Dat γ] : Dat (P3 α β γ) where
  toD := fun x => .tuple [toD x.a, toD x.b, toD x.c]
  dp := fun h => by
    obtain ⟨p, v1, v2, v3, rfl, h1, h2, h3, h4⟩ := h
    exact .tup (SqT.of h1) (.cons (Dat.dp h2) (.cons (Dat.dp h3) (.cons (Dat.dp h4) .nil)))
  eqd := fun x y => by
    obtain ⟨a, b, c⟩ := x
    obtain ⟨d, e, f⟩ := y
    simp only [PyData.eqv, PyData.eqvAll, Bool.and_eq_true, Dat.eqd, P3.mk.injEq, and_true]
  ok := fun x => Dat.ok x.a ∧ Dat.ok x.b ∧ Dat.ok x.c
  lay := fun h => by simp only [PyData.canLay0, PyData.canLayAll0, Dat.lay h.1, Dat.lay h.2.1, Dat.lay h.2.2, Bool.and_self]
  dep := max (Dat.dep α) (max (Dat.dep β) (Dat.dep γ)) + 1
  hdep := fun x => by
    have a := Dat.hdep x.a
    have b := Dat.hdep x.b
    have c := Dat.hdep x.c
    simp only [PyData.depth, PyData.depthAll]
    omega
  fit := fun W x => ∃ W', Dat.fit W' x.a ∧ Dat.fit W' x.b ∧ Dat.fit W' x.c ∧ 3 * (W' + 2) + 5 ≤ W
  hfit := fun h => by
    obtain ⟨W', h1, h2, h4, h3⟩ := h
    obtain ⟨a, b, c⟩ := Dat.hfit h1
    obtain ⟨d, e, f⟩ := Dat.hfit h2
    obtain ⟨g, i, j⟩ := Dat.hfit h4
    exact ⟨by simp only [PyData.showable, PyData.showableAll, a, d, g, Bool.and_self], by simp only [PyData.hasDict, PyData.hasDictAll, b, e, i, Bool.or_self], by simp only [wt, wtAll]; omega⟩
section
variable {K : Frag} {F H : Hp} {v w : V} {Q : VK} {α : Type} [Dat α] [DecidableEq α] {x y : α}
theorem eqv_dec (x y : α) : PyData.eqv (toD x) (toD y) = decide (x = y) := by
  by_cases e : x = y
  · rw [decide_eq_true e]
    exact (Dat.eqd x y).mpr e
  · rw [decide_eq_false e]
    cases q : PyData.eqv (toD x) (toD y) with
    | true => exact absurd ((Dat.eqd x y).mp q) e
    | false => rfl
theorem shp_of (h : Dat.ok x) (hd : Dat.dep α ≤ 64) : SeqAt.shaped (toD x) = true := by
  unfold SeqAt.shaped
  rw [Dat.lay h, decide_eq_true (Nat.le_trans (Dat.hdep x) hd)]
  rfl
/-- x == y of data of one type -/
theorem rd_eq (hx : rp K F v x) (hy : rp K F w y) (hF : Same F H) (ox : Dat.ok x) (oy : Dat.ok y) (k : Q (.bl (decide (x = y))) H) (hd : Dat.dep α ≤ 64 := by decide) : sq2 (rEqD K) v w H Q := by
  rw [sq2_eq]
  exact ⟨toD x, toD y, dp_same hF _ _ (Dat.dp hx), dp_same hF _ _ (Dat.dp hy), shp_of ox hd, shp_of oy hd, by rw [eqv_dec]; exact k⟩
theorem rd_ne (hx : rp K F v x) (hy : rp K F w y) (hF : Same F H) (ox : Dat.ok x) (oy : Dat.ok y) (k : Q (.bl (!decide (x = y))) H) (hd : Dat.dep α ≤ 64 := by decide) : sq2 (rNeD K) v w H Q := by
  rw [sq2_eq]
  exact ⟨toD x, toD y, dp_same hF _ _ (Dat.dp hx), dp_same hF _ _ (Dat.dp hy), shp_of ox hd, shp_of oy hd, by rw [eqv_dec]; exact k⟩
omit [DecidableEq α] in
/-- repr(x) of a list or tuple -/
theorem rd_repr {a : Addr} {W : Nat} (hx : rp K F (.ref a) x) (hF : Same F H) (f : Dat.fit W x) (k : Q (.str (toD x).shown) H) (hW : W ≤ 16777216 := by decide) (hd : Dat.dep α ≤ 40 := by decide) :
    sqc (fun xs H Q => ∃ a d, xs = [.ref a] ∧ Dp K H (.ref a) d ∧ Fit d ∧ Q (.str d.shown) H) [V.ref a] H Q := by
  rw [sqc_eq]
  obtain ⟨a1, b1, c1⟩ := Dat.hfit f
  exact ⟨a, toD x, rfl, dp_same hF _ _ (Dat.dp hx), ⟨a1, b1, Nat.le_trans (Dat.hdep x) hd, Nat.le_trans c1 hW⟩, k⟩
end
end Fw

/-! Fw, part U: an attribute as a target; o.f %= e. -/
namespace Fw
open PySem PySem.Spec PyProof.Rows L2
section
variable {X : Cx} {o : Expr} {f : Str} {pos : Pos} {ta : TE}
/-- o.f = .., within a tuple of targets -/
def gFld (K : Frag) (ta : TE) (f : Str) : TG := fun v σ H Q => ta σ H fun x H2 => ∃ a C dx fs, x = .ref a ∧ H2 a = some (.ins C dx fs) ∧ Cls K C ∧ NoAttr K C f ∧ fs.length < 1000 ∧ Q σ (upd H2 a (.ins C dx (putF f v fs)))
theorem pg_fld (ha : PE X o ta) : PG X (.Attribute o f pos) (gFld X.K ta f) := by
  refine ⟨fun pins s σ H v u Q I r h => ?_⟩
  show wpAny _ _ (assign (.Attribute o f pos) X.env u) _ _ _
  rw [show assign (.Attribute o f pos) X.env u = (do
    let ov ← holding [u] (eval o X.env)
    standAt pos.atName
    holding [u, ov] (setAttr ov f u)
    release [u, ov] []) from by unfold assign; rfl]
  refine wpAny_bind (wpAny_holding (thn (ha.run pins s σ H _ I h) fun ov s1 ⟨x, H1, I1, r1, a, C, dx, fs, ex, ea, c, n, l, q⟩ => ?_))
  subst ex
  obtain rfl : ov = Value.ref a := r1
  refine wpAny_bind (wpAny_standAt (wpAny_bind (wpAny_holding ?_)))
  exact setattr_ok I1 ea c n l r fun s3 I3 => wpAny_release ⟨σ, _, I3, q⟩
theorem in_mod : InOp X .Mod (fun x y H Q => ∃ i j, x = .int i ∧ y = .int j ∧ 0 < j ∧ Q (.int (i % j)) H) := by
  rintro pins s σ H x y u v Q I rx ry ⟨i, j, rfl, rfl, hj, q⟩
  obtain ⟨t, rfl⟩ := (show ∃ t, u = Value.int i t from rx)
  obtain ⟨t', rfl⟩ := (show ∃ t', v = Value.int j t' from ry)
  refine AutoIntOps.imod_1 (fun z => by
    have := beq_iff_eq.mp z
    omega) ?_
  rw [Int.fmod_eq_emod_of_nonneg i (by omega)]
  exact ⟨.int (i % j), H, I.tok _, ⟨_, rfl⟩, q⟩
end
end Fw

/-! Fw, part V: sum of a tuple, a tuple backward, tests joined, lines of any kind. -/
namespace Fw
open PySem PySem.Spec PyProof.Rows L2
open He (ga ma)
open Rep (rp)
section
variable {prog : Program} {w : World} {A : Around} {E : Value → Shared → Prop} {s : Shared} {l : Addr} {xs : Array (Int × Tok)}
theorem sum_tupG {Q : Value → Shared → Prop} (hh : A.handled = none) (hl : s.heap.IsTuple l (intItems xs))
    (h : ∀ h' tk t', (∀ b o, s.heap.get? b = some o → h'.get? b = some o) → Q (.int (preSum (numAt xs) xs.size) t') { s with heap := h', toks := tk }) :
    wpAny (model prog w) A (call (.builtin "sum") [.ref l]) Q E s := by
  have hlt : l < s.heap.objs.size := by obtain ⟨_, e, _⟩ := hl; exact Heap.lt_size e
  refine call_sum_walkG (wpAny_pyIter_tuple hl ?_)
  refine ⟨_, _, _, _, _, _, numAt xs, rfl, Walks.tuple (A := A.in1) hh _ l (Nat.ne_of_lt hlt) (intItems xs), ⟨⟨_, Heap.get?_push_size _ rfl, rfl, rfl⟩, hl.push _⟩, fun c hc => ?_, (fun _ _ => intItems_at), fun h' tk t' hk => ?_⟩
  · show c < (s.heap.push _).objs.size
    rw [Heap.size_push]
    rcases List.mem_cons.mp hc with rfl | hc
    · exact Nat.lt_succ_self _
    · rcases List.mem_cons.mp hc with rfl | hc
      · exact Nat.lt_succ_of_lt hlt
      · cases hc
  · have := h h' tk t' (fun b o e => by
      refine hk b o (fun hm => ?_) (Heap.get?_push_of_some _ e)
      rcases List.mem_cons.mp hm with e1 | hm
      · exact absurd (e1 ▸ Heap.lt_size e) (Nat.lt_irrefl _)
      · cases hm)
    simpa [intItems] using this
theorem sum_tup_raw {its : List Value} {ns : List Int} {Q : Value → Shared → Prop} (hh : A.handled = none) (hl : s.heap.IsTuple l its.toArray) (hi : IntsAre its ns)
    (h : ∀ h' tk t', (∀ b o, s.heap.get? b = some o → h'.get? b = some o) → Q (.int ns.sum t') { s with heap := h', toks := tk }) : wpAny (model prog w) A (call (.builtin "sum") [.ref l]) Q E s := by
  obtain ⟨xs, e⟩ := hi.allInts.items
  have hn : numsOf (intItems xs).toList = ns := by rw [← e]; exact hi.numsOf
  rw [nums_intItems] at hn
  rw [e] at hl
  refine sum_tupG hh hl fun h' tk t' hk => ?_
  have := h h' tk t' hk
  rw [preSum_eq, List.take_of_length_le (by simp), hn]; exact this
end
def rSumT (K : Frag) : RC := fun vs H Q => ∃ (a : Addr) (ns : List Int), vs = [V.ref a] ∧ SqT K H a (ns.map V.int) ∧ Q (.int ns.sum) H
theorem cr_sumT {X : Cx} (hc : X.calm = true) : CallR X (.builtin "sum") (rSumT X.K) := by
  intro pins s σ H vs us Q I r h
  obtain ⟨a, ns, rfl, hs, q⟩ := h
  obtain ⟨its, rv, ⟨o, e, hcl, n, hd⟩, _⟩ := I.tuple hs
  rw [Vals.ref1 r]
  exact sum_tup_raw (I.ok.hd hc) ⟨o, e, hcl, n, hd⟩ rv.ints fun h' tk t' hk => ⟨.int _, H, I.kept hk, ⟨_, rfl⟩, q⟩
def rRev3 (K : Frag) : RV := fun x H1 Q => ∃ a x0 x1 x2, x = .ref a ∧ SqT K H1 a [x0, x1, x2] ∧ ∀ p, H1 p = none → Q (.ref p) (upd H1 p (.tup [x2, x1, x0]))
theorem pe_tupRQ {X : Cx} {e : Expr} {te : TE} {K : Frag} (h : PE X e (tTupR K te)) : PE X e (tUn (sqv (rRev3 K)) te) := by
  rw [sqv_eq]
  exact h
section
variable {K : Frag} {F H : Hp} {M : Addr → Prop} {v w : V} {Q : VK}
theorem rd_sum3 {n : N3} (h : rp K F v n) (hF : Same F H) (k : Q (.int (n.e + n.a + n.r)) H) : sqc (rSumT K) [v] H Q := by
  rw [sqc_eq]
  obtain ⟨p, rfl, h1⟩ := h
  refine ⟨p, [n.e, n.a, n.r], rfl, SqT.of (hF _ _ h1), ?_⟩
  rw [show ([n.e, n.a, n.r] : List Int).sum = n.e + n.a + n.r by simp only [List.sum_cons, List.sum_nil]; omega]
  exact k
theorem rd_rev3 {n : N3} (al : Alloc M H) (h : rp K (Fr M H) v n) (k : ∀ u H', Same H H' → rp K (Fr M H') u (⟨n.r, n.a, n.e⟩ : N3) → Q u H') : sqv (rRev3 K) v H Q := by
  rw [sqv_eq]
  obtain ⟨p, rfl, h1⟩ := h
  exact ⟨p, _, _, _, rfl, SqT.of (Fr.sub _ _ h1), fun q hq => k _ _ (Same.new hq) ⟨q, rfl, Fr.new al hq⟩⟩
end
/-! ### a and b as a test: both ways told at once -/
abbrev RT : Type := Bool → Hp → (Bool → Hp → Prop) → Prop
def rAnd (u : TT) (σ : L2.St) : RT := fun c H Q => if c = true then u σ H Q else Q false H
@[irreducible] def sqt (r : RT) : RT := r
theorem sqt_eq (r : RT) : sqt r = r := by
  unfold sqt
  rfl
def tAndQ (t u : TT) : TT := fun σ H Q => t σ H fun c H1 => sqt (rAnd u σ) c H1 Q
theorem pt_andQ {X : Cx} {e : Expr} {t u : TT} (h : PT X e (tAnd t u)) : PT X e (tAndQ t u) := by
  unfold tAndQ
  simp only [sqt_eq]
  exact h
theorem rd_and {c : Bool} {u : TT} {σ : L2.St} {H : Hp} {Q : Bool → Hp → Prop} (R : Bool → Hp → Prop) (h1 : c = true → ∀ Q' : Bool → Hp → Prop, (∀ b H', R b H' → Q' b H') → u σ H Q') (h2 : c = false → R false H) (k : ∀ b H', R b H' → Q b H') : sqt (rAnd u σ) c H Q := by
  rw [sqt_eq]
  cases c with
  | true => exact h1 rfl Q k
  | false => exact k _ _ (h2 rfl)
theorem scal_opt (a b : Option Int) : scal (optV a) (optV b) = true := by
  cases a <;> cases b <;> rfl
/-! ### a line of any kind -/
structure LnA where
  n : N3
instance : Rep LnA := ⟨fun K F v l => ∃ (a : Addr) (k : LK), v = .ref a ∧ LnAt K F a k l.n, fun s h => let ⟨p, k, e, h⟩ := h; ⟨p, k, e, h.same s⟩⟩
section
variable {K : Frag} {F H : Hp} {M : Addr → Prop} {v w : V} {Q : VK}
theorem rd_getA {l : LnA} {gg : N3 → Int} (h : rp K F v l) (hF : Same F H) (k : Q (.int (gg l.n)) H) : sqv (rGet K gg) v H Q := by
  rw [sqv_eq]
  obtain ⟨a, kk, rfl, L⟩ := h
  exact ⟨a, _, _, rfl, L.same hF, k⟩
theorem rp_lnA {l : LnA} (h : rp K F v l) (hF : Same F H) : ∃ a k, v = .ref a ∧ LnAt K H a k l.n := by
  obtain ⟨a, k, rfl, L⟩ := h
  exact ⟨a, k, rfl, L.same hF⟩
theorem lin_any {l : Lin} (h : rp K F v l) : rp K F v (⟨l.n⟩ : LnA) := by
  obtain ⟨a, rfl, L⟩ := h
  exact ⟨a, l.k, rfl, L⟩
theorem lg_pdA {vs : List V} {ls : List LnA} (h : Paired (fun v l => rp K H v l) vs ls) : ∃ (rs : List Addr) (kns : List (LK × N3)), vs = rs.map V.ref ∧ kns.map Prod.snd = ls.map (fun l => l.n) ∧ LgAt K H rs kns := by
  induction h with
  | nil => exact ⟨[], [], rfl, rfl, rfl, fun i r n hr _ => by simp at hr⟩
  | cons h t ih =>
    obtain ⟨rs, kns, e1, e0, e2, e3⟩ := ih
    obtain ⟨r, k, er, hr⟩ := h
    refine ⟨r :: rs, (k, _) :: kns, by rw [List.map_cons, e1, er], by rw [List.map_cons, List.map_cons, e0], by rw [List.length_cons, List.length_cons, e2], fun i r' n' a b => ?_⟩
    cases i with
    | zero => cases a; cases b; exact hr
    | succ i => exact e3 i r' n' (by simpa using a) (by simpa using b)
end
end Fw

/-! Fw, part W: own errors: raised, caught, handed to a def within the except suite. -/
namespace Fw
open PySem PySem.Spec PyProof.Rows L2
open He (ga ma)
/-! ### promises of defs to which a caught error is handed -/
abbrev SpE : Type := Addr → Value → Option Addr → Sp
/-- the pinned object p: an error of the class cls with the dict d -/
structure ErrOf (p : Addr × Obj) (cls : Value) (d : Option Addr) : Prop where
  z : Zc cls d p.2
  f : ∃ vs, p.2.data = .fields vs
structure FnE (P : Program) (w : World) (K : PySem.W.Frag) (mg : Str → Option Value) (base : Heap) (CX : CXT) (k : Nat) (f : Addr) (fd : FuncData) (ps : List Str) (sp : SpE) : Prop where
  count : ∀ a cls d vs H Q E, sp a cls d vs H Q E → vs.length = ps.length
  go : ∀ (A : Around) (outer : List Env) (s : Shared) (H : Hp) (args : Args) (us : List Value) (vs : List V) (Q : VK) (E : XK) (p : Addr × Obj) (cls : Value) (d : Option Addr), L2H.RoomH k A → L2H.PinOk outer H s p → ErrOf p cls d → Env0 P w K mg base A outer s H →
    BindsTo s fd args (ps.zip us) → Vals vs us → sp p.1 cls d vs H Q E → codeAny (model P w) A (.call (.ref f) args) (CR CX outer P w H s Q E) s
section
variable {P : Program} {w : World} {K : PySem.W.Frag} {mg : Str → Option Value} {base : Heap}
theorem Fun.okE {x qual : Str} {st : Stmt} {f : Addr} {fd : FuncData} {N ps : List Str} {k : Nat} {sp : SpE} (F : Fun K x qual st f fd) (S : FnScope N ps (defScope st)) (len : ∀ a cls d vs H Q E, sp a cls d vs H Q E → vs.length = ps.length)
    (body : ∀ (cdv : Value) (A : Around) (outer : List Env) (s : Shared) (H : Hp) (vs : List V) (Q : VK) (E : XK) (p : Addr × Obj) (cls : Value) (d : Option Addr), ErrOf p cls d → L2H.RoomH k (A.deeper (envOfC qual (defScope st) s.heap.objs.size f cdv)) → sp p.1 cls d vs H Q E →
      ∃ t, PSs (L2H.cxH (L2.CX P w) P w K mg base N qual (defScope st) f cdv A outer s H E p) (defBody st) t ∧ t { nx := fun _ H' => Q .non H', rt := Q } (L2.start N vs) H) : FnE P w K mg base (L2.CX P w) (k + 1) f fd ps sp := by
  obtain ⟨oc, od, kV, doc, pm, an, cdv, ct, osl, rfl, lk, hcd⟩ := F.ex
  constructor
  · exact len
  intro A outer s H args us vs Q E p cls d room pin err e0 bound rv want
  have up : ∀ {b : Addr} {o : Obj}, base.get? b = some o → s.heap.get? b = some o := fun {b o} e => (e0.bs b o e).1
  have inK : K.In s.heap := e0.mod.kin.keeps fun b o e => up e
  have free : s.heap.NoLimit := e0.mod.nolimit.keeps fun b o e => up e
  obtain ⟨t, ht, hq⟩ := body cdv A outer s H vs Q E p cls d err (room.deeper _) want
  apply codeAny_call_function room.depth (inK _ _ lk) rfl S.co S.gen rfl (PySem.W.codeRec_of inK hcd) (bound _ _ _ _ ?rest)
  apply wpAny_newFunctionEnv_cells S.kind
  · intro y hy
    obtain ⟨n, v⟩ := y
    cases S.par n (List.of_mem_zip hy).1 with
    | inl q => exact .inl q
    | inr q => exact .inr ⟨q, PySem.W.cellsFrom_some _ _ _ (.inl q)⟩
  intro env ee s1 inC
  subst ee
  refine ⟨free.keeps inC.toInCall.keep, codeAny_func ?_⟩
  have J : Inv (L2H.cxH (L2.CX P w) P w K mg base N qual (defScope st) f cdv A outer s H E p) [] (L2.start N vs) H s1 := L2H.inv_startH S pin e0 (len _ _ _ _ _ _ _ want) rv inC
  have close : ∀ {s' : Shared} {τ : L2.St} {H' : Hp} {v : V} {u : Value}, Inv (L2H.cxH (L2.CX P w) P w K mg base N qual (defScope st) f cdv A outer s H E p) [] τ H' s' → RelV v u → Q v H' → CE outer P w H s Q u s' := fun i rr qq => ⟨_, _, i.os, i.bare, i.base, i.hok, rr, qq⟩
  refine wpAny_mono (ht.run [] s1 _ H _ J hq) ?_ fun _ _ z => z
  intro fl s' z
  match fl, z with
  | .ret _, ⟨_, _, _, i, rr, qq⟩ => exact close i rr qq
  | .next, ⟨_, _, i, qq⟩ => exact close (v := V.non) (u := Value.none) i rfl qq
  | .brk, ⟨_, _, _, no⟩ => exact False.elim no
  | .cont, ⟨_, _, _, no⟩ => exact False.elim no
end
section
variable {X : Cx} {CX : CXT} {k : Nat} {f : Addr} {fd : FuncData} {ps : List Str} {sp : SpE} {E : XK} {x : Str} {p pos : Pos} {e : Expr} {es : List Expr} {t : TA}
/-- what the context of an except suite bears -/
structure Has (X : Cx) (a : Addr) (cls : Value) (d : Option Addr) : Prop where
  ex : ∃ oe, (a, oe) ∈ X.pn ∧ ErrOf (a, oe) cls d
theorem Has.suite {X : Cx} {a : Addr} {oe : Obj} {cls : Value} {d : Option Addr} {pn : List (Addr × Obj)} (z : Zc cls d oe) (f : ∃ vs, oe.data = .fields vs) : Has (X.suite a ((a, oe) :: pn)) a cls d := ⟨oe, List.mem_cons_self, z, f⟩
theorem Has.pin {CX : CXT} {P : Program} {w : World} {K : PySem.W.Frag} {mg : Str → Option Value} {base : Heap} {N : List Str} {qual : Str} {scope : Scope} {f : Addr} {cd : Value} {A : Around} {outer : List Env} {s : Shared} {H : Hp} {E : XK} {p : Addr × Obj} {cls : Value} {d : Option Addr} (e : ErrOf p cls d) : Has (L2H.cxH CX P w K mg base N qual scope f cd A outer s H E p) p.1 cls d := ⟨p.2, List.mem_cons_self, e⟩
/-- g(e) within an except suite -/
theorem pe_callE {a : Addr} {cls : Value} {d : Option Addr} (F : FnE X.prog X.w X.K X.mg X.base CX k f fd ps sp) (hr : L2H.RoomH k X.A) (hc : Has X a cls d) (hgl : Gl X x) (hm : X.mg x = some (.ref f)) (hk : PySem.W.keepIn X.K (.ref f) = true) (hb : Binds X.K fd ps []) (hx : Passes CX X E)
    (ha : PA X (e :: es) t) (hdb : (x == ("__debug__" : Str)) = false := by decide) (he : starEach (e :: es) X.env = (false, eval e X.env) :: starEach es X.env := by rfl) (hpl : (backTo pos (starEach es X.env)).any (fun q => q.1) = false := by rfl) :
    PE X (.Call (.Name x p) (e :: es) [] pos) (tCall (sp a cls d) [] E t) := by
  constructor
  intro pins s σ H Q I h
  apply wpAny_Call_Name_kw
  apply ld_glob I hgl hm _ hdb
  apply PySem.W.callWith_K (h₀ := X.base) I.ok.mod.kin hk _ he hpl
  refine thn (ha.run pos pins s σ H _ I h) fun us s1 ⟨vs, H1, I1, r, q⟩ => ⟨I1.kIn, ?_⟩
  have q : sp a cls d (vs ++ []) H1 Q E := q
  rw [List.append_nil] at q
  have len : us.length = ps.length := by rw [← r.length]; exact F.count _ _ _ _ _ _ _ q
  obtain ⟨oe, hp, err⟩ := hc.ex
  have P1 := I1.pin (a, oe) (List.mem_append_left _ hp)
  have pin : L2H.PinOk X.stack H1 s1 (a, oe) := ⟨P1.1, P1.2.1, fun m => (List.mem_cons.mp (I1.stkSub _ m)).elim P1.2.2.1 P1.2.2.2.1, P1.2.2.2.2⟩
  refine wpAny_call (codeAny_mono (F.go X.A X.stack s1 H1 ⟨us, []⟩ us vs Q E (a, oe) cls d hr pin err I1.env0 (by have b := hb s1 us I1.kIn (by rw [List.append_nil]; exact len); rw [List.append_nil] at b; exact b) r q) fun z s' q => ?_)
  match z, q with
  | .error e, q => exact hx pins σ H1 s1 e s' I1 q
  | .ok (.ret u), q => exact I1.after q
end
/-! ### isinstance of the error in hand -/
section
variable {X : Cx} {a D : Addr}
theorem Has.inst {pins : List (Addr × Obj)} {σ : L2.St} {H : Hp} {s : Shared} (h : Has X a (.ref D) none) (I : Inv X pins σ H s) : ∃ oe, PySem.W.InstAt s.heap a oe D none := by
  obtain ⟨oe, hp, z, f⟩ := h.ex
  have g := (I.pin (a, oe) (List.mem_append_left _ hp)).1
  obtain ⟨vs, hv⟩ := f
  cases oe with
  | mk c1 c2 c3 c4 =>
    have z1 : c1 = .ref D := z.1
    have z2 : c2 = none := z.2
    have z3 : c3 = .fields vs := hv
    subst z1
    subst z2
    subst z3
    exact ⟨_, g, rfl, rfl, trivial⟩
/-- isinstance(e, C) -/
theorem call_isEr (C : ExcC X.K D) (h : Has X a (.ref D) none) : CallR X (.builtin "isinstance") (rIsE X.K D a) := by
  intro pins s σ H xs us Q I r q
  obtain ⟨c, cv, b, rfl, only, e, q⟩ := q
  obtain ⟨u1, u2, rfl, r1, r2⟩ := vals2 r
  cases (show u1 = Value.ref a from r1)
  have isc := only u2 r2
  subst isc
  obtain ⟨oe, J⟩ := h.inst I
  exact PySem.W.kia_one (PySem.W.handS_kitx_exc C.hg C.hk C.hs C.hd C.ha C.hn C.ht C.hm) I.kIn J e (fun z => nomatch z) fun tk => ⟨.bl b, H, I.tok tk, rfl, q⟩
/-- isinstance(e, (C, ..)) -/
def rIsET (K : Frag) (D a : Addr) : List V → Hp → VK → Prop := fun xs H Q => ∃ (t : Addr) (zs : List V) (ws : List Value) (b : Bool), xs = [.ref a, .ref t] ∧ H t = some (.tup zs) ∧ Paired ClsV zs ws ∧ PySem.W.kitAny K (.ref D) ws = some b ∧ Q (.bl b) H
theorem call_isErT (C : ExcC X.K D) (h : Has X a (.ref D) none) : CallR X (.builtin "isinstance") (rIsET X.K D a) := by
  intro pins s σ H xs us Q I r q
  obtain ⟨t, zs, ws, b, rfl, hT, k, e, q⟩ := q
  obtain ⟨u1, u2, rfl, r1, r2⟩ := vals2 r
  cases (show u1 = Value.ref a from r1)
  cases (show u2 = Value.ref t from r2)
  have ot : ObjOk X.prog X.w H s.heap t (.tup zs) := I.hok t (.tup zs) hT
  obtain ⟨_, ys, vals, o, g1, g2, m, g3⟩ := ot
  have same := ClsV.all k vals
  subst same
  cases o with
  | mk c1 c2 c3 c4 =>
    dsimp only at g2 g3
    subst g2
    subst g3
    obtain ⟨oe, J⟩ := h.inst I
    exact PySem.W.kia_tup (PySem.W.handS_kitx_exc C.hg C.hk C.hs C.hd C.ha C.hn C.ht C.hm) I.kIn J g1 e (fun z => nomatch z) fun tk => ⟨.bl b, H, I.tok tk, rfl, q⟩
end
/-! ### errors that leave a call within a try -/
section
variable {X : Cx} {W : WX}
/-- what the try wishes of an error, at any slots -/
def EW (n : Nat) (W : WX) : XK := fun cls d H => ∀ σ : L2.St, σ.length = n → W cls d σ H
theorem passW {n : Nat} (hn : X.N.length = n) (tk : L2.Takes X W) : Passes (L2.CX X.prog X.w) X (EW n W) := fun pins σ H s e s' I c => by
  obtain ⟨a, B, H', cls, d, c1, c2, c3, c4, c5, c6, c7, c8⟩ := c
  exact passAt tk σ pins H s e s' I ⟨a, B, H', cls, d, c1, c2, c3, c4, c5, c6, c7, c8 σ (I.len.trans hn)⟩
end
theorem slot_set {σ : L2.St} {n i : Nat} (h : σ.length = n) (hi : i < n) (v : V) : (σ.set i (some v))[i]? = some (some v) := by
  rw [List.getElem?_set_self (by omega)]
/-! ### facts of an own error -/
abbrev excTail0 : List Value := [.type "ValueError", .type "Exception", .type "BaseException", .type "object"]
structure ErrF (K : Frag) (C : Addr) : Prop where
  x : PySem.W.excIn K C excTail0 "ValueError.__new__" = true
  k : PySem.W.keepIn K (.ref C) = true
  b : PySem.W.subIn K (.ref C) (.type "BaseException") = some true
  t : PySem.W.typeIn K (.ref C) = some (.type "type")
  c : ExcC K C
def cErr (x : Str) : Ck := fun K => PySem.W.excIn K (ga K x) excTail0 "ValueError.__new__" && (PySem.W.keepIn K (.ref (ga K x)) && (decide (PySem.W.subIn K (.ref (ga K x)) (.type "BaseException") = some true) && (decide (PySem.W.typeIn K (.ref (ga K x)) = some (.type "type")) &&
  (decide (PySem.W.findIn K (.ref (ga K x)) "__getattribute__" = some (some (.builtin "BaseException.__getattribute__"))) && (decide (PySem.W.findIn K (.ref (ga K x)) "__getattr__" = some none) && (PySem.W.hasDictIn K (ga K x) &&
  (decide (PySem.W.findIn K (.ref (ga K x)) "__class__" = some (some (.builtin "object.__class__"))) && (decide (PySem.W.specialIn K (.builtin "object.__class__") "__get__" = some (some (.builtin "getset_descriptor.__get__"))) &&
  (decide (PySem.W.takesIn K (.builtin "object.__class__") = some true) && decide (PySem.W.mroIn K (ga K x) (.type "object") = some true))))))))))
theorem err_of {K : Frag} {x : Str} (c : cErr x K = true) : ErrF K (ga K x) := by
  unfold cErr at c
  simp only [Bool.and_eq_true, decide_eq_true_eq] at c
  obtain ⟨c1, c2, c3, c4, c5, c6, c7, c8, c9, c10, c11⟩ := c
  exact ⟨c1, c2, c3, c4, ⟨c5, c6, c3, c7, c8, c9, c10, c11⟩⟩
/-- the clause of the class y, an error of the class x -/
def cExm (x y : Str) (b : Bool) : Ck := fun K => decide (PySem.W.exmOne K (.ref (ga K x)) (.ref (ga K y)) = some b)
theorem exm_of2 {K : Frag} {x y : Str} {b : Bool} (c : cExm x y b K = true) : PySem.W.exmOne K (.ref (ga K x)) (.ref (ga K y)) = some b := of_decide_eq_true c
def cKitT (x : Str) (T : String) (b : Bool) : Ck := fun K => decide (PySem.W.kitOne K (.ref (ga K x)) (.type T) = some b)
theorem kitT_of {K : Frag} {x : Str} {T : String} {b : Bool} (c : cKitT x T b K = true) : PySem.W.kitOne K (.ref (ga K x)) (.type T) = some b := of_decide_eq_true c
def cKitA (x : Str) (ys : List Str) (b : Bool) : Ck := fun K => decide (PySem.W.kitAny K (.ref (ga K x)) (ys.map fun y => Value.ref (ga K y)) = some b)
theorem kitA_of {K : Frag} {x : Str} {ys : List Str} {b : Bool} (c : cKitA x ys b K = true) : PySem.W.kitAny K (.ref (ga K x)) (ys.map fun y => Value.ref (ga K y)) = some b := of_decide_eq_true c
theorem own_all {K : Frag} : ∀ ys : List Str, Paired ClsV (ys.map fun y => V.ref (ga K y)) (ys.map fun y => Value.ref (ga K y))
  | [] => .nil
  | _ :: r => .cons (.own _) (own_all r)
section
open Rep (rp)
variable {K : Frag} {F H : Hp} {M : Addr → Prop} {v w : V} {Q : VK}
/-- two tuples of three, one behind the other -/
theorem rd_catN {n m : N3} (al : Alloc M H) (h : rp K (Fr M H) v n) (g : rp K (Fr M H) w m) (k : ∀ u H', Same H H' → rp K (Fr M H') u (⟨[n.e, n.a, n.r, m.e, m.a, m.r]⟩ : Tup Int) → Q u H') : sq2 (rCatT K) v w H Q := by
  rw [sq2_eq]
  obtain ⟨a, rfl, h1⟩ := h
  obtain ⟨b, rfl, g1⟩ := g
  exact ⟨a, b, _, _, rfl, rfl, SqT.of (Fr.sub _ _ h1), SqT.of (Fr.sub _ _ g1), (fun z => nomatch z), (by show 3 + 3 ≤ sizeLine; decide), (fun z => nomatch z), fun _ p hp => k _ _ (Same.new hp) ⟨p, _, rfl, Fr.new al hp, pd_ofInts [n.e, n.a, n.r, m.e, m.a, m.r]⟩⟩
theorem rd_listT {xs : List Int} (al : Alloc M H) (h : rp K (Fr M H) v (⟨xs⟩ : Tup Int)) (k : ∀ v H', Same H H' → rp K (Fr M H') v xs → Q v H') : sqc (fun xs H Q => ∃ p ys, xs = [V.ref p] ∧ (SqL K H p ys ∨ SqT K H p ys) ∧ ∀ l, H l = none → Q (.ref l) (upd H l (.lst ys))) [v] H Q := by
  rw [sqc_eq]
  obtain ⟨p, vs, rfl, h1, h2⟩ := h
  exact ⟨p, vs, rfl, .inr (SqT.of (Fr.sub _ _ h1)), fun r hr => k _ _ (Same.new hr) ⟨r, _, rfl, Fr.new al hr, L2.Paired.mapP h2 fun _ _ q => Rep.up (Fr.same (Same.new hr)) q⟩⟩
end
end Fw

/-! Fw, part X: readings over data where a tank or a feed is drawn from. -/
namespace Fw
open PySem PySem.Spec PyProof.Rows L2
open He (ga ma)
open Rep (rp)
/-! ### the tank -/
section
variable {K : Frag} {H H' : Hp} {D a tc : Addr} {N : Nat} {M : Addr → Prop}
theorem Tk.alloc (h : Tk a tc N H) : Alloc (tkM a tc) H := fun p m => by
  obtain ⟨ds, x, n, e1, e2, _⟩ := h
  rcases m with e | e
  · exact ⟨.lst _, by rw [e]; exact e1, trivial⟩
  · exact ⟨.lst _, by rw [e]; exact e2, trivial⟩
theorem Tk.app (t : Tk a tc N H) (x : Ext (Ad D (fun _ => False)) H H') (n : ¬ tkM a tc D) : Tk a tc N H' := by
  obtain ⟨ds, m, k, e1, e2, r⟩ := t
  have na : ¬ Ad D (fun _ => False) a := fun z => z.elim (fun e => n (.inl e.symm)) fun z => z
  have nc : ¬ Ad D (fun _ => False) tc := fun z => z.elim (fun e => n (.inr e.symm)) fun z => z
  exact ⟨ds, m, k, x _ _ na e1, x _ _ nc e2, r⟩
theorem Tk.draw (al : Alloc M H) (x : Ext (tkM a tc) H H') (t : Tk a tc N H') : Alloc M H' := fun p m => by
  by_cases z : tkM a tc p
  · exact t.alloc p z
  · obtain ⟨xs, e, hz9⟩ := al p m
    exact ⟨xs, x p _ z e, hz9⟩
theorem Tk.upd {o : HO} (t : Tk a tc N H) (n : ¬ tkM a tc D) : Tk a tc N (upd H D o) := by
  obtain ⟨ds, m, k, e1, e2, r⟩ := t
  exact ⟨ds, m, k, by rw [upd_ne (fun z => n (.inl z.symm))]; exact e1, by rw [upd_ne (fun z => n (.inr z.symm))]; exact e2, r⟩
end
/-! ### the feed, 128 counts a draw -/
def Fq (a : Addr) (N : Nat) (H : Hp) : Prop := Fd a (128 * N) H
section
variable {K : Frag} {H H' : Hp} {D a : Addr} {N N' : Nat} {M : Addr → Prop}
theorem Fq.less (h : Fq a N H) (l : N' ≤ N) : Fq a N' H := Fd.less h (Nat.mul_le_mul_left 128 l)
theorem Fq.same (h : Fq a N H) (s : Same H H') : Fq a N H' := Fd.same h s
theorem Fq.fresh {p : Addr} (h : Fq a N H) (e : H p = none) : ¬ fdM a p := Fd.fresh h e
theorem Fq.out {p : Addr} {o : HO} (h : Fq a N H) (e : H p = some o) (d : ∀ xs, o ≠ .lst xs) : ¬ fdM a p := Fd.out h e d
theorem Fq.pick (h : Fq a (N + 1) H) : Fd a (128 * N + 128) H := h
theorem Fq.alloc (h : Fq a N H) : Alloc (fdM a) H := fun p m => by
  obtain ⟨d, m2, n, e, _⟩ := h
  rw [show p = a from m, e]
  exact ⟨_, rfl, trivial⟩
theorem Fq.app (t : Fq a N H) (x : Ext (Ad D (fun _ => False)) H H') (n : ¬ fdM a D) : Fq a N H' := by
  obtain ⟨d, m, n2, h1, h2⟩ := t
  exact ⟨d, m, n2, x _ _ (fun z => z.elim (fun e => n e.symm) (fun z => z)) h1, h2⟩
theorem Fq.draw (al : Alloc M H) (x : Ext (fdM a) H H') (t : Fq a N H') : Alloc M H' := fun p m => by
  by_cases z : fdM a p
  · exact t.alloc p z
  · obtain ⟨xs, e, hz9⟩ := al p m
    exact ⟨xs, x p _ z e, hz9⟩
theorem Fq.upd {o : HO} (t : Fq a N H) (n : ¬ fdM a D) : Fq a N (upd H D o) := by
  obtain ⟨d, m, n2, h1, h2⟩ := t
  exact ⟨d, m, n2, by rw [upd_ne fun z => n z.symm]; exact h1, h2⟩
end
/-! ### comprehensions that draw -/
section
variable {K : Frag} {H1 : Hp} {α β : Type} [Rep α] [Rep β] {J : It} {Q : Addr → Hp → Prop} {g : TG} {tt : TT} {te : TE} {vs : List Nat} {σ : L2.St}
theorem lc_gen {M0 : Addr → Prop} {P : Nat → Hp → Prop} (pal : ∀ N H, P N H → Alloc M0 H) (psame : ∀ N H H', P N H → Same H H' → P N H') (pupd : ∀ N H D o, ¬ M0 D → P N H → P N (upd H D o)) {c N : Nat} {xs : List α} (p : α → Bool) (f : α → β) (T : TW K M0 H1 J xs) (hT : P (N + c * xs.length) H1) (hz : xs.length ≤ 1000000)
    (step : ∀ (i : Nat) (x : α) (u : V) (H : Hp) (M' : Addr → Prop) (C : V → Hp → Prop) (C0 : Hp → Prop), xs[i]? = some x → Same (Fr M0 H1) (Fr M' H) → Alloc M' H → (∀ b, M0 b → M' b) → Ext M0 H1 H → P (N + c * (xs.length - (i + 1)) + c) H → rp K (Fr M' H) u x →
      (p x = true → ∀ w H4, Ext M0 H H4 → P (N + c * (xs.length - (i + 1))) H4 → rp K (Fr M' H4) w (f x) → C w H4) → (p x = false → ∀ H4, Ext M0 H H4 → P (N + c * (xs.length - (i + 1))) H4 → C0 H4) → g u (wipe σ vs) H fun σ2 H2 => wipe σ2 vs = wipe σ vs ∧ tt σ2 H2 fun b H3 => if b = true then te σ2 H3 C else C0 H3)
    (k : ∀ D H', Ext M0 H1 H' → P N H' → rp K (Fr M0 H') (.ref D) ((xs.filter p).map f) → Q D H') : ∀ D, H1 D = none → LcW J H1 g tt te vs σ D (Q D) := by
  obtain ⟨G, Y, wk, hG, hY⟩ := T.ex
  refine lc_rep (M0 := M0) (I := fun i H => P (N + c * (xs.length - i)) H) wk (fun i => ((xs.take i).filter p).map f) rfl (pal _ _ hT) hG hz (fun _ z => z) hT (fun i H D o n t => pupd _ _ _ _ n t) (fun _ _ t => pal _ _ t) ?_ (fun D H' x i _ r => k D H' x (by rw [Nat.sub_self] at i; exact i) (by rw [List.take_of_length_le (Nat.le_refl _)] at r; exact r))
  rintro i x H H' M' C C0 hi s6 a7 hm s4 t7 y7 hC hC0
  obtain ⟨z, hz2, s8, rz⟩ := hY i x H H' M' hi s6 a7 y7
  have e : ∀ b, p z = b → ((xs.take (i + 1)).filter p).map f = ((xs.take i).filter p).map f ++ (if b = true then [f z] else []) := fun b hb => by
    rw [List.take_add_one, hz2]
    show (((xs.take i) ++ [z]).filter p).map f = _
    rw [List.filter_append, List.map_append]
    congr 1
    cases b with
    | true => rw [List.filter_cons_of_pos hb, List.filter_nil]; rfl
    | false => rw [List.filter_cons_of_neg (by rw [hb]; exact Bool.false_ne_true), List.filter_nil]; rfl
  have t8 : P (N + c * (xs.length - (i + 1)) + c) H' := by
    have q := psame _ _ _ t7 s8
    have e2 : N + c * (xs.length - i) = N + c * (xs.length - (i + 1)) + c := by
      rw [show xs.length - i = (xs.length - (i + 1)) + 1 by omega, Nat.mul_add, Nat.mul_one]
      omega
    rw [e2] at q
    exact q
  refine step i z x H' M' C C0 hz2 (s6.trans (Fr.same s8)) (a7.same s8) hm (s4.trans (Ext.same s8)) t8 rz (fun hp w H4 s t r => hC w (f z) H4 ((Ext.same s8).trans s) t (e true hp) r) fun hp H4 s t => hC0 H4 ((Ext.same s8).trans s) t (by rw [e false hp]; exact List.append_nil _)
theorem lc_feed {a : Addr} {c N : Nat} {xs : List α} (p : α → Bool) (f : α → β) (T : TW K (fdM a) H1 J xs) (hT : Fq a (N + c * xs.length) H1) (hz : xs.length ≤ 1000000)
    (step : ∀ (i : Nat) (x : α) (u : V) (H : Hp) (M' : Addr → Prop) (C : V → Hp → Prop) (C0 : Hp → Prop), xs[i]? = some x → Same (Fr (fdM a) H1) (Fr M' H) → Alloc M' H → (∀ b, fdM a b → M' b) → Ext (fdM a) H1 H → Fq a (N + c * (xs.length - (i + 1)) + c) H → rp K (Fr M' H) u x →
      (p x = true → ∀ w H4, Ext (fdM a) H H4 → Fq a (N + c * (xs.length - (i + 1))) H4 → rp K (Fr M' H4) w (f x) → C w H4) → (p x = false → ∀ H4, Ext (fdM a) H H4 → Fq a (N + c * (xs.length - (i + 1))) H4 → C0 H4) → g u (wipe σ vs) H fun σ2 H2 => wipe σ2 vs = wipe σ vs ∧ tt σ2 H2 fun b H3 => if b = true then te σ2 H3 C else C0 H3)
    (k : ∀ D H', Ext (fdM a) H1 H' → Fq a N H' → rp K (Fr (fdM a) H') (.ref D) ((xs.filter p).map f) → Q D H') : ∀ D, H1 D = none → LcW J H1 g tt te vs σ D (Q D) :=
  lc_gen (P := fun N H => Fq a N H) (fun _ _ t => t.alloc) (fun _ _ _ t s => t.same s) (fun _ _ _ _ n t => t.upd n) p f T hT hz step k
theorem lc_tank {a tc : Addr} {c N : Nat} {xs : List α} (p : α → Bool) (f : α → β) (T : TW K (tkM a tc) H1 J xs) (hT : Tk a tc (N + c * xs.length) H1) (hz : xs.length ≤ 1000000)
    (step : ∀ (i : Nat) (x : α) (u : V) (H : Hp) (M' : Addr → Prop) (C : V → Hp → Prop) (C0 : Hp → Prop), xs[i]? = some x → Same (Fr (tkM a tc) H1) (Fr M' H) → Alloc M' H → (∀ b, tkM a tc b → M' b) → Ext (tkM a tc) H1 H → Tk a tc (N + c * (xs.length - (i + 1)) + c) H → rp K (Fr M' H) u x →
      (p x = true → ∀ w H4, Ext (tkM a tc) H H4 → Tk a tc (N + c * (xs.length - (i + 1))) H4 → rp K (Fr M' H4) w (f x) → C w H4) → (p x = false → ∀ H4, Ext (tkM a tc) H H4 → Tk a tc (N + c * (xs.length - (i + 1))) H4 → C0 H4) → g u (wipe σ vs) H fun σ2 H2 => wipe σ2 vs = wipe σ vs ∧ tt σ2 H2 fun b H3 => if b = true then te σ2 H3 C else C0 H3)
    (k : ∀ D H', Ext (tkM a tc) H1 H' → Tk a tc N H' → rp K (Fr (tkM a tc) H') (.ref D) ((xs.filter p).map f) → Q D H') : ∀ D, H1 D = none → LcW J H1 g tt te vs σ D (Q D) :=
  lc_gen (P := fun N H => Tk a tc N H) (fun _ _ t => t.alloc) (fun _ _ _ t s => t.same s) (fun _ _ _ _ n t => t.upd n) p f T hT hz step k
end
/-! ### routes by their legs -/
section
variable {K : Frag} {F H : Hp} {M : Addr → Prop} {v w : V} {Q : VK}
theorem rou_at {r : Rou} (h : rp K F v r) (hF : Same F H) : ∃ a dx l, v = .ref a ∧ H a = some (.ins (ga K "Route") dx (putF "held_legs" (.ref l) [])) ∧ rp K F (.ref l) (r.l.map fun kn => (⟨kn.1, kn.2⟩ : Lin)) := by
  obtain ⟨a, rfl, dx, l, rs, e1, e2, hL⟩ := h
  exact ⟨a, dx, l, rfl, hF _ _ e1, lines_rp e2 hL⟩
/-- xs[::-1] -/
def rRevL (K : Frag) : RV := fun x H1 Q => ∃ a xs, x = .ref a ∧ SqL K H1 a xs ∧ ∀ p, H1 p = none → Q (.ref p) (upd H1 p (.lst xs.reverse))
theorem pe_revLQ {X : Cx} {e : Expr} {te : TE} {K : Frag} (h : PE X e (tRevL K te)) : PE X e (tUn (sqv (rRevL K)) te) := by
  rw [sqv_eq]
  exact h
theorem rd_revL {α : Type} [Rep α] {xs : List α} (al : Alloc M H) (h : rp K (Fr M H) v xs) (k : ∀ u H', Same H H' → rp K (Fr M H') u xs.reverse → Q u H') : sqv (rRevL K) v H Q := by
  rw [sqv_eq]
  obtain ⟨p, vs, rfl, h1, h2⟩ := h
  exact ⟨p, vs, rfl, SqL.of (Fr.sub _ _ h1), fun q hq => k _ _ (Same.new hq) ⟨q, _, rfl, Fr.new al hq, pd_rev (L2.Paired.mapP h2 fun _ _ z => Rep.up (Fr.same (Same.new hq)) z)⟩⟩
/-- C(*xs) -/
def rStar (K : Frag) (C : Addr) (sp : Sp) (E : XK) : RV := fun z H1 Q => ∃ a xs, z = V.ref a ∧ (SqT K H1 a xs ∨ SqL K H1 a xs) ∧ ∀ x dx, H1 x = none → H1 dx = none → dx ≠ x → sp (V.ref x :: xs) (upd (upd H1 dx (.own x)) x (.ins C dx [])) (fun v H2 => v = .non ∧ Q (.ref x) H2) E
def tStar (K : Frag) (C : Addr) (sp : Sp) (E : XK) (tf te : TE) : TE := fun σ H Q => tf σ H fun y H0 => y = V.ref C ∧ te σ H0 fun z H1 => sqv (rStar K C sp E) z H1 Q
theorem pe_starQ {X : Cx} {e : Expr} {C : Addr} {sp : Sp} {E : XK} {tf te : TE} {K : Frag} (h : PE X e (tMakeS K C sp E tf te)) : PE X e (tStar K C sp E tf te) := by
  unfold tStar
  simp only [sqv_eq]
  exact h
/-! ### lines by their kinds -/
theorem rp_lin {l : Lin} (h : rp K F v l) (hF : Same F H) : ∃ a, v = .ref a ∧ LnAt K H a l.k l.n := rp_line h hF
end
end Fw

/-! Fw, part Y: a line's kind and numbers as a list; comprehensions whose items are not told ahead. -/
namespace Fw
open PySem PySem.Spec PyProof.Rows L2
open He (ga ma)
open Rep (rp)
/-- kind, headway, departure and ride as a list -/
structure Num where
  k : LK
  n : N3
instance : Rep Num := ⟨fun _ F v x => ∃ p : Addr, v = .ref p ∧ L4 F p x.k x.n, fun s h => let ⟨p, e, h⟩ := h; ⟨p, e, s _ _ h⟩⟩
section
variable {K : Frag} {F H H1 : Hp} {M : Addr → Prop} {v w : V} {Q : VK}
theorem rd_q0 {x : Num} (h : rp K F v x) (hF : Same F H) (k : Q (.str (kn x.k)) H) : sq2 (rIxL K) v (.int 0) H Q := by
  rw [sq2_eq]
  obtain ⟨p, rfl, h1⟩ := h
  exact ⟨p, _, 0, _, rfl, rfl, SqL.of (hF _ _ h1), at0, k⟩
theorem rd_q1 {x : Num} (h : rp K F v x) (hF : Same F H) (k : Q (.int x.n.e) H) : sq2 (rIxL K) v (.int 1) H Q := by
  rw [sq2_eq]
  obtain ⟨p, rfl, h1⟩ := h
  exact ⟨p, _, 1, _, rfl, rfl, SqL.of (hF _ _ h1), atI_nat (j := 1) rfl, k⟩
theorem rd_q2 {x : Num} (h : rp K F v x) (hF : Same F H) (k : Q (.int x.n.a) H) : sq2 (rIxL K) v (.int 2) H Q := by
  rw [sq2_eq]
  obtain ⟨p, rfl, h1⟩ := h
  exact ⟨p, _, 2, _, rfl, rfl, SqL.of (hF _ _ h1), atI_nat (j := 2) rfl, k⟩
theorem rd_q3 {x : Num} (h : rp K F v x) (hF : Same F H) (k : Q (.int x.n.r) H) : sq2 (rIxL K) v (.int 3) H Q := by
  rw [sq2_eq]
  obtain ⟨p, rfl, h1⟩ := h
  exact ⟨p, _, 3, _, rfl, rfl, SqL.of (hF _ _ h1), atI_nat (j := 3) rfl, k⟩
/-- kind, wide, begin, long = numbers -/
theorem rd_un4 {x : Num} {i j l m : Nat} {σ : L2.St} {R : L2.St → Hp → Prop} (h : rp K F v x) (hF : Same F H) (k : R ((((σ.set i (some (.str (kn x.k)))).set j (some (.int x.n.e))).set l (some (.int x.n.a))).set m (some (.int x.n.r))) H) :
    gLst K 4 (gCons (gName i) (gCons (gName j) (gCons (gName l) (gCons (gName m) gNil)))) v σ H R := by
  obtain ⟨p, rfl, h1⟩ := h
  exact ⟨p, _, rfl, SqL.of (hF _ _ h1), rfl, _, _, rfl, _, _, rfl, _, _, rfl, _, _, rfl, rfl, k⟩
/-- numbers[1:] -/
theorem rd_qsl {x : Num} (al : Alloc M H) (h : rp K (Fr M H) v x) (k : ∀ v H', Same H H' → rp K (Fr M H') v [x.n.e, x.n.a, x.n.r] → Q v H') : sqs (rSlL K) v (some 1) none H Q := by
  rw [sqs_eq]
  obtain ⟨p, rfl, h1⟩ := h
  exact ⟨p, _, rfl, SqL.of (Fr.sub _ _ h1), fun r hr => k _ _ (Same.new hr) ⟨r, _, rfl, Fr.new al hr, pd_ofInts [x.n.e, x.n.a, x.n.r]⟩⟩
/-- tuple(xs) of three ints -/
theorem rd_tupL3 {a b c : Int} (al : Alloc M H) (h : rp K (Fr M H) v [a, b, c]) (k : ∀ v H', Same H H' → rp K (Fr M H') v (⟨a, b, c⟩ : N3) → Q v H') :
    sqc (fun xs H Q => ∃ p ys, xs = [V.ref p] ∧ ((SqL K H p ys ∧ ∀ l, H l = none → Q (.ref l) (upd H l (.tup ys))) ∨ (SqT K H p ys ∧ Q (.ref p) H))) [v] H Q := by
  rw [sqc_eq]
  obtain ⟨p, vs, rfl, h1, h2⟩ := h
  obtain rfl : vs = [V.int a, V.int b, V.int c] := by
    cases h2 with
    | cons x1 h2 =>
      cases h2 with
      | cons x2 h2 =>
        cases h2 with
        | cons x3 h2 =>
          cases h2
          obtain rfl : _ = V.int a := x1
          obtain rfl : _ = V.int b := x2
          obtain rfl : _ = V.int c := x3
          rfl
  exact ⟨p, _, rfl, .inl ⟨SqL.of (Fr.sub _ _ h1), fun r hr => k _ _ (Same.new hr) ⟨r, rfl, Fr.new al hr⟩⟩⟩
theorem num_rp {p : Addr} {k : LK} {n : N3} (h : L4 H p k n) (nM : ¬ M p) : rp K (Fr M H) (.ref p) (⟨k, n⟩ : Num) := ⟨p, rfl, Fr.get nM h⟩
end
/-! ### o.m(k = v, ..) of an own class -/
section
variable {X : Cx} {k0 : Nat} {C f : Addr} {fd : FuncData} {ps ks : List Str} {sp : Sp} {E : XK} {m : Str} {pos apos : Pos} {o fe : Expr} {kws : List Keyword} {ta tf : TE} {tk : TA} {g : List Value → List Value → List Value} {gV : List V → List V → List V}
def tMethN (C : Addr) (m : Str) (n : Nat) (gV : List V → List V → List V) (sp : Sp) (E : XK) (ta : TE) (tk : TA) : TE := fun σ H Q => ta σ H fun x H1 => ∃ a dx fs, x = .ref a ∧ H1 a = some (.ins C dx fs) ∧ fs.lookup m = none ∧ tk σ H1 fun zs H2 => zs.length = n ∧ sp (gV [.ref a] zs) H2 Q E
theorem pe_methK {pl : Sem Bool} (he : PE X o ta) (c : Cls X.K C) (hm : Meth X.K C m f) (F : FnOk X.prog X.w X.K X.mg X.base (L2.CX X.prog X.w) k0 f fd ps sp) (hr : Room k0 X.A) (hb : KBn X.K fd ps 1 ks g gV) (hx : Passes (L2.CX X.prog X.w) X E) (hkw : PK X kws tk)
    (hall : (backToKw pos (keywordEach kws X.env)).all (fun q => q.1.isSome) = true := by rfl) (hks : (backToKw pos (keywordEach kws X.env)).filterMap (fun q => q.1) = ks := by rfl)
    (hpl : ((backTo pos (starEach [] X.env)).any (fun q => q.1) || (backToKw pos (keywordEach kws X.env)).any (fun q => q.1.isNone)) = false := by rfl)
    (ht : eval (.Call (.Attribute o m apos) [] kws pos) X.env = (do
      let ov ← eval o X.env
      standAt apos.atName
      let (g, first) ← holding [ov] (getMethod ov m pl)
      callWith pos g first (backTo pos (starEach [] X.env)) (backToKw pos (keywordEach kws X.env))) := by rfl) :
    PE X (.Call (.Attribute o m apos) [] kws pos) (tMethN C m ks.length gV sp E ta tk) := by
  constructor
  intro pins s σ H Q I h
  apply PySem.W.methodCall_KW (pl := pl) _ ht
  refine thn (he.run pins s σ H _ I h) fun u s1 ⟨x, H1, I1, rx, a, dx, fs, ex, ea, l, q⟩ => ?_
  subst ex
  obtain rfl : u = Value.ref a := rx
  refine getmeth_ok I1 ea c hm l ?_
  apply PySem.W.callWith_KW0 (h₀ := X.base) (first := [.ref a]) I.ok.mod.kin hm.kp hall _ hpl
  refine thn (hkw.run pos pins s1 σ H1 _ I1 q) fun ws s2 ⟨zs, H2, I2, rz, l2, q2⟩ => ⟨I2.kIn, ?_⟩
  rw [hks]
  exact run_fnN (us := [.ref a]) (vs := [.ref a]) F hr hb hx I2 (.cons rfl .nil) rz rfl l2 q2
end
/-! ### comprehensions whose items are found on the way -/
section
variable {K : Frag} {H1 : Hp} {M0 : Addr → Prop} {I : Nat → Hp → Prop} {Q : Addr → Hp → Prop} {α β : Type} [Rep α] [Rep β] {J : It} {n : Nat} {G : Hp → Prop} {Y : Nat → Hp → V → Hp → Prop} {g : TG} {tt : TT} {te : TE} {vs : List Nat} {σ : L2.St}
theorem lc_repE (wk : Walk J n G Y) (p : β → Prop) (al : Alloc M0 H1) (hG : ∀ H, Same (Fr M0 H1) H → G H) (hz : n ≤ 1000000) (i0 : I 0 H1) (iup : ∀ i H D o, ¬ M0 D → I i H → I i (upd H D o)) (iAl : ∀ i H, I i H → Alloc M0 H)
    (step : ∀ (i : Nat) (x : V) (H H' : Hp) (M' : Addr → Prop) (C : V → Hp → Prop) (C0 : Hp → Prop), i < n → Same (Fr M0 H1) (Fr M' H) → Alloc M' H → (∀ p, M0 p → M' p) → Ext M0 H1 H → I i H → Y i H x H' →
      (∀ w y H4, Ext M0 H H4 → I (i + 1) H4 → p y → rp K (Fr M' H4) w y → C w H4) →
      g x (wipe σ vs) H' fun σ2 H2 => wipe σ2 vs = wipe σ vs ∧ tt σ2 H2 fun b H3 => if b = true then te σ2 H3 C else C0 H3)
    (k : ∀ D H' (ys : List β), Ext M0 H1 H' → I n H' → H1 D = none → ys.length = n → (∀ y ∈ ys, p y) → rp K (Fr M0 H') (.ref D) ys → Q D H') :
    ∀ D, H1 D = none → LcW J H1 g tt te vs σ D (Q D) := by
  intro D hD
  have nM : ¬ M0 D := al.new hD
  have al4 : ∀ H H4, Alloc (Ad D M0) H → Ext M0 H H4 → Alloc M0 H4 → Alloc (Ad D M0) H4 := fun H H4 a x a0 p m => by
    by_cases q : M0 p
    · exact a0 p q
    · obtain ⟨xs, e, hz9⟩ := a p m
      exact ⟨xs, x p _ q e, hz9⟩
  refine lc_it wk (fun i H => ∃ acc, ∃ ys : List β, H D = some (.lst acc) ∧ ys.length = i ∧ (∀ y ∈ ys, p y) ∧ Paired (fun v x => rp K (Fr (Ad D M0) H) v x) acc ys ∧ Ext M0 H1 H ∧ I i H ∧ Same (Fr M0 H1) (Fr (Ad D M0) H) ∧ Alloc (Ad D M0) H)
    ⟨[], [], upd_same, rfl, (fun _ z => nomatch z), .nil, Ext.new hD, iup _ _ _ _ nM i0, Fr.put hD, al.put⟩ (fun i H _ h => ?_) ?_ (fun H h => ?_)
  · obtain ⟨_, _, _, _, _, _, _, _, s, _⟩ := h
    exact hG H (s.trans Fr.sub)
  · rintro i x H H' hi ⟨acc, ys, e1, e2, ep, e3, e4, e5, e6, e7⟩ hY
    have zz : acc.length < sizeLine := by
      rw [e3.length, e2]
      exact Nat.lt_of_lt_of_le (show i < 1000001 by omega) (by decide)
    refine step i x H H' (Ad D M0) _ _ hi e6 e7 (fun p m => .inr m) e4 e5 hY (fun w y H4 x4 i4 hy r4 => ?_)
    have f4 := x4 _ _ nM e1
    have m1 : Same (Fr (Ad D M0) H) (Fr (Ad D M0) H4) := Fr.ext (fun b o nb e => x4 b o (fun z => nb (.inr z)) e)
    have m2 : Same (Fr (Ad D M0) H4) (Fr (Ad D M0) (upd H4 D (.lst (acc ++ [w])))) := Fr.wr (.inl rfl)
    refine ⟨acc, f4, zz, acc ++ [w], ys ++ [y], upd_same, by rw [List.length_append, e2]; rfl, (fun z hz => (List.mem_append.mp hz).elim (ep z) fun q => by rw [List.mem_singleton.mp q]; exact hy), ?_, (fun b o nb e => by rw [upd_ne (ne_of_none e hD)]; exact x4 b o nb (e4 b o nb e)), iup _ _ _ _ nM i4, e6.trans (m1.trans m2), (al4 H H4 e7 x4 (iAl _ _ i4)).wr⟩
    exact Paired.snoc (L2.Paired.mapP e3 fun _ _ q => Rep.up (m1.trans m2) q) (Rep.up m2 r4)
  · obtain ⟨acc, ys, e1, e2, ep, e3, e4, e5, e6, e7⟩ := h
    exact k D H ys e4 e5 hD e2 ep ⟨D, acc, rfl, Fr.get nM e1, L2.Paired.mapP e3 fun _ _ q => Rep.up Fr.free q⟩
/-- items that are drawn from a feed -/
theorem lc_feedE {a : Addr} {c N : Nat} {xs : List α} (p : β → Prop) (T : TW K (fdM a) H1 J xs) (hT : Fq a (N + c * xs.length) H1) (hz : xs.length ≤ 1000000)
    (step : ∀ (i : Nat) (x : α) (u : V) (H : Hp) (M' : Addr → Prop) (C : V → Hp → Prop) (C0 : Hp → Prop), xs[i]? = some x → Same (Fr (fdM a) H1) (Fr M' H) → Alloc M' H → (∀ b, fdM a b → M' b) → Ext (fdM a) H1 H → Fq a (N + c * (xs.length - (i + 1)) + c) H → rp K (Fr M' H) u x →
      (∀ w y H4, Ext (fdM a) H H4 → Fq a (N + c * (xs.length - (i + 1))) H4 → p y → rp K (Fr M' H4) w y → C w H4) → g u (wipe σ vs) H fun σ2 H2 => wipe σ2 vs = wipe σ vs ∧ tt σ2 H2 fun b H3 => if b = true then te σ2 H3 C else C0 H3)
    (k : ∀ D H' (ys : List β), Ext (fdM a) H1 H' → Fq a N H' → ys.length = xs.length → (∀ y ∈ ys, p y) → rp K (Fr (fdM a) H') (.ref D) ys → Q D H') : ∀ D, H1 D = none → LcW J H1 g tt te vs σ D (Q D) := by
  obtain ⟨G, Y, wk, hG, hY⟩ := T.ex
  refine lc_repE (M0 := fdM a) (I := fun i H => Fq a (N + c * (xs.length - i)) H) wk p hT.alloc hG hz hT (fun i H D o n t => t.upd n) (fun _ _ t => t.alloc) ?_ (fun D H' ys x i _ l q r => k D H' ys x (by rw [Nat.sub_self] at i; exact i) l q r)
  rintro i x H H' M' C C0 hi s6 a7 hm s4 t7 y7 hC
  obtain ⟨z, hz2, s8, rz⟩ := hY i x H H' M' hi s6 a7 y7
  have t8 : Fq a (N + c * (xs.length - (i + 1)) + c) H' := by
    have q := t7.same s8
    have e2 : N + c * (xs.length - i) = N + c * (xs.length - (i + 1)) + c := by
      rw [show xs.length - i = (xs.length - (i + 1)) + 1 by omega, Nat.mul_add, Nat.mul_one]
      omega
    rw [e2] at q
    exact q
  exact step i z x H' M' C C0 hz2 (s6.trans (Fr.same s8)) (a7.same s8) hm (s4.trans (Ext.same s8)) t8 rz (fun w y H4 s t hp r => hC w y H4 ((Ext.same s8).trans s) t hp r)
end
/-! ### o + o of an own class -/
section
variable {X : Cx} {op : Operator} {k0 : Nat} {C f : Addr} {fd : FuncData} {ps : List Str} {sp : Sp} {E : XK}
def rOwn (C : Addr) (sp : Sp) (E : XK) : R2 := fun x y H Q => ∃ a dx fs b dy gs, x = .ref a ∧ y = .ref b ∧ H a = some (.ins C dx fs) ∧ H b = some (.ins C dy gs) ∧ sp [.ref a, .ref b] H (fun v H' => (∃ p, v = .ref p) ∧ Q v H') E
theorem op_own (O : OpOf X.K C op.info.2 f) (F : FnOk X.prog X.w X.K X.mg X.base (L2.CX X.prog X.w) k0 f fd ps sp) (hr : Room k0 X.A) (hb : L2.Binds X.K fd ps []) (hx : Passes (L2.CX X.prog X.w) X E) : OpR X (binaryOp op) (rOwn C sp E) := by
  intro pins s σ H x y v u Q I rx ry h
  obtain ⟨a, dx, fs, b, dy, gs, rfl, rfl, ha, hb', q⟩ := h
  obtain rfl : v = Value.ref a := rx
  obtain rfl : u = Value.ref b := ry
  obtain ⟨mA, OA, _⟩ := ins_get I.hok ha
  obtain ⟨od, JA, _⟩ := OA.look
  obtain ⟨mB, OB, _⟩ := ins_get I.hok hb'
  obtain ⟨oe, JB, _⟩ := OB.look
  obtain ⟨mm, fr⟩ := I.fr
  refine PySem.W.binop_K fr I.ok.mod.kin JA JB.type O.first O.at_ O.fn ?_
  have w := run_fn (us := [.ref a, .ref b]) (vs := [.ref a, .ref b]) F hr hb .nil hx I (.cons rfl (.cons rfl .nil)) (by rw [List.append_nil]; exact q)
  exact wpAny_mono w (fun _ _ z => ep_back z) fun _ _ z => z
end
/-! ### C(*a, *b) -/
theorem evalArgs_two {M : Model} {A : Around} {E : Value → Shared → Prop} {s : Shared} {f : Value} {x y : Sem Value} {b : Bool} {rest : List (Bool × Sem Value)} {Q : Args → Shared → Prop}
    (h : wpAny M A (spliced ((true, x) :: (b, y) :: rest)) (fun vs s' => Q ⟨vs, []⟩ s') E s) : wpAny M A (evalArgs f true ((true, x) :: (b, y) :: rest) []) Q E s := by
  unfold evalArgs
  show wpAny M A (spliced ((true, x) :: (b, y) :: rest) >>= _) Q E s
  refine wpAny_bind (wpAny_mono h (fun vs s' h' => ?_) fun _ _ x => x)
  refine wpAny_holding ?_
  exact wpAny_bind (wpAny_pure (wpAny_bind (wpAny_pure (wpAny_pure h'))))
section
variable {X : Cx} {CX : CXT} {k : Nat} {f C : Addr} {sp : Sp} {E : XK} {x : Str} {e1 e2 : Expr} {t : TA} {p p1 p2 pos : Pos}
theorem pe_makeSS (M : Mk X.K C f) (F : FnR X.prog X.w X.K X.mg X.base CX k f sp) (hr : Room (k + 1) X.A) (hg : Gl X x) (hm : X.mg x = some (.ref C)) (hx : Passes CX X E) (ha : PA X [.Starred e1 p1, .Starred e2 p2] t) (hdb : (x == ("__debug__" : Str)) = false := by decide)
    (he : starEach [.Starred e1 p1, .Starred e2 p2] X.env = [(true, eval e1 X.env), (true, eval e2 X.env)] := by rfl) : PE X (.Call (.Name x p) [.Starred e1 p1, .Starred e2 p2] [] pos) (StX.tMakeR C sp E t) := by
  refine ⟨fun pins s σ H Q I h => ?_⟩
  refine wpAny_Call_Name_kw (ld_glob I hg hm ?_ hdb)
  have w := ha.run pos pins s σ H _ I h
  rw [he] at w ⊢
  refine PySem.W.ks_call rfl (PySem.W.keeps_K M.kp) (evalArgs_two (thn w fun us s1 ⟨vs, H1, I1, r, q⟩ => ⟨I1.kIn, ?_⟩))
  exact StX.run_makeR M F hr hx I1 r q
end
/-! ### o.m(), o a line, m a def of its kind -/
section
variable {X : Cx} {k0 : Nat} {fk : LK → Addr} {fdk : LK → FuncData} {ps : List Str} {spk : LK → Sp} {E : XK} {m : Str} {pos apos : Pos} {o : Expr} {ta : TE}
def tLMK (K : Frag) (spk : LK → Sp) (E : XK) (ta : TE) : TE := fun σ H Q => ta σ H fun x H1 => ∃ a k n, x = .ref a ∧ LnAt K H1 a k n ∧ spk k [.ref a] H1 Q E
theorem pe_lmethK {pl : Sem Bool} (he : PE X o ta) (L : LnF X.K) (hm : ∀ k, Meth X.K (cA X.K k) m (fk k)) (F : ∀ k, FnOk X.prog X.w X.K X.mg X.base (L2.CX X.prog X.w) k0 (fk k) (fdk k) ps (spk k)) (hr : Room k0 X.A) (hb : ∀ k, L2.Binds X.K (fdk k) ps []) (hx : Passes (L2.CX X.prog X.w) X E)
    (n1 : ¬ m = "held_ride" := by decide +kernel) (n2 : ¬ m = "held_at" := by decide +kernel) (n3 : ¬ m = "held_every" := by decide +kernel)
    (ht : eval (.Call (.Attribute o m apos) [] [] pos) X.env = (do
      let ov ← eval o X.env
      standAt apos.atName
      let (g, first) ← holding [ov] (getMethod ov m pl)
      callWith pos g first (backTo pos (starEach [] X.env)) (backToKw pos (keywordEach [] X.env))) := by rfl) :
    PE X (.Call (.Attribute o m apos) [] [] pos) (tLMK X.K spk E ta) := by
  refine ⟨fun pins s σ H Q I h => ?_⟩
  refine PySem.W.methodCall_KW (pl := pl) (thn (he.run pins s σ H _ I h) fun u s1 ⟨x, H1, I1, rx, a, k, n, ex, ⟨dx, ea⟩, q⟩ => ?_) ht
  subst ex
  obtain rfl : u = Value.ref a := rx
  refine getmeth_ok I1 ea (L.cls k) (hm k) (lf_no n n1 n2 n3) ?_
  exact PySem.W.callWith_K0 (first := [.ref a]) I1.kIn (hm k).kp (run_fn (us := [.ref a]) (vs := [.ref a]) (F k) hr (hb k) .nil hx I1 (.cons rfl .nil) (by rw [List.append_nil]; exact q))
end
end Fw

/-! Fw, part Q: == of an own class without an __eq__ (identity); texts of lines; lists of texts. -/
namespace Fw
open PySem PySem.Spec PyProof.Rows L2
open PySem.W (Looks looks_findIn looks_clsIn looks_subIn looks_typeIn)
open He (ga ma eqO eqO_ok)
open Rep (rp)
/-! ### identity -/
structure IdOf (K : Frag) (C : Addr) : Prop where
  eq : PySem.W.findIn K (.ref C) "__eq__" = some (some (.builtin "object.__eq__"))
  ne : PySem.W.findIn K (.ref C) "__ne__" = some (some (.builtin "object.__ne__"))
  obj : PySem.W.mroIn K C (.type "object") = some true
  nol : PySem.W.mroIn K C (.type "list") = some false
  sob : PySem.W.subIn K (.ref C) (.type "object") = some true
section
variable {prog : Program} {w : World} {A : Around} {E : Value → Shared → Prop} {s : Shared} {K : Frag} {x y C : Addr} {ox oy : Obj} {od oe : Option Obj} {tb : Value}
theorem id_same {Q : Value → Shared → Prop} (X : K.In s.heap) (I : PySem.W.InstAt s.heap x ox C od) (c : IdOf K C) (hq : Q (.bool true) s) : wpAny (model prog w) A (call (.builtin "object.__eq__") [.ref x, .ref x]) Q E s :=
  wpAny_call (codeAny_call_builtin PySem.F.cmp_object.eq.plain PySem.F.cmpEntry_eq (PySem.W.check_slot PySem.F.cmpKind_eq PySem.F.cmpSplit_eq (I.type.andThen (PySem.W.looks_mroIn X c.obj)) (PySem.F.cmpArgs_eq _ _) (objEq_entry_same hq)))
theorem inst_ntup (I : PySem.W.InstAt s.heap x ox C od) : ox.cls ≠ .type "tuple" := fun z => by
  rw [I.cls] at z
  cases z
theorem id_other {Q : Value → Shared → Prop} (X : K.In s.heap) (I : PySem.W.InstAt s.heap x ox C od) (c : IdOf K C) (hxy : x ≠ y) (hy : s.heap.get? y = some oy) (hq : Q .notImplemented s) : wpAny (model prog w) A (call (.builtin "object.__eq__") [.ref x, .ref y]) Q E s :=
  wpAny_call (codeAny_call_builtin PySem.F.cmp_object.eq.plain PySem.F.cmpEntry_eq (PySem.W.check_slot PySem.F.cmpKind_eq PySem.F.cmpSplit_eq (I.type.andThen (PySem.W.looks_mroIn X c.obj)) (PySem.F.cmpArgs_eq _ _) (objEq_entry_other hxy I.at_ hy (inst_ntup I) hq)))
theorem rc_idSame {Q : Value → Shared → Prop} (hu : A.units < cLine) (X : K.In s.heap) (I : PySem.W.InstAt s.heap x ox C od) (c : IdOf K C) (hq : Q (.bool true) s) : wpAny (model prog w) A (richCompare .Eq (.ref x) (.ref x)) Q E s := by
  refine cmp_own (nm := "__eq__") (sym := "==") rfl (by simp only [oneThing_ref]) hu I I.type X (.inl rfl) ?_
  unfold tryCompare
  exact wpAny_bind (HN.ifBound_objEq X I c.eq (id_same X I c (wpAny_pure ⟨true, rfl, hq⟩)))
theorem try_idOther (X : K.In s.heap) (I : PySem.W.InstAt s.heap x ox C od) (c : IdOf K C) (hxy : x ≠ y) (hy : s.heap.get? y = some oy) : wpAny (model prog w) A (tryCompare (.ref x) "__eq__" (.ref y)) (fun r s' => r = none ∧ s' = s) E s := by
  unfold tryCompare
  exact wpAny_bind (HN.ifBound_objEq X I c.eq (id_other X I c hxy hy (wpAny_pure ⟨rfl, rfl⟩)))
theorem rc_idOther {Q : Value → Shared → Prop} (hu : A.units < cLine) (X : K.In s.heap) (I : PySem.W.InstAt s.heap x ox C od) (c : IdOf K C) (hxy : x ≠ y) (hy : s.heap.get? y = some oy) (hb : Looks (model prog w) s.heap (typeOf (.ref y)) tb)
    (hn : tb = .ref C ∨ PySem.W.subIn K tb (.ref C) = some false) (two : wpAny (model prog w) A (tryCompare (.ref y) "__eq__" (.ref x)) (fun r s' => r = none ∧ s' = s) E s) (hq : Q (.bool false) s) : wpAny (model prog w) A (richCompare .Eq (.ref x) (.ref y)) Q E s := by
  have one := try_idOther (prog := prog) (w := w) (A := A) (E := E) X I c hxy hy
  have fin : wpAny (model prog w) A (isSame (.ref x) (.ref y)) (fun r s' => r = false ∧ s' = s) E s := wpAny_isSame_ref_other hxy I.at_ hy (inst_ntup I) ⟨rfl, rfl⟩
  simp only [richCompare, cmpInfo_Eq, oneThing_ref]
  refine wpAny_holding (wpAny_bind (wpAny_cRoomFor hu ?_))
  refine wpAny_bind (I.type.here (wpAny_bind (hb.here ?_)))
  split
  · rename_i q
    have e : PySem.W.subIn K tb (.ref C) = some false := by
      rcases hn with e | e
      · rw [e] at q; simp at q
      · exact e
    refine wpAny_bind ((looks_subIn X e).here ?_)
    simp only [Bool.false_eq_true, if_false, Bool.not_false, if_true]
    refine wpAny_bind (m := tryCompare (.ref x) _ (.ref y)) (wpAny_mono one (fun r s1 z => ?_) fun _ _ e => e)
    obtain ⟨z1, z2⟩ := z
    subst z1
    subst z2
    refine wpAny_bind (m := tryCompare (.ref y) _ (.ref x)) (wpAny_mono two (fun r s2 z => ?_) fun _ _ e => e)
    obtain ⟨z1, z2⟩ := z
    subst z1
    subst z2
    refine wpAny_bind (wpAny_rule (wpAny_bind (wpAny_mono fin (fun r s3 z => ?_) fun _ _ e => e)))
    obtain ⟨z1, z2⟩ := z
    subst z1
    subst z2
    exact wpAny_pure hq
  · refine wpAny_bind (wpAny_pure ?_)
    simp only [Bool.false_eq_true, if_false, Bool.not_false, if_true]
    refine wpAny_bind (m := tryCompare (.ref x) _ (.ref y)) (wpAny_mono one (fun r s1 z => ?_) fun _ _ e => e)
    obtain ⟨z1, z2⟩ := z
    subst z1
    subst z2
    refine wpAny_bind (m := tryCompare (.ref y) _ (.ref x)) (wpAny_mono two (fun r s2 z => ?_) fun _ _ e => e)
    obtain ⟨z1, z2⟩ := z
    subst z1
    subst z2
    refine wpAny_bind (wpAny_rule (wpAny_bind (wpAny_mono fin (fun r s3 z => ?_) fun _ _ e => e)))
    obtain ⟨z1, z2⟩ := z
    subst z1
    subst z2
    exact wpAny_pure hq
theorem sub_list : PySem.W.subIn K (.type "list") (.ref C) = some false := by
  have e : fastBuiltinMro "list" = some [.type "list", .type "object"] := by decide +kernel
  show (fastBuiltinMro "list").map (·.contains (.ref C)) = some false
  rw [e]
  first
    | rfl
    | simp
/-- list.__eq__ asked with an instance declines -/
theorem list_declines {l : Addr} {items : Array Value} {n : Nat} (X : K.In s.heap) (I : PySem.W.InstAt s.heap x ox C od) (c : IdOf K C) (hl : s.heap.get? l = some { cls := .type "list", data := .seq items n }) :
    wpAny (model prog w) A (tryCompare (.ref l) "__eq__" (.ref x)) (fun r s' => r = none ∧ s' = s) E s := by
  have lo : Looks (model prog w) s.heap (isInstance (.ref x) (.type "list")) false := I.type.andThen (PySem.W.looks_mroIn X c.nol)
  refine wpAny_tryCompare_declines (show s.TypeIs (.ref l) "list" from ⟨_, hl, rfl⟩) PySem.F.slot_list_eq_refl ?_
  refine GQ.call_here PySem.F.slot_list_eq_refl ⟨_, hl, rfl⟩ PySem.F.entry_list_eq (PySem.F.args_list_eq_2 _ _) ?_
  unfold Builtin.«list.__eq__»
  repeat (first | with_reducible refine wpAny_bind (lo.here ?_) | with_reducible refine lo.here ?_ | wp_step)
  exact ⟨rfl, rfl, rfl⟩
theorem ne_idSame {Q : Value → Shared → Prop} (hu : A.units + 1 < cLine) (X : K.In s.heap) (I : PySem.W.InstAt s.heap x ox C od) (c : IdOf K C) (hq : Q (.bool false) s) : wpAny (model prog w) A (richCompare .NotEq (.ref x) (.ref x)) Q E s := by
  refine cmp_own (nm := "__ne__") (sym := "!=") rfl (by simp only [oneThing_ref]) (Nat.lt_of_succ_lt hu) I I.type X (.inl rfl) ?_
  have go : wpAny (model prog w) A (call (.builtin "object.__ne__") [.ref x, .ref x]) (fun v s' => v = .bool false ∧ s' = s) E s := by
    refine wpAny_call (codeAny_call_builtin PySem.F.slot_object_ne.plain PySem.F.cmpEntry_ne (PySem.W.check_slot PySem.F.cmpKind_ne PySem.F.cmpSplit_ne (I.type.andThen (looks_subIn X c.sob)) (PySem.F.cmpArgs_ne _ _) ?_))
    have h1 : wpAny (model prog w) A.in1 (callSpecialIfBound? (.ref x) (Str.ofString "__eq__") [.ref x]) (fun r s' => r = some (.bool true) ∧ s' = s) (fun e s' => False) s := HN.ifBound_objEq X I c.eq (id_same X I c ⟨rfl, rfl⟩)
    unfold Builtin.«object.__ne__»
    repeat (first
      | with_reducible refine wpAny_cRoomFor hu ?_
      | (refine wpAny_bind (m := callSpecialIfBound? (.ref x) (Str.ofString "__eq__") [.ref x])
          (wpAny_mono h1 (fun r s' hr => by
            obtain ⟨e1, e2⟩ := hr
            subst e1
            subst e2
            repeat (first | exact ⟨rfl, rfl⟩ | refine wpAny_pure ?_ | refine wpAny_truthy_bool ?_ | (refine wpAny_bind (m := truthy (.bool _)) (wpAny_truthy_bool ?_)) | wp_step)) fun _ _ e => e.elim))
      | wp_step)
  unfold tryCompare callSpecialIfBound? bindSpecialIfBound?
  have hb : ∀ self, bindSpecial (.builtin "object.__ne__") self = pure (.builtin "object.__ne__", [self]) := PySem.F.slot_object_ne.bind
  refine wpAny_bind (wpAny_holding (wpAny_bind (wpAny_bind (wpAny_bind (I.type.here ((PySem.W.looks_findIn X c.ne).here ?_))))))
  refine wpAny_bind (wpAny_askSetting (wpAny_ite ?_))
  have fin : wpAny (model prog w) A (call (.builtin "object.__ne__") ([.ref x] ++ [.ref x]) >>= fun v => pure (some v)) (fun r s' => wpAny (model prog w) A (match r with | some .notImplemented | none => pure none | some v => pure (some v)) (fun r s' => ∃ b, r = some (.bool b) ∧ Q (.bool b) s') E s') E s := by
    refine wpAny_bind (wpAny_mono go (fun v s' hv => ?_) fun _ _ e => e)
    obtain ⟨e1, e2⟩ := hv
    subst e1
    subst e2
    exact wpAny_pure (wpAny_pure ⟨false, rfl, hq⟩)
  simp only [hb]
  split
  · exact wpAny_bind (wpAny_pure (wpAny_pure fin))
  · exact wpAny_tryCatch (wpAny_bind (wpAny_pure (wpAny_pure fin)))
end
def rIdEq (C : Addr) : R2 := fun x y H Q => ∃ a dx fs b, x = .ref a ∧ y = .ref b ∧ H a = some (.ins C dx fs) ∧ ((∃ dy gs, H b = some (.ins C dy gs)) ∨ (∃ xs, H b = some (.lst xs))) ∧ Q (.bl (decide (a = b))) H
def rIdNe (C : Addr) : R2 := fun x y H Q => ∃ a dx fs, x = .ref a ∧ y = .ref a ∧ H a = some (.ins C dx fs) ∧ Q (.bl false) H
section
variable {X : Cx} {C : Addr}
theorem op_idEq (c : IdOf X.K C) (hu1 : X.A.units + 1 < cLine) : OpR X (compareOp .Eq) (rIdEq C) := by
  intro pins s σ H x y v u Q I rx ry h
  obtain ⟨a, dx, fs, b, rfl, rfl, ha, hb, q⟩ := h
  have hu := Nat.lt_of_succ_lt hu1
  obtain rfl : v = Value.ref a := rx
  obtain rfl : u = Value.ref b := ry
  obtain ⟨mA, OA, _⟩ := ins_get I.hok ha
  obtain ⟨od, JA, _⟩ := OA.look
  show wpAny (model X.prog X.w) X.A (richCompare .Eq (.ref a) (.ref b)) (EP X pins σ Q) X.xe s
  by_cases e : a = b
  · subst e
    rw [decide_eq_true rfl] at q
    exact rc_idSame hu I.kIn JA c ⟨.bl true, H, I, rfl, q⟩
  · rw [decide_eq_false e] at q
    rcases hb with ⟨dy, gs, hb⟩ | ⟨xs, hb⟩
    · obtain ⟨mB, OB, _⟩ := ins_get I.hok hb
      obtain ⟨oe, JB, _⟩ := OB.look
      exact rc_idOther hu I.kIn JA c e JB.at_ JB.type (.inl rfl) (try_idOther I.kIn JB c (Ne.symm e) JA.at_) ⟨.bl false, H, I, rfl, q⟩
    · obtain ⟨_, its, n, _, _, hl⟩ := I.lstM hb
      have lk : Looks (model X.prog X.w) s.heap (typeOf (.ref b)) (.type "list") := (Looks.ld (part := none) hl).andThen .now
      exact rc_idOther hu I.kIn JA c e hl lk (.inr sub_list) (list_declines I.kIn JA c hl) ⟨.bl false, H, I, rfl, q⟩
theorem op_idNe (c : IdOf X.K C) (hu : X.A.units + 1 < cLine) : OpR X (compareOp .NotEq) (rIdNe C) := by
  intro pins s σ H x y v u Q I rx ry h
  obtain ⟨a, dx, fs, rfl, rfl, ha, q⟩ := h
  obtain rfl : v = Value.ref a := rx
  obtain rfl : u = Value.ref a := ry
  obtain ⟨mA, OA, _⟩ := ins_get I.hok ha
  obtain ⟨od, JA, _⟩ := OA.look
  show wpAny (model X.prog X.w) X.A (richCompare .NotEq (.ref a) (.ref a)) (EP X pins σ Q) X.xe s
  exact ne_idSame hu I.kIn JA c ⟨.bl false, H, I, rfl, q⟩
end
def cIdOf (x : Str) : Ck := fun K => eqO (PySem.W.findIn K (.ref (ga K x)) "__eq__") (some (some (.builtin "object.__eq__"))) && (eqO (PySem.W.findIn K (.ref (ga K x)) "__ne__") (some (some (.builtin "object.__ne__"))) && (decide (PySem.W.mroIn K (ga K x) (.type "object") = some true) && (decide (PySem.W.mroIn K (ga K x) (.type "list") = some false) && decide (PySem.W.subIn K (.ref (ga K x)) (.type "object") = some true))))
theorem idOf_of {K : Frag} {x : Str} (c : cIdOf x K = true) : IdOf K (ga K x) := by
  obtain ⟨c1, c⟩ := Bool.and_eq_true_iff.mp c
  obtain ⟨c2, c⟩ := Bool.and_eq_true_iff.mp c
  obtain ⟨c3, c⟩ := Bool.and_eq_true_iff.mp c
  obtain ⟨c4, c5⟩ := Bool.and_eq_true_iff.mp c
  exact ⟨eqO_ok c1, eqO_ok c2, of_decide_eq_true c3, of_decide_eq_true c4, of_decide_eq_true c5⟩
/-! ### the text of a line -/
def txt : LK → N3 → Str
  | .line, n => (((((Str.empty ++ "every ") ++ (toString n.e : Str)) ++ " from ") ++ (toString n.a : Str)) ++ " ride ") ++ (toString n.r : Str)
  | .walk, n => (Str.empty ++ "walk ") ++ (toString n.r : Str)
  | .stop, n => (((Str.empty ++ "stop ") ++ (toString n.e : Str)) ++ " from ") ++ (toString n.a : Str)
/-- numbers that may be written -/
structure TxOk (n : N3) : Prop where
  e : n.e.natAbs.log2 < 1920
  a : n.a.natAbs.log2 < 1920
  r : n.r.natAbs.log2 < 1920
theorem apl {a b : Str} {m n : Nat} (h : a.length ≤ m) (g : b.length ≤ n) : (a ++ b).length ≤ m + n := by
  rw [Str.length_append]
  omega
theorem itx {i : Int} (h : i.natAbs.log2 < 1920) : ((toString i : String) : Str).length ≤ 1921 := int_text_len_1921 h
theorem so_app {a b : Str} (h : PyData.strOk a = true) (g : PyData.strOk b = true) : PyData.strOk (a ++ b) = true := by
  unfold PyData.strOk at h g ⊢
  show (a.cps ++ b.cps).all _ = true
  rw [Array.all_append, h, g]
  rfl
theorem so_str (s : String) : PyData.strOk (Str.ofString s) = true := by
  unfold PyData.strOk
  rw [Str.ofString_eq_toList]
  simp only [List.all_toArray, List.all_map, List.all_eq_true]
  intro c _
  have h := c.valid
  have e : c.toNat = c.val.toNat := rfl
  simp only [Function.comp, decide_eq_true_eq, e]
  rcases h with h | h
  · have : c.val.toNat < 55296 := h
    omega
  · exact h.2
theorem so_txt (k : LK) (n : N3) : PyData.strOk (txt k n) = true := by
  have z : PyData.strOk Str.empty = true := by decide +kernel
  cases k
  · exact so_app (so_app (so_app (so_app (so_app (so_app z (so_str _)) (so_str _)) (so_str _)) (so_str _)) (so_str _)) (so_str _)
  · exact so_app (so_app z (so_str _)) (so_str _)
  · exact so_app (so_app (so_app (so_app z (so_str _)) (so_str _)) (so_str _)) (so_str _)
theorem txt_len (k : LK) {n : N3} (h : TxOk n) : (txt k n).length ≤ 6000 := by
  have z : Str.empty.length ≤ 0 := Nat.le_refl _
  have l1 : ("every " : Str).length ≤ 6 := by decide +kernel
  have l2 : (" from " : Str).length ≤ 6 := by decide +kernel
  have l3 : (" ride " : Str).length ≤ 6 := by decide +kernel
  have l4 : ("walk " : Str).length ≤ 5 := by decide +kernel
  have l5 : ("stop " : Str).length ≤ 5 := by decide +kernel
  cases k
  · exact Nat.le_trans (apl (apl (apl (apl (apl (apl z l1) (itx h.e)) l2) (itx h.a)) l3) (itx h.r)) (by decide)
  · exact Nat.le_trans (apl (apl z l4) (itx h.r)) (by decide)
  · exact Nat.le_trans (apl (apl (apl (apl z l5) (itx h.e)) l2) (itx h.a)) (by decide)
/-- the def of text of a kind, its promise -/
def fT (K : Frag) : LK → Addr
  | .line => ma K (ga K "Line") "text"
  | .walk => ma K (ga K "Walk") "text"
  | .stop => ma K (ga K "Stop") "text"
def spT (K : Frag) (k : LK) : Sp := fun vs H Q E => ∃ a n, vs = [.ref a] ∧ LnAt K H a k n ∧ TxOk n ∧ Q (.str (txt k n)) H
theorem cl_text {K : Frag} {H : Hp} {Q : VK} {E : XK} {a : Addr} {k : LK} {n : N3} (L : LnAt K H a k n) (t : TxOk n) (q : Q (.str (txt k n)) H) : sq (spT K k) [.ref a] H Q E := sqI ⟨a, n, rfl, L, t, q⟩
/-! ### == of own objects as values -/
section
variable {K : Frag} {H : Hp} {Q : VK} {C a b dx dy : Addr} {fs gs : List (Str × V)} {xs : List V}
theorem rd_idS {v : V} (e : v = .ref a) (ha : H a = some (.ins C dx fs)) (q : Q (.bl true) H) : sq2 (rIdEq C) v v H Q := by
  subst e
  rw [sq2_eq]
  exact ⟨a, dx, fs, a, rfl, rfl, ha, .inl ⟨dx, fs, ha⟩, by rw [decide_eq_true rfl]; exact q⟩
theorem rd_idO {v w : V} (e : v = .ref a) (f : w = .ref b) (ha : H a = some (.ins C dx fs)) (hb : H b = some (.ins C dy gs)) (ne : a ≠ b) (q : Q (.bl false) H) : sq2 (rIdEq C) v w H Q := by
  subst e
  subst f
  rw [sq2_eq]
  exact ⟨a, dx, fs, b, rfl, rfl, ha, .inl ⟨dy, gs, hb⟩, by rw [decide_eq_false ne]; exact q⟩
theorem rd_idL {v w : V} (e : v = .ref a) (f : w = .ref b) (ha : H a = some (.ins C dx fs)) (hb : H b = some (.lst xs)) (q : Q (.bl false) H) : sq2 (rIdEq C) v w H Q := by
  subst e
  subst f
  rw [sq2_eq]
  have ne : a ≠ b := fun z => by
    rw [z, hb] at ha
    cases ha
  exact ⟨a, dx, fs, b, rfl, rfl, ha, .inr ⟨xs, hb⟩, by rw [decide_eq_false ne]; exact q⟩
theorem rd_idN {v : V} (e : v = .ref a) (ha : H a = some (.ins C dx fs)) (q : Q (.bl false) H) : sq2 (rIdNe C) v v H Q := by
  subst e
  rw [sq2_eq]
  exact ⟨a, dx, fs, rfl, rfl, ha, q⟩
end
end Fw

/-! Fw, part O: any objects; C(k = v, ..); C.KIND; texts put together; lists that begin with items. -/
namespace Fw
open PySem PySem.Spec PyProof.Rows L2
open He (ga ma eqO eqO_ok)
open Rep (rp)
/-! ### any object -/
theorem TyX.same {K : Frag} {H H' : Hp} {v : V} {t : Value} (s : Same H H') (h : TyX K H v t) : TyX K H' v t := by
  cases h with
  | base b =>
    refine .base ?_
    cases b with
    | non => exact .non
    | bl x => exact .bl x
    | int i => exact .int i
    | str x => exact .str x
    | flt x => exact .flt x
    | lst e => exact .lst (s _ _ e)
    | frz e => exact .frz (s _ _ e)
    | tup e => exact .tup (s _ _ e)
    | dK e => exact .dK (s _ _ e)
    | dT e => exact .dT (s _ _ e)
    | ins e a b c d f => exact .ins (s _ _ e) a b c d f
  | byt b => exact .byt b
  | set e => exact .set (s _ _ e)
  | kList e c => exact .kList e c
  | kTuple e c => exact .kTuple e c
  | kDict e c => exact .kDict e c
  | fTuple e => exact .fTuple (s _ _ e)
  | fDict e => exact .fDict (s _ _ e)
inductive Ob where
  | int (i : Int)
  | bl (b : Bool)
  | ty (T : String)
  | own (C : Str)
instance : Rep Ob := ⟨fun K F v o => match o with
  | .int i => v = .int i
  | .bl b => v = .bl b
  | .ty T => TyX K F v (.type T)
  | .own C => TyX K F v (.ref (ga K C)), fun {K F F' v o} s h => match o, h with
  | .int _, h => h
  | .bl _, h => h
  | .ty _, h => TyX.same s h
  | .own _, h => TyX.same s h⟩
section
variable {K : Frag} {F H : Hp} {M : Addr → Prop} {v w : V} {Q : VK} {α : Type} [Rep α]
theorem ob_non : rp K F .non (Ob.ty "NoneType") := show TyX K F .non (.type "NoneType") from .base .non
theorem ob_bl (b : Bool) : rp K F (.bl b) (Ob.ty "bool") := show TyX K F (.bl b) (.type "bool") from .base (.bl b)
theorem ob_int (i : Int) : rp K F (.int i) (Ob.ty "int") := show TyX K F (.int i) (.type "int") from .base (.int i)
theorem ob_str (s : Str) : rp K F (.str s) (Ob.ty "str") := show TyX K F (.str s) (.type "str") from .base (.str s)
theorem ob_lst {xs : List α} (h : rp K F v xs) : rp K F v (Ob.ty "list") := by
  obtain ⟨p, vs, rfl, e, _⟩ := h
  exact show TyX K F (.ref p) (.type "list") from .base (.lst e)
theorem ob_num {x : Num} (h : rp K F v x) : rp K F v (Ob.ty "list") := by
  obtain ⟨p, rfl, e⟩ := h
  exact show TyX K F (.ref p) (.type "list") from .base (.lst e)
theorem ob_n3 {x : N3} (h : rp K F v x) : rp K F v (Ob.ty "tuple") := by
  obtain ⟨p, rfl, e⟩ := h
  exact show TyX K F (.ref p) (.type "tuple") from .base (.tup e)
theorem ob_typ {o : Ob} {T : String} (e : o = .ty T) (h : rp K F v o) (hF : Same F H) : TyX K H v (.type T) := by
  subst e
  exact TyX.same hF h
theorem n3_tup {n : N3} (h : rp K F v n) : rp K F v (⟨[n.e, n.a, n.r]⟩ : Tup Int) := by
  obtain ⟨p, rfl, e⟩ := h
  exact ⟨p, _, rfl, e, pd_ofInts [n.e, n.a, n.r]⟩
/-- () -/
theorem rd_tup0 (al : Alloc M H) (k : ∀ v H', Same H H' → rp K (Fr M H') v (Ob.ty "tuple") → Q v H') : sqc rTupD [] H Q := by
  rw [sqc_eq]
  exact ⟨Nat.zero_le _, fun p hp => k _ _ (Same.new hp) (show TyX K _ (.ref p) (.type "tuple") from .base (.tup (Fr.new al hp)))⟩
theorem rd_tup1 {u : V} (al : Alloc M H) (k : ∀ v H', Same H H' → rp K (Fr M H') v (Ob.ty "tuple") → Q v H') : sqc rTupD [u] H Q := by
  rw [sqc_eq]
  exact ⟨by show 1 ≤ sizeLine; decide, fun p hp => k _ _ (Same.new hp) (show TyX K _ (.ref p) (.type "tuple") from .base (.tup (Fr.new al hp)))⟩
def knC : LK → Str
  | .line => "Line"
  | .walk => "Walk"
  | .stop => "Stop"
theorem cA_knC (K : Frag) (k : LK) : cA K k = ga K (knC k) := by cases k <;> rfl
/-- {'k': v} -/
theorem rd_disp1 {x : Str} (al : Alloc M H) (k : ∀ p H', Same H H' → rp K (Fr M H') (.ref p) (Ob.ty "dict") → Q (.ref p) H') (p : Addr) (hp : H p = none) (kvs : List (Key × V)) : Q (.ref p) (upd (upd H p (.dK [])) p (.dK kvs)) := by
  rw [upd_upd]
  exact k p _ (Same.new hp) (show TyX K _ (.ref p) (.type "dict") from .base (.dK (Fr.new al hp)))
/-- a list that begins with items and may grow -/
theorem rd_mutL {vs : List V} {xs : List α} (al : Alloc M H) (hl : vs.length ≤ 1000) (h : Paired (fun v x => rp K (Fr M H) v x) vs xs) (k : ∀ D H', H D = none → Same H H' → Mu K (Ad D M) H' D xs → Same (Fr M H) (Fr (Ad D M) H') → Alloc (Ad D M) H' → Q (.ref D) H') : sqc rLstD vs H Q := by
  rw [sqc_eq]
  exact ⟨Nat.le_trans hl (by decide), fun D hD => k D _ hD (Same.new hD) ⟨vs, upd_same, L2.Paired.mapP h fun _ _ q => Rep.up (Fr.put hD) q⟩ (Fr.put hD) al.put⟩
/-- ['line'] + [headway, departure, ride] -/
theorem rd_catNum {a b c : Int} (al : Alloc M H) (h : rp K (Fr M H) v (["line"] : List Str)) (g : rp K (Fr M H) w ([a, b, c] : List Int)) (k : ∀ u H', Same H H' → rp K (Fr M H') u (⟨.line, ⟨a, b, c⟩⟩ : Num) → Q u H') : sq2 rCat v w H Q := by
  rw [sq2_eq]
  obtain ⟨p, vs, rfl, h1, h2⟩ := h
  obtain ⟨q, ws, rfl, g1, g2⟩ := g
  obtain rfl : vs = [V.str "line"] := by
    cases h2 with
    | cons x h2 =>
      cases h2
      obtain rfl : _ = V.str "line" := x
      rfl
  obtain rfl : ws = [V.int a, V.int b, V.int c] := by
    cases g2 with
    | cons x1 g2 =>
      cases g2 with
      | cons x2 g2 =>
        cases g2 with
        | cons x3 g2 =>
          cases g2
          obtain rfl : _ = V.int a := x1
          obtain rfl : _ = V.int b := x2
          obtain rfl : _ = V.int c := x3
          rfl
  refine ⟨p, q, _, _, rfl, rfl, Fr.sub _ _ h1, Fr.sub _ _ g1, (by show 1 + 3 ≤ sizeLine; decide), fun r hr => k _ _ (Same.new hr) (num_rp (k := .line) (n := ⟨a, b, c⟩) ?_ (al.new hr))⟩
  exact upd_same
end
/-! ### C(k = v, ..) -/
section
variable {X : Cx} {CX : CXT} {k n : Nat} {f C : Addr} {fd : FuncData} {ps ks : List Str} {sp : Sp} {E : XK} {x : Str} {p pos : Pos} {kws : List Keyword} {tk : TA} {g : List Value → List Value → List Value} {gV : List V → List V → List V}
def rMakeK (C : Addr) (sp : Sp) (gV : List V → List V → List V) (E : XK) : List V → Hp → VK → Prop := fun zs H2 Q => ∀ x dx, H2 x = none → H2 dx = none → dx ≠ x → sp (gV [.ref x] zs) (upd (upd H2 dx (.own x)) x (.ins C dx [])) (fun v H3 => v = .non ∧ Q (.ref x) H3) E
def tMakeK (C : Addr) (m : Nat) (sp : Sp) (gV : List V → List V → List V) (E : XK) (tk : TA) : TE := fun σ H Q => tk σ H fun zs H2 => zs.length = m ∧ sqc (rMakeK C sp gV E) zs H2 Q
theorem pe_makeK (M : Mk X.K C f) (F : FnOk X.prog X.w X.K X.mg X.base CX k f fd ps sp) (hr : Room (k + 1) X.A) (hg : Gl X x) (hm : X.mg x = some (.ref C)) (hb : KBn X.K fd ps 1 ks g gV) (hx : Passes CX X E) (hkw : PK X kws tk)
    (hall : (backToKw pos (keywordEach kws X.env)).all (fun q => q.1.isSome) = true := by rfl) (hks : (backToKw pos (keywordEach kws X.env)).filterMap (fun q => q.1) = ks := by rfl) (hdb : (x == ("__debug__" : Str)) = false := by decide)
    (hpl : ((backTo pos (starEach [] X.env)).any (fun q => q.1) || (backToKw pos (keywordEach kws X.env)).any (fun q => q.1.isNone)) = false := by rfl) :
    PE X (.Call (.Name x p) [] kws pos) (tMakeK C ks.length sp gV E tk) := by
  constructor
  intro pins s σ H Q I h
  apply wpAny_Call_Name_kw
  apply ld_glob I hg hm _ hdb
  apply PySem.W.callWith_KW0 (h₀ := X.base) I.ok.mod.kin M.kp hall _ hpl
  refine thn (hkw.run pos pins s σ H _ I h) fun ws s2 ⟨zs, H2, I2, rz, l2, q2⟩ => ⟨I2.kIn, ?_⟩
  rw [hks]
  rw [sqc_eq] at q2
  exact run_makeN (n := 0) (us := []) (vs := []) M F hr hb hx I2 .nil rz rfl l2 q2
end
theorem FunC.kb {K : Frag} {x qual y : Str} {st : Stmt} {f : Addr} {ps : List Str} (F : FunC K x qual y st f) (n : Nat) (ks : List Str) (g : {α : Type} → List α → List α → List α)
    (hrel : ∀ {vs zs : List V} {us ws : List Value}, Vals vs us → Vals zs ws → Vals (g vs zs) (g us ws))
    (h : ∀ (cc : Addr) (kV doc pm : Value) (an : Option Addr) (cdv ct : Value) (us ws : List Value), us.length = n → ws.length = ks.length → bindArgs (PySem.W.fnX x qual (defArgs st) (defBody st) (defScope st) [(y, cc)] .none kV doc pm an cdv ct) ⟨us, ks.zip ws⟩ = pure (ps.zip (g us ws))) :
    KBn K (fdAt K f) ps n ks g g := by
  obtain ⟨oc, od, cc, kV, doc, pm, an, cdv, ct, osl, lk, hcd⟩ := F.ex
  have efd : fdAt K f = PySem.W.fnX x qual (defArgs st) (defBody st) (defScope st) [(y, cc)] .none kV doc pm an cdv ct := by
    unfold fdAt
    rw [lk]
  rw [efd]
  exact ⟨fun s us ws _ l1 l2 => .of_eq (h cc kV doc pm an cdv ct us ws l1 l2), fun r1 r2 => hrel r1 r2⟩
/-! ### C.KIND -/
def cCVal (x f : Str) (s : Str) : Ck := fun K => PySem.W.readsIn K (ga K x) (.type "type") && (eqO (PySem.W.specialIn K (.ref (ga K x)) "__getattribute__") (some (some (.builtin "type.__getattribute__"))) &&
  (match PySem.W.findCls K (.ref (ga K x)) (.type "type") f with
  | some (.val (.str y _)) => decide (y = s)
  | _ => false))
theorem cval_of {K : Frag} {x f s : Str} (c : cCVal x f s K = true) : ClX.CRead K (ga K x) (.type "type") ∧ ∃ u, ClX.CVal K (ga K x) (.type "type") f (.str s) u := by
  obtain ⟨c1, c⟩ := Bool.and_eq_true_iff.mp c
  obtain ⟨c2, c3⟩ := Bool.and_eq_true_iff.mp c
  refine ⟨⟨c1, eqO_ok c2⟩, ?_⟩
  split at c3
  · rename_i y t e
    obtain rfl := of_decide_eq_true c3
    exact ⟨_, e, _, rfl⟩
  · cases c3
/-! ### texts put together -/
theorem str_e (x : Str) : Str.empty ++ x = x := by
  show Str.append ⟨#[]⟩ x = x
  unfold Str.append
  simp
theorem txt_line (n : N3) : txt .line n = ((((("every " : Str) ++ ((toString n.e : String) : Str)) ++ " from ") ++ ((toString n.a : String) : Str)) ++ " ride ") ++ ((toString n.r : String) : Str) := by
  show ((((((Str.empty ++ ("every " : Str)) ++ _) ++ _) ++ _) ++ _) ++ _) = _
  rw [str_e]
theorem txt_walk (n : N3) : txt .walk n = ("walk " : Str) ++ ((toString n.r : String) : Str) := by
  show (Str.empty ++ ("walk " : Str)) ++ _ = _
  rw [str_e]
theorem txt_stop (n : N3) : txt .stop n = ((("stop " : Str) ++ ((toString n.e : String) : Str)) ++ " from ") ++ ((toString n.a : String) : Str) := by
  show (((Str.empty ++ ("stop " : Str)) ++ _) ++ _) ++ _ = _
  rw [str_e]
theorem isi_lin {K : Frag} {M : Addr → Prop} {H : Hp} {v : V} {l : Lin} (L : LnF K) (ty : ∀ k, PySem.W.findIn K (.ref (cA K k)) "__class__" = some (some (.builtin "object.__class__")) ∧ PySem.W.specialIn K (.builtin "object.__class__") "__get__" = some (some (.builtin "getset_descriptor.__get__")) ∧ PySem.W.takesIn K (.builtin "object.__class__") = some true ∧ PySem.W.mroIn K (cA K k) (.type "object") = some true) (h : rp K (Fr M H) v l) : TyX K H v (.ref (cA K l.k)) := by
  obtain ⟨a, rfl, dx, e⟩ := h
  obtain ⟨t1, t2, t3, t4⟩ := ty l.k
  exact .base (.ins (Fr.sub _ _ e) (L.cls l.k) t1 t2 t3 t4)
end Fw

/-! Fw, part P: try .. except x as n: suite, then more rows; the error stays in hand. -/
namespace Fw
open PySem PySem.Spec PyProof.Rows L2
/-- the context of the rows behind a try whose error is in hand -/
abbrev keepX (X : Cx) (a : Addr) (o : Obj) (l : List (Addr × Obj)) : Cx := { X with pn := (a, o) :: l }
theorem Has.keep {X : Cx} {a : Addr} {oe : Obj} {cls : Value} {d : Option Addr} {pn : List (Addr × Obj)} (z : Zc cls d oe) (f : ∃ vs, oe.data = .fields vs) : Has (keepX X a oe pn) a cls d := ⟨oe, List.mem_cons_self, z, f⟩
/-- what a caught error leads to: the suite, then the rows behind -/
def wKeep (K : Frag) (c : Value) (i : Nat) (ts tk : Addr → Value → Option Addr → TS) (Wo : WX) (D : Ends) : WX := fun cls d σ H =>
  ∃ b, PySem.W.exmOne K cls c = some b ∧ (b = true → ∀ a, H a = none → ts a cls d { nx := fun τ G => tk a cls d D (τ.set i none) G, rt := D.rt, bk := fun τ G => D.bk (τ.set i none) G, ct := fun τ G => D.ct (τ.set i none) G } (σ.set i (some (.ref a))) H) ∧ (b = false → Wo cls d σ H)
section
variable {X : Cx} {σ : L2.St} {H : Hp} {s : Shared} {pins pp : List (Addr × Obj)} {a : Addr} {o : Obj}
/-- out of the suite, the error stays pinned -/
theorem Inv.held (J : Inv (X.suite a ((a, o) :: (X.pn ++ pins))) pp σ H s) (ok : X.Ok) : Inv (keepX X a o (X.pn ++ pins)) [] σ H s := by
  have ok2 : (keepX X a o (X.pn ++ pins)).Ok := ⟨ok.mod, ok.kind, ok.glob, ok.blt, ok.above, ok.inj, ok.has, ok.cab, ok.hd, ok.frames, ok.stk, ok.exf, ok.bs, ok.bsz, ok.noex, ok.exfs, ok.funs, ok.frf⟩
  exact ⟨ok2, J.os, J.bare, J.base, J.loc, J.cell, J.free, J.freeC, (fun q m => J.pin q (List.mem_append_left _ (by rw [List.append_nil] at m; exact m))), J.hok, J.len⟩
/-- the error is let go -/
theorem Inv.drop (J : Inv (keepX X a o (X.pn ++ pins)) pp σ H s) (ok : X.Ok) : Inv X pins σ H s :=
  ⟨ok, J.os, J.bare, J.base, J.loc, J.cell, J.free, J.freeC, (fun q m => J.pin q (List.mem_append_left _ (List.mem_cons_of_mem (a, o) m))), J.hok, J.len⟩
theorem SP.drop {D : Ends} {f : Flow} (h : SP (keepX X a o (X.pn ++ pins)) pp D f s) (ok : X.Ok) : SP X pins D f s := by
  cases f with
  | next => exact let ⟨τ, G, J, q⟩ := h; ⟨τ, G, Inv.drop J ok, q⟩
  | brk => exact let ⟨τ, G, J, q⟩ := h; ⟨τ, G, Inv.drop J ok, q⟩
  | cont => exact let ⟨τ, G, J, q⟩ := h; ⟨τ, G, Inv.drop J ok, q⟩
  | ret u => exact let ⟨v, τ, G, J, r, q⟩ := h; ⟨v, τ, G, Inv.drop J ok, r, q⟩
end
section
variable {X : Cx} {x n : Str} {c : Value} {i : Nat} {body suite rest : List Stmt} {b₀ : Stmt} {np pos pos' : Pos} {tb : WX → TS} {ts tk : Addr → Value → Option Addr → TS} {tr : TS} {Wo : WX}
theorem pss_try_keep (eS : X.stack = X.env :: X.outer) (eF : X.env.frame = some X.env.locals) (nd : X.N.Nodup) (at_ : X.N[i]? = some n) (kl : X.env.kindOf n = some .local) (nm : Names X x c) (tko : Takes X Wo)
    (hb : ∀ (W : WX) (l : List (Addr × Obj)) (xe : Value → Shared → Prop), Takes (X.tr l xe) W → PassesOwn (model X.prog X.w) X.A X.env xe → PSs (X.tr l xe) body (tb W))
    (hs : ∀ (a : Addr) (o : Obj) (cls : Value) (d : Option Addr) (l : List (Addr × Obj)), Zc cls d o → (∃ vs, o.data = .fields vs) → PSs (X.suite a ((a, o) :: l)) (b₀ :: suite) (ts a cls d))
    (hk : ∀ (a : Addr) (o : Obj) (cls : Value) (d : Option Addr) (l : List (Addr × Obj)), Zc cls d o → (∃ vs, o.data = .fields vs) → PSs (keepX X a o l) rest (tk a cls d))
    (hr : PSs X rest tr) :
    PSs X (.Try body [.ExceptHandler (some (.Name x np)) (some n) (b₀ :: suite) pos'] [] [] pos :: rest) (fun D σ H => tb (wKeep X.K c i ts tk Wo D) { D with nx := tr D } σ H) := by
  refine ⟨fun pins s σ H D I0 want => ?_⟩
  have ok := I0.ok
  have frames : X.A.frames = some (X.env :: X.outer) := ok.frames.trans (congrArg some eS)
  -- what is wanted of the try: the rows behind it are run
  let P : Flow → Shared → Prop := fun f s' => match f with
    | .next => wpAny (model X.prog X.w) X.A (execs rest X.env) (SP X pins D) X.xe s'
    | g => SP X pins D g s'
  have goal : wpAny (model X.prog X.w) X.A (exec (.Try body [.ExceptHandler (some (.Name x np)) (some n) (b₀ :: suite) pos'] [] [] pos) X.env) P X.xe s := by
    have lc : Loc X.env.scope n := Or.inl kl
    apply wpAny_Try_except
    apply wpAny_mono (M := model X.prog X.w) ((hb (wKeep X.K c i ts tk Wo D) (X.pn ++ pins) (fun e t1 => wpAny (model X.prog X.w) X.A (noteFrame e X.env) (fun _ t2 => wpAny (model X.prog X.w) X.A (setFlight e none) (fun _ t3 =>
      wpAny (model X.prog X.w) X.A (handleBy e X.env [.ExceptHandler (some (.Name x np)) (some n) (b₀ :: suite) pos']) P X.xe t3) X.xe t2) X.xe t1) (fun u s9 caught => ?_) PassesOwn.looking).run [] s σ H { D with nx := tr D } (I0.toTry _) want)
    · intro f t1 z
      cases f with
      | next =>
        obtain ⟨τ, G, J, q⟩ := z
        apply wpAny_execs_nil
        exact hr.run pins t1 τ G D (J.ofTry ok) q
      | brk => exact let ⟨τ, G, J, q⟩ := z; ⟨τ, G, J.ofTry ok, q⟩
      | cont => exact let ⟨τ, G, J, q⟩ := z; ⟨τ, G, J.ofTry ok, q⟩
      | ret u => exact let ⟨v, τ, G, J, r, q⟩ := z; ⟨v, τ, G, J.ofTry ok, r, q⟩
    · exact fun e t1 z => z
    -- an error comes
    obtain ⟨a, B, sI, pins', τ, G, cls, d, rfl, J', keep, higher, sky, fresh, eos, bare, b, exm, yes, no⟩ := caught
    have J0 : Inv X pins τ G sI := J'.ofTry ok
    have sky1 : Sky B (X.env :: X.outer) a (Zc cls d) X.env.locals s9.heap := eS ▸ sky
    show wpAny (model X.prog X.w) X.A (noteFrame (.ref a) X.env) _ _ s9
    apply Sky.land Zc.steady frames eF sky1
    intro h3 fly3 rise3
    have J3 : Inv X pins τ G { s9 with heap := h3 } := J0.landed keep fly3.1 (higher.trans rise3) eos bare
    obtain ⟨o3, w3, at3, zc3, da3⟩ := fly3.there
    have off : a ∉ frs (X.env :: X.outer) := by
      intro m
      obtain ⟨_, o2, e2, nf2⟩ := fly3.2.2.1.mem m
      rw [at3] at e2
      cases e2
      exact nf2 _ da3
    have offL : a ≠ X.env.locals := fun z => off (List.mem_filterMap.mpr ⟨X.env, List.mem_cons_self, eF.trans (by rw [z])⟩)
    have offF : a ∉ X.fs := by
      intro m
      obtain ⟨e, me, q⟩ := List.mem_filterMap.mp m
      exact off (List.mem_filterMap.mpr ⟨e, List.mem_cons_of_mem X.env me, q⟩)
    have S3 := J3.suite at3 da3 fresh offL offF
    apply wpAny_handleBy_cons (codeAny_handlers_test ?_) (fun q => by cases q)
    have tyA : PySem.W.Looks (model X.prog X.w) h3 (typeOf (.ref a)) cls := fun A Q E s k q => wpAny_typeOf_ref (k a o3 at3) (zc3.1 ▸ q)
    have mt := PySem.W.exm_one (M := model X.prog X.w) J3.kIn tyA exm
    have named : ∀ {Q E : Value → Shared → Prop}, Q c { s9 with heap := h3 } → wpAny (model X.prog X.w) (X.A.mark (some (.ref a))) (eval (.Name x np) X.env) Q E { s9 with heap := h3 } := by
      intro Q E q
      obtain ⟨g1, g2, g3⟩ := nm
      rcases g3 with g3 | ⟨g3, g4, g5⟩
      · exact ld_glob (X := X.suite a ((a, o3) :: (X.pn ++ pins))) S3 g1 g3 q g2
      · exact ld_blt (X := X.suite a ((a, o3) :: (X.pn ++ pins))) S3 g1 g3 g4 q g5 g2
    apply named
    refine mt.here ?_
    cases b with
    | false =>
      show wpAny (model X.prog X.w) X.A (handleBy (.ref a) X.env []) P X.xe _
      apply wpAny_handleBy_nil
      obtain ⟨_, _, _, o2, vs2, T, oT, ts2, e2, z2, d2, v2, _⟩ := id fly3
      unfold PySem.passOn
      apply wpAny_bind
      apply wpAny_field e2 d2 v2
      rw [if_neg (by simp : ¬ ((Value.ref T == Value.none) = true))]
      have up : wpAny (model X.prog X.w) X.A (setFlight (.ref a) X.env.frame) (fun _ t4 => wpAny (model X.prog X.w) X.A (throw (.ref a) : Sem Flow) P X.xe t4) X.xe { s9 with heap := h3 } := by
        rw [eF]
        apply HandSPX.setFlight_upZ fly3
        intro h4 held4 rise4
        apply wpAny_throw
        apply tko
        exact ⟨a, B, sI, pins, τ, G, cls, d, rfl, J0, keep, (higher.trans rise3).trans rise4, Or.inr (Or.inr (eS ▸ held4)), fresh, eos, bare, no rfl⟩
      first
        | exact wpAny_bind (wpAny_pure (wpAny_bind up))
        | exact wpAny_bind up
    | true =>
      apply codeAny_handlers_suite_as
      apply HandSPX.lands_againZ fly3
      intro h4 fly4 rise4
      have J4 : Inv X pins τ G { s9 with heap := h4 } := J0.landed keep fly4.1 ((higher.trans rise3).trans rise4) eos bare
      obtain ⟨o4, w4, at4, zc4, da4⟩ := fly4.there
      have S4 := J4.suite at4 da4 fresh offL offF
      apply store_ok (X := X.suite a ((a, o4) :: (X.pn ++ pins))) (v := .ref a) S4 nd at_ lc rfl (fun t5 S5 => ?_) (Or.inr kl)
      apply wpAny_mono ((hs a o4 cls d (X.pn ++ pins) zc4 ⟨w4, da4⟩).run [] t5 _ G _ S5 (yes rfl a fresh)) (fun f t6 z => ?_) (fun _ _ z => z.elim)
      -- the name goes, the object stays
      have gone : ∀ {τ6 : L2.St} {G6 : Hp} {Q : Shared → Prop}, Inv (X.suite a ((a, o4) :: (X.pn ++ pins))) [] τ6 G6 t6 → (∀ t7, Inv (keepX X a o4 (X.pn ++ pins)) [] (τ6.set i none) G6 t7 → Q t7) →
          wpAny (model X.prog X.w) X.A (do bindName X.env n .none; unbindBehindTheSuite X.env n pos') (fun _ t7 => Q t7) X.xe t6 := fun S6 q => gone_ok (X := keepX X a o4 (X.pn ++ pins)) (Inv.held S6 ok) nd at_ kl q
      cases f with
      | next =>
        obtain ⟨τ6, G6, S6, q6⟩ := z
        exact gone S6 fun t7 J7 => wpAny_mono ((hk a o4 cls d (X.pn ++ pins) zc4 ⟨w4, da4⟩).run [] t7 _ G6 D J7 q6) (fun g t8 y => SP.drop y ok) fun _ _ y => y
      | brk => exact let ⟨τ6, G6, S6, q6⟩ := z; gone S6 fun t7 J7 => ⟨_, _, Inv.drop J7 ok, q6⟩
      | cont => exact let ⟨τ6, G6, S6, q6⟩ := z; gone S6 fun t7 J7 => ⟨_, _, Inv.drop J7 ok, q6⟩
      | ret u => exact let ⟨v6, τ6, G6, S6, r6, q6⟩ := z; gone S6 fun t7 J7 => ⟨_, _, _, Inv.drop J7 ok, r6, q6⟩
  apply wpAny_execs_cons
  apply wpAny_mono goal (fun f s1 q => ?_) (fun _ _ z => z)
  cases f <;> exact q
end
end Fw

/-! Fw, part F: numbers that may be none; headway, departure, ride, kind as a tuple; a new list that is written; isinstance of the error in a suite. -/
namespace Fw
open PySem PySem.Spec PyProof.Rows L2
open He (ga ma eqO eqO_ok)
open Rep (rp)
/-! ### any object as a number -/
/-- x is the integer that a tells, or no integer -/
def NumV (K : Frag) (H : Hp) (x : V) : Option Int → Prop
  | some i => x = .int i
  | none => ∃ (T : Value) (b1 b2 : Bool), TyX K H x T ∧ PySem.W.kitOne K T (.type "int") = some b1 ∧ PySem.W.kitOne K T (.type "bool") = some b2 ∧ (b1 && !b2) = false
theorem NumV.same {K : Frag} {H H' : Hp} {x : V} {a : Option Int} (s : Same H H') (h : NumV K H x a) : NumV K H' x a := match a, h with
  | some _, h => h
  | none, ⟨T, b1, b2, t, k1, k2, e⟩ => ⟨T, b1, b2, TyX.same s t, k1, k2, e⟩
def numB : Option Int → Option Int → Option Int → Bool
  | some e, some l, some r => decide (1 ≤ e ∧ 0 ≤ l ∧ l < e ∧ 0 ≤ r)
  | _, _, _ => false
/-! ### four in a tuple -/
structure T4 where
  n : N3
  k : LK
instance : Rep T4 := ⟨fun _ F v x => ∃ p : Addr, v = .ref p ∧ F p = some (.tup [.int x.n.e, .int x.n.a, .int x.n.r, .str (kn x.k)]), fun s h => let ⟨p, e, h⟩ := h; ⟨p, e, s _ _ h⟩⟩
section
variable {K : Frag} {F H H1 : Hp} {M : Addr → Prop} {v w : V} {Q : VK}
theorem rd_tup4 {a b c : Int} {k : LK} (al : Alloc M H) (q : ∀ v H', Same H H' → rp K (Fr M H') v (⟨⟨a, b, c⟩, k⟩ : T4) → Q v H') : sqc rTupD [.int a, .int b, .int c, .str (kn k)] H Q := by
  rw [sqc_eq]
  exact ⟨by show 4 ≤ sizeLine; decide, fun p hp => q _ _ (Same.new hp) ⟨p, rfl, Fr.new al hp⟩⟩
theorem rd_t43 {x : T4} (h : rp K F v x) (hF : Same F H) (q : Q (.str (kn x.k)) H) : sq2 (rIxT K) v (.int 3) H Q := by
  rw [sq2_eq]
  obtain ⟨p, rfl, e⟩ := h
  exact ⟨p, _, 3, _, rfl, rfl, SqT.of (hF _ _ e), atI_nat (j := 3) rfl, q⟩
/-- a new list of such, one item written anew -/
theorem set4 {D : Addr} {H2 : Hp} {ys : List T4} {y : T4} {i : Nat} (hD : H1 D = none) (al : Alloc M H1) (s : Same H1 H2) (h : rp K (Fr M H2) (.ref D) ys) (g : rp K (Fr M H2) w y) :
    ∃ vs, H2 D = some (.lst vs) ∧ vs.length = ys.length ∧ Same H1 (upd H2 D (.lst (vs.set i w))) ∧ rp K (Fr M (upd H2 D (.lst (vs.set i w)))) (.ref D) (ys.set i y) := by
  obtain ⟨p, vs, e, h1, h2⟩ := h
  cases e
  have eD := Fr.sub _ _ h1
  have nM := Fr.no h1
  have s3 : Same H1 (upd H2 D (.lst (vs.set i w))) := fun b o e => by
    rw [upd_ne (fun z => by rw [z, hD] at e; cases e)]
    exact s _ _ e
  have up : ∀ {u : V} {x : T4}, rp K (Fr M H2) u x → rp K (Fr M (upd H2 D (.lst (vs.set i w)))) u x := fun {u x} q => by
    obtain ⟨b, e, hb⟩ := q
    have nb : b ≠ D := fun z => by
      rw [z, h1] at hb
      cases hb
    exact ⟨b, e, Fr.get (Fr.no hb) (by rw [upd_ne nb]; exact Fr.sub _ _ hb)⟩
  refine ⟨vs, eD, h2.length, s3, D, vs.set i w, rfl, Fr.get nM upd_same, ?_⟩
  have g2 := up g
  have h3 : Paired (fun v x => rp K (Fr M (upd H2 D (.lst (vs.set i w)))) v x) vs ys := L2.Paired.mapP h2 fun _ _ q => up q
  generalize upd H2 D (.lst (vs.set i w)) = H9 at g2 h3
  clear h1 h2 eD s3 up
  induction h3 generalizing i with
  | nil => exact .nil
  | cons a t ih =>
    cases i with
    | zero => exact .cons g2 t
    | succ i => exact .cons a ih
end
section
variable {K : Frag} {H1 : Hp} {M : Addr → Prop} {Q : Addr → Hp → Prop} {α β : Type} [Rep α] [Rep β] {J : It} {g : TG} {tt : TT} {te : TE} {vs : List Nat} {σ : L2.St}
/-- a comprehension that maps; its list is a new one -/
theorem lc_mapD {xs : List α} (f : α → β) (T : TW K M H1 J xs) (al : Alloc M H1) (hz : xs.length ≤ 1000000)
    (step : ∀ (i : Nat) (x : α) (u : V) (H : Hp) (M' : Addr → Prop) (C : V → Hp → Prop) (C0 : Hp → Prop), xs[i]? = some x → Same (Fr M H1) (Fr M' H) → Alloc M' H → Same H1 H → rp K (Fr M' H) u x →
      (∀ w H4, Same H H4 → rp K (Fr M' H4) w (f x) → C w H4) → g u (wipe σ vs) H fun σ2 H2 => wipe σ2 vs = wipe σ vs ∧ tt σ2 H2 fun b H3 => if b = true then te σ2 H3 C else C0 H3)
    (k : ∀ D H', H1 D = none → Same H1 H' → rp K (Fr M H') (.ref D) (xs.map f) → Q D H') : ∀ D, H1 D = none → LcW J H1 g tt te vs σ D (Q D) := fun D hD =>
  have e : (fun H' => H1 D = none → Q D H') = Q D := funext fun H' => propext ⟨fun z => z hD, fun q _ => q⟩
  e ▸ lc_mapF (Q := fun D' H' => H1 D' = none → Q D' H') f T al hz step (fun D' H' s r n => k D' H' n s r) D hD
end
section
variable {K : Frag} {H1 : Hp} {M0 : Addr → Prop} {I : Nat → Hp → Prop} {Q : Addr → Hp → Prop} {α β : Type} [Rep α] [Rep β] {J : It} {n : Nat} {G : Hp → Prop} {Y : Nat → Hp → V → Hp → Prop} {g : TG} {tt : TT} {te : TE} {vs : List Nat} {σ : L2.St}
theorem lc_repR (wk : Walk J n G Y) (p : Nat → β → Prop) (al : Alloc M0 H1) (hG : ∀ H, Same (Fr M0 H1) H → G H) (hz : n ≤ 1000000) (i0 : I 0 H1) (iup : ∀ i H D o, ¬ M0 D → I i H → I i (upd H D o)) (iAl : ∀ i H, I i H → Alloc M0 H)
    (step : ∀ (i : Nat) (x : V) (H H' : Hp) (M' : Addr → Prop) (C : V → Hp → Prop) (C0 : Hp → Prop), i < n → Same (Fr M0 H1) (Fr M' H) → Alloc M' H → (∀ p, M0 p → M' p) → Ext M0 H1 H → I i H → Y i H x H' →
      (∀ w y H4, Ext M0 H H4 → I (i + 1) H4 → p i y → rp K (Fr M' H4) w y → C w H4) →
      g x (wipe σ vs) H' fun σ2 H2 => wipe σ2 vs = wipe σ vs ∧ tt σ2 H2 fun b H3 => if b = true then te σ2 H3 C else C0 H3)
    (k : ∀ D H' (ys : List β), Ext M0 H1 H' → I n H' → H1 D = none → ys.length = n → (∀ j y, ys[j]? = some y → p j y) → rp K (Fr M0 H') (.ref D) ys → Q D H') :
    ∀ D, H1 D = none → LcW J H1 g tt te vs σ D (Q D) := by
  intro D hD
  have nM : ¬ M0 D := al.new hD
  have al4 : ∀ H H4, Alloc (Ad D M0) H → Ext M0 H H4 → Alloc M0 H4 → Alloc (Ad D M0) H4 := fun H H4 a x a0 p m => by
    by_cases q : M0 p
    · exact a0 p q
    · obtain ⟨xs, e, hz9⟩ := a p m
      exact ⟨xs, x p _ q e, hz9⟩
  refine lc_it wk (fun i H => ∃ acc, ∃ ys : List β, H D = some (.lst acc) ∧ ys.length = i ∧ (∀ j y, ys[j]? = some y → p j y) ∧ Paired (fun v x => rp K (Fr (Ad D M0) H) v x) acc ys ∧ Ext M0 H1 H ∧ I i H ∧ Same (Fr M0 H1) (Fr (Ad D M0) H) ∧ Alloc (Ad D M0) H)
    ⟨[], [], upd_same, rfl, (fun j y z => by rw [List.getElem?_nil] at z; cases z), .nil, Ext.new hD, iup _ _ _ _ nM i0, Fr.put hD, al.put⟩ (fun i H _ h => ?_) ?_ (fun H h => ?_)
  · obtain ⟨_, _, _, _, _, _, _, _, s, _⟩ := h
    exact hG H (s.trans Fr.sub)
  · rintro i x H H' hi ⟨acc, ys, e1, e2, ep, e3, e4, e5, e6, e7⟩ hY
    have zz : acc.length < sizeLine := by
      rw [e3.length, e2]
      exact Nat.lt_of_lt_of_le (show i < 1000001 by omega) (by decide)
    refine step i x H H' (Ad D M0) _ _ hi e6 e7 (fun p m => .inr m) e4 e5 hY (fun w y H4 x4 i4 hy r4 => ?_)
    have f4 := x4 _ _ nM e1
    have m1 : Same (Fr (Ad D M0) H) (Fr (Ad D M0) H4) := Fr.ext (fun b o nb e => x4 b o (fun z => nb (.inr z)) e)
    have m2 : Same (Fr (Ad D M0) H4) (Fr (Ad D M0) (upd H4 D (.lst (acc ++ [w])))) := Fr.wr (.inl rfl)
    refine ⟨acc, f4, zz, acc ++ [w], ys ++ [y], upd_same, by rw [List.length_append, e2]; rfl, (fun j z hz => by
      by_cases c : j < ys.length
      · rw [List.getElem?_append_left c] at hz
        exact ep j z hz
      · rw [List.getElem?_append_right (by omega)] at hz
        have c0 : j - ys.length = 0 := by
          by_cases q : j - ys.length = 0
          · exact q
          · rw [List.getElem?_eq_none (by simp; omega)] at hz
            cases hz
        rw [c0] at hz
        cases hz
        rw [show j = i by omega]
        exact hy), ?_, (fun b o nb e => by rw [upd_ne (ne_of_none e hD)]; exact x4 b o nb (e4 b o nb e)), iup _ _ _ _ nM i4, e6.trans (m1.trans m2), (al4 H H4 e7 x4 (iAl _ _ i4)).wr⟩
    exact Paired.snoc (L2.Paired.mapP e3 fun _ _ q => Rep.up (m1.trans m2) q) (Rep.up m2 r4)
  · obtain ⟨acc, ys, e1, e2, ep, e3, e4, e5, e6, e7⟩ := h
    exact k D H ys e4 e5 hD e2 ep ⟨D, acc, rfl, Fr.get nM e1, L2.Paired.mapP e3 fun _ _ q => Rep.up Fr.free q⟩
theorem tp_upd {a D : Addr} {N : Nat} {H : Hp} {o : HO} (t : Tp a N H) (n : ¬ fdM a D) : Tp a N (upd H D o) := by
  obtain ⟨d, m, n2, e, h⟩ := t
  exact ⟨d, m, n2, by rw [upd_ne (fun z => n z.symm)]; exact e, h⟩
/-- items that are found on the way, by their places -/
theorem lc_tapeR {a : Addr} {c N : Nat} {xs : List α} (p : Nat → β → Prop) (T : TW K (fdM a) H1 J xs) (hT : Tp a (N + c * xs.length) H1) (hz : xs.length ≤ 1000000)
    (step : ∀ (i : Nat) (x : α) (u : V) (H : Hp) (M' : Addr → Prop) (C : V → Hp → Prop) (C0 : Hp → Prop), xs[i]? = some x → Same (Fr (fdM a) H1) (Fr M' H) → Alloc M' H → (∀ b, fdM a b → M' b) → Ext (fdM a) H1 H → Tp a (N + c * (xs.length - (i + 1)) + c) H → rp K (Fr M' H) u x →
      (∀ w y H4, Ext (fdM a) H H4 → Tp a (N + c * (xs.length - (i + 1))) H4 → p i y → rp K (Fr M' H4) w y → C w H4) → g u (wipe σ vs) H fun σ2 H2 => wipe σ2 vs = wipe σ vs ∧ tt σ2 H2 fun b H3 => if b = true then te σ2 H3 C else C0 H3)
    (k : ∀ D H' (ys : List β), Ext (fdM a) H1 H' → Tp a N H' → ys.length = xs.length → (∀ j y, ys[j]? = some y → p j y) → rp K (Fr (fdM a) H') (.ref D) ys → Q D H') : ∀ D, H1 D = none → LcW J H1 g tt te vs σ D (Q D) := by
  obtain ⟨G, Y, wk, hG, hY⟩ := T.ex
  refine lc_repR (M0 := fdM a) (I := fun i H => Tp a (N + c * (xs.length - i)) H) wk p hT.alloc hG hz hT (fun i H D o n t => tp_upd t n) (fun _ _ t => t.alloc) ?_ (fun D H' ys x i _ l q r => k D H' ys x (by rw [Nat.sub_self] at i; exact i) l q r)
  rintro i x H H' M' C C0 hi s6 a7 hm s4 t7 y7 hC
  obtain ⟨z, hz2, s8, rz⟩ := hY i x H H' M' hi s6 a7 y7
  have t8 : Tp a (N + c * (xs.length - (i + 1)) + c) H' := by
    have q := t7.same s8
    have e2 : N + c * (xs.length - i) = N + c * (xs.length - (i + 1)) + c := by
      rw [show xs.length - i = (xs.length - (i + 1)) + 1 by omega, Nat.mul_add, Nat.mul_one]
      omega
    rw [e2] at q
    exact q
  exact step i z x H' M' C C0 hz2 (s6.trans (Fr.same s8)) (a7.same s8) hm (s4.trans (Ext.same s8)) t8 rz (fun w y H4 s t hp r => hC w y H4 ((Ext.same s8).trans s) t hp r)
end
/-! ### isinstance of the error in a suite -/
section
variable {X : Cx} {a : Addr} {cls : Value} {d : Option Addr}
def rIsEG (K : Frag) (cls : Value) (d : Option Addr) (a : Addr) : List V → Hp → VK → Prop := fun xs H Q => ∃ D, cls = .ref D ∧ d = none ∧ ExcC K D ∧ rIsE K D a xs H Q
theorem call_isErG (h : Has X a cls d) : CallR X (.builtin "isinstance") (rIsEG X.K cls d a) := by
  intro pins s σ H xs us Q I r q
  obtain ⟨D, rfl, rfl, c, q⟩ := q
  exact call_isEr c h pins s σ H xs us Q I r q
def rIsETG (K : Frag) (cls : Value) (d : Option Addr) (a : Addr) : List V → Hp → VK → Prop := fun xs H Q => ∃ D, cls = .ref D ∧ d = none ∧ ExcC K D ∧ rIsET K D a xs H Q
theorem call_isErTG (h : Has X a cls d) : CallR X (.builtin "isinstance") (rIsETG X.K cls d a) := by
  intro pins s σ H xs us Q I r q
  obtain ⟨D, rfl, rfl, c, q⟩ := q
  exact call_isErT c h pins s σ H xs us Q I r q
end
theorem slot_two {σ : L2.St} {n i j : Nat} {v w : V} (h : σ.length = n) (hi : i < n) (ne : j ≠ i) : ((σ.set i (some v)).set j (some w))[i]? = some (some v) := by
  rw [List.getElem?_set_ne ne, List.getElem?_set_self (by omega)]
theorem slot_at {σ : L2.St} {n i j : Nat} {v w : V} (h : σ.length = n) (hj : j < n) : ((σ.set i (some v)).set j (some w))[j]? = some (some w) := by
  rw [List.getElem?_set_self (by rw [List.length_set]; omega)]
end Fw

/-! Fw, part Tx: words and texts: globals that are texts, numbers as words, the words of legs, split and join. -/
namespace Fw
open PySem PySem.Spec PyProof.Rows L2
open He (ga ma eqO eqO_ok)
open Rep (rp)
/-! ### globals -/
def cStrG (x z : Str) : Ck := fun K => (He.Fa.str x z).ok K
section
variable {ck : List Ck} {fn : List DefM} {K : Frag} {mg : Str → Option Value}
theorem Zs.strG (Z : Zs ck fn K mg) {x z : Str} (c : cStrG x z K = true) : ∃ u, mg x = some u ∧ RelV (.str z) u := let ⟨_, X, G⟩ := Z.ns; let ⟨t, e⟩ := He.str_ok X G c; ⟨_, e, t, rfl⟩
end
/-! ### a text, sign by sign -/
def sgn (c : Nat) : Str := ⟨#[c]⟩
def signs (x : Str) : List Str := (TL.tl x).map sgn
theorem signs_len (x : Str) : (signs x).length = x.length := by
  unfold signs
  rw [List.length_map, TL.len_tl]
section
variable {K : Frag} {M : Addr → Prop} {H1 : Hp}
theorem tw_str {x : Str} : TW K M H1 (Its x) (signs x) := by
  refine ⟨_, _, by rw [signs_len]; exact walk_str (z := x), fun _ _ => trivial, ?_⟩
  rintro i u H H' M' hi s6 a7 ⟨rfl, c, hc, rfl⟩
  refine ⟨sgn c, ?_, Same.refl _, rfl⟩
  unfold signs
  rw [List.getElem?_map, Array.getElem?_toList, hc]
  rfl
end
/-! ### numbers as words -/
abbrev nt (i : Int) : Str := ((toString i : String) : Str)
/-- a number of at most thirty digits -/
structure NumW (i : Int) : Prop where
  lo : 0 ≤ i
  hi : i < 10 ^ 30
theorem tl_nt {i : Int} (h : 0 ≤ i) : TL.tl (nt i) = TL.numL i.toNat := by
  have e : ((i.toNat : Nat) : Int) = i := by omega
  have q := TL.tl_num i.toNat
  rw [e] at q
  exact q
theorem nt_len {i : Int} (h : NumW i) : (nt i).length ≤ 30 := by
  rw [TL.len_tl, tl_nt h.lo]
  refine TL.numL_len (by decide) ?_
  have q := h.hi
  have e : ((10 : Int) ^ 30) = ((10 ^ 30 : Nat) : Int) := by decide +kernel
  rw [e] at q
  have := h.lo
  omega
theorem nt_pos {i : Int} (h : 0 ≤ i) : 1 ≤ (nt i).length := by
  rw [TL.len_tl, tl_nt h]
  exact List.length_pos_iff.mpr (TL.numL_ne _)
theorem nt_digits {i : Int} (h : 0 ≤ i) : ∀ c ∈ TL.tl (nt i), 48 ≤ c ∧ c ≤ 57 := by
  rw [tl_nt h]
  exact TL.numL_digits _
theorem nt_free {i : Int} (h : 0 ≤ i) : 32 ∉ TL.tl (nt i) := fun m => by
  have := nt_digits h 32 m
  omega
theorem numL_zero : ∀ (n : Nat) (r : List Nat), TL.numL n = 48 :: r → n = 0 := by
  intro n
  induction n using Nat.strongRecOn with
  | _ n ih =>
    intro r h
    by_cases c : n < 10
    · rw [TL.numL_lt c] at h
      injection h with h1 h2
      omega
    · rw [TL.numL_step (by omega)] at h
      cases e : TL.numL (n / 10) with
      | nil => exact absurd e (TL.numL_ne _)
      | cons a l =>
        rw [e] at h
        injection h with h1 h2
        have q := ih (n / 10) (by omega) l (by rw [e, h1])
        omega
def DIG : Str := "0123456789"
instance : DecidablePred NumText.AllDigits := fun cs => inferInstanceAs (Decidable (∀ c ∈ cs, 48 ≤ c ∧ c ≤ 57))
/-- the number that a word writes -/
def numIn (x : Str) : Option Int :=
  if (1 ≤ x.length ∧ x.length ≤ 30) ∧ NumText.AllDigits (TL.tl x) then
    if (TL.tl x).head? = some 48 ∧ x ≠ "0" then none else some ((NumText.digitsVal (TL.tl x) : Nat) : Int)
  else none
theorem dig_mem (c : Nat) : c ∈ DIG.cps.toList ↔ 48 ≤ c ∧ c ≤ 57 := by
  have e : DIG.cps.toList = [48, 49, 50, 51, 52, 53, 54, 55, 56, 57] := by decide +kernel
  rw [e]
  simp only [List.mem_cons, List.not_mem_nil, or_false]
  omega
theorem numIn_nt {i : Int} (h : NumW i) : numIn (nt i) = some i := by
  unfold numIn
  rw [if_pos ⟨⟨nt_pos h.lo, nt_len h⟩, nt_digits h.lo⟩]
  have hv : ((NumText.digitsVal (TL.tl (nt i)) : Nat) : Int) = i := by
    rw [tl_nt h.lo, TL.numL_val]
    have := h.lo
    omega
  rw [hv, if_neg]
  rintro ⟨h1, h2⟩
  have e := tl_nt h.lo
  rw [e] at h1
  cases q : TL.numL i.toNat with
  | nil => exact absurd q (TL.numL_ne _)
  | cons a l =>
    rw [q] at h1
    injection h1 with h1
    rw [h1] at q
    have z := numL_zero _ _ q
    refine h2 (TL.ext_tl ?_)
    rw [e, z]
    decide +kernel
/-! ### words of legs -/
def lw : LK → N3 → List Str
  | .line, n => ["every", nt n.e, "from", nt n.a, "ride", nt n.r]
  | .walk, n => ["walk", nt n.r]
  | .stop, n => ["stop", nt n.e, "from", nt n.a]
def tw : List (LK × N3) → List Str
  | [] => []
  | kn :: r => "then" :: (lw kn.1 kn.2 ++ tw r)
def wr : List (LK × N3) → List Str
  | [] => []
  | kn :: r => lw kn.1 kn.2 ++ tw r
def ttl (l : List (LK × N3)) : Str := Txt.join " " (wr l)
theorem sap (a b c : Str) : (a ++ b) ++ c = a ++ (b ++ c) := TL.ext_tl (by rw [TL.tl_append, TL.tl_append, TL.tl_append, TL.tl_append, List.append_assoc])
theorem emp (a : Str) : Str.empty ++ a = a := TL.ext_tl (by rw [TL.tl_append]; rfl)
theorem join_two (y x z : Str) (r : List Str) : Str.join y (x :: z :: r) = x ++ y ++ Str.join y (z :: r) := rfl
theorem join_app (y : Str) (z : Str) (r : List Str) : ∀ {l : List Str}, l ≠ [] → Str.join y (l ++ z :: r) = Str.join y l ++ y ++ Str.join y (z :: r)
  | [], h => absurd rfl h
  | [x], _ => rfl
  | x :: u :: l, _ => by
    show x ++ y ++ Str.join y ((u :: l) ++ z :: r) = (x ++ y ++ Str.join y (u :: l)) ++ y ++ Str.join y (z :: r)
    rw [join_app y z r (l := u :: l) (by simp)]
    simp only [sap]
theorem lw_ne (k : LK) (n : N3) : lw k n ≠ [] := by cases k <;> exact fun h => by cases h
theorem txt_join (k : LK) (n : N3) : Txt.join " " (lw k n) = txt k n := by
  have e1 : ("every " : Str) = "every" ++ " " := by decide +kernel
  have e2 : (" from " : Str) = " " ++ ("from" ++ " ") := by decide +kernel
  have e3 : (" ride " : Str) = " " ++ ("ride" ++ " ") := by decide +kernel
  have e4 : ("walk " : Str) = "walk" ++ " " := by decide +kernel
  have e5 : ("stop " : Str) = "stop" ++ " " := by decide +kernel
  rw [TL.join_eq]
  cases k
  · show Str.join " " ["every", nt n.e, "from", nt n.a, "ride", nt n.r] = (((((Str.empty ++ "every ") ++ nt n.e) ++ " from ") ++ nt n.a) ++ " ride ") ++ nt n.r
    rw [e1, e2, e3]
    simp only [join_two, emp, sap]
    rfl
  · show Str.join " " ["walk", nt n.r] = (Str.empty ++ "walk ") ++ nt n.r
    rw [e4]
    simp only [join_two, emp, sap]
    rfl
  · show Str.join " " ["stop", nt n.e, "from", nt n.a] = (((Str.empty ++ "stop ") ++ nt n.e) ++ " from ") ++ nt n.a
    rw [e5, e2]
    simp only [join_two, emp, sap]
    rfl
theorem wr_ne {l : List (LK × N3)} (h : l ≠ []) : wr l ≠ [] := by
  cases l with
  | nil => exact absurd rfl h
  | cons kn r => exact fun z => lw_ne kn.1 kn.2 (List.append_eq_nil_iff.mp z).1
theorem ttl_is : ∀ {l : List (LK × N3)}, l ≠ [] → Txt.join " then " (l.map fun kn => txt kn.1 kn.2) = ttl l
  | [], h => absurd rfl h
  | [kn], _ => by
    show Txt.join " then " [txt kn.1 kn.2] = Txt.join " " (lw kn.1 kn.2 ++ [])
    rw [List.append_nil, txt_join, TL.join_eq]
    rfl
  | kn :: k2 :: r, _ => by
    have ih := ttl_is (l := k2 :: r) (by simp)
    unfold ttl at ih ⊢
    rw [TL.join_eq] at ih ⊢
    rw [TL.join_eq] at ih ⊢
    have e : (" then " : Str) = " " ++ ("then" ++ " ") := by decide +kernel
    show txt kn.1 kn.2 ++ " then " ++ Str.join " then " ((k2 :: r).map fun kn => txt kn.1 kn.2) = Str.join " " (lw kn.1 kn.2 ++ ("then" : Str) :: wr (k2 :: r))
    rw [ih, join_app " " "then" (wr (k2 :: r)) (lw_ne _ _), ← TL.join_eq " " (lw kn.1 kn.2), txt_join, e]
    cases q : wr (k2 :: r) with
    | nil => exact absurd q (wr_ne (by simp))
    | cons a b =>
      rw [join_two]
      simp only [sap]
/-- numbers that may be written and read -/
structure LegW (n : N3) : Prop where
  e : NumW n.e
  a : NumW n.a
  r : NumW n.r
theorem lw_free {k : LK} {n : N3} (h : LegW n) : ∀ p ∈ lw k n, 32 ∉ TL.tl p := by
  have l1 : 32 ∉ TL.tl "every" := by decide +kernel
  have l2 : 32 ∉ TL.tl "from" := by decide +kernel
  have l3 : 32 ∉ TL.tl "ride" := by decide +kernel
  have l4 : 32 ∉ TL.tl "walk" := by decide +kernel
  have l5 : 32 ∉ TL.tl "stop" := by decide +kernel
  intro p hp
  cases k <;> (simp only [lw, List.mem_cons, List.not_mem_nil, or_false] at hp)
  · rcases hp with e | e | e | e | e | e <;> rw [e] <;> first | exact l1 | exact l2 | exact l3 | exact nt_free h.e.lo | exact nt_free h.a.lo | exact nt_free h.r.lo
  · rcases hp with e | e <;> rw [e] <;> first | exact l4 | exact nt_free h.r.lo
  · rcases hp with e | e | e | e <;> rw [e] <;> first | exact l5 | exact l2 | exact nt_free h.e.lo | exact nt_free h.a.lo
theorem tw_free : ∀ {l : List (LK × N3)}, (∀ kn ∈ l, LegW kn.2) → ∀ p ∈ tw l, 32 ∉ TL.tl p
  | [], _, p, hp => absurd hp (by simp [tw])
  | kn :: r, h, p, hp => by
    have l6 : 32 ∉ TL.tl "then" := by decide +kernel
    simp only [tw, List.mem_cons, List.mem_append] at hp
    rcases hp with e | e | e
    · rw [e]
      exact l6
    · exact lw_free (h kn List.mem_cons_self) p e
    · exact tw_free (fun z hz => h z (List.mem_cons_of_mem _ hz)) p e
theorem ttl_split {l : List (LK × N3)} (ne : l ≠ []) (h : ∀ kn ∈ l, LegW kn.2) : Txt.split (ttl l) " " = wr l := by
  unfold ttl
  refine TL.split_join (s := 32) (S := []) (by decide +kernel) (by decide +kernel) (wr_ne ne) fun p hp => ?_
  cases l with
  | nil => exact absurd rfl ne
  | cons kn r =>
    rcases List.mem_append.mp hp with e | e
    · exact lw_free (h kn List.mem_cons_self) p e
    · exact tw_free (fun z hz => h z (List.mem_cons_of_mem _ hz)) p e
/-! ### lengths -/
theorem join_len (y : Str) {B : Nat} : ∀ {l : List Str}, (∀ p ∈ l, p.length ≤ B) → (Txt.join y l).length ≤ l.length * (B + y.length)
  | [], _ => Nat.zero_le _
  | [x], h => by
    rw [TL.join_eq]
    show x.length ≤ 1 * _
    have := h x List.mem_cons_self
    omega
  | x :: z :: r, h => by
    have ih := join_len y (l := z :: r) fun p hp => h p (List.mem_cons_of_mem _ hp)
    rw [TL.join_eq] at ih ⊢
    rw [join_two, Str.length_append, Str.length_append, List.length_cons, Nat.add_mul, Nat.one_mul]
    have := h x List.mem_cons_self
    omega
theorem sum_len {B : Nat} : ∀ {l : List Str}, (∀ p ∈ l, p.length ≤ B) → (l.map (·.length)).sum ≤ l.length * B
  | [], _ => Nat.zero_le _
  | x :: r, h => by
    have ih := sum_len (l := r) fun p hp => h p (List.mem_cons_of_mem _ hp)
    rw [List.map_cons, List.sum_cons, List.length_cons, Nat.add_mul, Nat.one_mul]
    have := h x List.mem_cons_self
    omega
theorem lw_len (k : LK) (n : N3) : (lw k n).length ≤ 6 := match k with
  | .line => Nat.le_refl 6
  | .walk => show 2 ≤ 6 by decide
  | .stop => show 4 ≤ 6 by decide
theorem lw_word {k : LK} {n : N3} (h : LegW n) : ∀ p ∈ lw k n, p.length ≤ 30 := by
  intro p hp
  have l1 : ("every" : Str).length ≤ 30 := by decide +kernel
  have l2 : ("from" : Str).length ≤ 30 := by decide +kernel
  have l3 : ("ride" : Str).length ≤ 30 := by decide +kernel
  have l4 : ("walk" : Str).length ≤ 30 := by decide +kernel
  have l5 : ("stop" : Str).length ≤ 30 := by decide +kernel
  cases k <;> (simp only [lw, List.mem_cons, List.not_mem_nil, or_false] at hp)
  · rcases hp with e | e | e | e | e | e <;> rw [e] <;> first | exact l1 | exact l2 | exact l3 | exact nt_len h.e | exact nt_len h.a | exact nt_len h.r
  · rcases hp with e | e <;> rw [e] <;> first | exact l4 | exact nt_len h.r
  · rcases hp with e | e | e | e <;> rw [e] <;> first | exact l5 | exact l2 | exact nt_len h.e | exact nt_len h.a
theorem txt_len2 {k : LK} {n : N3} (h : LegW n) : (txt k n).length ≤ 186 := by
  rw [← txt_join]
  have a := join_len " " (lw_word (k := k) h)
  have b := lw_len k n
  have c : (" " : Str).length = 1 := by decide +kernel
  rw [c] at a
  omega
theorem ttl_len {l : List (LK × N3)} (ne : l ≠ []) (h : ∀ kn ∈ l, LegW kn.2) : (ttl l).length ≤ l.length * 192 := by
  rw [← ttl_is ne]
  have a := join_len " then " (l := l.map fun kn => txt kn.1 kn.2) (B := 186) fun p hp => by
    obtain ⟨kn, hk, rfl⟩ := List.mem_map.mp hp
    exact txt_len2 (h kn hk)
  have c : (" then " : Str).length = 6 := by decide +kernel
  rw [c, List.length_map] at a
  exact a
theorem so_ttl : ∀ {l : List (LK × N3)}, l ≠ [] → PyData.strOk (ttl l) = true
  | [], h => absurd rfl h
  | kn :: r, _ => by
    rw [← ttl_is (by simp), TL.join_eq]
    generalize hm : ((kn :: r).map fun kn : LK × N3 => txt kn.1 kn.2) = m
    have hz : ∀ p ∈ m, PyData.strOk p = true := fun p hp => by
      rw [← hm] at hp
      obtain ⟨z, _, rfl⟩ := List.mem_map.mp hp
      exact so_txt _ _
    have go : ∀ {q : List Str}, (∀ p ∈ q, PyData.strOk p = true) → PyData.strOk (Str.join " then " q) = true := by
      intro q
      induction q with
      | nil => exact fun _ => by decide +kernel
      | cons x q ih =>
        intro hq
        cases q with
        | nil => exact hq x List.mem_cons_self
        | cons z q => exact so_app (so_app (hq x List.mem_cons_self) (so_str _)) (ih fun p hp => hq p (List.mem_cons_of_mem _ hp))
    exact go hz
/-! ### Words -/
theorem lkh (f : Str) (x : V) (r : List (Str × V)) : List.lookup f ((f, x) :: r) = some x := List.lookup_cons_self
theorem lkn {f g : Str} (x : V) (r : List (Str × V)) (h : ¬ f = g) : List.lookup f ((g, x) :: r) = List.lookup f r := by
  rw [List.lookup_cons]
  rw [show (f == g) = false from beq_false_of_ne h]
theorem pfh (f : Str) (v x : V) (r : List (Str × V)) : putF f v ((f, x) :: r) = (f, v) :: r := by
  unfold putF
  rw [if_pos rfl]
theorem pfn {f g : Str} (v x : V) (r : List (Str × V)) (h : ¬ g = f) : putF f v ((g, x) :: r) = (g, x) :: putF f v r := by
  conv => lhs; unfold putF
  rw [if_neg h]
def wdF (p : Addr) (i : Int) : List (Str × V) := [("parts", .ref p), ("spot", .int i)]
section
variable {p : Addr} {i j : Int}
theorem wd_p : (wdF p i).lookup ("parts" : Str) = some (.ref p) := lkh _ _ _
theorem wd_s : (wdF p i).lookup ("spot" : Str) = some (.int i) := by
  unfold wdF
  rw [lkn _ _ (by decide +kernel), lkh]
theorem wd_no {m : Str} (h1 : ¬ m = "parts" := by decide +kernel) (h2 : ¬ m = "spot" := by decide +kernel) : (wdF p i).lookup m = none := by
  unfold wdF
  rw [lkn _ _ h1, lkn _ _ h2]
  rfl
theorem wd_put : putF "spot" (.int j) (wdF p i) = wdF p j := by
  unfold wdF
  rw [pfn _ _ _ (by decide +kernel), pfh]
theorem wd_one : (putF "parts" (.ref p) [] : List (Str × V)) = [(("parts" : Str), V.ref p)] := rfl
theorem wd_new : putF "spot" (.int i) (putF "parts" (.ref p) []) = wdF p i := by
  rw [wd_one, pfn _ _ _ (by decide +kernel)]
  rfl
end
/-- all but one object stay -/
def Wx (W : Addr) (H H' : Hp) : Prop := ∀ q o, q ≠ W → H q = some o → H' q = some o
theorem Wx.refl {W : Addr} {H : Hp} : Wx W H H := fun _ _ _ e => e
theorem Wx.trans {p : Addr} {H H1 H2 : Hp} (x : Wx p H H1) (y : Wx p H1 H2) : Wx p H H2 := fun q o n e => y q o n (x q o n e)
theorem Wx.of {p : Addr} {H H' : Hp} (s : Same H H') : Wx p H H' := fun q o _ e => s q o e
theorem Wx.put {p : Addr} {H : Hp} {o : HO} : Wx p H (upd H p o) := fun q u n e => by rw [upd_ne n]; exact e
theorem Wx.same {p : Addr} {H H' : Hp} (x : Wx p H H') (h : H p = none) : Same H H' := fun q o e => x q o (fun z => by rw [z, h] at e; cases e) e
structure Wd (K : Frag) (H : Hp) (W dx p : Addr) (a b : List Str) : Prop where
  o : H W = some (.ins (ga K "Words") dx (wdF p a.length))
  l : H p = some (.lst ((a ++ b).map V.str))
section
variable {K : Frag} {H H' : Hp} {W dx p l x : Addr} {a b : List Str} {k : LK} {n : N3} {xs : List V} {w : Str}
theorem Wd.same (h : Wd K H W dx p a b) (s : Same H H') : Wd K H' W dx p a b := ⟨s _ _ h.o, s _ _ h.l⟩
theorem Wd.lst (h : Wd K H W dx p a b) (e : H l = some (.lst xs)) : l ≠ W := fun z => by
  rw [z, h.o] at e
  cases e
theorem Wd.ln (h : Wd K H W dx p a b) (e : LnAt K H x k n) : x ≠ W := by
  rintro rfl
  obtain ⟨d, e⟩ := e
  have q := e.symm.trans h.o
  injection q with q
  injection q with _ _ q
  have z := lf_e n
  rw [q, wd_no] at z
  cases z
theorem Wx.ln (x9 : Wx W H H') (h : Wd K H W dx p a b) (e : LnAt K H x k n) : LnAt K H' x k n := let ⟨d, q⟩ := id e; ⟨d, x9 _ _ (h.ln e) q⟩
theorem Wx.lst (x9 : Wx W H H') (h : Wd K H W dx p a b) (e : H l = some (.lst xs)) : H' l = some (.lst xs) := x9 _ _ (h.lst e) e
/-- a word is taken -/
theorem Wd.step (h : Wd K H W dx p a (w :: b)) (hH : H' = upd H W (.ins (ga K "Words") dx (wdF p ((a.length : Int) + 1)))) : Wx W H H' ∧ Wd K H' W dx p (a ++ [w]) b := by
  subst hH
  refine ⟨Wx.put, ?_, ?_⟩
  · rw [upd_same, List.length_append]
    rfl
  · rw [upd_ne (h.lst h.l), h.l, List.append_assoc]
    rfl
theorem Wd.at (a : List Str) (w : Str) (b : List Str) : atI ((a ++ w :: b).map V.str) (a.length : Nat) = some (.str w) := by
  refine atI_nat ?_
  rw [List.getElem?_map, List.getElem?_append_right (Nat.le_refl _), Nat.sub_self]
  rfl
theorem Wd.bk (a : List Str) (w : Str) (b : List Str) : atI (((a ++ [w]) ++ b).map V.str) ((a.length : Int) + 1 - 1) = some (.str w) := by
  rw [show (a.length : Int) + 1 - 1 = ((a.length : Nat) : Int) by omega, List.append_assoc]
  exact Wd.at a w b
theorem in_strs (w : Str) (ws : List Str) : inV (.str w) (ws.map V.str) = decide (w ∈ ws) := by
  unfold inV
  rw [Bool.eq_iff_iff, List.any_eq_true, decide_eq_true_iff]
  constructor
  · rintro ⟨y, hy, e⟩
    obtain ⟨z, hz, rfl⟩ := List.mem_map.mp hy
    have q : z = w := by
      simpa [eqV] using e
    rw [← q]
    exact hz
  · intro h
    exact ⟨.str w, List.mem_map.mpr ⟨w, h, rfl⟩, by simp [eqV]⟩
end
/-- what a kind asks of its numbers -/
def KOk : LK → N3 → Prop
  | .line, _ => True
  | .walk, n => n.e = 1 ∧ n.a = 0
  | .stop, n => n.r = 0
end Fw
namespace Fw
open PySem PySem.Spec PyProof.Rows L2
open He (ga ma eqO eqO_ok)
theorem NumW.log {i : Int} (h : NumW i) : i.natAbs.log2 < 1920 := by
  have n : i.natAbs < 2 ^ 300 := by
    have e : ((i.natAbs : Nat) : Int) = i := by have := h.lo; omega
    have w : ((i.natAbs : Nat) : Int) < ((2 ^ 300 : Nat) : Int) := by
      rw [e]
      exact Int.lt_trans h.hi (by decide +kernel)
    exact Int.ofNat_lt.mp w
  by_cases h2 : i.natAbs = 0
  · rw [h2]
    decide
  · exact Nat.lt_trans ((Nat.log2_lt h2).mpr n) (by decide)
theorem LegW.tx {n : N3} (h : LegW n) : TxOk n := ⟨h.e.log, h.a.log, h.r.log⟩
theorem txs_sum {l : List (LK × N3)} (h60 : l.length ≤ 60) (h : ∀ kn ∈ l, LegW kn.2) {y : Str} (hy : y.length ≤ 100) : ((l.map fun kn => txt kn.1 kn.2).map (·.length)).sum + (l.map fun kn => txt kn.1 kn.2).length * y.length ≤ 16777216 := by
  have a := sum_len (l := l.map fun kn => txt kn.1 kn.2) (B := 186) fun p hp => by
    obtain ⟨kn, hk, rfl⟩ := List.mem_map.mp hp
    exact txt_len2 (h kn hk)
  rw [List.length_map] at a ⊢
  have b : l.length * y.length ≤ 60 * 100 := Nat.mul_le_mul h60 hy
  have c : l.length * 186 ≤ 60 * 186 := Nat.mul_le_mul_right _ h60
  omega
end Fw
namespace Fw
open PySem PySem.Spec PyProof.Rows L2
open He (ga ma eqO eqO_ok)
section
variable {K : Frag} {H H' : Hp} {W dx p l L y : Addr} {a b : List Str} {k : LK} {n : N3} {xs ys : List V} {rs : List Addr} {kns : List (LK × N3)}
theorem Wx.lg (x9 : Wx W H H') (h : Wd K H W dx p a b) (g : LgAt K H rs kns) : LgAt K H' rs kns := ⟨g.1, fun i r kn a b => x9.ln h (g.2 i r kn a b)⟩
theorem ln_put (eL : H L = some (.lst xs)) (g : LnAt K H y k n) : LnAt K (upd H L (.lst ys)) y k n := by
  obtain ⟨d, e⟩ := g
  refine ⟨d, ?_⟩
  rw [upd_ne (fun z => by rw [z, eL] at e; cases e)]
  exact e
theorem lgt_put (eL : H L = some (.lst xs)) (g : LgAt K H rs kns) (g1 : LnAt K H y k n) : LgAt K (upd H L (.lst ys)) (rs ++ [y]) (kns ++ [(k, n)]) := by
  refine ⟨by rw [List.length_append, List.length_append, g.1]; rfl, fun i r kn hr hk => ?_⟩
  by_cases c : i < rs.length
  · rw [List.getElem?_append_left c] at hr
    rw [List.getElem?_append_left (by rw [← g.1]; exact c)] at hk
    exact ln_put eL (g.2 i r kn hr hk)
  · have e : i = rs.length := by
      have := (List.getElem?_eq_some_iff.mp hr).1
      rw [List.length_append] at this
      simp at this
      omega
    subst e
    rw [List.getElem?_append_right (Nat.le_refl _), Nat.sub_self] at hr
    rw [g.1, List.getElem?_append_right (Nat.le_refl _), Nat.sub_self] at hk
    cases hr
    cases hk
    exact ln_put eL g1
end
theorem tw_nil {l : List (LK × N3)} (h : tw l = []) : l = [] := by
  cases l with
  | nil => rfl
  | cons a b => cases h
end Fw
namespace Fw
open PySem PySem.Spec PyProof.Rows L2
open He (ga ma eqO eqO_ok)
open Rep (rp)
/-! ### a leg as a tuple: its kind, headway, departure, ride -/
structure K4 where
  k : LK
  n : N3
instance : Rep K4 := ⟨fun _ F v x => ∃ p : Addr, v = .ref p ∧ F p = some (.tup [.str (kn x.k), .int x.n.e, .int x.n.a, .int x.n.r]), fun s h => let ⟨p, e, h⟩ := h; ⟨p, e, s _ _ h⟩⟩
section
variable {K : Frag} {F H H1 : Hp} {M : Addr → Prop} {v w : V} {Q : VK}
theorem rd_tupK {a b c : Int} {k : LK} (al : Alloc M H) (q : ∀ v H', Same H H' → rp K (Fr M H') v (⟨k, ⟨a, b, c⟩⟩ : K4) → Q v H') : sqc rTupD [.str (kn k), .int a, .int b, .int c] H Q := by
  rw [sqc_eq]
  exact ⟨by show 4 ≤ sizeLine; decide, fun p hp => q _ _ (Same.new hp) ⟨p, rfl, Fr.new al hp⟩⟩
theorem ix2 {a b : Int} {p : Prop} [Decidable p] : atI [a, b] (if decide p = true then 1 else 0) = some (if p then b else a) := by
  by_cases c : p
  · rw [if_pos (decide_eq_true c), if_pos c]
    rfl
  · rw [if_neg (by rw [decide_eq_false c]; exact Bool.false_ne_true), if_neg c]
    rfl
end
section
variable {K : Frag} {H1 : Hp} {Q : Addr → Hp → Prop} {α β : Type} [Rep α] [Rep β] {J : It} {g : TG} {tt : TT} {te : TE} {vs : List Nat} {σ : L2.St}
/-- items that are found on the way, by their places -/
theorem lc_tankR {a tc : Addr} {c N : Nat} {xs : List α} (p : Nat → β → Prop) (T : TW K (tkM a tc) H1 J xs) (hT : Tk a tc (N + c * xs.length) H1) (hz : xs.length ≤ 1000000)
    (step : ∀ (i : Nat) (x : α) (u : V) (H : Hp) (M' : Addr → Prop) (C : V → Hp → Prop) (C0 : Hp → Prop), xs[i]? = some x → Same (Fr (tkM a tc) H1) (Fr M' H) → Alloc M' H → (∀ b, tkM a tc b → M' b) → Ext (tkM a tc) H1 H → Tk a tc (N + c * (xs.length - (i + 1)) + c) H → rp K (Fr M' H) u x →
      (∀ w y H4, Ext (tkM a tc) H H4 → Tk a tc (N + c * (xs.length - (i + 1))) H4 → p i y → rp K (Fr M' H4) w y → C w H4) → g u (wipe σ vs) H fun σ2 H2 => wipe σ2 vs = wipe σ vs ∧ tt σ2 H2 fun b H3 => if b = true then te σ2 H3 C else C0 H3)
    (k : ∀ D H' (ys : List β), Ext (tkM a tc) H1 H' → Tk a tc N H' → ys.length = xs.length → (∀ j y, ys[j]? = some y → p j y) → rp K (Fr (tkM a tc) H') (.ref D) ys → Q D H') : ∀ D, H1 D = none → LcW J H1 g tt te vs σ D (Q D) := by
  obtain ⟨G, Y, wk, hG, hY⟩ := T.ex
  refine lc_repR (M0 := tkM a tc) (I := fun i H => Tk a tc (N + c * (xs.length - i)) H) wk p hT.alloc hG hz hT (fun i H D o n t => t.upd n) (fun _ _ t => t.alloc) ?_ (fun D H' ys x i _ l q r => k D H' ys x (by rw [Nat.sub_self] at i; exact i) l q r)
  rintro i x H H' M' C C0 hi s6 a7 hm s4 t7 y7 hC
  obtain ⟨z, hz2, s8, rz⟩ := hY i x H H' M' hi s6 a7 y7
  have t8 : Tk a tc (N + c * (xs.length - (i + 1)) + c) H' := by
    have q := t7.same s8
    have e2 : N + c * (xs.length - i) = N + c * (xs.length - (i + 1)) + c := by
      rw [show xs.length - i = (xs.length - (i + 1)) + 1 by omega, Nat.mul_add, Nat.mul_one]
      omega
    rw [e2] at q
    exact q
  exact step i z x H' M' C C0 hz2 (s6.trans (Fr.same s8)) (a7.same s8) hm (s4.trans (Ext.same s8)) t8 rz (fun w y H4 s t hp r => hC w y H4 ((Ext.same s8).trans s) t hp r)
end
end Fw

/-! Fw, part Ex: own errors with an __init__ that asks the base class's. -/
namespace Fw
open PySem PySem.Spec PyProof.Rows L2
open He (ga ma eqO eqO_ok)
/-- the class at C0 has ValueError's __init__ -/
structure HInit (K : Frag) (C0 : Addr) : Prop where
  rd : ClX.CRead K C0 (.type "type")
  at_ : PySem.W.findCls K (.ref C0) (.type "type") "__init__" = some (.val (.builtin "ValueError.__init__"))
def tHI (K : Frag) (C0 : Addr) (to : TE) (ta : TA) : TE := fun σ H Q => to σ H fun x H1 => x = .ref C0 ∧ tVeI K ta σ H1 Q
section
variable {X : Cx} {C0 : Addr} {o e : Expr} {es : List Expr} {to : TE} {ta : TA} {pos apos : Pos} {pl : Sem Bool}
theorem pe_hinit (ho : PE X o to) (F : HInit X.K C0) (ha : PA X (e :: es) ta)
    (he : starEach (e :: es) X.env = (false, eval e X.env) :: starEach es X.env := by rfl) (hpl : (backTo pos (starEach es X.env)).any (·.1) = false := by rfl)
    (ht : eval (.Call (.Attribute o "__init__" apos) (e :: es) [] pos) X.env = (do
      let ov ← eval o X.env
      standAt apos.atName
      let (f, first) ← holding [ov] (getMethod ov "__init__" pl)
      callWith pos f first (backTo pos (starEach (e :: es) X.env)) (backToKw pos (keywordEach [] X.env))) := by rfl) : PE X (.Call (.Attribute o "__init__" apos) (e :: es) [] pos) (tHI X.K C0 to ta) := by
  refine ⟨fun pins s σ H Q I h => ?_⟩
  refine PySem.W.methodCall_KW (pl := pl) (thn (ho.run pins s σ H _ I h) fun u s1 ⟨x, H1, I1, rx, ex, q⟩ => ?_) ht
  subst ex
  obtain rfl : u = Value.ref C0 := rx
  refine PySem.W.method_cls I1.kIn F.rd.ga (PySem.W.cls_value I1.kIn F.rd.rd F.at_ (by decide +kernel) ?_)
  show wpAny _ _ (callWith pos (Value.builtin "ValueError.__init__") [] (backTo pos (starEach (e :: es) X.env)) []) _ _ _
  refine PyProof.Rows.callWith_method1 (thn (ha.run pos pins _ σ H1 _ (I1.tok _) q) fun us s2 ⟨vs, H2, I2, r1, a, C, ws, ev, hl, T, ea, q2⟩ => ?_) he hpl
  subst ev
  cases r1 with
  | @cons _ u0 _ ur ra rw' =>
    obtain rfl : u0 = Value.ref a := ra
    have hlen : ur.length ≤ sizeLine := by
      rw [← Paired.length rw', sizeLine_eq]
      omega
    exact oinit_ok T I2 ea hlen fun s' J => ⟨.non, H2, J, rfl, q2⟩
end
/-! ### facts of an own error with an __init__ and a field -/
def oexB (K : Frag) (C : Addr) : Bool := match K.lookup C with
  | some ⟨.type "type", _, .cls cd, sl⟩ => (match cd.mro, sl.toList with
    | .ref C' :: bm, [_, _, _, _, some (.builtin n), _] => C' == C && n == "ValueError.__new__" && cd.hasDict && !cd.hasDel && PySem.HandSPX.refsVE bm
    | _, _ => false)
  | _ => false
theorem oex_cls {K : Frag} {C : Addr} (q : oexB K C = true) : ∃ nm q N bs bm sn sub ab col dd k0 k1 k2 k3 k5, K.lookup C = some (excClassObj nm q C N bs bm true sn sub ab col dd k0 k1 k2 k3 k5 "ValueError.__new__") ∧ PySem.HandSPX.refsVE bm = true := by
  unfold oexB at q
  split at q
  · rename_i dd cd sl ho
    split at q
    · rename_i C' bm k0 k1 k2 k3 n k5 hm hs
      simp only [Bool.and_eq_true, beq_iff_eq, Bool.not_eq_true'] at q
      obtain ⟨⟨⟨⟨rfl, rfl⟩, hd⟩, hdel⟩, ht⟩ := q
      obtain ⟨nm, bs, mro, ns, qn, hdd, sn, sub, ab, col, del⟩ := cd
      dsimp only at hm hdel hd
      subst hm hdel hd
      have hsl : sl = #[k0, k1, k2, k3, some (.builtin "ValueError.__new__"), k5] := by
        obtain ⟨l⟩ := sl
        simp only at hs
        rw [hs]
      subst hsl
      exact ⟨nm, qn, ns, bs, bm, sn, sub, ab, col, dd, k0, k1, k2, k3, k5, ho, ht⟩
    · cases q
  · cases q
structure ErrI (K : Frag) (C fI : Addr) (f : Str) : Prop where
  o : OexC K C
  i : PySem.W.findIn K (.ref C) "__init__" = some (some (.ref fI))
  t : PySem.W.typeIn K (.ref fI) = some (.type "function")
  w : PySem.W.findIn K (.ref C) f = some none
  xf : XfC K C
  c : ExcC K C
def cErrI (x f : Str) : Ck := fun K => oexB K (ga K x) && (eqO (PySem.W.findIn K (.ref (ga K x)) "__setattr__") (some (some (.builtin "object.__setattr__"))) && (decide (PySem.W.subIn K (.ref (ga K x)) (.type "BaseException") = some true) && (decide (PySem.W.typeIn K (.ref (ga K x)) = some (.type "type")) &&
  (PySem.W.keepIn K (.ref (ga K x)) && (eqO (PySem.W.findIn K (.ref (ga K x)) "__init__") (some (some (.ref (ma K (ga K x) "__init__")))) && (decide (PySem.W.typeIn K (.ref (ma K (ga K x) "__init__")) = some (.type "function")) && (eqO (PySem.W.findIn K (.ref (ga K x)) f) (some none) &&
  (decide (PySem.W.findIn K (.ref (ga K x)) "__getattribute__" = some (some (.builtin "BaseException.__getattribute__"))) && (decide (PySem.W.findIn K (.ref (ga K x)) "__getattr__" = some none) && (PySem.W.hasDictIn K (ga K x) &&
  (decide (PySem.W.findIn K (.ref (ga K x)) "__class__" = some (some (.builtin "object.__class__"))) && (decide (PySem.W.specialIn K (.builtin "object.__class__") "__get__" = some (some (.builtin "getset_descriptor.__get__"))) &&
  (decide (PySem.W.takesIn K (.builtin "object.__class__") = some true) && decide (PySem.W.mroIn K (ga K x) (.type "object") = some true))))))))))))))
theorem errI_of {K : Frag} {x f : Str} (c : cErrI x f K = true) : ErrI K (ga K x) (ma K (ga K x) "__init__") f := by
  unfold cErrI at c
  simp only [Bool.and_eq_true, decide_eq_true_eq] at c
  obtain ⟨c1, c2, c3, c4, c5, c6, c7, c8, c9, c10, c11, c12, c13, c14, c15⟩ := c
  exact ⟨⟨oex_cls c1, eqO_ok c2, c3, c4, c5⟩, eqO_ok c6, c7, eqO_ok c8, ⟨c9, c10, c3, c11⟩, ⟨c9, c10, c3, c11, c12, c13, c14, c15⟩⟩
def cHInit (x : Str) : Ck := fun K => PySem.W.readsIn K (ga K x) (.type "type") && (eqO (PySem.W.specialIn K (.ref (ga K x)) "__getattribute__") (some (some (.builtin "type.__getattribute__"))) &&
  (match PySem.W.findCls K (.ref (ga K x)) (.type "type") "__init__" with
  | some (.val (.builtin y)) => decide (y = "ValueError.__init__")
  | _ => false))
theorem hInit_of {K : Frag} {x : Str} (c : cHInit x K = true) : HInit K (ga K x) := by
  obtain ⟨c1, c⟩ := Bool.and_eq_true_iff.mp c
  obtain ⟨c2, c3⟩ := Bool.and_eq_true_iff.mp c
  split at c3
  · rename_i y e
    obtain rfl := of_decide_eq_true c3
    exact ⟨⟨c1, eqO_ok c2⟩, e⟩
  · cases c3
/-! ### its __init__, and the error made -/
def spErrI (C : Addr) (f : Str) : Sp := fun vs H Q _ => ∃ (a : Addr) (i : Int), vs = [.ref a, .int i] ∧ H a = some (exo a C none) ∧ ∀ dx, H dx = none → dx ≠ a → Q .non (upd (upd H dx (exd dx [(f, .int i)])) a (exo a C (some dx)))
theorem mk_errI {C : Addr} {f : Str} {i : Int} {H : Hp} {Q : XK} {E : XK} (q : ∀ d, H d = none → Q (.ref C) (some d) (upd H d (.xd [(f, .int i)]))) : ∀ a, H a = none → spErrI C f [.ref a, .int i] (upd H a (exo a C none))
    (fun v H2 => v = .non ∧ ∃ (d : Addr) (fs : List (Str × V)), H2 a = some (exo a C (some d)) ∧ H2 d = some (exd d fs) ∧ H d = none ∧ Q (.ref C) (some d) (upd (del H2 a) d (.xd fs))) E := fun a ha => by
  refine ⟨a, i, rfl, upd_same, fun dx hdx ne => ⟨rfl, dx, [(f, .int i)], upd_same, ?_, ?_, ?_⟩⟩
  · rw [upd_ne ne, upd_same]
  · rw [upd_ne ne] at hdx
    exact hdx
  · have h0 : H dx = none := by
      rw [upd_ne ne] at hdx
      exact hdx
    have e : upd (del (upd (upd (upd H a (exo a C none)) dx (exd dx [(f, .int i)])) a (exo a C (some dx))) a) dx (.xd [(f, .int i)]) = upd H dx (.xd [(f, .int i)]) := by
      funext b
      by_cases hb : b = dx
      · rw [hb, upd_same, upd_same]
      · rw [upd_ne hb, upd_ne hb]
        by_cases c : b = a
        · rw [c, del_same, ha]
        · rw [del_ne c, upd_ne c, upd_ne hb, upd_ne c]
    rw [e]
    exact q dx h0
end Fw
namespace Fw
open PySem PySem.Spec PyProof.Rows L2
/-! ### try .. except x as n: suite; more clauses that are not come to -/
def wFirst (K : Frag) (c : Value) (i : Nat) (ts : Addr → Value → Option Addr → TS) (D : Ends) : WX := fun cls d σ H =>
  PySem.W.exmOne K cls c = some true ∧ ∀ a, H a = none → ts a cls d { nx := fun τ G => D.nx (τ.set i none) G, rt := D.rt, bk := fun τ G => D.bk (τ.set i none) G, ct := fun τ G => D.ct (τ.set i none) G } (σ.set i (some (.ref a))) H
section
variable {X : Cx} {x n : Str} {c : Value} {i : Nat} {body suite : List Stmt} {hds : List ExceptHandler} {b₀ : Stmt} {np pos pos' : Pos} {tb : WX → TS} {ts : Addr → Value → Option Addr → TS}
theorem ps_try_first (eS : X.stack = X.env :: X.outer) (eF : X.env.frame = some X.env.locals) (nd : X.N.Nodup) (at_ : X.N[i]? = some n) (kl : X.env.kindOf n = some .local) (nm : Names X x c)
    (hb : ∀ (W : WX) (l : List (Addr × Obj)) (xe : Value → Shared → Prop), Takes (X.tr l xe) W → PassesOwn (model X.prog X.w) X.A X.env xe → PSs (X.tr l xe) body (tb W))
    (hs : ∀ (a : Addr) (o : Obj) (cls : Value) (d : Option Addr) (l : List (Addr × Obj)), Zc cls d o → (∃ vs, o.data = .fields vs) → PSs (X.suite a ((a, o) :: l)) (b₀ :: suite) (ts a cls d)) :
    PS X (.Try body (.ExceptHandler (some (.Name x np)) (some n) (b₀ :: suite) pos' :: hds) [] [] pos) (fun D σ H => tb (wFirst X.K c i ts D) D σ H) := by
  refine ⟨fun pins s σ H D I0 want => ?_⟩
  have ok := I0.ok
  have frames : X.A.frames = some (X.env :: X.outer) := ok.frames.trans (congrArg some eS)
  have lc : Loc X.env.scope n := Or.inl kl
  apply wpAny_Try_except
  apply wpAny_mono (M := model X.prog X.w) ((hb (wFirst X.K c i ts D) (X.pn ++ pins) (fun e t1 => wpAny (model X.prog X.w) X.A (noteFrame e X.env) (fun _ t2 => wpAny (model X.prog X.w) X.A (setFlight e none) (fun _ t3 =>
    wpAny (model X.prog X.w) X.A (handleBy e X.env (.ExceptHandler (some (.Name x np)) (some n) (b₀ :: suite) pos' :: hds)) (SP X pins D) X.xe t3) X.xe t2) X.xe t1) (fun u s9 caught => ?_) PassesOwn.looking).run [] s σ H D (I0.toTry _) want)
  · intro f t1 z
    cases f with
    | next => exact let ⟨τ, G, J, q⟩ := z; wpAny_execs_nil ⟨τ, G, J.ofTry ok, q⟩
    | brk => exact let ⟨τ, G, J, q⟩ := z; ⟨τ, G, J.ofTry ok, q⟩
    | cont => exact let ⟨τ, G, J, q⟩ := z; ⟨τ, G, J.ofTry ok, q⟩
    | ret u => exact let ⟨v, τ, G, J, r, q⟩ := z; ⟨v, τ, G, J.ofTry ok, r, q⟩
  · exact fun e t1 z => z
  obtain ⟨a, B, sI, pins', τ, G, cls, d, rfl, J', keep, higher, sky, fresh, eos, bare, exm, yes⟩ := caught
  have J0 : Inv X pins τ G sI := J'.ofTry ok
  have sky1 : Sky B (X.env :: X.outer) a (Zc cls d) X.env.locals s9.heap := eS ▸ sky
  show wpAny (model X.prog X.w) X.A (noteFrame (.ref a) X.env) _ _ s9
  apply Sky.land Zc.steady frames eF sky1
  intro h3 fly3 rise3
  have J3 : Inv X pins τ G { s9 with heap := h3 } := J0.landed keep fly3.1 (higher.trans rise3) eos bare
  obtain ⟨o3, w3, at3, zc3, da3⟩ := fly3.there
  have off : a ∉ frs (X.env :: X.outer) := by
    intro m
    obtain ⟨_, o2, e2, nf2⟩ := fly3.2.2.1.mem m
    rw [at3] at e2
    cases e2
    exact nf2 _ da3
  have offL : a ≠ X.env.locals := fun z => off (List.mem_filterMap.mpr ⟨X.env, List.mem_cons_self, eF.trans (by rw [z])⟩)
  have offF : a ∉ X.fs := by
    intro m
    obtain ⟨e, me, q⟩ := List.mem_filterMap.mp m
    exact off (List.mem_filterMap.mpr ⟨e, List.mem_cons_of_mem X.env me, q⟩)
  have S3 := J3.suite at3 da3 fresh offL offF
  apply wpAny_handleBy_cons (codeAny_handlers_test ?_) (fun q => by cases q)
  have tyA : PySem.W.Looks (model X.prog X.w) h3 (typeOf (.ref a)) cls := fun A Q E s k q => wpAny_typeOf_ref (k a o3 at3) (zc3.1 ▸ q)
  have mt := PySem.W.exm_one (M := model X.prog X.w) J3.kIn tyA exm
  have named : ∀ {Q E : Value → Shared → Prop}, Q c { s9 with heap := h3 } → wpAny (model X.prog X.w) (X.A.mark (some (.ref a))) (eval (.Name x np) X.env) Q E { s9 with heap := h3 } := by
    intro Q E q
    obtain ⟨g1, g2, g3⟩ := nm
    rcases g3 with g3 | ⟨g3, g4, g5⟩
    · exact ld_glob (X := X.suite a ((a, o3) :: (X.pn ++ pins))) S3 g1 g3 q g2
    · exact ld_blt (X := X.suite a ((a, o3) :: (X.pn ++ pins))) S3 g1 g3 g4 q g5 g2
  apply named
  refine mt.here ?_
  apply codeAny_handlers_suite_as
  apply HandSPX.lands_againZ fly3
  intro h4 fly4 rise4
  have J4 : Inv X pins τ G { s9 with heap := h4 } := J0.landed keep fly4.1 ((higher.trans rise3).trans rise4) eos bare
  obtain ⟨o4, w4, at4, zc4, da4⟩ := fly4.there
  have S4 := J4.suite at4 da4 fresh offL offF
  apply store_ok (X := X.suite a ((a, o4) :: (X.pn ++ pins))) (v := .ref a) S4 nd at_ lc rfl (fun t5 S5 => ?_) (Or.inr kl)
  apply wpAny_mono ((hs a o4 cls d (X.pn ++ pins) zc4 ⟨w4, da4⟩).run [] t5 _ G _ S5 (yes a fresh)) (fun f t6 z => ?_) (fun _ _ z => z.elim)
  have gone : ∀ {τ6 : L2.St} {G6 : Hp} {Q : Shared → Prop}, Inv (X.suite a ((a, o4) :: (X.pn ++ pins))) [] τ6 G6 t6 → (∀ t7, Inv (keepX X a o4 (X.pn ++ pins)) [] (τ6.set i none) G6 t7 → Q t7) →
      wpAny (model X.prog X.w) X.A (do bindName X.env n .none; unbindBehindTheSuite X.env n pos') (fun _ t7 => Q t7) X.xe t6 := fun S6 q => gone_ok (X := keepX X a o4 (X.pn ++ pins)) (Inv.held S6 ok) nd at_ kl q
  cases f with
  | next => exact let ⟨τ6, G6, S6, q6⟩ := z; gone S6 fun t7 J7 => ⟨_, _, Inv.drop J7 ok, q6⟩
  | brk => exact let ⟨τ6, G6, S6, q6⟩ := z; gone S6 fun t7 J7 => ⟨_, _, Inv.drop J7 ok, q6⟩
  | cont => exact let ⟨τ6, G6, S6, q6⟩ := z; gone S6 fun t7 J7 => ⟨_, _, Inv.drop J7 ok, q6⟩
  | ret u => exact let ⟨v6, τ6, G6, S6, r6, q6⟩ := z; gone S6 fun t7 J7 => ⟨_, _, _, Inv.drop J7 ok, r6, q6⟩
end
end Fw
namespace Fw
open PySem PySem.Spec PyProof.Rows L2
/-! ### list(a text) -/
theorem vals_of {acc : List Value} {vs : List V} (h : acc.length = vs.length) (g : ∀ (j : Nat) (v : Value), acc[j]? = some v → ∃ u, vs[j]? = some u ∧ RelV u v) : Vals vs acc := by
  induction vs generalizing acc with
  | nil => cases acc with
    | nil => exact .nil
    | cons a b => cases h
  | cons u vs ih => cases acc with
    | nil => cases h
    | cons a b =>
      obtain ⟨u2, e, r⟩ := g 0 a rfl
      cases e
      exact .cons r (ih (by simpa using h) fun j v hj => g (j + 1) v (by simpa using hj))
theorem call_list_sgn {X : Cx} (hc : X.calm = true) : CallR X (.type "list") (fun xs H Q => ∃ x, xs = [.str x] ∧ x.length ≤ sizeLine ∧ ∀ p, H p = none → Q (.ref p) (upd H p (.lst ((Fw.signs x).map V.str)))) := by
  intro pins s σ H xs us Q I rs h
  obtain ⟨x, rfl, hz, h⟩ := h
  cases rs with
  | cons r1 rs =>
    cases rs
    obtain ⟨t, rfl⟩ := r1
    have hp := I.hok.fresh (Nat.le_refl _)
    refine call_list_str (I.ok.hd hc) x t (fun h' tk acc' c' hk hS' hacc => ?_) hz
    refine ⟨.ref s.heap.objs.size, upd H s.heap.objs.size (.lst ((Fw.signs x).map V.str)), I.laid hk (Nat.le_refl _) ⟨by rw [List.length_map, signs_len]; exact hz, acc'.toList, c', ?_, by simpa using hS'⟩, rfl, h _ hp⟩
    refine vals_of ?_ fun j v hj => ?_
    · rw [List.length_map, signs_len, Array.length_toList, hacc.1]
      rfl
    · obtain ⟨c, u, hcx, rfl⟩ := hacc.2 j v (by simpa using hj)
      refine ⟨.str ⟨#[c]⟩, ?_, ⟨u, rfl⟩⟩
      unfold Fw.signs
      rw [List.getElem?_map, List.getElem?_map, Array.getElem?_toList, hcx]
      rfl
end Fw
namespace Fw
open PySem PySem.Spec PyProof.Rows L2
/-! ### isinstance of an error that has its own dict -/
section
variable {X : Cx} {a D dd : Addr}
theorem Has.instD {pins : List (Addr × Obj)} {σ : L2.St} {H : Hp} {s : Shared} {fs : List (Str × V)} (h : Has X a (.ref D) (some dd)) (I : Inv X pins σ H s) (hd : H dd = some (.xd fs)) : ∃ oe od, PySem.W.InstAt s.heap a oe D od := by
  obtain ⟨oe, hp, z, f⟩ := h.ex
  have g := (I.pin (a, oe) (List.mem_append_left _ hp)).1
  obtain ⟨vs, hv⟩ := f
  have hx : ObjOk X.prog X.w H s.heap dd (.xd fs) := I.hok dd _ hd
  obtain ⟨mA, hns, hr⟩ := hx
  obtain ⟨od, ho, hl⟩ := lookIn_ns hns
  exact ⟨oe, some od, g, z.1, by unfold PySem.W.notCls; rw [hv] <;> rfl, by rw [z.2]; exact ho⟩
theorem cls_some {K : Frag} {D : Addr} (h : PySem.W.hasDictIn K D = true) : (PySem.W.clsIn K D).isSome = true := by
  unfold PySem.W.hasDictIn at h
  cases e : PySem.W.clsIn K D with
  | none => rw [e] at h; cases h
  | some c => rfl
def rIsED (K : Frag) (cls : Value) (d : Option Addr) (a : Addr) : List V → Hp → VK → Prop := fun xs H Q => ∃ D dd fs, cls = .ref D ∧ d = some dd ∧ H dd = some (.xd fs) ∧ ExcC K D ∧ rIsE K D a xs H Q
def rIsETD (K : Frag) (cls : Value) (d : Option Addr) (a : Addr) : List V → Hp → VK → Prop := fun xs H Q => ∃ D dd fs, cls = .ref D ∧ d = some dd ∧ H dd = some (.xd fs) ∧ ExcC K D ∧ rIsET K D a xs H Q
variable {cls : Value} {d : Option Addr}
theorem call_isErD (h : Has X a cls d) : CallR X (.builtin "isinstance") (rIsED X.K cls d a) := by
  intro pins s σ H xs us Q I r q
  obtain ⟨D, dd, fs, rfl, rfl, hd, C, q⟩ := q
  obtain ⟨c, cv, b, rfl, only, e, q⟩ := q
  obtain ⟨u1, u2, rfl, r1, r2⟩ := vals2 r
  cases (show u1 = Value.ref a from r1)
  have isc := only u2 r2
  subst isc
  obtain ⟨oe, od, J⟩ := h.instD I hd
  exact PySem.W.kia_one (PySem.W.kitx_exc (cls_some C.hd) C.hg C.hk C.hs C.ha C.hn C.ht C.hm) I.kIn J e (fun z => nomatch z) fun tk => ⟨.bl b, H, I.tok tk, rfl, q⟩
theorem call_isErTD (h : Has X a cls d) : CallR X (.builtin "isinstance") (rIsETD X.K cls d a) := by
  intro pins s σ H xs us Q I r q
  obtain ⟨D, dd, fs, rfl, rfl, hd, C, q⟩ := q
  obtain ⟨t, zs, ws, b, rfl, hT, k, e, q⟩ := q
  obtain ⟨u1, u2, rfl, r1, r2⟩ := vals2 r
  cases (show u1 = Value.ref a from r1)
  cases (show u2 = Value.ref t from r2)
  have ot : ObjOk X.prog X.w H s.heap t (.tup zs) := I.hok t (.tup zs) hT
  obtain ⟨_, ys, vals, o, g1, g2, m, g3⟩ := ot
  have same := ClsV.all k vals
  subst same
  cases o with
  | mk c1 c2 c3 c4 =>
    dsimp only at g2 g3
    subst g2
    subst g3
    obtain ⟨oe, od, J⟩ := h.instD I hd
    exact PySem.W.kia_tup (PySem.W.kitx_exc (cls_some C.hd) C.hg C.hk C.hs C.ha C.hn C.ht C.hm) I.kIn J g1 e (fun z => nomatch z) fun tk => ⟨.bl b, H, I.tok tk, rfl, q⟩
end
end Fw

/-! Fw, part Be: texts that are cut and joined anew; text * number; repr of a number or a list. -/
namespace Fw
open PySem PySem.Spec PyProof.Rows L2
open He (ga ma eqO eqO_ok)
open Rep (rp)
open Dat (toD)
section
variable {X : Cx}
/-- a text times a number -/
theorem op_mul_str : OpR X (binaryOp .Mult) (fun x y H Q => ∃ z i, x = .str z ∧ y = .int i ∧ MulOk z i ∧ Q (.str (Txt.mul z i)) H) := by
  intro pins s σ H x y v u Q I rx ry h
  obtain ⟨z, i, rfl, rfl, hz, q⟩ := h
  obtain ⟨t, rfl⟩ := rx
  obtain ⟨t', rfl⟩ := ry
  exact SB.mul hz fun t' k => ⟨.str (Txt.mul z i), H, I.tok _, ⟨_, rfl⟩, q⟩
/-- repr of a number or a list -/
def rReprS (K : Frag) : List V → Hp → VK → Prop := fun xs H Q => (∃ i : Int, xs = [.int i] ∧ i.natAbs.log2 < 1920 ∧ Q (.str (toString i)) H) ∨ (∃ a d, xs = [.ref a] ∧ Dp K H (.ref a) d ∧ Fit d ∧ Q (.str d.shown) H)
theorem call_reprS (hg : X.A.guards = some []) (hu : X.A.units + 64 < cLine) : CallR X (.builtin "repr") (rReprS X.K) := by
  intro pins s σ H xs us Q I r h
  rcases h with h | h
  · exact SkE.call_repr_int pins s σ H xs us Q I r h
  · exact call_reprD hg hu pins s σ H xs us Q I r h
end
section
variable {K : Frag} {H : Hp} {Q : VK} {lo hi : Option Int}
theorem rd_slS {z : Str} (hz : z.length ≤ 1000000) (k : Q (.str (cutS z lo hi)) H) : sqs rSlS (.str z) lo hi H Q := by
  rw [sqs_eq]
  exact ⟨z, rfl, Nat.le_trans hz (by decide), k⟩
end
instance : Rep (Nat ⊕ List N3) := ⟨fun K F v x => match x with
  | .inl i => v = .int (i : Nat)
  | .inr l => rp K F v l, fun {_ _ _ _ x} s h => match x, h with
  | .inl _, h => h
  | .inr _, h => Rep.up s h⟩
theorem szw {i : Int} (h : NumW i) : Sz 1800 i := Sz.le h.lo (Int.le_of_lt h.hi) (Sz.of (by decide +kernel) (by decide +kernel))
def shS : Nat ⊕ List N3 → Str
  | .inl i => ((toString ((i : Nat) : Int) : String) : Str)
  | .inr l => (toD l).shown
def fitS : Nat ⊕ List N3 → Prop
  | .inl i => i ≤ 10000000
  | .inr l => l.length ≤ 100 ∧ ∀ n ∈ l, LegW n
theorem rd_reprS {K : Frag} {F H : Hp} {v : V} {Q : VK} {x : Nat ⊕ List N3} (h : rp K F v x) (hF : Same F H) (f : fitS x) (k : Q (.str (shS x)) H) : sqc (rReprS K) [v] H Q := by
  rw [sqc_eq]
  cases x with
  | inl i =>
    obtain rfl : v = .int (i : Nat) := h
    refine .inl ⟨_, rfl, ?_, k⟩
    have q : i ≤ 10000000 := f
    show (((i : Nat) : Int).natAbs).log2 < 1920
    rw [Int.natAbs_natCast]
    by_cases z : i = 0
    · rw [z]
      decide
    · have := (Nat.log2_lt z (k := 24)).mpr (by omega)
      omega
  | inr l =>
    have h : rp K F v l := h
    obtain ⟨p, e⟩ := rp_ref h
    subst e
    refine .inr ?_
    have w : ∀ n : N3, LegW n → Dat.fit 2000 n := fun n g => ⟨szw g.e, szw g.a, szw g.r, Nat.le_refl _⟩
    have q := rd_repr (W := 1000000) h hF (show Dat.fit 1000000 l from ⟨2000, fun n hn => w n (f.2 n hn), by have := f.1; omega⟩) k
    rw [sqc_eq] at q
    exact q
/-! ### signs of a text's parts -/
theorem spl_mem (S : List Nat) : ∀ (l : List Nat) (k : Nat) (acc : List Nat), ∀ p ∈ TL.spl S k acc l, ∀ c ∈ p, c ∈ acc ∨ c ∈ l
  | [], k, acc => by
    rw [TL.spl_nil]
    exact fun p hp c hc => by rw [List.mem_singleton.mp hp] at hc; exact .inl hc
  | d :: r, 0, acc => by
    cases h : TL.pre S (d :: r) with
    | true =>
      rw [TL.spl_hit h]
      intro p hp c hc
      rcases List.mem_cons.mp hp with e | e
      · rw [e] at hc
        exact .inl hc
      · rcases spl_mem S r (S.length - 1) [] p e c hc with q | q
        · cases q
        · exact .inr (List.mem_cons_of_mem _ q)
    | false =>
      rw [TL.spl_miss h]
      intro p hp c hc
      rcases spl_mem S r 0 (acc ++ [d]) p hp c hc with q | q
      · rcases List.mem_append.mp q with q | q
        · exact .inl q
        · rw [List.mem_singleton.mp q]
          exact .inr List.mem_cons_self
      · exact .inr (List.mem_cons_of_mem _ q)
  | d :: r, k + 1, acc => by
    have e : TL.spl S (k + 1) acc (d :: r) = TL.spl S k acc r := rfl
    rw [e]
    intro p hp c hc
    rcases spl_mem S r k acc p hp c hc with q | q
    · exact .inl q
    · exact .inr (List.mem_cons_of_mem _ q)
theorem so_mem {x y : Str} (h : PyData.strOk x = true) (g : ∀ c ∈ TL.tl y, c ∈ TL.tl x) : PyData.strOk y = true := by
  unfold PyData.strOk at h ⊢
  rw [Array.all_eq_true'] at h ⊢
  exact fun c hc => h c (Array.mem_toList_iff.mp (g c (Array.mem_toList_iff.mpr hc)))
theorem so_split {x y : Str} (hy : TL.tl y ≠ []) (hk : y.cps.all (· < 256) = true) (h : PyData.strOk x = true) : ∀ p ∈ Txt.split x y, PyData.strOk p = true := fun p hp => by
  refine so_mem h fun c hc => ?_
  have e := TL.split_spl x y hy (TL.kind_ok hk)
  have q := spl_mem (TL.tl y) (TL.tl x) 0 [] (TL.tl p) (by rw [← e]; exact List.mem_map.mpr ⟨p, hp, rfl⟩) c hc
  exact q.elim (fun z => by cases z) id
theorem atI_1 {a b c : V} : atI [a, b, c] 1 = some b := rfl
theorem atI_2 {a b c : V} : atI [a, b, c] 2 = some c := rfl
/-! ### words cut and joined -/
def tot (l : List Str) : Nat := (l.map (·.length)).sum + l.length
theorem tot_app (a b : List Str) : tot (a ++ b) = tot a + tot b := by
  unfold tot
  rw [List.map_append, List.sum_append, List.length_append]
  omega
theorem tot_cons (x : Str) (b : List Str) : tot (x :: b) = x.length + 1 + tot b := by
  unfold tot
  rw [List.map_cons, List.sum_cons, List.length_cons]
  omega
theorem tot_take (l : List Str) (n : Nat) : tot (l.take n) ≤ tot l := by
  have h := congrArg tot (List.take_append_drop n l)
  rw [tot_app] at h
  omega
theorem tot_drop (l : List Str) (n : Nat) : tot (l.drop n) ≤ tot l := by
  have h := congrArg tot (List.take_append_drop n l)
  rw [tot_app] at h
  omega
theorem tot_cut (l : List Str) (lo hi : Option Int) : tot (cutX l lo hi) ≤ tot l := Nat.le_trans (tot_take _ _) (tot_drop _ _)
theorem cut_mem {α : Type} {l : List α} {lo hi : Option Int} {z : α} (h : z ∈ cutX l lo hi) : z ∈ l := List.mem_of_mem_drop (List.mem_of_mem_take h)
theorem sp1 : (" " : Str).length = 1 := by decide +kernel
theorem join_tot : ∀ {l : List Str}, l ≠ [] → (Txt.join " " l).length + 1 = tot l
  | [], h => absurd rfl h
  | [x], _ => by
    rw [TL.join_eq]
    show x.length + 1 = x.length + 0 + 1
    omega
  | x :: z :: r, _ => by
    have ih := join_tot (l := z :: r) (by simp)
    rw [TL.join_eq] at ih ⊢
    rw [join_two, Str.length_append, Str.length_append, sp1, tot_cons]
    omega
theorem join_le (l : List Str) : (Txt.join " " l).length ≤ tot l := by
  cases l with
  | nil => exact Nat.zero_le _
  | cons x r =>
    have := join_tot (l := x :: r) (by simp)
    omega
theorem so_joins (y : Str) (hy : PyData.strOk y = true) : ∀ {l : List Str}, (∀ p ∈ l, PyData.strOk p = true) → PyData.strOk (Txt.join y l) = true
  | [], _ => by
    rw [TL.join_eq]
    exact (show PyData.strOk Str.empty = true by decide +kernel)
  | [x], h => by
    rw [TL.join_eq]
    exact h x List.mem_cons_self
  | x :: z :: r, h => by
    have ih := so_joins y hy (l := z :: r) fun p hp => h p (List.mem_cons_of_mem _ hp)
    rw [TL.join_eq] at ih ⊢
    rw [join_two]
    exact so_app (so_app (h x List.mem_cons_self) hy) ih
theorem spl_ne (S : List Nat) : ∀ (l : List Nat) (k : Nat) (acc : List Nat), TL.spl S k acc l ≠ []
  | [], k, acc => by
    rw [TL.spl_nil]
    simp
  | c :: r, 0, acc => by
    cases h : TL.pre S (c :: r) with
    | true =>
      rw [TL.spl_hit h]
      simp
    | false =>
      rw [TL.spl_miss h]
      exact spl_ne S r 0 _
  | c :: r, k + 1, acc => spl_ne S r k acc
theorem split_ne (x : Str) : Txt.split x " " ≠ [] := fun z => by
  have e := TL.split_spl x " " (by decide +kernel) (TL.kind_ok (by decide +kernel))
  rw [z] at e
  exact spl_ne _ _ _ _ e.symm
theorem split_tot (x : Str) : tot (Txt.split x " ") = x.length + 1 := by
  rw [← join_tot (split_ne x), TL.join_eq, PySem.StrLaws.join_split]
/-- words of a fit length and of fit signs -/
structure BOk (B : Nat) (l : List Str) : Prop where
  t : tot l ≤ B
  o : ∀ p ∈ l, PyData.strOk p = true
theorem BOk.cut {B : Nat} {l : List Str} (h : BOk B l) {lo hi : Option Int} : BOk B (cutX l lo hi) := ⟨Nat.le_trans (tot_cut _ _ _) h.t, fun p hp => h.o p (cut_mem hp)⟩
theorem BOk.app {B C : Nat} {a b : List Str} (h : BOk B a) (g : BOk C b) : BOk (B + C) (a ++ b) := ⟨by rw [tot_app]; exact Nat.add_le_add h.t g.t, fun p hp => (List.mem_append.mp hp).elim (h.o p) (g.o p)⟩
theorem BOk.one {C : Nat} {z : Str} (h : z.length ≤ C) (o : PyData.strOk z = true) : BOk (C + 1) [z] := ⟨by rw [tot_cons]; show z.length + 1 + 0 ≤ _; omega, fun p hp => by rw [List.mem_singleton.mp hp]; exact o⟩
theorem BOk.len {B : Nat} {l : List Str} (h : BOk B l) : l.length ≤ B := by
  have := h.t
  unfold tot at this
  omega
theorem BOk.sum {B : Nat} {l : List Str} (h : BOk B l) (b : B ≤ 16777216) : (l.map (·.length)).sum + l.length * (" " : Str).length ≤ 16777216 := by
  have := h.t
  unfold tot at this
  rw [sp1]
  omega
theorem BOk.join {B : Nat} {l : List Str} (h : BOk B l) : (Txt.join " " l).length ≤ B ∧ PyData.strOk (Txt.join " " l) = true := ⟨Nat.le_trans (join_le l) h.t, so_joins _ (by decide +kernel) h.o⟩
theorem BOk.cat {B C : Nat} {a b : List Str} (h : BOk B a) (g : BOk C b) (l : B + C ≤ 100000) : a.length + b.length ≤ 100000 := by
  have := h.len
  have := g.len
  omega
theorem BOk.fin {B C : Nat} {l : List Str} (h : BOk B l) (l2 : B ≤ C) : (Txt.join " " l).length ≤ C ∧ PyData.strOk (Txt.join " " l) = true := ⟨Nat.le_trans h.join.1 l2, h.join.2⟩
theorem BOk.split {x : Str} (h : PyData.strOk x = true) : BOk (x.length + 1) (Txt.split x " ") := ⟨Nat.le_of_eq (split_tot x), so_split (by decide +kernel) (by decide +kernel) h⟩
theorem so_cutS {z : Str} {lo hi : Option Int} (h : PyData.strOk z = true) : PyData.strOk (cutS z lo hi) = true := by
  unfold PyData.strOk at h ⊢
  rw [Array.all_eq_true'] at h ⊢
  intro c hc
  refine h c ?_
  unfold cutS at hc
  have hc : c ∈ ((z.cps.toList.drop (HT.sIx z.length 0 lo)).take (HT.sIx z.length z.length hi - HT.sIx z.length 0 lo)) := List.mem_toArray.mp hc
  exact Array.mem_toList_iff.mp (List.mem_of_mem_drop (List.mem_of_mem_take hc))
theorem so_sgn {z : Str} {i : Int} {c : Nat} (h : PyData.strOk z = true) (e : atI z.cps.toList i = some c) : PyData.strOk ⟨#[c]⟩ = true := by
  unfold PyData.strOk at h ⊢
  rw [Array.all_eq_true'] at h ⊢
  intro d hd
  have hd : d = c := by simpa using hd
  rw [hd]
  refine h c (Array.mem_toList_iff.mp ?_)
  unfold atI at e
  cases q : ixN z.cps.toList.length i with
  | none => rw [q] at e; cases e
  | some j => rw [q] at e; exact List.mem_of_getElem? e
/-- three pieces: cut, a sign, cut -/
theorem cs_len {z : Str} {lo hi : Option Int} {c : Nat} (h : z.length ≤ 40000) : (cutS z lo hi).length + (⟨#[c]⟩ : Str).length ≤ sizeLine := by
  have a := cutS_length z lo hi
  have b : (⟨#[c]⟩ : Str).length = 1 := rfl
  exact Nat.le_trans (show _ ≤ 1000000 by omega) (by decide)
theorem csc_len {z : Str} {lo hi lo2 hi2 : Option Int} {c : Nat} (h : z.length ≤ 40000) : (cutS z lo hi ++ (⟨#[c]⟩ : Str)).length + (cutS z lo2 hi2).length ≤ sizeLine := by
  have a := cutS_length z lo hi
  have d := cutS_length z lo2 hi2
  have b : (⟨#[c]⟩ : Str).length = 1 := rfl
  rw [Str.length_append]
  exact Nat.le_trans (show _ ≤ 1000000 by omega) (by decide)
theorem csc_fin {z s : Str} {lo hi lo2 hi2 : Option Int} {c : Nat} {i : Int} (h : PyData.strOk z = true) (hs : PyData.strOk s = true) (e : atI s.cps.toList i = some c) : ((cutS z lo hi ++ (⟨#[c]⟩ : Str)) ++ cutS z lo2 hi2).length ≤ 2 * z.length + 100 ∧ PyData.strOk ((cutS z lo hi ++ (⟨#[c]⟩ : Str)) ++ cutS z lo2 hi2) = true := by
  have a := cutS_length z lo hi
  have d := cutS_length z lo2 hi2
  have b : (⟨#[c]⟩ : Str).length = 1 := rfl
  refine ⟨?_, so_app (so_app (so_cutS h) (so_sgn hs e)) (so_cutS h)⟩
  rw [Str.length_append, Str.length_append]
  omega
theorem Mu.drawM {α : Type} [Rep α] {K : Frag} {T M : Addr → Prop} {H H' : Hp} {D : Addr} {xs : List α} (m : Mu K M H D xs) (x : Ext T H H') (h : ∀ b, T b → M b) (n : ¬ T D) : Mu K M H' D xs := m.ext (Fr.ext (Ext.sub h x)) fun o e => x _ _ n e
end Fw

/-! Fw, part Nt: nets, their states, the law's own nets. -/
namespace Fw
open PySem PySem.Spec PyProof.Rows L2
open He (ga ma eqO eqO_ok)
open Rep (rp)
open Dat (toD)
/-! ### a list against the empty one -/
section
variable {X : Cx}
def rEqE (K : Frag) (neg : Bool) : R2 := fun x y H Q => ∃ p q xs, x = .ref p ∧ y = .ref q ∧ SqL K H p xs ∧ SqL K H q [] ∧ Q (.bl (if neg then !xs.isEmpty else xs.isEmpty)) H
theorem op_eqE (hu : X.A.units + 64 < cLine) : OpR X (compareOp .Eq) (rEqE X.K false) := by
  intro pins s σ H x y v u Q I rx ry h
  obtain ⟨p, q, xs, rfl, rfl, h1, h2, k⟩ := h
  obtain rfl : v = Value.ref p := rx
  obtain rfl : u = Value.ref q := ry
  obtain ⟨us, r1, p1, _⟩ := I.list h1
  obtain ⟨ws, r2, p2, _⟩ := I.list h2
  have w0 : ws.length = 0 := (r2.length).symm
  have hu' : X.A.units < cLine := by omega
  cases xs with
  | nil =>
    have u0 : us.length = 0 := (r1.length).symm
    refine SeqAt.eq_listAt (e := fun _ => true) p1.isList p2.isList (by simp; omega) hu' (fun j j1 j2 => ?_) ?_
    · simp at j1
      omega
    · rw [show ((List.range us.toArray.size).all fun _ => true) = true from List.all_eq_true.mpr fun _ _ => rfl]
      exact ⟨.bl true, H, I, rfl, k⟩
  | cons x xs =>
    have u1 : us.length = xs.length + 1 := (r1.length).symm
    exact SeqAt.eq_list_lengthsAt p1.isList p2.isList (by simp; omega) hu' ⟨.bl false, H, I, rfl, k⟩
theorem op_neE (hu : X.A.units + 64 < cLine) : OpR X (compareOp .NotEq) (rEqE X.K true) := by
  intro pins s σ H x y v u Q I rx ry h
  obtain ⟨p, q, xs, rfl, rfl, h1, h2, k⟩ := h
  obtain rfl : v = Value.ref p := rx
  obtain rfl : u = Value.ref q := ry
  obtain ⟨us, r1, p1, _⟩ := I.list h1
  obtain ⟨ws, r2, p2, _⟩ := I.list h2
  have w0 : ws.length = 0 := (r2.length).symm
  have hu' : X.A.units < cLine := by omega
  cases xs with
  | nil =>
    have u0 : us.length = 0 := (r1.length).symm
    refine SeqAt.RcNeAt.lists (e := fun _ => true) p1.isList p2.isList (by simp; omega) hu' (fun j j1 j2 => ?_) _ _ _ _ ?_
    · simp at j1
      omega
    · rw [show ((List.range us.toArray.size).all fun _ => true) = true from List.all_eq_true.mpr fun _ _ => rfl]
      exact ⟨.bl false, H, I, rfl, k⟩
  | cons x xs =>
    have u1 : us.length = xs.length + 1 := (r1.length).symm
    exact SeqAt.RcNeAt.lists_lengths p1.isList p2.isList (by simp; omega) hu' _ _ _ _ ⟨.bl true, H, I, rfl, k⟩
end
/-! ### states and nets -/
abbrev TD : Type := P3 (List (Int × Int)) (List N3) (List (Int × Int))
structure SO where
  t : TD
def soF (a b c : V) : List (Str × V) := [("all_lines", a), ("all_wishes", b), ("all_fixed", c)]
theorem so_l {a b c : V} : (soF a b c).lookup ("all_lines" : Str) = some a := lkh _ _ _
theorem so_w {a b c : V} : (soF a b c).lookup ("all_wishes" : Str) = some b := by
  unfold soF
  rw [lkn _ _ (by decide +kernel), lkh]
theorem so_f {a b c : V} : (soF a b c).lookup ("all_fixed" : Str) = some c := by
  unfold soF
  rw [lkn _ _ (by decide +kernel), lkn _ _ (by decide +kernel), lkh]
theorem so_new {a b c : V} : putF "all_fixed" c (putF "all_wishes" b (putF "all_lines" a [])) = soF a b c := by
  rw [show (putF "all_lines" a [] : List (Str × V)) = [(("all_lines" : Str), a)] from rfl, pfn _ _ _ (by decide +kernel)]
  rw [show (putF "all_wishes" b [] : List (Str × V)) = [(("all_wishes" : Str), b)] from rfl, pfn _ _ _ (by decide +kernel), pfn _ _ _ (by decide +kernel)]
  rfl
instance : Rep SO := ⟨fun K F v x => ∃ (p dx : Addr) (a b c : V), v = .ref p ∧ F p = some (.ins (ga K "State") dx (soF a b c)) ∧ rp K F a x.t.a ∧ rp K F b x.t.b ∧ rp K F c x.t.c,
  fun s h => let ⟨p, dx, a, b, c, e, h, ra, rb, rc⟩ := h; ⟨p, dx, a, b, c, e, s _ _ h, Rep.up s ra, Rep.up s rb, Rep.up s rc⟩⟩
/-- where a net lies -/
structure NA where
  W : Addr
  dx : Addr
  S : Addr
  Mk : Addr
def nM (X : NA) (b : Addr) : Prop := b = X.W ∨ b = X.S ∨ b = X.Mk
def ntF (S Mk : V) : List (Str × V) := [("states", S), ("marks", Mk)]
section
variable {S Mk v : V}
theorem nt_s : (ntF S Mk).lookup ("states" : Str) = some S := lkh _ _ _
theorem nt_m : (ntF S Mk).lookup ("marks" : Str) = some Mk := by
  unfold ntF
  rw [lkn _ _ (by decide +kernel), lkh]
theorem nt_no {m : Str} (h1 : ¬ m = "states" := by decide +kernel) (h2 : ¬ m = "marks" := by decide +kernel) : (ntF S Mk).lookup m = none := by
  unfold ntF
  rw [lkn _ _ h1, lkn _ _ h2]
  rfl
theorem nt_ps : putF "states" v (ntF S Mk) = ntF v Mk := pfh _ _ _ _
theorem nt_pm : putF "marks" v (ntF S Mk) = ntF S v := by
  unfold ntF
  rw [pfn _ _ _ (by decide +kernel), pfh]
theorem nt_new : putF "marks" Mk (putF "states" S []) = ntF S Mk := by
  rw [show (putF "states" S [] : List (Str × V)) = [(("states" : Str), S)] from rfl, pfn _ _ _ (by decide +kernel)]
  rfl
end
theorem putF_len (f : Str) (v : V) : ∀ fs : List (Str × V), (putF f v fs).length ≤ fs.length + 1
  | [] => Nat.le_refl _
  | (g, w) :: r => by
    by_cases c : g = f
    · rw [c, pfh]
      exact Nat.le_succ _
    · rw [pfn _ _ _ c]
      exact Nat.succ_le_succ (putF_len f v r)
theorem pl0 : ([] : List (Str × V)).length < 1000 := by decide
theorem pl1 {f : Str} {v : V} : (putF f v []).length < 1000 := Nat.lt_of_le_of_lt (putF_len _ _ _) (by decide)
theorem pl2 {f g : Str} {v w : V} : (putF f v (putF g w [])).length < 1000 := Nat.lt_of_le_of_lt (putF_len _ _ _) (Nat.lt_of_le_of_lt (Nat.succ_le_succ (putF_len _ _ _)) (by decide))
theorem plN {S Mk : V} : (ntF S Mk).length < 1000 := show (2 : Nat) < 1000 by decide
structure Nt (K : Frag) (M : Addr → Prop) (H : Hp) (X : NA) (sts : List SO) (ms : List Int) : Prop where
  o : H X.W = some (.ins (ga K "Net") X.dx (ntF (.ref X.S) (.ref X.Mk)))
  s : ∃ vs, H X.S = some (.lst vs) ∧ Paired (fun v x => rp K (Fr M H) v x) vs sts
  m : H X.Mk = some (.lst (ms.map V.int))
  ne : X.S ≠ X.Mk
  sub : ∀ b, nM X b → M b
/-- the state now -/
def topS (sts : List SO) : SO := sts.getLast?.getD ⟨⟨[], [], []⟩⟩
theorem topS_app (sts : List SO) (s : SO) : topS (sts ++ [s]) = s := by
  unfold topS
  rw [List.getLast?_concat]
  rfl
section
variable {K : Frag} {M M' T : Addr → Prop} {H H' : Hp} {X : NA} {sts : List SO} {ms : List Int}
/-- what stands still, seen from a heap where more may change -/
structure Gw (M M' : Addr → Prop) (H H' : Hp) : Prop where
  up : ∀ b, M b → M' b
  new : ∀ b, M' b → M b ∨ H b = none
  x : Ext M H H'
theorem Gw.fr (g : Gw M M' H H') : Same (Fr M H) (Fr M' H') := fun b o e => by
  have n := Fr.no e
  have e := Fr.sub _ _ e
  refine Fr.get (fun z => ?_) (g.x _ _ n e)
  rcases g.new b z with q | q
  · exact n q
  · rw [q] at e
    cases e
theorem Gw.refl : Gw M M H H := ⟨fun _ m => m, fun _ m => .inl m, Ext.refl⟩
theorem Gw.of (x : Ext M H H') : Gw M M H H' := ⟨fun _ m => m, fun _ m => .inl m, x⟩
theorem Gw.trans {M'' : Addr → Prop} {H'' : Hp} (g : Gw M M' H H') (k : Gw M' M'' H' H'') : Gw M M'' H H'' := by
  have ne : ∀ b, ¬ M b → H b ≠ none → H' b ≠ none := fun b n e z => by
    cases q : H b with
    | none => exact e q
    | some o =>
      rw [g.x _ _ n q] at z
      cases z
  refine ⟨fun b m => k.up b (g.up b m), fun b m => ?_, fun b o n e => ?_⟩
  · rcases k.new b m with q | q
    · exact g.new b q
    · by_cases c : M b
      · exact .inl c
      · by_cases d : H b = none
        · exact .inr d
        · exact absurd q (ne b c d)
  · refine k.x _ _ (fun z => ?_) (g.x _ _ n e)
    rcases g.new b z with q | q
    · exact n q
    · rw [q] at e
      cases e
theorem Gw.alloc_new {p : Addr} (g : Gw M M' H H') (al : Alloc M H) (h : H' p = none) (h2 : Alloc M' H') : H p = none := by
  cases e : H p with
  | none => rfl
  | some o =>
    by_cases c : M p
    · exact absurd (g.up p c) (h2.new h)
    · rw [g.x _ _ c e] at h
      cases h
theorem Nt.same (h : Nt K M H X sts ms) (s : Same H H') : Nt K M H' X sts ms := ⟨s _ _ h.o, let ⟨vs, a, b⟩ := h.s; ⟨vs, s _ _ a, Paired.mapP b fun _ _ r => Rep.up (Fr.same s) r⟩, s _ _ h.m, h.ne, h.sub⟩
/-- another net stays -/
theorem Nt.keep (h : Nt K M H X sts ms) (g : Gw M M' H H') (x : Ext T H H') (d : ∀ b, nM X b → ¬ T b) : Nt K M' H' X sts ms :=
  ⟨x _ _ (d _ (.inl rfl)) h.o, let ⟨vs, a, b⟩ := h.s; ⟨vs, x _ _ (d _ (.inr (.inl rfl))) a, Paired.mapP b fun _ _ r => Rep.up g.fr r⟩, x _ _ (d _ (.inr (.inr rfl))) h.m, h.ne, fun b m => g.up b (h.sub b m)⟩
theorem Nt.WS (h : Nt K M H X sts ms) : X.W ≠ X.S := fun z => by
  obtain ⟨vs, a, _⟩ := h.s
  have := h.o
  rw [z, a] at this
  cases this
theorem Nt.WM (h : Nt K M H X sts ms) : X.W ≠ X.Mk := fun z => by
  have := h.o
  rw [z, h.m] at this
  cases this
/-- a state more -/
theorem Nt.push {v : V} {s : SO} {vs : List V} (h : Nt K M H X sts ms) (e : H X.S = some (.lst vs)) (r : rp K (Fr M H) v s) : Nt K M (upd H X.S (.lst (vs ++ [v]))) X (sts ++ [s]) ms ∧ Ext (fun b => b = X.S) H (upd H X.S (.lst (vs ++ [v]))) ∧ Same (Fr M H) (Fr M (upd H X.S (.lst (vs ++ [v])))) := by
  have sm : Same (Fr M H) (Fr M (upd H X.S (.lst (vs ++ [v])))) := Fr.wr (h.sub _ (.inr (.inl rfl)))
  obtain ⟨vs', a, b⟩ := h.s
  rw [e] at a
  cases a
  refine ⟨⟨by rw [upd_ne h.WS]; exact h.o, ⟨_, upd_same, pd_app (Paired.mapP b fun _ _ q => Rep.up sm q) (.cons (Rep.up sm r) .nil)⟩, by rw [upd_ne h.ne.symm]; exact h.m, h.ne, h.sub⟩, fun b o n e => by rw [upd_ne n]; exact e, sm⟩
/-- a mark more -/
theorem Nt.mark {i : Int} (h : Nt K M H X sts ms) : Nt K M (upd H X.Mk (.lst (ms.map V.int ++ [.int i]))) X sts (ms ++ [i]) ∧ Ext (fun b => b = X.Mk) H (upd H X.Mk (.lst (ms.map V.int ++ [.int i]))) := by
  have sm : Same (Fr M H) (Fr M (upd H X.Mk (.lst (ms.map V.int ++ [.int i])))) := Fr.wr (h.sub _ (.inr (.inr rfl)))
  obtain ⟨vs, a, b⟩ := h.s
  refine ⟨⟨by rw [upd_ne h.WM]; exact h.o, ⟨_, by rw [upd_ne h.ne]; exact a, Paired.mapP b fun _ _ q => Rep.up sm q⟩, by rw [upd_same, List.map_append]; rfl, h.ne, h.sub⟩, fun b o n e => by rw [upd_ne n]; exact e⟩
theorem Alloc.wrM {D : Addr} {o : HO} (al : Alloc M H) (q : MutO o) : Alloc M (upd H D o) := fun p m => by
  by_cases e : p = D
  · rw [e, upd_same]
    exact ⟨o, rfl, q⟩
  · rw [upd_ne e]
    exact al p m
end
/-! ### the law's own net -/
structure Ow (K : Frag) (M : Addr → Prop) (H : Hp) (O : Addr) (ost : List TD) (om : List Int) : Prop where
  o : ∃ v w, H O = some (.lst [v, w]) ∧ rp K (Fr M H) v ost ∧ rp K (Fr M H) w om
  sub : M O
section
variable {K : Frag} {M M' T : Addr → Prop} {H H' : Hp} {O : Addr} {ost ost' : List TD} {om om' : List Int}
theorem Ow.same (h : Ow K M H O ost om) (s : Same H H') : Ow K M H' O ost om := ⟨let ⟨v, w, e, a, b⟩ := h.o; ⟨v, w, s _ _ e, Rep.up (Fr.same s) a, Rep.up (Fr.same s) b⟩, h.sub⟩
theorem Ow.keep (h : Ow K M H O ost om) (g : Gw M M' H H') (x : Ext T H H') (d : ¬ T O) : Ow K M' H' O ost om := ⟨let ⟨v, w, e, a, b⟩ := h.o; ⟨v, w, x _ _ d e, Rep.up g.fr a, Rep.up g.fr b⟩, g.up _ h.sub⟩
theorem Ow.set0 {v w u : V} (h : Ow K M H O ost om) (e : H O = some (.lst [v, w])) (r : rp K (Fr M H) u ost') : Ow K M (upd H O (.lst [u, w])) O ost' om ∧ Ext (fun b => b = O) H (upd H O (.lst [u, w])) := by
  have sm : Same (Fr M H) (Fr M (upd H O (.lst [u, w]))) := Fr.wr h.sub
  obtain ⟨v', w', e', a, b⟩ := h.o
  rw [e] at e'
  cases e'
  exact ⟨⟨⟨_, _, upd_same, Rep.up sm r, Rep.up sm b⟩, h.sub⟩, fun b o n e => by rw [upd_ne n]; exact e⟩
theorem Ow.set1 {v w u : V} (h : Ow K M H O ost om) (e : H O = some (.lst [v, w])) (r : rp K (Fr M H) u om') : Ow K M (upd H O (.lst [v, u])) O ost om' ∧ Ext (fun b => b = O) H (upd H O (.lst [v, u])) := by
  have sm : Same (Fr M H) (Fr M (upd H O (.lst [v, u]))) := Fr.wr h.sub
  obtain ⟨v', w', e', a, b⟩ := h.o
  rw [e] at e'
  cases e'
  exact ⟨⟨⟨_, _, upd_same, Rep.up sm a, Rep.up sm r⟩, h.sub⟩, fun b o n e => by rw [upd_ne n]; exact e⟩
end
/-! ### tank, net and own net together -/
def opM (a tc : Addr) (X : NA) (O : Addr) (b : Addr) : Prop := tkM a tc b ∨ nM X b ∨ b = O
structure Nw (K : Frag) (M : Addr → Prop) (a tc : Addr) (N : Nat) (H : Hp) (X : NA) (O : Addr) (sts : List SO) (ms : List Int) (ost : List TD) (om : List Int) : Prop where
  t : Tk a tc N H
  n : Nt K M H X sts ms
  w : Ow K M H O ost om
  al : Alloc M H
  subt : ∀ b, tkM a tc b → M b
  d1 : ∀ b, tkM a tc b → ¬ nM X b
  d2 : ¬ tkM a tc O
  d3 : ¬ nM X O
section
variable {K : Frag} {M M' : Addr → Prop} {H H' : Hp} {a tc O : Addr} {X : NA} {N N' : Nat} {sts sts' : List SO} {ms ms' : List Int} {ost ost' : List TD} {om om' : List Int}
theorem Nw.same (h : Nw K M a tc N H X O sts ms ost om) (s : Same H H') : Nw K M a tc N H' X O sts ms ost om := ⟨h.t.same s, h.n.same s, h.w.same s, h.al.same s, h.subt, h.d1, h.d2, h.d3⟩
theorem Nw.less (h : Nw K M a tc N H X O sts ms ost om) (l : N' ≤ N) : Nw K M a tc N' H X O sts ms ost om := ⟨h.t.less l, h.n, h.w, h.al, h.subt, h.d1, h.d2, h.d3⟩
theorem Nw.sub (h : Nw K M a tc N H X O sts ms ost om) : ∀ b, opM a tc X O b → M b := fun b z => z.elim (h.subt b) fun z => z.elim (h.n.sub b) fun z => z ▸ h.w.sub
theorem Nw.draw (al : Alloc M H) (x : Ext (opM a tc X O) H H') (h : Nw K M a tc N H' X O sts ms ost om) : Alloc M H' := h.al
theorem Nw.fin (h : Nw K M a tc N H X O sts ms ost om) {p : Addr} (e : H p = none) : ¬ opM a tc X O p := fun z => h.al.new e (h.sub p z)
/-- after a draw -/
theorem Nw.tk (h : Nw K M a tc N H X O sts ms ost om) (x : Ext (tkM a tc) H H') (t : Tk a tc N' H') : Nw K M a tc N' H' X O sts ms ost om ∧ Ext (opM a tc X O) H H' := by
  have g : Gw M M H H' := Gw.of (Ext.sub h.subt x)
  refine ⟨⟨t, h.n.keep g x (fun b n m => h.d1 b m n), h.w.keep g x h.d2, fun p m => ?_, h.subt, h.d1, h.d2, h.d3⟩, Ext.sub (fun _ m => .inl m) x⟩
  by_cases c : tkM a tc p
  · exact t.alloc p c
  · obtain ⟨o, e, q⟩ := h.al p m
    exact ⟨o, x _ _ c e, q⟩
/-- after a change of the net alone -/
theorem Nw.nt (h : Nw K M a tc N H X O sts ms ost om) (x : Ext (nM X) H H') (n : Nt K M H' X sts' ms') (al : Alloc M H') : Nw K M a tc N H' X O sts' ms' ost om ∧ Ext (opM a tc X O) H H' := by
  have g : Gw M M H H' := Gw.of (Ext.sub h.n.sub x)
  obtain ⟨ds, m, k, e1, e2, r⟩ := h.t
  exact ⟨⟨⟨ds, m, k, x _ _ (h.d1 _ (.inl rfl)) e1, x _ _ (h.d1 _ (.inr rfl)) e2, r⟩, n, h.w.keep g x h.d3, al, h.subt, h.d1, h.d2, h.d3⟩, Ext.sub (fun _ m => .inr (.inl m)) x⟩
/-- after a change of the own net alone -/
theorem Nw.ow (h : Nw K M a tc N H X O sts ms ost om) (x : Ext (fun b => b = O) H H') (w : Ow K M H' O ost' om') (al : Alloc M H') : Nw K M a tc N H' X O sts ms ost' om' ∧ Ext (opM a tc X O) H H' := by
  have g : Gw M M H H' := Gw.of (Ext.sub (fun b (z : b = O) => by rw [z]; exact h.w.sub) x)
  obtain ⟨ds, m, k, e1, e2, r⟩ := h.t
  exact ⟨⟨⟨ds, m, k, x _ _ (fun z => h.d2 (z ▸ .inl rfl)) e1, x _ _ (fun z => h.d2 (z ▸ .inr rfl)) e2, r⟩, h.n.keep g x (fun b n z => h.d3 (z ▸ n)), w, al, h.subt, h.d1, h.d2, h.d3⟩, Ext.sub (fun _ m => .inr (.inr m)) x⟩
end
/-! ### new nets, nets whose lists are exchanged -/
section
variable {K : Frag} {M M' T : Addr → Prop} {H H0 H' : Hp} {X : NA} {sts sts' : List SO} {ms ms' : List Int} {p : Addr} {vs' : List V}
def MX (M : Addr → Prop) (X : NA) : Addr → Prop := fun b => M b ∨ nM X b
theorem Nt.mk2 {vs : List V} (al : Alloc M H) (s : Same H H') (fr : ∀ b, nM X b → H b = none) (o : H' X.W = some (.ins (ga K "Net") X.dx (ntF (.ref X.S) (.ref X.Mk)))) (es : H' X.S = some (.lst vs)) (pd : Paired (fun v x => rp K (Fr M H) v x) vs sts)
    (em : H' X.Mk = some (.lst (ms.map V.int))) (ne : X.S ≠ X.Mk) : Nt K (MX M X) H' X sts ms ∧ Gw M (MX M X) H H' ∧ Alloc (MX M X) H' := by
  have g : Gw M (MX M X) H H' := ⟨fun b m => .inl m, fun b m => m.elim .inl fun z => .inr (fr b z), Ext.same s⟩
  refine ⟨⟨o, ⟨vs, es, Paired.mapP pd fun _ _ r => Rep.up g.fr r⟩, em, ne, fun b z => .inr z⟩, g, fun b m => ?_⟩
  rcases m with m | m | m | m
  · exact al.same s b m
  · rw [m]
    exact ⟨_, o, rfl⟩
  · rw [m]
    exact ⟨_, es, trivial⟩
  · rw [m]
    exact ⟨_, em, trivial⟩
theorem Nt.setS (h : Nt K M H0 X sts ms) (al : Alloc M H0) (s : Same H0 H) (p0 : H0 p = none) (hp : H p = some (.lst vs')) (pd : Paired (fun v x => rp K (Fr M H0) v x) vs' sts')
    (eH : H' = upd H X.W (.ins (ga K "Net") X.dx (ntF (.ref p) (.ref X.Mk)))) : Nt K (Ad p M) H' ⟨X.W, X.dx, p, X.Mk⟩ sts' ms ∧ Gw M (Ad p M) H0 H' ∧ Alloc (Ad p M) H' ∧ Ext (fun b => b = X.W) H0 H' := by
  subst eH
  have nW : p ≠ X.W := fun z => by rw [z, h.o] at p0; cases p0
  have nM' : p ≠ X.Mk := fun z => by rw [z, h.m] at p0; cases p0
  have x : Ext (fun b => b = X.W) H0 (upd H X.W (.ins (ga K "Net") X.dx (ntF (.ref p) (.ref X.Mk)))) := fun b o n e => by rw [upd_ne n]; exact s _ _ e
  have g : Gw M (Ad p M) H0 (upd H X.W (.ins (ga K "Net") X.dx (ntF (.ref p) (.ref X.Mk)))) := ⟨fun b m => .inr m, fun b m => m.elim (fun z => .inr (by rw [z]; exact p0)) .inl, Ext.sub (fun b (z : b = X.W) => by rw [z]; exact h.sub _ (.inl rfl)) x⟩
  refine ⟨⟨upd_same, ⟨vs', by show upd _ _ _ p = _; rw [upd_ne nW]; exact hp, Paired.mapP pd fun _ _ r => Rep.up g.fr r⟩, by show upd _ _ _ X.Mk = _; rw [upd_ne h.WM.symm]; exact s _ _ h.m, nM', fun b z => ?_⟩, g, fun b m => ?_, x⟩
  · rcases z with z | z | z
    · exact .inr (h.sub _ (.inl z))
    · exact .inl z
    · exact .inr (h.sub _ (.inr (.inr z)))
  · by_cases c : b = X.W
    · rw [c, upd_same]
      exact ⟨_, rfl, rfl⟩
    · rw [upd_ne c]
      rcases m with m | m
      · rw [m]
        exact ⟨_, hp, trivial⟩
      · exact al.same s b m
theorem Nt.setM (h : Nt K M H0 X sts ms) (al : Alloc M H0) (s : Same H0 H) (p0 : H0 p = none) (hp : H p = some (.lst (ms'.map V.int)))
    (eH : H' = upd H X.W (.ins (ga K "Net") X.dx (ntF (.ref X.S) (.ref p)))) : Nt K (Ad p M) H' ⟨X.W, X.dx, X.S, p⟩ sts ms' ∧ Gw M (Ad p M) H0 H' ∧ Alloc (Ad p M) H' ∧ Ext (fun b => b = X.W) H0 H' := by
  subst eH
  obtain ⟨vs, eS, pd⟩ := h.s
  have nW : p ≠ X.W := fun z => by rw [z, h.o] at p0; cases p0
  have nS : X.S ≠ p := fun z => by rw [← z, eS] at p0; cases p0
  have x : Ext (fun b => b = X.W) H0 (upd H X.W (.ins (ga K "Net") X.dx (ntF (.ref X.S) (.ref p)))) := fun b o n e => by rw [upd_ne n]; exact s _ _ e
  have g : Gw M (Ad p M) H0 (upd H X.W (.ins (ga K "Net") X.dx (ntF (.ref X.S) (.ref p)))) := ⟨fun b m => .inr m, fun b m => m.elim (fun z => .inr (by rw [z]; exact p0)) .inl, Ext.sub (fun b (z : b = X.W) => by rw [z]; exact h.sub _ (.inl rfl)) x⟩
  refine ⟨⟨upd_same, ⟨vs, by show upd _ _ _ X.S = _; rw [upd_ne h.WS.symm]; exact s _ _ eS, Paired.mapP pd fun _ _ r => Rep.up g.fr r⟩, by show upd _ _ _ p = _; rw [upd_ne nW]; exact hp, nS, fun b z => ?_⟩, g, fun b m => ?_, x⟩
  · rcases z with z | z | z
    · exact .inr (h.sub _ (.inl z))
    · exact .inr (h.sub _ (.inr (.inl z)))
    · exact .inl z
  · by_cases c : b = X.W
    · rw [c, upd_same]
      exact ⟨_, rfl, rfl⟩
    · rw [upd_ne c]
      rcases m with m | m
      · rw [m]
        exact ⟨_, hp, trivial⟩
      · exact al.same s b m
end
section
variable {K : Frag} {H1 : Hp} {M : Addr → Prop} {Q : Addr → Hp → Prop} {α β : Type} [Rep α] [Rep β] {J : It} {g : TG} {tt : TT} {te : TE} {vs : List Nat} {σ : L2.St}
/-- a comprehension that picks; its list is a new one -/
theorem lc_filtD {xs : List α} (p : α → Bool) (f : α → β) (T : TW K M H1 J xs) (al : Alloc M H1) (hz : xs.length ≤ 1000000)
    (step : ∀ (i : Nat) (x : α) (u : V) (H : Hp) (M' : Addr → Prop) (C : V → Hp → Prop) (C0 : Hp → Prop), xs[i]? = some x → Same (Fr M H1) (Fr M' H) → Alloc M' H → Same H1 H → rp K (Fr M' H) u x →
      (p x = true → ∀ w H4, Same H H4 → rp K (Fr M' H4) w (f x) → C w H4) → (p x = false → ∀ H4, Same H H4 → C0 H4) → g u (wipe σ vs) H fun σ2 H2 => wipe σ2 vs = wipe σ vs ∧ tt σ2 H2 fun b H3 => if b = true then te σ2 H3 C else C0 H3)
    (k : ∀ D H', H1 D = none → Same H1 H' → rp K (Fr M H') (.ref D) ((xs.filter p).map f) → Q D H') : ∀ D, H1 D = none → LcW J H1 g tt te vs σ D (Q D) := fun D hD =>
  have e : (fun H' => H1 D = none → Q D H') = Q D := funext fun H' => propext ⟨fun z => z hD, fun q _ => q⟩
  e ▸ lc_filt (Q := fun D' H' => H1 D' = none → Q D' H') p f T al hz step (fun D' H' s r n => k D' H' n s r) D hD
end
/-! ### pieces of lists -/
section
variable {α β : Type} {F : α → β → Prop}
theorem cutX_len {α : Type} (xs : List α) (lo hi : Option Int) : (cutX xs lo hi).length ≤ xs.length := by
  unfold cutX
  rw [List.length_take, List.length_drop]
  omega
theorem pd_last {α β : Type} {F : α → β → Prop} : ∀ {l₁ : List α} {l₂ : List β}, Paired F l₁ l₂ → ∀ {x : β}, l₂.getLast? = some x → ∃ u, l₁.getLast? = some u ∧ F u x
  | _, _, .nil, _, h => by cases h
  | [a], [b], .cons h .nil, x, e => by
    cases e
    exact ⟨a, rfl, h⟩
  | a :: a2 :: l, b :: b2 :: m, .cons _ (.cons h t), x, e => by
    rw [List.getLast?_cons_cons] at e ⊢
    exact pd_last (.cons h t) e
theorem atI_last {α : Type} {xs : List α} {x : α} (h : xs.getLast? = some x) : atI xs (-1) = some x := by
  have n : xs ≠ [] := fun z => by rw [z] at h; cases h
  have l := List.length_pos_iff.mpr n
  unfold atI ixN
  rw [if_neg (by decide), if_pos (by omega)]
  show xs[((-1 : Int) + xs.length).toNat]? = _
  rw [show ((-1 : Int) + xs.length).toNat = xs.length - 1 by omega, ← List.getLast?_eq_getElem?]
  exact h
/-- all but the last -/
theorem cutX_init {α : Type} (xs : List α) : cutX xs none (some (-1)) = xs.dropLast := by
  unfold cutX
  show (xs.drop (HT.sIx xs.length 0 none)).take (HT.sIx xs.length xs.length (some (-1)) - HT.sIx xs.length 0 none) = _
  rw [show HT.sIx xs.length 0 none = 0 from rfl, List.drop_zero, Nat.sub_zero, List.dropLast_eq_take]
  congr 1
  unfold HT.sIx
  simp
  omega
theorem pd_cut {lo hi : Option Int} {l₁ : List α} {l₂ : List β} (h : Paired F l₁ l₂) : Paired F (cutX l₁ lo hi) (cutX l₂ lo hi) := by
  unfold cutX
  rw [h.length]
  exact pd_take (pd_drop h _) _
end
section
variable {K : Frag} {M : Addr → Prop} {H F : Hp} {O : Addr} {ost : List TD} {om : List Int} {Q : VK} {v : V} {x : Int} {xs : List Int}
theorem ow_0 (h : Ow K M H O ost om) (k : ∀ u, rp K (Fr M H) u ost → Q u H) : sq2 (rIxL K) (.ref O) (.int 0) H Q := by
  rw [sq2_eq]
  obtain ⟨v, w, e, a, b⟩ := h.o
  exact ⟨O, _, 0, v, rfl, rfl, SqL.of e, at0, k v a⟩
theorem ow_1 (h : Ow K M H O ost om) (k : ∀ u, rp K (Fr M H) u om → Q u H) : sq2 (rIxL K) (.ref O) (.int 1) H Q := by
  rw [sq2_eq]
  obtain ⟨v, w, e, a, b⟩ := h.o
  exact ⟨O, _, 1, w, rfl, rfl, SqL.of e, rfl, k w b⟩
theorem rd_nin (h : rp K F v xs) (hF : Same F H) (k : Q (.bl (!decide (x ∈ xs))) H) : sq2 (rIn K true) (.int x) v H Q := by
  rw [sq2_eq]
  obtain ⟨p, rfl, e⟩ := rp_ints h
  exact ⟨p, _, rfl, .inl (SqL.of (hF _ _ e)), rfl, flat_ints xs, by rw [show (if true = true then !inV (.int x) (xs.map V.int) else inV (.int x) (xs.map V.int)) = !inV (.int x) (xs.map V.int) from rfl, inV_ints]; exact k⟩
end
end Fw

/-! Fw, part Ht: defs that are called while an error is handled. -/
namespace Fw
open PySem PySem.Spec PyProof.Rows L2
open He (ga ma eqO eqO_ok)
section
variable {X : Cx} {k : Nat} {f C : Addr} {fd : FuncData} {ps : List Str} {sp : SpE} {E : XK} {x m : Str} {p pos apos : Pos} {e o : Expr} {es : List Expr} {t : TA} {ta : TE} {a0 : Addr} {cls : Value} {d : Option Addr}
theorem Has.get {pins : List (Addr × Obj)} {σ : L2.St} {H : Hp} {s : Shared} (h : Has X a0 cls d) (I : Inv X pins σ H s) : ∃ oe, L2H.PinOk X.stack H s (a0, oe) ∧ ErrOf (a0, oe) cls d := by
  obtain ⟨oe, hp, err⟩ := h.ex
  have P1 := I.pin (a0, oe) (List.mem_append_left _ hp)
  exact ⟨oe, ⟨P1.1, P1.2.1, fun m => (List.mem_cons.mp (I.stkSub _ m)).elim P1.2.2.1 P1.2.2.2.1, P1.2.2.2.2⟩, err⟩
theorem run_fnE {pins : List (Addr × Obj)} {σ : L2.St} {H : Hp} {s : Shared} {Q : VK} {us : List Value} {vs : List V} (F : FnE X.prog X.w X.K X.mg X.base (L2.CX X.prog X.w) k f fd ps sp) (hr : L2H.RoomH k X.A) (hc : Has X a0 cls d) (hb : L2.Binds X.K fd ps []) (hx : Passes (L2.CX X.prog X.w) X E)
    (I : Inv X pins σ H s) (r : Vals vs us) (q : sp a0 cls d vs H Q E) : wpAny (model X.prog X.w) X.A (call (.ref f) us) (EP X pins σ Q) X.xe s := by
  have len : us.length = ps.length := by rw [← r.length]; exact F.count _ _ _ _ _ _ _ q
  obtain ⟨oe, pin, err⟩ := hc.get I
  refine wpAny_call (codeAny_mono (F.go X.A X.stack s H ⟨us, []⟩ us vs Q E (a0, oe) cls d hr pin err I.env0 (by have b := hb s us I.kIn (by rw [List.append_nil]; exact len); rw [List.append_nil] at b; exact b) r q) fun z s' q => ?_)
  match z, q with
  | .error e, q => exact hx pins σ H s e s' I q
  | .ok (.ret u), q => exact I.after q
theorem run_fnE1 {pins : List (Addr × Obj)} {σ : L2.St} {H : Hp} {s : Shared} {Q : VK} {us : List Value} {vs : List V} (F : FnE X.prog X.w X.K X.mg X.base (L2.CX X.prog X.w) k f fd ps sp) (hr : L2H.RoomH (k + 1) X.A) (hc : Has X a0 cls d) (hb : L2.Binds X.K fd ps []) (hx : Passes (L2.CX X.prog X.w) X E)
    (I : Inv X pins σ H s) (r : Vals vs us) (q : sp a0 cls d vs H Q E) : wpAny (model X.prog X.w) X.A.in1 (call (.ref f) us) (EP X pins σ Q) X.xe s := by
  have len : us.length = ps.length := by rw [← r.length]; exact F.count _ _ _ _ _ _ _ q
  obtain ⟨oe, pin, err⟩ := hc.get I
  have r1 : L2H.RoomH k X.A.in1 := ⟨by have := hr.dp; simp; omega, by have := hr.un; simp; omega⟩
  have e0 : Env0 X.prog X.w X.K X.mg X.base X.A.in1 X.stack s H := by
    have e := I.env0
    exact ⟨e.frames, e.mod, e.bs, e.bsz, e.funs, e.frf, e.hok, e.bare⟩
  refine wpAny_call (codeAny_mono (F.go X.A.in1 X.stack s H ⟨us, []⟩ us vs Q E (a0, oe) cls d r1 pin err e0 (by have b := hb s us I.kIn (by rw [List.append_nil]; exact len); rw [List.append_nil] at b; exact b) r q) fun z s' q => ?_)
  match z, q with
  | .error e, q => exact hx pins σ H s e s' I q
  | .ok (.ret u), q => exact I.after q
/-- o.m() in a try: the slots at the raise are those at the call -/
def tMeth0S (C : Addr) (m : Str) (sp : Sp) (E : L2.St → XK) (ta : TE) : TE := fun σ H Q => ta σ H fun x H1 => ∃ a dx fs, x = .ref a ∧ H1 a = some (.ins C dx fs) ∧ fs.lookup m = none ∧ sp [x] H1 Q (E σ)
theorem pe_meth0S {sp : Sp} {E : L2.St → XK} {pl : Sem Bool} (he : PE X o ta) (c : Cls X.K C) (hm : Meth X.K C m f) (F : FnOk X.prog X.w X.K X.mg X.base (L2.CX X.prog X.w) k f fd ps sp) (hr : Room k X.A) (hb : L2.Binds X.K fd ps []) (hx : ∀ σ, L2.PassesAt (L2.CX X.prog X.w) X σ (E σ))
    (ht : eval (.Call (.Attribute o m apos) [] [] pos) X.env = (do
      let ov ← eval o X.env
      standAt apos.atName
      let (f, first) ← holding [ov] (getMethod ov m pl)
      callWith pos f first (backTo pos (starEach [] X.env)) (backToKw pos (keywordEach [] X.env))) := by rfl) :
    PE X (.Call (.Attribute o m apos) [] [] pos) (tMeth0S C m sp E ta) := by
  refine ⟨fun pins s σ H Q I h => ?_⟩
  refine PySem.W.methodCall_KW (pl := pl) (thn (he.run pins s σ H _ I h) fun u s1 ⟨x, H1, I1, rx, a, dx, fs, ex, ea, l, q⟩ => ?_) ht
  subst ex
  obtain rfl : u = Value.ref a := rx
  refine getmeth_ok I1 ea c hm l ?_
  exact PySem.W.callWith_K0 (first := [.ref a]) I1.kIn hm.kp (L2.run_fnS (us := [.ref a]) (vs := [.ref a]) F hr hb (hx σ) I1 (.cons rfl .nil) q)
/-- o.m() while an error is handled -/
theorem pe_meth0E {pl : Sem Bool} (he : PE X o ta) (c : Cls X.K C) (hm : Meth X.K C m f) (F : FnE X.prog X.w X.K X.mg X.base (L2.CX X.prog X.w) k f fd ps sp) (hr : L2H.RoomH k X.A) (hc : Has X a0 cls d) (hb : L2.Binds X.K fd ps []) (hx : Passes (L2.CX X.prog X.w) X E)
    (ht : eval (.Call (.Attribute o m apos) [] [] pos) X.env = (do
      let ov ← eval o X.env
      standAt apos.atName
      let (f, first) ← holding [ov] (getMethod ov m pl)
      callWith pos f first (backTo pos (starEach [] X.env)) (backToKw pos (keywordEach [] X.env))) := by rfl) :
    PE X (.Call (.Attribute o m apos) [] [] pos) (tMeth C m (sp a0 cls d) [] E ta tNil) := by
  refine ⟨fun pins s σ H Q I h => ?_⟩
  refine PySem.W.methodCall_KW (pl := pl) (thn (he.run pins s σ H _ I h) fun u s1 ⟨x, H1, I1, rx, a, dx, fs, ex, ea, l, q⟩ => ?_) ht
  subst ex
  obtain rfl : u = Value.ref a := rx
  refine getmeth_ok I1 ea c hm l ?_
  exact PySem.W.callWith_K0 (first := [.ref a]) I1.kIn hm.kp (run_fnE (us := [.ref a]) (vs := [.ref a]) F hr hc hb hx I1 (.cons rfl .nil) q)
theorem run_makeE {pins : List (Addr × Obj)} {σ : L2.St} {H : Hp} {s : Shared} {Q : VK} {us : List Value} {vs : List V} (M : Mk X.K C f) (F : FnE X.prog X.w X.K X.mg X.base (L2.CX X.prog X.w) k f fd ps sp) (hr : L2H.RoomH (k + 1) X.A) (hc : Has X a0 cls d) (hb : L2.Binds X.K fd ps [])
    (hx : Passes (L2.CX X.prog X.w) X E) (I : Inv X pins σ H s) (r : Vals vs us)
    (h : ∀ x dx, H x = none → H dx = none → dx ≠ x → sp a0 cls d (.ref x :: (vs ++ [])) (upd (upd H dx (.own x)) x (.ins C dx [])) (fun v H2 => v = .non ∧ Q (.ref x) H2) E) :
    wpAny (model X.prog X.w) X.A (call (.ref C) us) (EP X pins σ Q) X.xe s := by
  have hq := h (s.heap.objs.size + 1) s.heap.objs.size (I.hok.fresh (Nat.le_succ _)) (I.hok.fresh (Nat.le_refl _)) (Nat.ne_of_lt (Nat.lt_succ_self _))
  have I2 := Inv.made (C := C) I
  have r2 : Vals (V.ref (s.heap.objs.size + 1) :: (vs ++ [])) (Value.ref (s.heap.objs.size + 1) :: (us ++ [])) := .cons rfl (r.append .nil)
  have hl : (Value.ref (s.heap.objs.size + 1) :: us ++ []).length = ps.length := by
    have e := r2.length
    rw [F.count _ _ _ _ _ _ _ hq] at e
    exact e.symm
  obtain ⟨oe, pin, err⟩ := hc.get I2
  refine wpAny_call (make_map (f := f) I.kIn M.makes M.init (beq_iff_eq.mp M.fn) (codeAny_mono (F.go _ X.stack _ _ ⟨Value.ref (s.heap.objs.size + 1) :: us, []⟩ (Value.ref (s.heap.objs.size + 1) :: (us ++ [])) _ _ E (a0, oe) cls d (hr.make C us []) pin err
    (I2.env0.make C us []) (by have b := hb _ (Value.ref (s.heap.objs.size + 1) :: us) I2.kIn hl; rw [List.append_nil] at b ⊢; exact b) r2 hq) fun r s' hq' => ?_))
  match r, hq' with
  | .error e, q => exact hx pins σ _ _ e s' I2 q
  | .ok (.ret u), q =>
    obtain ⟨v, H', I3, rv, ev, q3⟩ := I2.after q
    subst ev
    exact ⟨rv, ⟨V.ref (s.heap.objs.size + 1), H', I3, rfl, q3⟩⟩
theorem pe_makeE (M : Mk X.K C f) (F : FnE X.prog X.w X.K X.mg X.base (L2.CX X.prog X.w) k f fd ps sp) (hr : L2H.RoomH (k + 1) X.A) (hc : Has X a0 cls d) (hg : Gl X x) (hm : X.mg x = some (.ref C)) (hb : L2.Binds X.K fd ps []) (hx : Passes (L2.CX X.prog X.w) X E)
    (ha : PA X (e :: es) t) (hdb : (x == ("__debug__" : Str)) = false := by decide) (he : starEach (e :: es) X.env = (false, eval e X.env) :: starEach es X.env := by rfl) (hpl : (backTo pos (starEach es X.env)).any (fun q => q.1) = false := by rfl) :
    PE X (.Call (.Name x p) (e :: es) [] pos) (tMake C (sp a0 cls d) [] E t) := by
  refine ⟨fun pins s σ H Q I h => ?_⟩
  refine wpAny_Call_Name_kw (ld_glob I hg hm ?_ hdb)
  refine PySem.W.callWith_K (h₀ := X.base) I.ok.mod.kin M.kp (thn (ha.run pos pins s σ H _ I h) fun us s1 ⟨vs, H1, I1, r, q⟩ => ⟨I1.kIn, ?_⟩) he hpl
  exact run_makeE M F hr hc hb hx I1 r q
theorem call_lenOE (c : LenOf X.K C f) (F : FnE X.prog X.w X.K X.mg X.base (L2.CX X.prog X.w) k f fd ps sp) (hr : L2H.RoomH (k + 1) X.A) (hc : Has X a0 cls d) (hb : L2.Binds X.K fd ps []) (hx : Passes (L2.CX X.prog X.w) X E) :
    CallR X (.builtin "len") (fun xs H Q => ∃ a dx fs, xs = [.ref a] ∧ H a = some (.ins C dx fs) ∧ sp a0 cls d [.ref a] H (fun v H' => (∃ i : Int, v = .int i ∧ 0 ≤ i ∧ i < 2 ^ 63) ∧ Q v H') E) := by
  intro pins s σ H xs us Q I r h
  obtain ⟨a, dx, fs, rfl, ha, q⟩ := h
  obtain ⟨u, rfl, ru⟩ := vals1 r
  obtain rfl : u = Value.ref a := ru
  obtain ⟨mA, OA, _⟩ := ins_get I.hok ha
  obtain ⟨od, JA, _⟩ := OA.look
  obtain ⟨mm, fr⟩ := I.fr
  refine PySem.W.len_K fr I.ok.mod.kin JA c.at_ c.fn ?_
  have w := run_fnE1 (us := [.ref a]) (vs := [.ref a]) F hr hc hb hx I (.cons rfl .nil) q
  refine wpAny_mono w (fun v s' hv => ?_) fun _ _ z => z
  obtain ⟨y, H', I', rv, ⟨i, rfl, h0, h1⟩, q2⟩ := hv
  obtain ⟨t, rfl⟩ := rv
  exact ⟨⟨h0, h1⟩, .int i, H', I'.tok _, ⟨_, rfl⟩, q2⟩
theorem roomU {k : Nat} {A : Around} (r : L2H.RoomH k A) : A.units + 64 < cLine := by
  have := r.un
  omega
theorem okqE {sp : Sp} {P : Program} {w : World} {K : PySem.W.Frag} {mg : Str → Option Value} {base : Heap} {CX : CXT} (h : FnE P w K mg base CX k f fd ps (fun _ _ _ => sp)) : FnE P w K mg base CX k f fd ps (fun _ _ _ => sq sp) := by
  rw [sq_eq]
  exact h
end
end Fw

/-! Ranges whose ends may lie anywhere. Own work. -/
namespace L2
open PySem PySem.Spec PyProof.Rows
theorem turn_long {P : Program} {w : World} {K : PySem.W.Frag} {tg : Expr} (it : Addr) (lo : Int) (n : Nat) : Turn P w K tg (Itr lo n) [it] it (fun i h => IsLongIter h it (lo + (i : Nat) * 1) ((n : Int) - (i : Nat)) 1) where
  mem := by simp
  obj := fun i h st b hb => by
    have e : b = it := by simpa using hb
    subst e
    exact ⟨_, st, fun v z => by
      have z' : Data.fields _ = Data.cell v := z
      cases z'⟩
  keep := fun i h h' st k => k it (by simp) _ st
  item := by
    intro X hP hw hK hc i pins s σ H E I hf st hg
    subst hP hw hK
    obtain ⟨f0, f1, f2, f3, f4, f5⟩ := hf it (by simp)
    have W := Walks.longrange (prog := X.prog) (w := X.w) (I.ok.hd hc) it lo 1 n
    refine W.item i s _ _ hg st fun v h' tk hv st' kk => ?_
    obtain ⟨t, rfl⟩ := hv
    have I1 : Inv X pins σ H { s with heap := h', toks := tk } := I.turned (fun b o hb e => kk b o (by simpa using hb) e) f0 f1 f3 f4 f5
    refine ⟨_, rfl, go_of (s := { s with heap := h', toks := tk }) (n := "longrange_iterator") st' rfl rfl (by decide) ⟨.int (lo + i), H, I1, ⟨t, ?_⟩, ⟨rfl, rfl⟩, st', fun b hb => (hf b hb).1⟩⟩
    rw [Int.mul_one]
  done := by
    intro X hP hw hK hc i pins s σ H E I hf st hg
    subst hP hw hK
    obtain ⟨f0, f1, f2, f3, f4, f5⟩ := hf it (by simp)
    exact wpAny_pyNext_long_end (I.ok.hd hc) st (by have : n ≤ i := hg; omega) fun h' eb => ⟨rfl, I.turned (t' := s.toks) (fun b o hb e => eb b o hb e) f0 f1 f3 f4 f5⟩
  self := fun _ _ _ _ _ st h => wpAny_pyIter_longiter st h
section
variable {X : Cx} {tg : Expr}
theorem range_itW {pins : List (Addr × Obj)} {σ : St} {H : Hp} {s : Shared} {R : It → Hp → Prop} {E : Value → Shared → Prop} {lo hi : Int} {t u v : Tok} {tk : Nat} (I : Inv X pins σ H s)
    (q : R (Itr lo (hi - lo).toNat) H) : wpAny (model X.prog X.w) X.A (pyIter (.ref s.heap.objs.size)) (PIE X pins σ tg R) E { s with heap := s.heap.push { cls := .type "range", data := .fields #[.int lo t, .int hi u, .int 1 v] }, toks := tk } := by
  have I1 : Inv X pins σ H { s with heap := s.heap.push { cls := .type "range", data := .fields #[.int lo t, .int hi u, .int 1 v] }, toks := tk } := I.kept fun b o e => Heap.get?_push_of_some _ e
  have e1 : lo + ((0 : Nat) : Int) * 1 = lo := by simp
  have e2 : (((hi - lo).toNat : Nat) : Int) - ((0 : Nat) : Int) = Builtin.Range.rangeSize lo hi 1 := by rw [rangeSize_one]; split <;> omega
  have fp : ∀ b ∈ [(s.heap.push { cls := .type "range", data := .fields #[.int lo t, .int hi u, .int 1 v] }).objs.size], FpOk X pins H b := fun b hb => by
    have e : b = (s.heap.push { cls := .type "range", data := .fields #[.int lo t, .int hi u, .int 1 v] }).objs.size := by simpa using hb
    subst e
    exact I1.fpOk (Nat.le_refl _) (I1.hok.fresh (Nat.le_refl _))
  by_cases hs : Builtin.Range.small lo hi 1 = true
  · refine wpAny_pyIter_range (IsRange.new ..) hs ?_
    refine ⟨(s.heap.push { cls := .type "range", data := .fields #[.int lo t, .int hi u, .int 1 v] }).objs.size, [(s.heap.push { cls := .type "range", data := .fields #[.int lo t, .int hi u, .int 1 v] }).objs.size], _, _, H, rfl,
      I1.kept (t' := tk) fun b o e => Heap.get?_push_of_some _ e, turn_range _ lo (hi - lo).toNat, ?_, fp, q⟩
    show IsRangeIter _ _ (lo + ((0 : Nat) : Int) * 1) ((((hi - lo).toNat : Nat) : Int) - ((0 : Nat) : Int)) 1
    rw [e1, e2]
    exact Heap.get?_push_size _ rfl
  · refine wpAny_pyIter_longrange (IsRange.new ..) (by simpa using hs) ?_
    refine ⟨(s.heap.push { cls := .type "range", data := .fields #[.int lo t, .int hi u, .int 1 v] }).objs.size, [(s.heap.push { cls := .type "range", data := .fields #[.int lo t, .int hi u, .int 1 v] }).objs.size], _, _, H, rfl,
      I1.kept (t' := tk) fun b o e => Heap.get?_push_of_some _ e, turn_long _ lo (hi - lo).toNat, ?_, fp, q⟩
    show IsLongIter _ _ (lo + ((0 : Nat) : Int) * 1) ((((hi - lo).toNat : Nat) : Int) - ((0 : Nat) : Int)) 1
    rw [e1, e2]
    exact Heap.get?_push_size _ rfl
def iRng2W (ta : TA) : TI := fun σ H R => ta σ H fun vs H1 => ∃ i j : Int, vs = [.int i, .int j] ∧ R (Itr i (j - i).toNat) H1
theorem pi_range2W {a b : Expr} {ta : TA} {p pos : Pos} (hg : Gl X "range") (hm : X.mg "range" = none) (ha : PA X [a, b] ta) (hs : starEach [a, b] X.env = [(false, eval a X.env), (false, eval b X.env)] := by rfl) (hs2 : starEach [b] X.env = [(false, eval b X.env)] := by rfl) :
    PI X tg (.Call (.Name "range" p) [a, b] [] pos) (iRng2W ta) := by
  refine ⟨fun pins s σ H R I h => ?_⟩
  refine Call_ (ld_blt I hg hm boot_range (PyProof.Rows.callWith_type1 (thn (ha.run pos pins s σ H _ I h) fun us s1 ⟨vs, H1, I1, r1, q1⟩ => ?_) (by rw [hs, hs2]) (by rw [hs2]; rfl)))
  obtain ⟨i, j, e, q⟩ := q1
  subst e
  cases r1 with
  | cons r rr =>
    cases rr with
    | cons r' rr =>
      cases rr
      obtain ⟨t, rfl⟩ := r
      obtain ⟨t', rfl⟩ := r'
      exact call_range_2 (range_itW I1 q)
end
end L2

namespace Fw
/-- what two ways share: the goal after them, found by the first that comes to it (apply share) -/
theorem share {P G : Prop} (f : P → G) (p : P) : G := f p
/-- the same, where the ways bring their own value and heap; the first way must bring variables -/
theorem share2 {α β : Type} {P : α → β → Prop} {G : Prop} (R : α → β → Prop) (f : (∀ a b, R a b → P a b) → G) (p : ∀ a b, R a b → P a b) : G := f p
open PySem PySem.Spec PyProof.Rows L2
open He (ga)
/-- isinstance against a class of the program -/
def cKit (x y : Str) (b : Bool) : Ck := fun K => decide (PySem.W.kitOne K (.ref (ga K x)) (.ref (ga K y)) = some b)
theorem kit_of {K : Frag} {x y : Str} {b : Bool} (c : cKit x y b K = true) : PySem.W.kitOne K (.ref (ga K x)) (.ref (ga K y)) = some b := of_decide_eq_true c
/-- type(an instance) is asked for as for any object -/
def cTyp (x : Str) : Ck := fun K => He.eqO (PySem.W.findIn K (.ref (ga K x)) "__class__") (some (some (.builtin "object.__class__"))) && (He.eqO (PySem.W.specialIn K (.builtin "object.__class__") "__get__") (some (some (.builtin "getset_descriptor.__get__"))) &&
  (decide (PySem.W.takesIn K (.builtin "object.__class__") = some true) && decide (PySem.W.mroIn K (ga K x) (.type "object") = some true)))
structure Typ (K : Frag) (C : Addr) : Prop where
  ha : PySem.W.findIn K (.ref C) "__class__" = some (some (.builtin "object.__class__"))
  hn : PySem.W.specialIn K (.builtin "object.__class__") "__get__" = some (some (.builtin "getset_descriptor.__get__"))
  tk : PySem.W.takesIn K (.builtin "object.__class__") = some true
  hm : PySem.W.mroIn K C (.type "object") = some true
theorem typ_of {K : Frag} {x : Str} (c : cTyp x K = true) : Typ K (ga K x) := by
  obtain ⟨c1, c⟩ := Bool.and_eq_true_iff.mp c
  obtain ⟨c2, c⟩ := Bool.and_eq_true_iff.mp c
  obtain ⟨c3, c4⟩ := Bool.and_eq_true_iff.mp c
  exact ⟨He.eqO_ok c1, He.eqO_ok c2, of_decide_eq_true c3, of_decide_eq_true c4⟩
theorem Typ.line {K : Frag} {H : Hp} {a : Addr} {k : LK} {n : N3} (t : Typ K (cA K k)) (L : LnF K) (h : LnAt K H a k n) : TyX K H (.ref a) (.ref (cA K k)) := by
  obtain ⟨dx, e⟩ := h
  exact .base (.ins e (L.cls k) t.ha t.hn t.tk t.hm)
theorem kn_inj {j k : LK} (h : kn j = kn k) : j = k := by
  cases j <;> cases k <;> first | rfl | exact absurd h (by decide +kernel)
theorem kn_walk {k : LK} (h : V.str (kn k) = V.str ("walk" : Str)) : k = .walk := kn_inj (V.str.inj h)
theorem kn_stop {k : LK} (h : V.str (kn k) = V.str ("stop" : Str)) : k = .stop := kn_inj (V.str.inj h)
end Fw

namespace My
open PySem PySem.Spec PyProof.Rows L2 Fw
open He (ga ma)
open Rep (rp)
abbrev PP : Program := PySem.Challenge.pw_onwardlines_k32_lines_compared_start_by
def top (i : Nat) : Stmt := PySem.Challenge.pw_onwardlines_k32_lines_compared_start_by.main.body.getD i (.Pass ⟨0, 0, 0, 0⟩)
abbrev s_is_integer : Stmt := top 15
abbrev s_are_numbers : Stmt := top 16
abbrev s_Line_init : Stmt := inClass (top 19) 1
abbrev s_Walk_init : Stmt := inClass (top 20) 1
abbrev s_Stop_init : Stmt := inClass (top 21) 1
abbrev s_Line_every : Stmt := inClass (top 19) 2
abbrev s_Line_at : Stmt := inClass (top 19) 3
abbrev s_Line_ride : Stmt := inClass (top 19) 4
abbrev s_Line_departure : Stmt := inClass (top 19) 6
abbrev s__law_tape : Stmt := top 23
abbrev s__law_next : Stmt := top 24
abbrev s__law_chain : Stmt := top 25
abbrev s__law_rows : Stmt := top 26
abbrev s__law_line : Stmt := top 27
abbrev s_fit : Stmt := top 17
abbrev s_taken_after : Stmt := top 18
abbrev s__law_arrive : Stmt := top 28
abbrev s_Pair_init : Stmt := inClass (top 7) 0
abbrev s_Pair_count_from : Stmt := inClass (top 7) 1
abbrev s_Pair_least : Stmt := inClass (top 7) 2
abbrev s_first_within : Stmt := top 8
abbrev s_Pair_first_from : Stmt := inClass (top 7) 3
abbrev s_Pair_first_below : Stmt := inClass (top 7) 4
abbrev s_differences : Stmt := top 9
abbrev s_worst_start : Stmt := top 10
abbrev s_count_starts : Stmt := top 11
abbrev s_first_earlier : Stmt := top 12
abbrev s__law_first : Stmt := top 30
abbrev s__law_two : Stmt := top 29
abbrev s__law_right : Stmt := top 31
abbrev s_law : Stmt := top 32
theorem sc_is_integer : FnScope ["thing"] ["thing"] (defScope s_is_integer) := ⟨rfl, rfl, rfl, by decide +kernel, rfl, by decide +kernel, by decide +kernel⟩
theorem sc_are_numbers : FnScope ["every", "at", "ride"] ["every", "at", "ride"] (defScope s_are_numbers) := ⟨rfl, rfl, rfl, by decide +kernel, rfl, by decide +kernel, by decide +kernel⟩
theorem sc_Line_init : FnScope ["self", "every", "at", "ride"] ["self", "every", "at", "ride"] (defScope s_Line_init) := ⟨rfl, rfl, rfl, by decide +kernel, rfl, by decide +kernel, by decide +kernel⟩
theorem sc_Walk_init : SupScope ["self", "ride"] ["self", "ride"] (defScope s_Walk_init) := ⟨rfl, rfl, rfl, by decide +kernel, rfl, by decide +kernel, by decide +kernel, by decide +kernel, rfl, rfl⟩
theorem sc_Stop_init : SupScope ["self", "every", "at"] ["self", "every", "at"] (defScope s_Stop_init) := ⟨rfl, rfl, rfl, by decide +kernel, rfl, by decide +kernel, by decide +kernel, by decide +kernel, rfl, rfl⟩
theorem sc_Line_every : FnScope ["self"] ["self"] (defScope s_Line_every) := ⟨rfl, rfl, rfl, by decide +kernel, rfl, by decide +kernel, by decide +kernel⟩
theorem sc_Line_at : FnScope ["self"] ["self"] (defScope s_Line_at) := ⟨rfl, rfl, rfl, by decide +kernel, rfl, by decide +kernel, by decide +kernel⟩
theorem sc_Line_ride : FnScope ["self"] ["self"] (defScope s_Line_ride) := ⟨rfl, rfl, rfl, by decide +kernel, rfl, by decide +kernel, by decide +kernel⟩
theorem sc_Line_departure : FnScope ["self", "time"] ["self", "time"] (defScope s_Line_departure) := ⟨rfl, rfl, rfl, by decide +kernel, rfl, by decide +kernel, by decide +kernel⟩
theorem sc__law_tape : FnScope ["script", "k", "cell"] ["script", "k"] (defScope s__law_tape) := ⟨rfl, rfl, rfl, by decide +kernel, rfl, by decide +kernel, by decide +kernel⟩
theorem sc__law_next : FnScope ["tape", "many", "digit", "mixed"] ["tape", "many"] (defScope s__law_next) := ⟨rfl, rfl, rfl, by decide +kernel, rfl, by decide +kernel, by decide +kernel⟩
theorem sc__law_chain : FnScope ["tape", "most", "found", "turn", "factor"] ["tape", "most"] (defScope s__law_chain) := ⟨rfl, rfl, rfl, by decide +kernel, rfl, by decide +kernel, by decide +kernel⟩
theorem sc__law_rows : FnScope ["tape", "many", "most", "chain", "found", "turn", "headway", "ride"] ["tape", "many", "most"] (defScope s__law_rows) := ⟨rfl, rfl, rfl, by decide +kernel, rfl, by decide +kernel, by decide +kernel⟩
theorem sc__law_line : FnScope ["row"] ["row"] (defScope s__law_line) := ⟨rfl, rfl, rfl, by decide +kernel, rfl, by decide +kernel, by decide +kernel⟩
theorem sc_fit : FnScope ["every", "other_every"] ["every", "other_every"] (defScope s_fit) := ⟨rfl, rfl, rfl, by decide +kernel, rfl, by decide +kernel, by decide +kernel⟩
theorem sc_taken_after : FnScope ["first", "second", "every", "at", "ride", "other_every", "other_at", "other_ride", "lesser", "ahead"] ["first", "second"] (defScope s_taken_after) := ⟨rfl, rfl, rfl, by decide +kernel, rfl, by decide +kernel, by decide +kernel⟩
theorem sc__law_arrive : FnScope ["rows", "start", "headway", "first", "ride"] ["rows", "start"] (defScope s__law_arrive) := ⟨rfl, rfl, rfl, by decide +kernel, rfl, by decide +kernel, by decide +kernel⟩
theorem sc_Pair_init : FnScope ["self", "one", "other", "lesser", "greater", "fine", "coarse"] ["self", "one", "other"] (defScope s_Pair_init) := ⟨rfl, rfl, rfl, by decide +kernel, rfl, by decide +kernel, by decide +kernel⟩
theorem sc_Pair_count_from : FnScope ["self", "value", "steps"] ["self", "value"] (defScope s_Pair_count_from) := ⟨rfl, rfl, rfl, by decide +kernel, rfl, by decide +kernel, by decide +kernel⟩
theorem sc_Pair_least : FnScope ["self"] ["self"] (defScope s_Pair_least) := ⟨rfl, rfl, rfl, by decide +kernel, rfl, by decide +kernel, by decide +kernel⟩
theorem sc_first_within : FnScope ["first", "many", "modulus", "time", "passed"] ["first", "many", "modulus", "time"] (defScope s_first_within) := ⟨rfl, rfl, rfl, by decide +kernel, rfl, by decide +kernel, by decide +kernel⟩
theorem sc_Pair_first_from : FnScope ["self", "value", "time", "many"] ["self", "value", "time"] (defScope s_Pair_first_from) := ⟨rfl, rfl, rfl, by decide +kernel, rfl, by decide +kernel, by decide +kernel⟩
theorem sc_Pair_first_below : FnScope ["self", "value", "time"] ["self", "value", "time"] (defScope s_Pair_first_below) := ⟨rfl, rfl, rfl, by decide +kernel, rfl, by decide +kernel, by decide +kernel⟩
theorem sc_differences : FnScope ["one", "other", "pair", "least", "most", "step"] ["one", "other"] (defScope s_differences) := ⟨rfl, rfl, rfl, by decide +kernel, rfl, by decide +kernel, by decide +kernel⟩
theorem sc_worst_start : FnScope ["one", "other", "pair"] ["one", "other"] (defScope s_worst_start) := ⟨rfl, rfl, rfl, by decide +kernel, rfl, by decide +kernel, by decide +kernel⟩
theorem sc_count_starts : FnScope ["one", "other", "pair", "above", "from_zero", "below", "equal"] ["one", "other"] (defScope s_count_starts) := ⟨rfl, rfl, rfl, by decide +kernel, rfl, by decide +kernel, by decide +kernel⟩
theorem sc_first_earlier : FnScope ["one", "other", "time", "pair"] ["one", "other", "time"] (defScope s_first_earlier) := ⟨rfl, rfl, rfl, by decide +kernel, rfl, by decide +kernel, by decide +kernel⟩
theorem sc__law_first : FnScope ["leads", "begin", "round_here", "start"] ["leads", "begin", "round_here"] (defScope s__law_first) := ⟨rfl, rfl, rfl, by decide +kernel, rfl, by decide +kernel, by decide +kernel⟩
theorem sc__law_two : FnScope ["tape", "most", "rows", "mine", "theirs", "near"] ["tape", "most"] (defScope s__law_two) := ⟨rfl, rfl, rfl, by decide +kernel, rfl, by decide +kernel, by decide +kernel⟩
theorem sc__law_right : FnScope ["tape", "first", "second", "mine", "theirs", "round_here", "leads", "some", "step", "due", "worst", "counts", "begin", "early", "told", "start", "spot", "lead"] ["tape", "first", "second"] (defScope s__law_right) := ⟨rfl, rfl, rfl, by decide +kernel, rfl, by decide +kernel, by decide +kernel⟩
theorem sc_law : FnScope ["script", "k", "tape", "turn", "first", "second", "mine", "theirs", "told"] ["script"] (defScope s_law) := ⟨rfl, rfl, rfl, by decide +kernel, rfl, by decide +kernel, by decide +kernel⟩
def cks : List Ck := ([cFree "abs", cFree "bool", cFree "int", cFree "isinstance", cFree "len", cFree "list", cFree "max", cFree "min", cFree "range", cFree "repr", cFree "set", cFree "sorted", cGlo "is_integer", cGlo "are_numbers", cGlo "_law_tape", cGlo "_law_next", cGlo "_law_chain", cGlo "_law_rows", cGlo "_law_line", cGlo "fit", cGlo "taken_after", cGlo "_law_arrive", cGlo "first_within", cGlo "differences", cGlo "worst_start", cGlo "count_starts", cGlo "first_earlier", cGlo "_law_first", cGlo "_law_two", cGlo "_law_right"] : List Ck) ++ ([cGlo "law", cGlo "Line", cCls "Line", cMkr "Line", cGlo "Walk", cCls "Walk", cMkr "Walk", cGlo "Stop", cCls "Stop", cMkr "Stop", cNoat "Line" "held_every", cNoat "Walk" "held_every", cNoat "Stop" "held_every", cNoat "Line" "held_at", cNoat "Walk" "held_at", cNoat "Stop" "held_at", cNoat "Line" "held_ride", cNoat "Walk" "held_ride", cNoat "Stop" "held_ride", cProp "Line" "at", cProp "Walk" "at", cSameP "Walk" "Line" "at", cProp "Stop" "at", cSameP "Stop" "Line" "at", cProp "Line" "every", cProp "Walk" "every", cSameP "Walk" "Line" "every", cProp "Stop" "every", cSameP "Stop" "Line" "every", cProp "Line" "ride"] : List Ck) ++ ([cProp "Walk" "ride", cSameP "Walk" "Line" "ride", cProp "Stop" "ride", cSameP "Stop" "Line" "ride", cTyp "Line", cTyp "Walk", cTyp "Stop", cKit "Line" "Line" true, cKit "Walk" "Line" true, cKit "Stop" "Line" true, cSup "Walk" "Line" "/claim/cut.py", cSup "Stop" "Line" "/claim/cut.py", cGlo "Pair", cCls "Pair", cMkr "Pair", cNoat "Pair" "is_finer", cNoat "Pair" "lesser", cNoat "Pair" "greater", cNoat "Pair" "anchor", cNoat "Pair" "shift", cNoat "Pair" "most", cMeth "Pair" "count_from", cMeth "Pair" "first_below", cMeth "Pair" "first_from", cMeth "Pair" "least"] : List Ck)
def fns : List DefM := ([⟨fun K => ga K "is_integer", "is_integer", "is_integer", s_is_integer, []⟩, ⟨fun K => ga K "are_numbers", "are_numbers", "are_numbers", s_are_numbers, []⟩, ⟨fun K => ma K (ga K "Line") "__init__", "__init__", "Line.__init__", s_Line_init, []⟩, ⟨fun K => ma K (ga K "Walk") "__init__", "__init__", "Walk.__init__", s_Walk_init, ["__class__"]⟩, ⟨fun K => ma K (ga K "Stop") "__init__", "__init__", "Stop.__init__", s_Stop_init, ["__class__"]⟩, ⟨fun K => prA K (ga K "Line") "every", "every", "Line.every", s_Line_every, []⟩, ⟨fun K => prA K (ga K "Line") "at", "at", "Line.at", s_Line_at, []⟩, ⟨fun K => prA K (ga K "Line") "ride", "ride", "Line.ride", s_Line_ride, []⟩, ⟨fun K => ma K (ga K "Line") "departure", "departure", "Line.departure", s_Line_departure, []⟩, ⟨fun K => ga K "_law_tape", "_law_tape", "_law_tape", s__law_tape, []⟩, ⟨fun K => ga K "_law_next", "_law_next", "_law_next", s__law_next, []⟩, ⟨fun K => ga K "_law_chain", "_law_chain", "_law_chain", s__law_chain, []⟩, ⟨fun K => ga K "_law_rows", "_law_rows", "_law_rows", s__law_rows, []⟩, ⟨fun K => ga K "_law_line", "_law_line", "_law_line", s__law_line, []⟩, ⟨fun K => ga K "fit", "fit", "fit", s_fit, []⟩] : List DefM) ++ ([⟨fun K => ga K "taken_after", "taken_after", "taken_after", s_taken_after, []⟩, ⟨fun K => ga K "_law_arrive", "_law_arrive", "_law_arrive", s__law_arrive, []⟩, ⟨fun K => ma K (ga K "Pair") "__init__", "__init__", "Pair.__init__", s_Pair_init, []⟩, ⟨fun K => ma K (ga K "Pair") "count_from", "count_from", "Pair.count_from", s_Pair_count_from, []⟩, ⟨fun K => ma K (ga K "Pair") "least", "least", "Pair.least", s_Pair_least, []⟩, ⟨fun K => ga K "first_within", "first_within", "first_within", s_first_within, []⟩, ⟨fun K => ma K (ga K "Pair") "first_from", "first_from", "Pair.first_from", s_Pair_first_from, []⟩, ⟨fun K => ma K (ga K "Pair") "first_below", "first_below", "Pair.first_below", s_Pair_first_below, []⟩, ⟨fun K => ga K "differences", "differences", "differences", s_differences, []⟩, ⟨fun K => ga K "worst_start", "worst_start", "worst_start", s_worst_start, []⟩, ⟨fun K => ga K "count_starts", "count_starts", "count_starts", s_count_starts, []⟩, ⟨fun K => ga K "first_earlier", "first_earlier", "first_earlier", s_first_earlier, []⟩, ⟨fun K => ga K "_law_first", "_law_first", "_law_first", s__law_first, []⟩, ⟨fun K => ga K "_law_two", "_law_two", "_law_two", s__law_two, []⟩, ⟨fun K => ga K "_law_right", "_law_right", "_law_right", s__law_right, []⟩] : List DefM) ++ ([⟨fun K => ga K "law", "law", "law", s_law, []⟩] : List DefM)
section
variable {K : Frag} {mg : Str → Option Value}
theorem n_abs (Z : Zs cks fns K mg) : mg "abs" = none := Z.free (Z.c 0)
theorem n_bool (Z : Zs cks fns K mg) : mg "bool" = none := Z.free (Z.c 1)
theorem n_int (Z : Zs cks fns K mg) : mg "int" = none := Z.free (Z.c 2)
theorem n_isinstance (Z : Zs cks fns K mg) : mg "isinstance" = none := Z.free (Z.c 3)
theorem n_len (Z : Zs cks fns K mg) : mg "len" = none := Z.free (Z.c 4)
theorem n_list (Z : Zs cks fns K mg) : mg "list" = none := Z.free (Z.c 5)
theorem n_max (Z : Zs cks fns K mg) : mg "max" = none := Z.free (Z.c 6)
theorem n_min (Z : Zs cks fns K mg) : mg "min" = none := Z.free (Z.c 7)
theorem n_range (Z : Zs cks fns K mg) : mg "range" = none := Z.free (Z.c 8)
theorem n_repr (Z : Zs cks fns K mg) : mg "repr" = none := Z.free (Z.c 9)
theorem n_set (Z : Zs cks fns K mg) : mg "set" = none := Z.free (Z.c 10)
theorem n_sorted (Z : Zs cks fns K mg) : mg "sorted" = none := Z.free (Z.c 11)
theorem g_is_integer (Z : Zs cks fns K mg) : mg "is_integer" = some (.ref (ga K "is_integer")) := Z.glo (Z.c 12)
theorem u_is_integer (Z : Zs cks fns K mg) : Fun K "is_integer" "is_integer" s_is_integer (ga K "is_integer") (fdAt K (ga K "is_integer")) := Z.f 0
theorem b_is_integer (Z : Zs cks fns K mg) : L2.Binds K (fdAt K (ga K "is_integer")) ["thing"] [] := (u_is_integer Z).binds (ps := ["thing"]) fun _ _ _ _ _ _ us hl => match us, hl with | [_], _ => rfl
theorem g_are_numbers (Z : Zs cks fns K mg) : mg "are_numbers" = some (.ref (ga K "are_numbers")) := Z.glo (Z.c 13)
theorem u_are_numbers (Z : Zs cks fns K mg) : Fun K "are_numbers" "are_numbers" s_are_numbers (ga K "are_numbers") (fdAt K (ga K "are_numbers")) := Z.f 1
theorem b_are_numbers (Z : Zs cks fns K mg) : L2.Binds K (fdAt K (ga K "are_numbers")) ["every", "at", "ride"] [] := (u_are_numbers Z).binds (ps := ["every", "at", "ride"]) fun _ _ _ _ _ _ us hl => match us, hl with | [_, _, _], _ => rfl
theorem u_Line_init (Z : Zs cks fns K mg) : Fun K "__init__" "Line.__init__" s_Line_init (ma K (ga K "Line") "__init__") (fdAt K (ma K (ga K "Line") "__init__")) := Z.f 2
theorem b_Line_init (Z : Zs cks fns K mg) : L2.Binds K (fdAt K (ma K (ga K "Line") "__init__")) ["self", "every", "at", "ride"] [] := (u_Line_init Z).binds (ps := ["self", "every", "at", "ride"]) fun _ _ _ _ _ _ us hl => match us, hl with | [_, _, _, _], _ => rfl
theorem u_Walk_init (Z : Zs cks fns K mg) : FunC K "__init__" "Walk.__init__" "__class__" s_Walk_init (ma K (ga K "Walk") "__init__") := Z.fc 3
theorem b_Walk_init (Z : Zs cks fns K mg) : L2.Binds K (fdAt K (ma K (ga K "Walk") "__init__")) ["self", "ride"] [] := FunC.binds (ps := ["self", "ride"]) (u_Walk_init Z) fun _ _ _ _ _ _ _ us hl => match us, hl with | [_, _], _ => rfl
theorem u_Stop_init (Z : Zs cks fns K mg) : FunC K "__init__" "Stop.__init__" "__class__" s_Stop_init (ma K (ga K "Stop") "__init__") := Z.fc 4
theorem b_Stop_init (Z : Zs cks fns K mg) : L2.Binds K (fdAt K (ma K (ga K "Stop") "__init__")) ["self", "every", "at"] [] := FunC.binds (ps := ["self", "every", "at"]) (u_Stop_init Z) fun _ _ _ _ _ _ _ us hl => match us, hl with | [_, _, _], _ => rfl
theorem u_Line_every (Z : Zs cks fns K mg) : Fun K "every" "Line.every" s_Line_every (prA K (ga K "Line") "every") (fdAt K (prA K (ga K "Line") "every")) := Z.f 5
theorem b_Line_every (Z : Zs cks fns K mg) : L2.Binds K (fdAt K (prA K (ga K "Line") "every")) ["self"] [] := (u_Line_every Z).binds (ps := ["self"]) fun _ _ _ _ _ _ us hl => match us, hl with | [_], _ => rfl
theorem u_Line_at (Z : Zs cks fns K mg) : Fun K "at" "Line.at" s_Line_at (prA K (ga K "Line") "at") (fdAt K (prA K (ga K "Line") "at")) := Z.f 6
theorem b_Line_at (Z : Zs cks fns K mg) : L2.Binds K (fdAt K (prA K (ga K "Line") "at")) ["self"] [] := (u_Line_at Z).binds (ps := ["self"]) fun _ _ _ _ _ _ us hl => match us, hl with | [_], _ => rfl
theorem u_Line_ride (Z : Zs cks fns K mg) : Fun K "ride" "Line.ride" s_Line_ride (prA K (ga K "Line") "ride") (fdAt K (prA K (ga K "Line") "ride")) := Z.f 7
theorem b_Line_ride (Z : Zs cks fns K mg) : L2.Binds K (fdAt K (prA K (ga K "Line") "ride")) ["self"] [] := (u_Line_ride Z).binds (ps := ["self"]) fun _ _ _ _ _ _ us hl => match us, hl with | [_], _ => rfl
theorem u_Line_departure (Z : Zs cks fns K mg) : Fun K "departure" "Line.departure" s_Line_departure (ma K (ga K "Line") "departure") (fdAt K (ma K (ga K "Line") "departure")) := Z.f 8
theorem b_Line_departure (Z : Zs cks fns K mg) : L2.Binds K (fdAt K (ma K (ga K "Line") "departure")) ["self", "time"] [] := (u_Line_departure Z).binds (ps := ["self", "time"]) fun _ _ _ _ _ _ us hl => match us, hl with | [_, _], _ => rfl
theorem g__law_tape (Z : Zs cks fns K mg) : mg "_law_tape" = some (.ref (ga K "_law_tape")) := Z.glo (Z.c 14)
theorem u__law_tape (Z : Zs cks fns K mg) : Fun K "_law_tape" "_law_tape" s__law_tape (ga K "_law_tape") (fdAt K (ga K "_law_tape")) := Z.f 9
theorem b__law_tape (Z : Zs cks fns K mg) : L2.Binds K (fdAt K (ga K "_law_tape")) ["script", "k"] [] := (u__law_tape Z).binds (ps := ["script", "k"]) fun _ _ _ _ _ _ us hl => match us, hl with | [_, _], _ => rfl
theorem g__law_next (Z : Zs cks fns K mg) : mg "_law_next" = some (.ref (ga K "_law_next")) := Z.glo (Z.c 15)
theorem u__law_next (Z : Zs cks fns K mg) : Fun K "_law_next" "_law_next" s__law_next (ga K "_law_next") (fdAt K (ga K "_law_next")) := Z.f 10
theorem b__law_next (Z : Zs cks fns K mg) : L2.Binds K (fdAt K (ga K "_law_next")) ["tape", "many"] [] := (u__law_next Z).binds (ps := ["tape", "many"]) fun _ _ _ _ _ _ us hl => match us, hl with | [_, _], _ => rfl
theorem g__law_chain (Z : Zs cks fns K mg) : mg "_law_chain" = some (.ref (ga K "_law_chain")) := Z.glo (Z.c 16)
theorem u__law_chain (Z : Zs cks fns K mg) : Fun K "_law_chain" "_law_chain" s__law_chain (ga K "_law_chain") (fdAt K (ga K "_law_chain")) := Z.f 11
theorem b__law_chain (Z : Zs cks fns K mg) : L2.Binds K (fdAt K (ga K "_law_chain")) ["tape", "most"] [] := (u__law_chain Z).binds (ps := ["tape", "most"]) fun _ _ _ _ _ _ us hl => match us, hl with | [_, _], _ => rfl
theorem g__law_rows (Z : Zs cks fns K mg) : mg "_law_rows" = some (.ref (ga K "_law_rows")) := Z.glo (Z.c 17)
theorem u__law_rows (Z : Zs cks fns K mg) : Fun K "_law_rows" "_law_rows" s__law_rows (ga K "_law_rows") (fdAt K (ga K "_law_rows")) := Z.f 12
theorem b__law_rows (Z : Zs cks fns K mg) : L2.Binds K (fdAt K (ga K "_law_rows")) ["tape", "many", "most"] [] := (u__law_rows Z).binds (ps := ["tape", "many", "most"]) fun _ _ _ _ _ _ us hl => match us, hl with | [_, _, _], _ => rfl
theorem g__law_line (Z : Zs cks fns K mg) : mg "_law_line" = some (.ref (ga K "_law_line")) := Z.glo (Z.c 18)
theorem u__law_line (Z : Zs cks fns K mg) : Fun K "_law_line" "_law_line" s__law_line (ga K "_law_line") (fdAt K (ga K "_law_line")) := Z.f 13
theorem b__law_line (Z : Zs cks fns K mg) : L2.Binds K (fdAt K (ga K "_law_line")) ["row"] [] := (u__law_line Z).binds (ps := ["row"]) fun _ _ _ _ _ _ us hl => match us, hl with | [_], _ => rfl
theorem g_fit (Z : Zs cks fns K mg) : mg "fit" = some (.ref (ga K "fit")) := Z.glo (Z.c 19)
theorem u_fit (Z : Zs cks fns K mg) : Fun K "fit" "fit" s_fit (ga K "fit") (fdAt K (ga K "fit")) := Z.f 14
theorem b_fit (Z : Zs cks fns K mg) : L2.Binds K (fdAt K (ga K "fit")) ["every", "other_every"] [] := (u_fit Z).binds (ps := ["every", "other_every"]) fun _ _ _ _ _ _ us hl => match us, hl with | [_, _], _ => rfl
theorem g_taken_after (Z : Zs cks fns K mg) : mg "taken_after" = some (.ref (ga K "taken_after")) := Z.glo (Z.c 20)
theorem u_taken_after (Z : Zs cks fns K mg) : Fun K "taken_after" "taken_after" s_taken_after (ga K "taken_after") (fdAt K (ga K "taken_after")) := Z.f 15
theorem b_taken_after (Z : Zs cks fns K mg) : L2.Binds K (fdAt K (ga K "taken_after")) ["first", "second"] [] := (u_taken_after Z).binds (ps := ["first", "second"]) fun _ _ _ _ _ _ us hl => match us, hl with | [_, _], _ => rfl
theorem g__law_arrive (Z : Zs cks fns K mg) : mg "_law_arrive" = some (.ref (ga K "_law_arrive")) := Z.glo (Z.c 21)
theorem u__law_arrive (Z : Zs cks fns K mg) : Fun K "_law_arrive" "_law_arrive" s__law_arrive (ga K "_law_arrive") (fdAt K (ga K "_law_arrive")) := Z.f 16
theorem b__law_arrive (Z : Zs cks fns K mg) : L2.Binds K (fdAt K (ga K "_law_arrive")) ["rows", "start"] [] := (u__law_arrive Z).binds (ps := ["rows", "start"]) fun _ _ _ _ _ _ us hl => match us, hl with | [_, _], _ => rfl
theorem u_Pair_init (Z : Zs cks fns K mg) : Fun K "__init__" "Pair.__init__" s_Pair_init (ma K (ga K "Pair") "__init__") (fdAt K (ma K (ga K "Pair") "__init__")) := Z.f 17
theorem b_Pair_init (Z : Zs cks fns K mg) : L2.Binds K (fdAt K (ma K (ga K "Pair") "__init__")) ["self", "one", "other"] [] := (u_Pair_init Z).binds (ps := ["self", "one", "other"]) fun _ _ _ _ _ _ us hl => match us, hl with | [_, _, _], _ => rfl
theorem u_Pair_count_from (Z : Zs cks fns K mg) : Fun K "count_from" "Pair.count_from" s_Pair_count_from (ma K (ga K "Pair") "count_from") (fdAt K (ma K (ga K "Pair") "count_from")) := Z.f 18
theorem b_Pair_count_from (Z : Zs cks fns K mg) : L2.Binds K (fdAt K (ma K (ga K "Pair") "count_from")) ["self", "value"] [] := (u_Pair_count_from Z).binds (ps := ["self", "value"]) fun _ _ _ _ _ _ us hl => match us, hl with | [_, _], _ => rfl
theorem u_Pair_least (Z : Zs cks fns K mg) : Fun K "least" "Pair.least" s_Pair_least (ma K (ga K "Pair") "least") (fdAt K (ma K (ga K "Pair") "least")) := Z.f 19
theorem b_Pair_least (Z : Zs cks fns K mg) : L2.Binds K (fdAt K (ma K (ga K "Pair") "least")) ["self"] [] := (u_Pair_least Z).binds (ps := ["self"]) fun _ _ _ _ _ _ us hl => match us, hl with | [_], _ => rfl
theorem g_first_within (Z : Zs cks fns K mg) : mg "first_within" = some (.ref (ga K "first_within")) := Z.glo (Z.c 22)
theorem u_first_within (Z : Zs cks fns K mg) : Fun K "first_within" "first_within" s_first_within (ga K "first_within") (fdAt K (ga K "first_within")) := Z.f 20
theorem b_first_within (Z : Zs cks fns K mg) : L2.Binds K (fdAt K (ga K "first_within")) ["first", "many", "modulus", "time"] [] := (u_first_within Z).binds (ps := ["first", "many", "modulus", "time"]) fun _ _ _ _ _ _ us hl => match us, hl with | [_, _, _, _], _ => rfl
theorem u_Pair_first_from (Z : Zs cks fns K mg) : Fun K "first_from" "Pair.first_from" s_Pair_first_from (ma K (ga K "Pair") "first_from") (fdAt K (ma K (ga K "Pair") "first_from")) := Z.f 21
theorem b_Pair_first_from (Z : Zs cks fns K mg) : L2.Binds K (fdAt K (ma K (ga K "Pair") "first_from")) ["self", "value", "time"] [] := (u_Pair_first_from Z).binds (ps := ["self", "value", "time"]) fun _ _ _ _ _ _ us hl => match us, hl with | [_, _, _], _ => rfl
theorem u_Pair_first_below (Z : Zs cks fns K mg) : Fun K "first_below" "Pair.first_below" s_Pair_first_below (ma K (ga K "Pair") "first_below") (fdAt K (ma K (ga K "Pair") "first_below")) := Z.f 22
theorem b_Pair_first_below (Z : Zs cks fns K mg) : L2.Binds K (fdAt K (ma K (ga K "Pair") "first_below")) ["self", "value", "time"] [] := (u_Pair_first_below Z).binds (ps := ["self", "value", "time"]) fun _ _ _ _ _ _ us hl => match us, hl with | [_, _, _], _ => rfl
theorem g_differences (Z : Zs cks fns K mg) : mg "differences" = some (.ref (ga K "differences")) := Z.glo (Z.c 23)
theorem u_differences (Z : Zs cks fns K mg) : Fun K "differences" "differences" s_differences (ga K "differences") (fdAt K (ga K "differences")) := Z.f 23
theorem b_differences (Z : Zs cks fns K mg) : L2.Binds K (fdAt K (ga K "differences")) ["one", "other"] [] := (u_differences Z).binds (ps := ["one", "other"]) fun _ _ _ _ _ _ us hl => match us, hl with | [_, _], _ => rfl
theorem g_worst_start (Z : Zs cks fns K mg) : mg "worst_start" = some (.ref (ga K "worst_start")) := Z.glo (Z.c 24)
theorem u_worst_start (Z : Zs cks fns K mg) : Fun K "worst_start" "worst_start" s_worst_start (ga K "worst_start") (fdAt K (ga K "worst_start")) := Z.f 24
theorem b_worst_start (Z : Zs cks fns K mg) : L2.Binds K (fdAt K (ga K "worst_start")) ["one", "other"] [] := (u_worst_start Z).binds (ps := ["one", "other"]) fun _ _ _ _ _ _ us hl => match us, hl with | [_, _], _ => rfl
theorem g_count_starts (Z : Zs cks fns K mg) : mg "count_starts" = some (.ref (ga K "count_starts")) := Z.glo (Z.c 25)
theorem u_count_starts (Z : Zs cks fns K mg) : Fun K "count_starts" "count_starts" s_count_starts (ga K "count_starts") (fdAt K (ga K "count_starts")) := Z.f 25
theorem b_count_starts (Z : Zs cks fns K mg) : L2.Binds K (fdAt K (ga K "count_starts")) ["one", "other"] [] := (u_count_starts Z).binds (ps := ["one", "other"]) fun _ _ _ _ _ _ us hl => match us, hl with | [_, _], _ => rfl
theorem g_first_earlier (Z : Zs cks fns K mg) : mg "first_earlier" = some (.ref (ga K "first_earlier")) := Z.glo (Z.c 26)
theorem u_first_earlier (Z : Zs cks fns K mg) : Fun K "first_earlier" "first_earlier" s_first_earlier (ga K "first_earlier") (fdAt K (ga K "first_earlier")) := Z.f 26
theorem b_first_earlier (Z : Zs cks fns K mg) : L2.Binds K (fdAt K (ga K "first_earlier")) ["one", "other", "time"] [] := (u_first_earlier Z).binds (ps := ["one", "other", "time"]) fun _ _ _ _ _ _ us hl => match us, hl with | [_, _, _], _ => rfl
theorem g__law_first (Z : Zs cks fns K mg) : mg "_law_first" = some (.ref (ga K "_law_first")) := Z.glo (Z.c 27)
theorem u__law_first (Z : Zs cks fns K mg) : Fun K "_law_first" "_law_first" s__law_first (ga K "_law_first") (fdAt K (ga K "_law_first")) := Z.f 27
theorem b__law_first (Z : Zs cks fns K mg) : L2.Binds K (fdAt K (ga K "_law_first")) ["leads", "begin", "round_here"] [] := (u__law_first Z).binds (ps := ["leads", "begin", "round_here"]) fun _ _ _ _ _ _ us hl => match us, hl with | [_, _, _], _ => rfl
theorem g__law_two (Z : Zs cks fns K mg) : mg "_law_two" = some (.ref (ga K "_law_two")) := Z.glo (Z.c 28)
theorem u__law_two (Z : Zs cks fns K mg) : Fun K "_law_two" "_law_two" s__law_two (ga K "_law_two") (fdAt K (ga K "_law_two")) := Z.f 28
theorem b__law_two (Z : Zs cks fns K mg) : L2.Binds K (fdAt K (ga K "_law_two")) ["tape", "most"] [] := (u__law_two Z).binds (ps := ["tape", "most"]) fun _ _ _ _ _ _ us hl => match us, hl with | [_, _], _ => rfl
theorem g__law_right (Z : Zs cks fns K mg) : mg "_law_right" = some (.ref (ga K "_law_right")) := Z.glo (Z.c 29)
theorem u__law_right (Z : Zs cks fns K mg) : Fun K "_law_right" "_law_right" s__law_right (ga K "_law_right") (fdAt K (ga K "_law_right")) := Z.f 29
theorem b__law_right (Z : Zs cks fns K mg) : L2.Binds K (fdAt K (ga K "_law_right")) ["tape", "first", "second"] [] := (u__law_right Z).binds (ps := ["tape", "first", "second"]) fun _ _ _ _ _ _ us hl => match us, hl with | [_, _, _], _ => rfl
theorem g_law (Z : Zs cks fns K mg) : mg "law" = some (.ref (ga K "law")) := Z.glo (Z.c 30)
theorem u_law (Z : Zs cks fns K mg) : Fun K "law" "law" s_law (ga K "law") (fdAt K (ga K "law")) := Z.f 30
theorem b_law (Z : Zs cks fns K mg) : L2.Binds K (fdAt K (ga K "law")) ["script"] [] := (u_law Z).binds (ps := ["script"]) fun _ _ _ _ _ _ us hl => match us, hl with | [_], _ => rfl
theorem k_count_starts_0_other_one (Z : Zs cks fns K mg) : KBn K (fdAt K (ga K "count_starts")) ["one", "other"] 0 ["other", "one"] (fun us ws => pick (us ++ ws) [1, 0]) (fun us ws => pick (us ++ ws) [1, 0]) := Fw.Fun.kb (ps := ["one", "other"]) (u_count_starts Z) 0 ["other", "one"] (fun us ws => pick (us ++ ws) [1, 0]) (fun r1 r2 => Fw.Vals.pick (r1.append r2) _) fun _ _ _ _ _ _ us ws l1 l2 => match us, ws, l1, l2 with | [], [_, _], _, _ => rfl
theorem k_differences_0_other_one (Z : Zs cks fns K mg) : KBn K (fdAt K (ga K "differences")) ["one", "other"] 0 ["other", "one"] (fun us ws => pick (us ++ ws) [1, 0]) (fun us ws => pick (us ++ ws) [1, 0]) := Fw.Fun.kb (ps := ["one", "other"]) (u_differences Z) 0 ["other", "one"] (fun us ws => pick (us ++ ws) [1, 0]) (fun r1 r2 => Fw.Vals.pick (r1.append r2) _) fun _ _ _ _ _ _ us ws l1 l2 => match us, ws, l1, l2 with | [], [_, _], _, _ => rfl
theorem k_first_earlier_0_time_other_one (Z : Zs cks fns K mg) : KBn K (fdAt K (ga K "first_earlier")) ["one", "other", "time"] 0 ["time", "other", "one"] (fun us ws => pick (us ++ ws) [2, 1, 0]) (fun us ws => pick (us ++ ws) [2, 1, 0]) := Fw.Fun.kb (ps := ["one", "other", "time"]) (u_first_earlier Z) 0 ["time", "other", "one"] (fun us ws => pick (us ++ ws) [2, 1, 0]) (fun r1 r2 => Fw.Vals.pick (r1.append r2) _) fun _ _ _ _ _ _ us ws l1 l2 => match us, ws, l1, l2 with | [], [_, _, _], _, _ => rfl
theorem k_worst_start_0_other_one (Z : Zs cks fns K mg) : KBn K (fdAt K (ga K "worst_start")) ["one", "other"] 0 ["other", "one"] (fun us ws => pick (us ++ ws) [1, 0]) (fun us ws => pick (us ++ ws) [1, 0]) := Fw.Fun.kb (ps := ["one", "other"]) (u_worst_start Z) 0 ["other", "one"] (fun us ws => pick (us ++ ws) [1, 0]) (fun r1 r2 => Fw.Vals.pick (r1.append r2) _) fun _ _ _ _ _ _ us ws l1 l2 => match us, ws, l1, l2 with | [], [_, _], _, _ => rfl
theorem lnF (Z : Zs cks fns K mg) : LnF K := ⟨fun k => match k with | .line => cls_of (Z.c 32) | .walk => cls_of (Z.c 35) | .stop => cls_of (Z.c 38), fun k => match k with | .line => noat_of (Z.c 40) | .walk => noat_of (Z.c 41) | .stop => noat_of (Z.c 42), fun k => match k with | .line => noat_of (Z.c 43) | .walk => noat_of (Z.c 44) | .stop => noat_of (Z.c 45), fun k => match k with | .line => noat_of (Z.c 46) | .walk => noat_of (Z.c 47) | .stop => noat_of (Z.c 48)⟩
theorem g_Line (Z : Zs cks fns K mg) : mg "Line" = some (.ref (ga K "Line")) := Z.glo (Z.c 31)
theorem M_Line (Z : Zs cks fns K mg) : Mk K (ga K "Line") (ma K (ga K "Line") "__init__") := mkr_of (Z.c 33)
theorem g_Walk (Z : Zs cks fns K mg) : mg "Walk" = some (.ref (ga K "Walk")) := Z.glo (Z.c 34)
theorem M_Walk (Z : Zs cks fns K mg) : Mk K (ga K "Walk") (ma K (ga K "Walk") "__init__") := mkr_of (Z.c 36)
theorem g_Stop (Z : Zs cks fns K mg) : mg "Stop" = some (.ref (ga K "Stop")) := Z.glo (Z.c 37)
theorem M_Stop (Z : Zs cks fns K mg) : Mk K (ga K "Stop") (ma K (ga K "Stop") "__init__") := mkr_of (Z.c 39)
theorem hp_at (Z : Zs cks fns K mg) : ∀ k, ∃ p, PropOf K (cA K k) "at" p (prA K (ga K "Line") "at") := fun k => match k with | .line => ⟨_, prop_of (Z.c 49)⟩ | .walk => ⟨_, by have h := prop_of (Z.c 50); rw [show prA K (ga K "Walk") "at" = prA K (ga K "Line") "at" from of_decide_eq_true (Z.c 51)] at h; exact h⟩ | .stop => ⟨_, by have h := prop_of (Z.c 52); rw [show prA K (ga K "Stop") "at" = prA K (ga K "Line") "at" from of_decide_eq_true (Z.c 53)] at h; exact h⟩
theorem hp_every (Z : Zs cks fns K mg) : ∀ k, ∃ p, PropOf K (cA K k) "every" p (prA K (ga K "Line") "every") := fun k => match k with | .line => ⟨_, prop_of (Z.c 54)⟩ | .walk => ⟨_, by have h := prop_of (Z.c 55); rw [show prA K (ga K "Walk") "every" = prA K (ga K "Line") "every" from of_decide_eq_true (Z.c 56)] at h; exact h⟩ | .stop => ⟨_, by have h := prop_of (Z.c 57); rw [show prA K (ga K "Stop") "every" = prA K (ga K "Line") "every" from of_decide_eq_true (Z.c 58)] at h; exact h⟩
theorem hp_ride (Z : Zs cks fns K mg) : ∀ k, ∃ p, PropOf K (cA K k) "ride" p (prA K (ga K "Line") "ride") := fun k => match k with | .line => ⟨_, prop_of (Z.c 59)⟩ | .walk => ⟨_, by have h := prop_of (Z.c 60); rw [show prA K (ga K "Walk") "ride" = prA K (ga K "Line") "ride" from of_decide_eq_true (Z.c 61)] at h; exact h⟩ | .stop => ⟨_, by have h := prop_of (Z.c 62); rw [show prA K (ga K "Stop") "ride" = prA K (ga K "Line") "ride" from of_decide_eq_true (Z.c 63)] at h; exact h⟩
theorem tyL (Z : Zs cks fns K mg) : ∀ k, Typ K (cA K k) := fun k => match k with | .line => typ_of (Z.c 64) | .walk => typ_of (Z.c 65) | .stop => typ_of (Z.c 66)
theorem kitL (Z : Zs cks fns K mg) : ∀ k, PySem.W.kitOne K (.ref (cA K k)) (.ref (ga K "Line")) = some true := fun k => match k with | .line => kit_of (Z.c 67) | .walk => kit_of (Z.c 68) | .stop => kit_of (Z.c 69)
theorem sup_Walk (Z : Zs cks fns K mg) : supB K (ma K (ga K "Walk") "__init__") (ga K "Walk") (ma K (ga K "Line") "__init__") "/claim/cut.py" = true := Z.c 70
theorem sup_Stop (Z : Zs cks fns K mg) : supB K (ma K (ga K "Stop") "__init__") (ga K "Stop") (ma K (ga K "Line") "__init__") "/claim/cut.py" = true := Z.c 71
theorem g_Pair (Z : Zs cks fns K mg) : mg "Pair" = some (.ref (ga K "Pair")) := Z.glo (Z.c 72)
theorem c_Pair (Z : Zs cks fns K mg) : Cls K (ga K "Pair") := cls_of (Z.c 73)
theorem M_Pair (Z : Zs cks fns K mg) : Mk K (ga K "Pair") (ma K (ga K "Pair") "__init__") := mkr_of (Z.c 74)
theorem na_Pair_is_finer (Z : Zs cks fns K mg) : NoAttr K (ga K "Pair") "is_finer" := noat_of (Z.c 75)
theorem na_Pair_lesser (Z : Zs cks fns K mg) : NoAttr K (ga K "Pair") "lesser" := noat_of (Z.c 76)
theorem na_Pair_greater (Z : Zs cks fns K mg) : NoAttr K (ga K "Pair") "greater" := noat_of (Z.c 77)
theorem na_Pair_anchor (Z : Zs cks fns K mg) : NoAttr K (ga K "Pair") "anchor" := noat_of (Z.c 78)
theorem na_Pair_shift (Z : Zs cks fns K mg) : NoAttr K (ga K "Pair") "shift" := noat_of (Z.c 79)
theorem na_Pair_most (Z : Zs cks fns K mg) : NoAttr K (ga K "Pair") "most" := noat_of (Z.c 80)
theorem hm_Pair_count_from (Z : Zs cks fns K mg) : Meth K (ga K "Pair") "count_from" (ma K (ga K "Pair") "count_from") := meth_of (Z.c 81)
theorem hm_Pair_first_below (Z : Zs cks fns K mg) : Meth K (ga K "Pair") "first_below" (ma K (ga K "Pair") "first_below") := meth_of (Z.c 82)
theorem hm_Pair_first_from (Z : Zs cks fns K mg) : Meth K (ga K "Pair") "first_from" (ma K (ga K "Pair") "first_from") := meth_of (Z.c 83)
theorem hm_Pair_least (Z : Zs cks fns K mg) : Meth K (ga K "Pair") "least" (ma K (ga K "Pair") "least") := meth_of (Z.c 84)
end
abbrev R : PySem.W.OpenRow := PySem.W.OpenLaw.row PySem.Challenge.rw_onwardlines_k32_lines_compared_start_by
abbrev hk : PySem.W.Hook := hookM 6 cks fns
def ob (s : PySem.W.SharedT) : AlM := obsMG 6 cks fns (HandSHeadRun.getT s)
theorem ob_eq (s : PySem.W.SharedT) : ob s = hk.obs s.abs := obsMG_eq (HandSHeadRun.getT_eq s)
def loose : List PySem.Str := (["_wall", "HeadwayError", "InvalidLine", "InvalidNumber", "NotFitting", "Pair", "first_within", "differences", "worst_start", "count_starts", "first_earlier", "MOST_ROUNDS", "is_integer", "are_numbers", "fit", "taken_after", "Line", "Walk", "Stop", "_law_tape", "_law_next", "_law_chain", "_law_rows", "_law_line", "_law_arrive", "_law_two", "_law_first", "_law_right"] : List PySem.Str)
set_option maxHeartbeats 0 in
theorem run (w : World) : HandSHeadRun.RunEq R (PySem.W.view R.prog [32]) hk ob 20000 loose w := by
  intro os
  kernel_rfl
section
variable {w : World} {K : Frag} {mg : Str → Option Value} {base : Heap}
def sp_is_integer (K : Frag) : Sp := fun vs H Q E => ∃ (x : V) (t : Value) (b1 : Bool) (b2 : Bool), vs = [x] ∧ TyX K H x t ∧ PySem.W.kitOne K t (.type "int") = some b1 ∧ PySem.W.kitOne K t (.type "bool") = some b2 ∧ Q (.bl (b1 && !b2)) H
theorem ok_is_integer (Z : Zs cks fns K mg) : FnOk PP w K mg base (L2.CX PP w) 1 (ga K "is_integer") (fdAt K (ga K "is_integer")) ["thing"] (sp_is_integer K) := by
  refine L2.Fun.okX (u_is_integer Z) sc_is_integer (fun vs H Q E h => ?_) (fun cdv A outer s H vs Q E hr h => ?_)
  · obtain ⟨_, _, _, _, rfl, _⟩ := h
    rfl
  · obtain ⟨x, t, b1, b2, rfl, ⟨ht, h1, h2, hq⟩⟩ := h
    refine ⟨_, (pss_one (ps_ret (pe_and (pe_callB call_isi rfl (n_isinstance Z) (by decide +kernel) (pa_cons (pv 0) (pa_cons (pe_bltn (v := .ty "int") (u := .type "int") rfl (n_int Z) (by decide +kernel) rfl) pa_nil))) (pe_one (pe_not (pe_callB call_isi rfl (n_isinstance Z) (by decide +kernel) (pa_cons (pv 0) (pa_cons (pe_bltn (v := .ty "bool") (u := .type "bool") rfl (n_bool Z) (by decide +kernel) rfl) pa_nil)))))))), ?_⟩
    refine ⟨x, rfl, x, .ty "int", t, .type "int", b1, rfl, .ty _, ht, h1, b1, rfl, ?_⟩
    cases b1 with
    | true => exact iteT ⟨_, rfl, _, _, _, _, b2, rfl, .ty _, ht, h2, _, rfl, hq⟩
    | false => exact iteF hq
def sp_are_numbers (K : Frag) : Sp := fun vs H Q E => ∃ (n : N3), vs = [.int n.e, .int n.a, .int n.r] ∧ n.ok ∧ Q (.bl true) H
theorem ok_are_numbers (Z : Zs cks fns K mg) : FnOk PP w K mg base (L2.CX PP w) 2 (ga K "are_numbers") (fdAt K (ga K "are_numbers")) ["every", "at", "ride"] (sp_are_numbers K) := by
  refine L2.Fun.okX (u_are_numbers Z) sc_are_numbers (fun vs H Q E h => ?_) (fun cdv A outer s H vs Q E hr h => ?_)
  · obtain ⟨_, rfl, _⟩ := h
    rfl
  · obtain ⟨n, rfl, ⟨⟨h1, h2, h3, h4⟩, hq⟩⟩ := h
    refine ⟨_, (pss_cons (ps_if (PW.pt (pw_or (pt_not (pt_val (pe_call (ok_is_integer Z) (hr.mono (by decide)) rfl (g_is_integer Z) (u_is_integer Z).kp (b_is_integer Z) .nil passL (pa_cons (pv 0) pa_nil)))) (pw_or (pt_not (pt_val (pe_call (ok_is_integer Z) (hr.mono (by decide)) rfl (g_is_integer Z) (u_is_integer Z).kp (b_is_integer Z) .nil passL (pa_cons (pv 1) pa_nil)))) (pw_or1 (pt_not (pt_val (pe_call (ok_is_integer Z) (hr.mono (by decide)) rfl (g_is_integer Z) (u_is_integer Z).kp (b_is_integer Z) .nil passL (pa_cons (pv 2) pa_nil))))))))
        (pss_one (ps_ret pe_bl))
        pss_nil)
      (pss_one (ps_ret (pe_and (pe_cmpR op_ge (pv 0) pe_int (nomark _)) (pe_and (pe_chain op_le op_lt pe_int (pv 1) (pv 0)) (pe_one (pe_cmpR op_ge (pv 2) pe_int (nomark _)))))))), ?_⟩
    refine ⟨_, rfl, ⟨_, _, true, false, rfl, .base (.int _), kit_ty (by decide +kernel), kit_ty (by decide +kernel), _, rfl, iteF ?_⟩⟩
    refine ⟨_, rfl, ⟨_, _, true, false, rfl, .base (.int _), kit_ty (by decide +kernel), kit_ty (by decide +kernel), _, rfl, iteF ?_⟩⟩
    refine ⟨_, rfl, ⟨_, _, true, false, rfl, .base (.int _), kit_ty (by decide +kernel), kit_ty (by decide +kernel), _, rfl, iteF ?_⟩⟩
    refine ⟨_, rfl, _, _, rfl, rfl, _, rfl, ifT h1 ?_⟩
    refine ⟨_, rfl, _, _, rfl, rfl, _, rfl, ifT h2 ⟨_, rfl, _, _, rfl, rfl, _, rfl, ifT h3 ?_⟩⟩
    exact ⟨_, rfl, _, _, rfl, rfl, qT h4 hq⟩
theorem lf_len1 {v : V} : (putF "held_every" v []).length < 1000 := by
  have h := length_putF "held_every" v []
  have e : ([] : List (Str × V)).length = 0 := rfl
  omega
theorem lf_len2 {v u : V} : (putF "held_at" u (putF "held_every" v [])).length < 1000 := by
  have h := length_putF "held_every" v []
  have g := length_putF "held_at" u (putF "held_every" v [])
  have e : ([] : List (Str × V)).length = 0 := rfl
  omega
def sp_Line_init (K : Frag) : Sp := fun vs H Q E => ∃ (k : LK) (p : Addr) (dx : Addr) (n : N3), vs = [.ref p, .int n.e, .int n.a, .int n.r] ∧ n.ok ∧ H p = some (.ins (cA K k) dx []) ∧ Q .non (upd H p (.ins (cA K k) dx (lf n)))
theorem ok_Line_init (Z : Zs cks fns K mg) : FnOk PP w K mg base (L2.CX PP w) 3 (ma K (ga K "Line") "__init__") (fdAt K (ma K (ga K "Line") "__init__")) ["self", "every", "at", "ride"] (sp_Line_init K) := by
  refine L2.Fun.okX (u_Line_init Z) sc_Line_init (fun vs H Q E h => ?_) (fun cdv A outer s H vs Q E hr h => ?_)
  · obtain ⟨_, _, _, _, rfl, _⟩ := h
    rfl
  · obtain ⟨k, p, dx, n, rfl, ⟨hok, hp, hq⟩⟩ := h
    refine ⟨_, (pss_cons (ps_if (pt_not (pt_val (pe_call (ok_are_numbers Z) (hr.mono (by decide)) rfl (g_are_numbers Z) (u_are_numbers Z).kp (b_are_numbers Z) .nil passL (pa_cons (pv 1) (pa_cons (pv 2) (pa_cons (pv 3) pa_nil))))))
        (pss_one ps_never)
        pss_nil)
      (pss_cons (ps_fld (pv 0) (pv 1) rfl)
      (pss_cons (ps_fld (pv 0) (pv 2) rfl)
      (pss_one (ps_fld (pv 0) (pv 3) rfl))))), ?_⟩
    refine ⟨_, rfl, _, rfl, _, rfl, ⟨n, rfl, hok, _, rfl, iteF ?_⟩⟩
    refine ⟨_, rfl, _, rfl, p, _, dx, [], rfl, hp, (lnF Z).cls k, (lnF Z).nE k, (by decide), ?_⟩
    refine ⟨_, rfl, _, rfl, p, _, dx, _, rfl, upd_same, (lnF Z).cls k, (lnF Z).nA k, lf_len1, ?_⟩
    refine ⟨_, rfl, _, rfl, p, _, dx, _, rfl, upd_same, (lnF Z).cls k, (lnF Z).nR k, lf_len2, ?_⟩
    rw [upd_upd, upd_upd]
    exact hq
def sp_Walk_init (K : Frag) : Sp := fun vs H Q E => ∃ (p : Addr) (dx : Addr) (r : Int), vs = [.ref p, .int r] ∧ 0 ≤ r ∧ H p = some (.ins (cA K .walk) dx []) ∧ Q .non (upd H p (.ins (cA K .walk) dx (lf ⟨1, 0, r⟩)))
theorem ok_Walk_init (Z : Zs cks fns K mg) : FnOk PP w K mg base (L2.CX PP w) 4 (ma K (ga K "Walk") "__init__") (fdAt K (ma K (ga K "Walk") "__init__")) ["self", "ride"] (sp_Walk_init K) :=
  fn_super (z := "/claim/cut.py") (D := ga K "Walk") (u_Walk_init Z) sc_Walk_init (sup_Walk Z) (by decide +kernel) (by decide +kernel) rfl rfl rfl (ok_Line_init Z) (b_Line_init Z)
    (fun vs H Q E h => by obtain ⟨p, dx, r, rfl, _⟩ := h; rfl) (fun cdv cc A outer s H E => pa_cons pe_int (pa_cons pe_int (pa_cons (pv 1) pa_nil))) (fun _ => rfl) (fun _ => rfl) (fun _ => rfl)
    (fun vs H Q E h => by
      obtain ⟨p, dx, r, rfl, h0, hp, hq⟩ := h
      exact ⟨p, dx, [], rfl, hp, _, rfl, ⟨.walk, p, dx, ⟨1, 0, r⟩, rfl, ⟨Int.le_refl 1, Int.le_refl 0, (by show (0 : Int) < 1; decide), h0⟩, hp, hq⟩⟩)
def sp_Stop_init (K : Frag) : Sp := fun vs H Q E => ∃ (p : Addr) (dx : Addr) (e : Int) (l : Int), vs = [.ref p, .int e, .int l] ∧ 1 ≤ e ∧ 0 ≤ l ∧ l < e ∧ H p = some (.ins (cA K .stop) dx []) ∧ Q .non (upd H p (.ins (cA K .stop) dx (lf ⟨e, l, 0⟩)))
theorem ok_Stop_init (Z : Zs cks fns K mg) : FnOk PP w K mg base (L2.CX PP w) 4 (ma K (ga K "Stop") "__init__") (fdAt K (ma K (ga K "Stop") "__init__")) ["self", "every", "at"] (sp_Stop_init K) :=
  fn_super (z := "/claim/cut.py") (D := ga K "Stop") (u_Stop_init Z) sc_Stop_init (sup_Stop Z) (by decide +kernel) (by decide +kernel) rfl rfl rfl (ok_Line_init Z) (b_Line_init Z)
    (fun vs H Q E h => by obtain ⟨p, dx, e, l, rfl, _⟩ := h; rfl) (fun cdv cc A outer s H E => pa_cons (pv 1) (pa_cons (pv 2) (pa_cons pe_int pa_nil))) (fun _ => rfl) (fun _ => rfl) (fun _ => rfl)
    (fun vs H Q E h => by
      obtain ⟨p, dx, e, l, rfl, h1, h2, h3, hp, hq⟩ := h
      exact ⟨p, dx, [], rfl, hp, _, rfl, _, rfl, ⟨.stop, p, dx, ⟨e, l, 0⟩, rfl, ⟨h1, h2, h3, Int.le_refl 0⟩, hp, hq⟩⟩)
end
section
variable {w : World} {K : Frag} {mg : Str → Option Value} {base : Heap}
def lat (n : N3) (t : Int) : Int := (t - n.r) - ((t - n.r) - n.a) % n.e
theorem dep_is {n : N3} (h : n.ok) {t d k : Int} (h1 : t ≤ d) (h2 : d < t + n.e) (h3 : d = n.a + n.e * k) : dep n t = d := by
  unfold dep
  rw [show n.a - t = (d - t) + n.e * (-k) by rw [Int.mul_neg]; omega, Int.add_mul_emod_self_left, Int.emod_eq_of_lt (by omega) (by omega)]
  omega
theorem lat_mod (n : N3) (t : Int) : ∃ k, lat n t = n.a + n.e * k := by
  unfold lat
  have e := Int.emod_add_mul_ediv ((t - n.r) - n.a) n.e
  exact ⟨((t - n.r) - n.a) / n.e, by omega⟩
theorem lat_le {n : N3} (h : n.ok) (t : Int) : lat n t ≤ t - n.r ∧ t - n.r < lat n t + n.e := by
  have h1 := h.1
  have a := Int.emod_nonneg ((t - n.r) - n.a) (show n.e ≠ 0 by omega)
  have b := Int.emod_lt_of_pos ((t - n.r) - n.a) (show 0 < n.e by omega)
  unfold lat
  omega
def addN (x y : N3) : N3 :=
  if y.e ≤ x.e then ⟨x.e, x.a, x.r + (y.a - x.a - x.r) % (if y.e < x.e then y.e else x.e) + y.r⟩
  else ⟨y.e, (y.a - (x.r + (y.a - x.a - x.r) % (if y.e < x.e then y.e else x.e))) % y.e, x.r + (y.a - x.a - x.r) % (if y.e < x.e then y.e else x.e) + y.r⟩
theorem eqv3 (a b c : Int) : PyData.eqv (.tuple [.int a, .int b, .int c]) (.tuple [.int a, .int b, .int c]) = true := by
  simp [PyData.eqv, PyData.eqvAll]
theorem shaped3 (a b c : Int) : SeqAt.shaped (.tuple [.int a, .int b, .int c]) = true := by
  unfold SeqAt.shaped
  simp only [PyData.canLay0, PyData.canLayAll0, PyData.depth, PyData.depthAll, Bool.true_and, Bool.and_true]
  exact decide_eq_true (by omega)
theorem rl_RR {n : N3} (h : 0 < n.e) (m : Int) : rl ⟨n.e, n.a, RR n m⟩ = m * rl n := by
  show RR n m + (0 - RR n m) % n.e = m * rl n
  rw [RR_mod h]
  have e : rl n = n.r + (0 - n.r) % n.e := rfl
  have q : (m - 1) * rl n = m * rl n - rl n := by rw [Int.sub_mul, Int.one_mul]
  unfold RR
  omega
theorem RR_RR {n : N3} (h : 0 < n.e) (m j : Int) : RR ⟨n.e, n.a, RR n m⟩ j = RR n (m * j) := by
  show (j - 1) * rl ⟨n.e, n.a, RR n m⟩ + RR n m = RR n (m * j)
  rw [rl_RR h]
  unfold RR
  have q1 : (j - 1) * (m * rl n) = m * j * rl n - m * rl n := by rw [Int.sub_mul, Int.one_mul, ← Int.mul_assoc, Int.mul_comm j m]
  have q2 : (m - 1) * rl n = m * rl n - rl n := by rw [Int.sub_mul, Int.one_mul]
  have q3 : (m * j - 1) * rl n = m * j * rl n - rl n := by rw [Int.sub_mul, Int.one_mul]
  omega
theorem addN_RR (n : N3) (h : 1 ≤ n.e) (m j : Int) : addN ⟨n.e, n.a, RR n m⟩ ⟨n.e, n.a, RR n j⟩ = ⟨n.e, n.a, RR n (m + j)⟩ := by
  unfold addN
  rw [if_pos (Int.le_refl _), if_neg (Int.lt_irrefl _)]
  show (⟨n.e, n.a, RR n m + (n.a - n.a - RR n m) % n.e + RR n j⟩ : N3) = _
  rw [Int.sub_self, RR_add (by omega) m j]
theorem addN_same (n : N3) (h : 1 ≤ n.e) (m : Int) : addN ⟨n.e, n.a, RR n m⟩ n = ⟨n.e, n.a, RR n (m + 1)⟩ := by
  unfold addN
  rw [if_pos (Int.le_refl _), if_neg (Int.lt_irrefl _)]
  show (⟨n.e, n.a, RR n m + (n.a - n.a - RR n m) % n.e + n.r⟩ : N3) = _
  have r1 : RR n 1 = n.r := by
    unfold RR
    simp
  rw [Int.sub_self, ← RR_add (by omega) m 1, r1]
theorem addN_ok {x y : N3} (ox : x.ok) (oy : y.ok) : (addN x y).ok := by
  obtain ⟨x1, x2, x3, x4⟩ := ox
  obtain ⟨y1, y2, y3, y4⟩ := oy
  have lp : 0 < (if y.e < x.e then y.e else x.e) := by split <;> omega
  have m0 := Int.emod_nonneg (y.a - x.a - x.r) (show (if y.e < x.e then y.e else x.e) ≠ 0 by omega)
  unfold addN
  by_cases c : y.e ≤ x.e
  · rw [if_pos c]
    exact ⟨x1, x2, x3, by show 0 ≤ x.r + (y.a - x.a - x.r) % (if y.e < x.e then y.e else x.e) + y.r; omega⟩
  · rw [if_neg c]
    exact ⟨y1, Int.emod_nonneg _ (by omega), Int.emod_lt_of_pos _ (by omega), by show 0 ≤ x.r + (y.a - x.a - x.r) % (if y.e < x.e then y.e else x.e) + y.r; omega⟩
theorem step_lt {e j : Int} (he : 1 ≤ e) (h : e * j < e) : e * j ≤ 0 := by
  have q : j ≤ 0 := by
    by_cases c : j ≤ 0
    · exact c
    · have := Int.mul_le_mul_of_nonneg_left (show (1 : Int) ≤ j by omega) (show 0 ≤ e by omega)
      omega
  exact Int.mul_nonpos_of_nonneg_of_nonpos (by omega) q
theorem addN_call {x y : N3} (ox : x.ok) (oy : y.ok) (fit : x.e ∣ y.e ∨ y.e ∣ x.e) (t : Int) : dep (addN x y) t + (addN x y).r = dep y (dep x t + x.r) + y.r := by
  have x1 := ox.1
  have y1 := oy.1
  obtain ⟨kx, ex⟩ := dep_mod ox t
  have dx := dep_le ox t
  unfold addN
  by_cases c : y.e ≤ x.e
  · have dv : y.e ∣ x.e := by
      rcases fit with f | f
      · have := Int.le_of_dvd (by omega) f
        rw [show x.e = y.e by omega]
        exact Int.dvd_refl _
      · exact f
    have le : (if y.e < x.e then y.e else x.e) = y.e := by split <;> omega
    rw [if_pos c, le]
    obtain ⟨m, em⟩ := dv
    show dep x t + (x.r + (y.a - x.a - x.r) % y.e + y.r) = dep y (dep x t + x.r) + y.r
    show _ = dep x t + x.r + (y.a - (dep x t + x.r)) % y.e + y.r
    have e : y.a - (dep x t + x.r) = (y.a - x.a - x.r) + y.e * (-(m * kx)) := by
      rw [ex, em, Int.mul_neg, Int.mul_assoc]
      omega
    rw [e, Int.add_mul_emod_self_left]
    omega
  · have dv : x.e ∣ y.e := by
      rcases fit with f | f
      · exact f
      · have := Int.le_of_dvd (by omega) f
        omega
    have le : (if y.e < x.e then y.e else x.e) = x.e := by split <;> omega
    rw [if_neg c, le]
    obtain ⟨m, em⟩ := dv
    have w0 := Int.emod_nonneg (y.a - x.a - x.r) (show x.e ≠ 0 by omega)
    have w1 := Int.emod_lt_of_pos (y.a - x.a - x.r) (show 0 < x.e by omega)
    have we := Int.emod_add_mul_ediv (y.a - x.a - x.r) x.e
    generalize hw : (y.a - x.a - x.r) % x.e = w at *
    generalize (y.a - x.a - x.r) / x.e = wq at *
    have okn : N3.ok ⟨y.e, (y.a - (x.r + w)) % y.e, x.r + w + y.r⟩ := ⟨y1, Int.emod_nonneg _ (by omega), Int.emod_lt_of_pos _ (by omega), by
      have := ox.2.2.2
      have := oy.2.2.2
      show 0 ≤ x.r + w + y.r
      omega⟩
    obtain ⟨ks, es⟩ := dep_mod okn t
    have ds := dep_le okn t
    have ae := Int.emod_add_mul_ediv (y.a - (x.r + w)) y.e
    generalize (y.a - (x.r + w)) / y.e = aq at *
    generalize hs : dep ⟨y.e, (y.a - (x.r + w)) % y.e, x.r + w + y.r⟩ t = s at *
    have es : s = (y.a - (x.r + w)) % y.e + y.e * ks := es
    have ds1 : s < t + y.e := ds.2
    have sy : s = y.a - (x.r + w) + y.e * (ks - aq) := by rw [Int.mul_sub]; omega
    have sx : s = x.a + x.e * (wq + m * (ks - aq)) := by
      rw [Int.mul_add, ← Int.mul_assoc, ← em]
      omega
    have lo : dep x t ≤ s := by
      have g : dep x t - s = x.e * (kx - (wq + m * (ks - aq))) := by rw [Int.mul_sub]; omega
      have := step_lt (e := x.e) (j := kx - (wq + m * (ks - aq))) x1 (by omega)
      omega
    have hi : s - y.e ≤ dep x t - x.e := by
      have g : s - y.e - (dep x t - x.e) = x.e * (wq + m * (ks - aq) - m - kx + 1) := by
        rw [Int.mul_add, Int.mul_sub, Int.mul_sub, Int.mul_one, ← em]
        omega
      have := step_lt (e := x.e) (j := wq + m * (ks - aq) - m - kx + 1) x1 (by omega)
      omega
    have q := dep_is oy (t := dep x t + x.r) (d := s + (x.r + w)) (k := ks - aq) (by omega) (by omega) (by omega)
    rw [q]
    show s + (x.r + w + y.r) = _
    omega

theorem addN_e {x y : N3} : (addN x y).e = if y.e > x.e then y.e else x.e := by
  unfold addN
  by_cases c : y.e ≤ x.e
  · rw [if_pos c, if_neg (show ¬ y.e > x.e by omega)]
  · rw [if_neg c, if_pos (show y.e > x.e by omega)]
theorem dep_at {n : N3} : dep n n.a = n.a := by
  unfold dep
  rw [Int.sub_self, Int.zero_emod, Int.add_zero]
theorem dep_behind {n : N3} (h : 1 ≤ n.e) : dep n (n.a + 1) = n.a + n.e := by
  unfold dep
  rw [show n.a - (n.a + 1) = (n.e - 1) + n.e * (-1) by omega, Int.add_mul_emod_self_left, Int.emod_eq_of_lt (by omega) (by omega)]
  omega
/-- travel times over a headway -/
def trv (n : N3) (t : Int) : Int := dep n t + n.r - t
theorem trv_ge {n : N3} (h : n.ok) (t : Int) : n.r ≤ trv n t := by
  have := dep_le h t
  unfold trv
  omega
theorem trv_at {n : N3} : trv n n.a = n.r := by
  unfold trv
  rw [dep_at]
  omega
theorem trv_only {n : N3} (h : n.ok) {t : Int} (h0 : 0 ≤ t) (h1 : t < n.a) : trv n t ≠ n.r := by
  obtain ⟨g1, g2, g3, g4⟩ := h
  unfold trv dep
  rw [Int.emod_eq_of_lt (by omega) (by omega)]
  omega
def trvs (n : N3) (i : Nat) : List Int := (List.range i).map fun (t : Nat) => trv n t
theorem trvs_len (n : N3) (i : Nat) : (trvs n i).length = i := by
  unfold trvs
  rw [List.length_map, List.length_range]
theorem trvs_get {n : N3} {i t : Nat} (h : t < i) : (trvs n i)[t]? = some (trv n t) := by
  unfold trvs
  rw [List.getElem?_map, List.getElem?_range h]
  rfl
theorem trvs_min {n : N3} (h : n.ok) {i : Nat} (hi : (i : Int) = n.e) {m : Int} (h1 : m ∈ trvs n i) (h2 : ∀ y ∈ trvs n i, m ≤ y) : m = n.r := by
  obtain ⟨g1, g2, g3, g4⟩ := id h
  have a : n.r ∈ trvs n i := by
    refine List.mem_of_getElem? (i := n.a.toNat) ?_
    rw [trvs_get (by omega), show ((n.a.toNat : Nat) : Int) = n.a by omega, trv_at]
  have := h2 _ a
  unfold trvs at h1
  obtain ⟨t, _, rfl⟩ := List.mem_map.mp h1
  have := trv_ge h (t : Int)
  omega
theorem fitT3s (a b c : Int) (z : Str) (ha : Sz 1000 a) (hb : Sz 1000 b) (hc : Sz 1000 c) (hz : wt (.str z) ≤ 100) : Fit (.list [.tuple [.int a, .int b, .int c], .str z]) := by
  refine ⟨?_, ?_, ?_, ?_⟩
  · simp only [PyData.showable, PyData.showableAll, decide_eq_true (ha.log (by decide) (by decide)), decide_eq_true (hb.log (by decide) (by decide)), decide_eq_true (hc.log (by decide) (by decide)), Bool.and_self]
  · simp only [PyData.hasDict, PyData.hasDictAll, Bool.or_self]
  · simp only [PyData.depth, PyData.depthAll]
    decide
  · simp only [wt, wtAll] at hz ⊢
    omega
theorem shaped33 (a b c d e f : Int) : SeqAt.shaped (.list [.tuple [.int a, .int b, .int c], .tuple [.int d, .int e, .int f]]) = true := by
  unfold SeqAt.shaped
  simp only [PyData.canLay0, PyData.canLayAll0, PyData.depth, PyData.depthAll, Bool.true_and, Bool.and_true]
  exact decide_eq_true (by omega)
theorem eqv33 (a b c d e f : Int) : PyData.eqv (.list [.tuple [.int a, .int b, .int c], .tuple [.int d, .int e, .int f]]) (.list [.tuple [.int a, .int b, .int c], .tuple [.int d, .int e, .int f]]) = true := by
  simp [PyData.eqv, PyData.eqvAll]
theorem eqV_int {a b : Int} : eqV (.int a) (.int b) = true ↔ a = b := by
  unfold eqV
  simp
/-- legs one after another -/
def endL (ns : List N3) (t : Int) : Int := ns.foldl (fun t n => dep n t + n.r) t
def sumL : List N3 → N3
  | [] => ⟨1, 0, 0⟩
  | n :: r => r.foldl addN n
theorem addN_e2 (x y : N3) : (addN x y).e = x.e ∨ (addN x y).e = y.e := by
  rw [addN_e]
  split
  · exact .inr rfl
  · exact .inl rfl
theorem fold_ok : ∀ (r : List N3) (n : N3), n.ok → (∀ m ∈ r, m.ok) → FitL (n :: r) → (r.foldl addN n).ok ∧ (∃ m ∈ n :: r, (r.foldl addN n).e = m.e) ∧ (∀ t, dep (r.foldl addN n) t + (r.foldl addN n).r = endL r (dep n t + n.r))
  | [], n, on, _, _ => ⟨on, ⟨n, List.mem_cons_self, rfl⟩, fun _ => rfl⟩
  | m :: r, n, on, or, hf => by
    have om := or m List.mem_cons_self
    have fnm := hf n List.mem_cons_self m (List.mem_cons_of_mem _ List.mem_cons_self)
    have o2 := addN_ok on om
    have hf2 : FitL (addN n m :: r) := by
      have any : ∀ x ∈ addN n m :: r, ∃ y ∈ n :: m :: r, x.e = y.e := by
        intro x hx
        rcases List.mem_cons.mp hx with e | e
        · subst e
          rcases addN_e2 n m with q | q
          · exact ⟨n, List.mem_cons_self, q⟩
          · exact ⟨m, List.mem_cons_of_mem _ List.mem_cons_self, q⟩
        · exact ⟨x, List.mem_cons_of_mem _ (List.mem_cons_of_mem _ e), rfl⟩
      intro x hx y hy
      obtain ⟨u, hu, eu⟩ := any x hx
      obtain ⟨v, hv, ev⟩ := any y hy
      rw [eu, ev]
      exact hf u hu v hv
    obtain ⟨q1, ⟨z, hz, ez⟩, q3⟩ := fold_ok r (addN n m) o2 (fun x hx => or x (List.mem_cons_of_mem _ hx)) hf2
    refine ⟨q1, ?_, fun t => ?_⟩
    · rcases List.mem_cons.mp hz with e | e
      · subst e
        rcases addN_e2 n m with q | q
        · exact ⟨n, List.mem_cons_self, ez.trans q⟩
        · exact ⟨m, List.mem_cons_of_mem _ List.mem_cons_self, ez.trans q⟩
      · exact ⟨z, List.mem_cons_of_mem _ (List.mem_cons_of_mem _ e), ez⟩
    · show dep (r.foldl addN (addN n m)) t + (r.foldl addN (addN n m)).r = endL r (dep m (dep n t + n.r) + m.r)
      rw [q3, addN_call on om fnm]
theorem sumL_ok {ns : List N3} (h0 : ns ≠ []) (ho : ∀ n ∈ ns, n.ok) (hf : FitL ns) : (sumL ns).ok ∧ (∃ m ∈ ns, (sumL ns).e = m.e) ∧ ∀ t, dep (sumL ns) t + (sumL ns).r = endL ns t := by
  match ns, h0 with
  | n :: r, _ => exact fold_ok r n (ho n List.mem_cons_self) (fun m hm => ho m (List.mem_cons_of_mem _ hm)) hf
theorem sum_take (n : N3) (r : List N3) (i : Nat) (m : N3) (h : r[i]? = some m) : (r.take (i + 1)).foldl addN n = addN ((r.take i).foldl addN n) m := by
  rw [List.take_add_one, h, List.foldl_append]
  rfl
theorem end_take (ns : List N3) (i : Nat) (m : N3) (t : Int) (h : ns[i]? = some m) : endL (ns.take (i + 1)) t = dep m (endL (ns.take i) t) + m.r := by
  unfold endL
  rw [List.take_add_one, h, List.foldl_append]
  rfl
/-- the least wait between two lines -/
def gapN (f b : N3) : Int := (b.a - f.a - f.r) % (if b.e < f.e then b.e else f.e)
theorem sorted_perm_fit {es es' : List Int} (hp : es'.Perm es) (hf : ∀ x ∈ es, ∀ y ∈ es, x ∣ y ∨ y ∣ x) : ∀ x ∈ es', ∀ y ∈ es', x ∣ y ∨ y ∣ x := fun x hx y hy => hf x (hp.mem_iff.mp hx) y (hp.mem_iff.mp hy)
theorem cut_from {α : Type} (xs : List α) (k : Nat) (h : k ≤ xs.length) : (xs.drop (HT.sIx xs.length 0 (some (k : Int)))).take (HT.sIx xs.length xs.length none - HT.sIx xs.length 0 (some (k : Int))) = xs.drop k := by
  rw [HT.sIx_nat, HT.sIx_none, Nat.min_eq_left h]
  exact List.take_of_length_le (by rw [List.length_drop]; exact Nat.le_refl _)
theorem cut_mid {α : Type} (xs : List α) (a b : Nat) (h1 : a ≤ b) (h : b ≤ xs.length) : (xs.drop (HT.sIx xs.length 0 (some (a : Int)))).take (HT.sIx xs.length xs.length (some (b : Int)) - HT.sIx xs.length 0 (some (a : Int))) = (xs.drop a).take (b - a) := by
  rw [HT.sIx_nat, HT.sIx_nat, Nat.min_eq_left h, Nat.min_eq_left (by omega)]
def numsL (kns : List (LK × N3)) : List N3 := kns.map Prod.snd
theorem nums_len (kns : List (LK × N3)) : (numsL kns).length = kns.length := by unfold numsL; rw [List.length_map]
theorem nums_get {kns : List (LK × N3)} {i : Nat} {kn : LK × N3} (h : kns[i]? = some kn) : (numsL kns)[i]? = some kn.2 := by unfold numsL; rw [List.getElem?_map, h]; rfl
theorem nums_cut (kns : List (LK × N3)) (a b : Nat) : numsL ((kns.drop a).take b) = ((numsL kns).drop a).take b := by unfold numsL; rw [List.map_take, List.map_drop]
theorem okL_sum {kns : List (LK × N3)} (h : OkL kns) : (sumL (numsL kns)).ok ∧ (∃ m ∈ numsL kns, (sumL (numsL kns)).e = m.e) ∧ ∀ t, dep (sumL (numsL kns)) t + (sumL (numsL kns)).r = endL (numsL kns) t :=
  sumL_ok (fun e => by have := h.lo; have q := nums_len kns; rw [e] at q; simp at q; omega) (fun n hn => by obtain ⟨kn, hk, rfl⟩ := List.mem_map.mp hn; exact h.ok kn hk) h.fit
theorem at_refs {rs : List Addr} {kns : List (LK × N3)} {K : Frag} {H : Hp} (h : LgAt K H rs kns) {i : Nat} (hi : i < kns.length) : ∃ r kn, rs[i]? = some r ∧ kns[i]? = some kn ∧ LnAt K H r kn.1 kn.2 := by
  have hi2 : i < rs.length := by rw [h.1]; exact hi
  exact ⟨rs[i], kns[i], List.getElem?_eq_getElem hi2, List.getElem?_eq_getElem hi, h.2 i _ _ (List.getElem?_eq_getElem hi2) (List.getElem?_eq_getElem hi)⟩
theorem rt_field {l : V} : (putF "held_legs" l []).lookup ("held_legs" : Str) = some l := by rw [lookup_putF, if_pos rfl]
theorem rt_no {l : V} {m : Str} (h : ¬ m = "held_legs" := by decide +kernel) : (putF "held_legs" l []).lookup m = none := by
  rw [lookup_putF, if_neg h]
  rfl

/-- the slack of a leg, for a start -/
def slN (ns : List N3) (t : Int) (i : Nat) : Int := if i + 1 = ns.length then 0 else dep (sumL (ns.drop (i + 1))) (endL (ns.take (i + 1)) t) - endL (ns.take (i + 1)) t
def lsN (ns : List N3) (i : Nat) : Int := if i + 1 = ns.length then 0 else gapN (sumL (ns.take (i + 1))) (sumL (ns.drop (i + 1)))
abbrev sp_Line_every : Frag → Sp := fun K => getSp (ga K "Line") "held_every"
theorem ok_Line_every (Z : Zs cks fns K mg) : ∀ k, FnOk PP w K mg base (L2.CX PP w) 1 (prA K (ga K "Line") "every") (fdAt K (prA K (ga K "Line") "every")) ["self"] (getSp (cA K k) "held_every") := fun k => ok_getter (u_Line_every Z) sc_Line_every rfl rfl ((lnF Z).cls k) ((lnF Z).nE k)
abbrev sp_Line_at : Frag → Sp := fun K => getSp (ga K "Line") "held_at"
theorem ok_Line_at (Z : Zs cks fns K mg) : ∀ k, FnOk PP w K mg base (L2.CX PP w) 1 (prA K (ga K "Line") "at") (fdAt K (prA K (ga K "Line") "at")) ["self"] (getSp (cA K k) "held_at") := fun k => ok_getter (u_Line_at Z) sc_Line_at rfl rfl ((lnF Z).cls k) ((lnF Z).nA k)
abbrev sp_Line_ride : Frag → Sp := fun K => getSp (ga K "Line") "held_ride"
theorem ok_Line_ride (Z : Zs cks fns K mg) : ∀ k, FnOk PP w K mg base (L2.CX PP w) 1 (prA K (ga K "Line") "ride") (fdAt K (prA K (ga K "Line") "ride")) ["self"] (getSp (cA K k) "held_ride") := fun k => ok_getter (u_Line_ride Z) sc_Line_ride rfl rfl ((lnF Z).cls k) ((lnF Z).nR k)
def sp_Line_departure (K : Frag) : Sp := fun vs H Q E => ∃ (a : Addr) (k : LK) (n : N3) (t : Int), vs = [.ref a, .int t] ∧ LnAt K H a k n ∧ n.ok ∧ Q (.int (dep n t)) H
theorem ok_Line_departure (Z : Zs cks fns K mg) : FnOk PP w K mg base (L2.CX PP w) 1 (ma K (ga K "Line") "departure") (fdAt K (ma K (ga K "Line") "departure")) ["self", "time"] (sp_Line_departure K) := by
  refine L2.Fun.okX (u_Line_departure Z) sc_Line_departure (fun vs H Q E h => ?_) (fun cdv A outer s H vs Q E hr h => ?_)
  · obtain ⟨_, _, _, _, rfl, _⟩ := h
    rfl
  · obtain ⟨a, k, n, t, rfl, ⟨⟨dx, hA⟩, ⟨h1, _, _, _⟩, hq⟩⟩ := h
    refine ⟨_, (pss_one (ps_ret (pe_op op_add (pv 1) (pe_op op_mod (pe_op op_sub (pe_fld (pv 0) rfl) (pv 1)) (pe_fld (pv 0) rfl))))), ?_⟩
    refine ⟨_, rfl, _, rfl, a, _, dx, _, _, rfl, hA, (lnF Z).cls k, (lnF Z).nA k, lf_a n, _, rfl, _, _, rfl, rfl, ?_⟩
    exact ⟨_, rfl, a, _, dx, _, _, rfl, hA, (lnF Z).cls k, (lnF Z).nE k, lf_e n, _, _, rfl, rfl, (by show 0 < n.e; omega), _, _, rfl, rfl, hq⟩
end
section
variable {w : World} {K : Frag} {mg : Str → Option Value} {base : Heap}
def arN (x : N3) (t : Int) : Int := dep x t + x.r
theorem mod_eq {e a b k : Int} (h : a = b + e * k) : a % e = b % e := by
  rw [h, Int.add_mul_emod_self_left]
theorem gal {n : N3} (h : n.ok) (t s : Int) : arN n t ≤ s ↔ t ≤ lat n s := by
  have h1 := h.1
  have d := dep_le h t
  have l := lat_le h s
  obtain ⟨i, ei⟩ := dep_mod h t
  obtain ⟨j, ej⟩ := lat_mod n s
  unfold arN
  have e : dep n t - lat n s = n.e * (i - j) := by rw [Int.mul_sub]; omega
  constructor
  · intro q
    have := step_lt (e := n.e) (j := i - j) h1 (by omega)
    omega
  · intro q
    have := step_lt (e := n.e) (j := i - j) h1 (by omega)
    omega
theorem emod_part (x e : Int) : ∃ k, x % e = x + e * k := by
  have := Int.emod_add_mul_ediv x e
  exact ⟨-(x / e), by rw [Int.mul_neg]; omega⟩
/-- the latest start, leg by leg -/
def backL (ns : List N3) (s : Int) : Int := ns.foldr (fun n s => lat n s) s
theorem gal_all : ∀ (ns : List N3), (∀ n ∈ ns, n.ok) → ∀ t s, endL ns t ≤ s ↔ t ≤ backL ns s
  | [], _, t, s => Iff.rfl
  | n :: r, h, t, s => by
    show endL r (arN n t) ≤ s ↔ t ≤ lat n (backL r s)
    rw [gal_all r (fun m hm => h m (List.mem_cons_of_mem _ hm)), gal (h n List.mem_cons_self)]
theorem back_app (xs ys : List N3) (s : Int) : backL (xs ++ ys) s = backL xs (backL ys s) := by
  unfold backL
  rw [List.foldr_append]
theorem end_app (xs ys : List N3) (t : Int) : endL (xs ++ ys) t = endL ys (endL xs t) := by
  unfold endL
  rw [List.foldl_append]
theorem lat_sum {ns : List N3} (h0 : ns ≠ []) (ho : ∀ n ∈ ns, n.ok) (hf : FitL ns) (s : Int) : lat (sumL ns) s = backL ns s := by
  obtain ⟨o, _, e⟩ := sumL_ok h0 ho hf
  have k : ∀ t, t ≤ lat (sumL ns) s ↔ t ≤ backL ns s := fun t => by
    rw [← gal o, ← gal_all ns ho, ← e t]
    exact Iff.rfl
  have a := (k _).mp (Int.le_refl _)
  have b := (k _).mpr (Int.le_refl _)
  omega
theorem back_step (ns : List N3) (i : Nat) (m : N3) (s : Int) (h : ns[i]? = some m) : backL (ns.drop i) s = lat m (backL (ns.drop (i + 1)) s) := by
  obtain ⟨hl, rfl⟩ := List.getElem?_eq_some_iff.mp h
  rw [List.drop_eq_getElem_cons hl]
  rfl
theorem mod_le {x : Int} (h : 0 ≤ x) {m : Int} (hm : 0 < m) : x % m ≤ x := by
  have := Int.emod_add_mul_ediv x m
  have q : 0 ≤ m * (x / m) := Int.mul_nonneg (by omega) (Int.ediv_nonneg h (by omega))
  omega
theorem slack_two {A B : N3} (oa : A.ok) (ob : B.ok) (hd : A.e ∣ B.e ∨ B.e ∣ A.e) (t : Int) :
    0 ≤ gapN A B ∧ gapN A B ≤ dep B (arN A t) - arN A t ∧ 0 ≤ dep B (arN A t) - arN A t := by
  have a1 := oa.1
  have b1 := ob.1
  obtain ⟨j, ej⟩ := dep_mod oa t
  have e1 : dep B (arN A t) - arN A t = (B.a - A.a - A.r - A.e * j) % B.e := by
    unfold arN
    rw [ej]
    unfold dep
    rw [show B.a - (A.a + A.e * j + A.r) = B.a - A.a - A.r - A.e * j by omega]
    omega
  have nn := Int.emod_nonneg (B.a - A.a - A.r - A.e * j) (show B.e ≠ 0 by omega)
  have key : ∀ m : Int, 0 < m → m ∣ A.e → m ∣ B.e → 0 ≤ (B.a - A.a - A.r) % m ∧ (B.a - A.a - A.r) % m ≤ (B.a - A.a - A.r - A.e * j) % B.e := by
    rintro m m1 ⟨u, hu⟩ dv
    refine ⟨Int.emod_nonneg _ (by omega), ?_⟩
    have q := mod_le nn m1
    rw [Int.emod_emod_of_dvd _ dv, mod_eq (a := B.a - A.a - A.r - A.e * j) (b := B.a - A.a - A.r) (k := -(u * j)) (by rw [hu, Int.mul_neg, ← Int.mul_assoc]; omega)] at q
    exact q
  rw [e1]
  have g : gapN A B = (B.a - A.a - A.r) % (if B.e < A.e then B.e else A.e) := rfl
  by_cases c : B.e < A.e
  · rw [g, if_pos c]
    have dv : B.e ∣ A.e := by
      rcases hd with d | d
      · have := Int.le_of_dvd (by omega) d
        omega
      · exact d
    have k := key B.e (by omega) dv (Int.dvd_refl _)
    exact ⟨k.1, k.2, nn⟩
  · rw [g, if_neg c]
    have dv : A.e ∣ B.e := by
      rcases hd with d | d
      · exact d
      · have := Int.le_of_dvd (by omega) d
        rw [show A.e = B.e by omega]
        exact Int.dvd_refl _
    have k := key A.e (by omega) (Int.dvd_refl _) dv
    exact ⟨k.1, k.2, nn⟩
theorem slack_back {A B : N3} (oa : A.ok) (ob : B.ok) (hd : A.e ∣ B.e ∨ B.e ∣ A.e) (s : Int) :
    dep B (arN A (lat A (lat B s))) - arN A (lat A (lat B s)) = gapN A B := by
  have a1 := oa.1
  have b1 := ob.1
  obtain ⟨jb, hb⟩ := lat_mod B s
  generalize lat B s = d at *
  obtain ⟨ja, ha⟩ := lat_mod A d
  have e0 : arN A (lat A d) = d - (d - A.r - A.a) % A.e := by
    unfold arN dep
    rw [ha, mod_eq (a := A.a - (A.a + A.e * ja)) (b := 0) (k := -ja) (by rw [Int.mul_neg]; omega), Int.zero_emod, ← ha]
    unfold lat
    omega
  rw [e0]
  have e1 : dep B (d - (d - A.r - A.a) % A.e) - (d - (d - A.r - A.a) % A.e) = ((d - A.r - A.a) % A.e) % B.e := by
    unfold dep
    rw [mod_eq (a := B.a - (d - (d - A.r - A.a) % A.e)) (b := (d - A.r - A.a) % A.e) (k := -jb) (by rw [hb, Int.mul_neg]; omega)]
    omega
  rw [e1]
  have nn := Int.emod_nonneg (d - A.r - A.a) (show A.e ≠ 0 by omega)
  have lt := Int.emod_lt_of_pos (d - A.r - A.a) (show 0 < A.e by omega)
  have g : gapN A B = (B.a - A.a - A.r) % (if B.e < A.e then B.e else A.e) := rfl
  have key : ∀ m : Int, m ∣ B.e → (d - A.r - A.a) % m = (B.a - A.a - A.r) % m := by
    rintro m ⟨u, hu⟩
    exact mod_eq (k := u * jb) (by rw [hb, hu, ← Int.mul_assoc]; omega)
  by_cases c : B.e < A.e
  · rw [g, if_pos c]
    have dv : B.e ∣ A.e := by
      rcases hd with d | d
      · have := Int.le_of_dvd (by omega) d
        omega
      · exact d
    rw [Int.emod_emod_of_dvd _ dv]
    exact key B.e (Int.dvd_refl _)
  · rw [g, if_neg c]
    have dv : A.e ∣ B.e := by
      rcases hd with d | d
      · exact d
      · have := Int.le_of_dvd (by omega) d
        rw [show A.e = B.e by omega]
        exact Int.dvd_refl _
    rw [Int.emod_eq_of_lt nn (by omega)]
    exact key A.e dv
/-- the two halves of a route -/
theorem halves {ns : List N3} (ho : ∀ n ∈ ns, n.ok) (hf : FitL ns) {i : Nat} (hi : i + 1 < ns.length) :
    ∃ A B, A = sumL (ns.take (i + 1)) ∧ B = sumL (ns.drop (i + 1)) ∧ A.ok ∧ B.ok ∧ (A.e ∣ B.e ∨ B.e ∣ A.e) ∧ (∃ m ∈ ns, A.e = m.e) ∧ (∀ t, arN A t = endL (ns.take (i + 1)) t) ∧ (∀ t, arN B t = endL (ns.drop (i + 1)) t) ∧ ∀ s, backL ns s = lat A (lat B s) := by
  have sa : ∀ x ∈ ns.take (i + 1), x ∈ ns := fun x hx => List.mem_of_mem_take hx
  have sb : ∀ x ∈ ns.drop (i + 1), x ∈ ns := fun x hx => List.mem_of_mem_drop hx
  have na : ns.take (i + 1) ≠ [] := fun e => by
    have := congrArg List.length e
    rw [List.length_take, List.length_nil] at this
    omega
  have nb : ns.drop (i + 1) ≠ [] := fun e => by
    have := congrArg List.length e
    rw [List.length_drop, List.length_nil] at this
    omega
  have ha := fun x (hx : x ∈ ns.take (i + 1)) => ho x (sa x hx)
  have hb := fun x (hx : x ∈ ns.drop (i + 1)) => ho x (sb x hx)
  have fa : FitL (ns.take (i + 1)) := fun x hx y hy => hf x (sa x hx) y (sa y hy)
  have fb : FitL (ns.drop (i + 1)) := fun x hx y hy => hf x (sb x hx) y (sb y hy)
  obtain ⟨oa, ⟨u, hu, eu⟩, qa⟩ := sumL_ok na ha fa
  obtain ⟨ob, ⟨v, hv, ev⟩, qb⟩ := sumL_ok nb hb fb
  refine ⟨_, _, rfl, rfl, oa, ob, by rw [eu, ev]; exact hf u (sa u hu) v (sb v hv), ⟨u, sa u hu, eu⟩, qa, qb, fun s => ?_⟩
  rw [lat_sum na ha fa, lat_sum nb hb fb, ← back_app, List.take_append_drop]
/-- what the law asks of the slack -/
theorem slack_right {ns : List N3} (ho : ∀ n ∈ ns, n.ok) (hf : FitL ns) {i : Nat} (hi : i < ns.length) (t : Int) :
    0 ≤ lsN ns i ∧ lsN ns i ≤ slN ns t i ∧ endL (ns.drop (i + 1)) (endL (ns.take (i + 1)) t + slN ns t i) = endL (ns.drop (i + 1)) (endL (ns.take (i + 1)) t) ∧
      endL (ns.drop (i + 1)) (endL (ns.take (i + 1)) t) < endL (ns.drop (i + 1)) (endL (ns.take (i + 1)) t + slN ns t i + 1) := by
  unfold lsN slN
  by_cases c : i + 1 = ns.length
  · rw [if_pos c, if_pos c, List.drop_of_length_le (by omega)]
    have e : ∀ x, endL [] x = x := fun _ => rfl
    refine ⟨Int.le_refl _, Int.le_refl _, ?_, ?_⟩
    · rw [e, e]
      omega
    · rw [e, e]
      omega
  · rw [if_neg c, if_neg c]
    obtain ⟨A, B, hA, hB, oa, ob, hd, _, ea, eb, _⟩ := halves ho hf (show i + 1 < ns.length by omega)
    rw [← hA, ← hB, ← ea, ← eb, ← eb, ← eb]
    have q := slack_two oa ob hd t
    refine ⟨q.1, q.2.1, ?_, ?_⟩
    · rw [show arN A t + (dep B (arN A t) - arN A t) = dep B (arN A t) by omega]
      have b1 := ob.1
      obtain ⟨j, ej⟩ := dep_mod ob (arN A t)
      show dep B (dep B (arN A t)) + B.r = dep B (arN A t) + B.r
      have : dep B (dep B (arN A t)) = dep B (arN A t) := by
        rw [ej]
        show _ + (B.a - (B.a + B.e * j)) % B.e = _
        rw [mod_eq (a := B.a - (B.a + B.e * j)) (b := 0) (k := -j) (by rw [Int.mul_neg]; omega), Int.zero_emod]
        omega
      omega
    · rw [show arN A t + (dep B (arN A t) - arN A t) + 1 = dep B (arN A t) + 1 by omega]
      have := dep_le ob (dep B (arN A t) + 1)
      show dep B (arN A t) + B.r < dep B (dep B (arN A t) + 1) + B.r
      omega
theorem slack_end {ns : List N3} (ho : ∀ n ∈ ns, n.ok) (hf : FitL ns) {i : Nat} (hi : i < ns.length) (s : Int) : slN ns (backL ns s) i = lsN ns i := by
  unfold lsN slN
  by_cases c : i + 1 = ns.length
  · rw [if_pos c, if_pos c]
  · rw [if_neg c, if_neg c]
    obtain ⟨A, B, hA, hB, oa, ob, hd, _, ea, eb, eback⟩ := halves ho hf (show i + 1 < ns.length by omega)
    rw [← hA, ← hB, ← ea, eback]
    exact slack_back oa ob hd s
theorem slack_size {ns : List N3} (ho : ∀ n ∈ ns, n.ok) (hf : FitL ns) {L : Int} (hL : ∀ n ∈ ns, n.e ≤ L) (h0 : 0 ≤ L) {i : Nat} (hi : i < ns.length) : 0 ≤ lsN ns i ∧ lsN ns i ≤ L := by
  refine ⟨(slack_right ho hf hi 0).1, ?_⟩
  unfold lsN
  by_cases c : i + 1 = ns.length
  · rw [if_pos c]
    exact h0
  · rw [if_neg c]
    obtain ⟨A, B, hA, hB, oa, ob, hd, ⟨m, hm, em⟩, ea, eb, eback⟩ := halves ho hf (show i + 1 < ns.length by omega)
    rw [← hA, ← hB]
    have a1 := oa.1
    have b1 := ob.1
    have := hL m hm
    unfold gapN
    have q := Int.emod_lt_of_pos (B.a - A.a - A.r) (show 0 < (if B.e < A.e then B.e else A.e) by split <;> omega)
    have : (if B.e < A.e then B.e else A.e) ≤ A.e := by split <;> omega
    omega
theorem rw_cut {H : Hp} {p q : Addr} {rs : List Addr} {ns : List N3} (h : RwAt H p rs ns) (hq : H q = none) (a b : Nat) : RwAt (upd H q (.lst (((rs.drop a).take b).map V.ref))) q ((rs.drop a).take b) ((ns.drop a).take b) := by
  refine ⟨upd_same, by rw [List.length_take, List.length_take, List.length_drop, List.length_drop, h.2.1], fun i r n hr hn => ?_⟩
  have i1 : i < b := by
    have := (List.getElem?_eq_some_iff.mp hr).1
    rw [List.length_take] at this
    omega
  rw [List.getElem?_take_of_lt i1, List.getElem?_drop] at hr hn
  exact (h.2.2 _ _ _ hr hn).same (Same.new hq)
theorem rw_end {H : Hp} {p q : Addr} {rs : List Addr} {ns : List N3} (h : RwAt H p rs ns) (hq : H q = none) (a : Nat) : RwAt (upd H q (.lst ((rs.drop a).map V.ref))) q (rs.drop a) (ns.drop a) := by
  have e := rw_cut h hq a rs.length
  rw [List.take_of_length_le (by rw [List.length_drop]; omega), List.take_of_length_le (by rw [List.length_drop]; have := h.2.1; omega)] at e
  exact e
theorem rw_at {H : Hp} {p : Addr} {rs : List Addr} {ns : List N3} (h : RwAt H p rs ns) {i : Nat} {r : Addr} (hr : rs[i]? = some r) : ∃ n, ns[i]? = some n ∧ T3 H r n := by
  have i1 := (List.getElem?_eq_some_iff.mp hr).1
  have i2 : i < ns.length := by rw [← h.2.1]; exact i1
  exact ⟨ns[i], List.getElem?_eq_getElem i2, h.2.2 i r _ hr (List.getElem?_eq_getElem i2)⟩
theorem tape_refs {a p : Addr} {N : Nat} {H : Hp} {rs : List Addr} (t : Tp a N H) (h : H p = some (.lst (rs.map V.ref))) : ¬ fdM a p := by
  rintro rfl
  obtain ⟨d, m, n, e, _⟩ := t
  rw [e] at h
  cases rs with
  | nil => cases h
  | cons r rr => cases h
theorem rw_ext {a p : Addr} {N : Nat} {H H' : Hp} {rs : List Addr} {ns : List N3} (h : RwAt H p rs ns) (t : Tp a N H) (x : Ext (fdM a) H H') : RwAt H' p rs ns :=
  ⟨x _ _ (tape_refs t h.1) h.1, h.2.1, fun i r n hr hn => t.tup x (h.2.2 i r n hr hn)⟩
theorem rt_ext {K : Frag} {a p : Addr} {N : Nat} {H H' : Hp} {kns : List (LK × N3)} (h : RtAt K H p kns) (t : Tp a N H) (x : Ext (fdM a) H H') : RtAt K H' p kns := by
  obtain ⟨dx, l, rs, h1, h2, h3⟩ := h
  exact ⟨dx, l, rs, x _ _ (t.out h1 fun _ z => nomatch z) h1, x _ _ (tape_refs t h2) h2, h3.1, fun i r kn hr hk => t.line x (h3.2 i r kn hr hk)⟩
theorem lg_snoc {K : Frag} {H : Hp} {qs : List Addr} {kns : List (LK × N3)} (h : LgAt K H qs kns) {q : Addr} {kn : LK × N3} (l : LnAt K H q kn.1 kn.2) : LgAt K H (qs ++ [q]) (kns ++ [kn]) := by
  refine ⟨by rw [List.length_append, List.length_append, h.1]; rfl, fun i r k2 hr hk => ?_⟩
  by_cases c : i < qs.length
  · rw [List.getElem?_append_left c] at hr
    rw [List.getElem?_append_left (by rw [← h.1]; exact c)] at hk
    exact h.2 i r k2 hr hk
  · have e : i = qs.length := by
      have := (List.getElem?_eq_some_iff.mp hr).1
      rw [List.length_append] at this
      simp only [List.length_cons, List.length_nil] at this
      omega
    subst e
    rw [List.getElem?_append_right (Nat.le_refl _), Nat.sub_self] at hr
    rw [h.1, List.getElem?_append_right (Nat.le_refl _), Nat.sub_self] at hk
    obtain rfl := Option.some.inj hr
    obtain rfl := Option.some.inj hk
    exact l
theorem lg_put {K : Frag} {H : Hp} {qs : List Addr} {kns : List (LK × N3)} (h : LgAt K H qs kns) {D : Addr} {xs ys : List V} (hD : H D = some (.lst xs)) : LgAt K (upd H D (.lst ys)) qs kns := by
  refine ⟨h.1, fun i r kn hr hk => ?_⟩
  obtain ⟨dx, e⟩ := h.2 i r kn hr hk
  exact ⟨dx, by rw [upd_ne (ne_of e hD (by intro w; cases w))]; exact e⟩
theorem okL_of {kns : List (LK × N3)} {ns : List N3} (e : numsL kns = ns) (ho : ∀ n ∈ ns, n.ok) (hf : FitL ns) (h1 : 1 ≤ ns.length) (h2 : ns.length ≤ 60) : OkL kns := by
  subst e
  rw [nums_len] at h1 h2
  exact ⟨fun kn hk => ho kn.2 (List.mem_map.mpr ⟨kn, hk, rfl⟩), hf, h1, h2⟩
theorem okL_ok {kns : List (LK × N3)} (h : OkL kns) : ∀ n ∈ numsL kns, n.ok := fun n hn => by
  obtain ⟨kn, hk, rfl⟩ := List.mem_map.mp hn
  exact h.ok kn hk

def ridL (ns : List N3) : Int := (ns.map fun n => n.r).sum
/-- the waits of the latest starts -/
def fixN (ns : List N3) : Int := (sumL ns).r - ridL ns
def totN (ns : List N3) (t : Int) : Int := endL ns t - t - ridL ns
def swN (ns : List N3) (m : Int) : Int := if (if m - fixN ns + 1 < (sumL ns).e then m - fixN ns + 1 else (sumL ns).e) > 0 then (if m - fixN ns + 1 < (sumL ns).e then m - fixN ns + 1 else (sumL ns).e) else 0

def lwL (ns : List N3) (i : Nat) (n : N3) : Int := if i = 0 then 0 else gapN (sumL (ns.take i)) n
def lwS (ns : List N3) (i : Nat) : Int := if i = 0 then 1 else (sumL (ns.take i)).e
def lwM (ns : List N3) (i : Nat) (n : N3) : Int := if n.e / lwS ns i > 1 then n.e / lwS ns i else 1
theorem at_refn {rs : List Addr} {i : Nat} {r : Addr} (h : rs[i]? = some r) : atI (rs.map V.ref) (i : Nat) = some (.ref r) := atI_nat (by rw [List.getElem?_map, h]; rfl)
theorem dep_lat (n : N3) (h : n.ok) (s : Int) : dep n (lat n s) = lat n s := by
  obtain ⟨j, e⟩ := lat_mod n s
  unfold dep
  rw [e, mod_eq (a := n.a - (n.a + n.e * j)) (b := 0) (k := -j) (by rw [Int.mul_neg]; omega), Int.zero_emod]
  omega
theorem fix_right {ns : List N3} (h0 : ns ≠ []) (ho : ∀ n ∈ ns, n.ok) (hf : FitL ns) (g : Int) : totN ns (backL ns g) = fixN ns := by
  obtain ⟨o, _, e⟩ := sumL_ok h0 ho hf
  have q := e (backL ns g)
  rw [← lat_sum h0 ho hf, dep_lat _ o] at q
  unfold totN fixN
  rw [← lat_sum h0 ho hf, ← q]
  omega
theorem fold_top : ∀ (r : List N3) (n : N3), n.e ≤ (r.foldl addN n).e ∧ ∀ m ∈ r, m.e ≤ (r.foldl addN n).e
  | [], n => ⟨Int.le_refl _, fun m h => nomatch h⟩
  | x :: r, n => by
    obtain ⟨q1, q2⟩ := fold_top r (addN n x)
    have a : n.e ≤ (addN n x).e ∧ x.e ≤ (addN n x).e := by
      rw [addN_e]
      split <;> omega
    show n.e ≤ (r.foldl addN (addN n x)).e ∧ _
    refine ⟨by omega, fun m hm => ?_⟩
    show m.e ≤ (r.foldl addN (addN n x)).e
    rcases List.mem_cons.mp hm with e | e
    · rw [e]
      omega
    · exact q2 m e
theorem sum_top {ns : List N3} : ∀ m ∈ ns, m.e ≤ (sumL ns).e := by
  cases ns with
  | nil => exact fun m h => nomatch h
  | cons n r =>
    intro m hm
    rcases List.mem_cons.mp hm with e | e
    · rw [e]
      exact (fold_top r n).1
    · exact (fold_top r n).2 m e
theorem top_is {ns : List N3} (h0 : ns ≠ []) (ho : ∀ n ∈ ns, n.ok) (hf : FitL ns) {m : Int} (hm : m ∈ ns.map (fun n : N3 => n.e)) (hx : ∀ y, y ∈ ns.map (fun n : N3 => n.e) → y ≤ m) : m = (sumL ns).e := by
  obtain ⟨_, ⟨u, hu, eu⟩, _⟩ := sumL_ok h0 ho hf
  obtain ⟨v, hv, rfl⟩ := List.mem_map.mp hm
  have a := sum_top v hv
  have b := hx u.e (List.mem_map.mpr ⟨u, hu, rfl⟩)
  omega
/-- starts_within, as the law says it -/
theorem sw_right (ns : List N3) (more : Int) : swN ns (fixN ns + more) = if (if more + 1 < (sumL ns).e then more + 1 else (sumL ns).e) > 0 then (if more + 1 < (sumL ns).e then more + 1 else (sumL ns).e) else 0 := by
  unfold swN
  rw [show fixN ns + more - fixN ns + 1 = more + 1 by omega]
/-- leg_waits, as the law says it: c is the greatest headway ahead, x the arrival -/
theorem lw_right {ns : List N3} (ho : ∀ n ∈ ns, n.ok) (hf : FitL ns) {i : Nat} {n : N3} (hn : ns[i]? = some n) {c : Int} (hc : c ∈ (1 : Int) :: (ns.take i).map (fun n : N3 => n.e)) (hx : ∀ y, y ∈ (1 : Int) :: (ns.take i).map (fun n : N3 => n.e) → y ≤ c) (t : Int) :
    c = lwS ns i ∧ 1 ≤ c ∧ (c ∣ n.e ∨ n.e ∣ c) ∧ lwL ns i n = (n.a - endL (ns.take i) t) % (if c < n.e then c else n.e) := by
  have hi : i < ns.length := (List.getElem?_eq_some_iff.mp hn).1
  have n1 := (ho n (List.mem_of_getElem? hn)).1
  unfold lwS lwL
  by_cases c0 : i = 0
  · subst c0
    have e : c = 1 := by simpa using hc
    subst e
    rw [if_pos rfl, if_pos rfl]
    refine ⟨rfl, by omega, .inl (Int.one_dvd _), ?_⟩
    by_cases d : (1 : Int) < n.e
    · rw [if_pos d, Int.emod_one]
    · rw [if_neg d, show n.e = 1 by omega, Int.emod_one]
  · rw [if_neg c0, if_neg c0]
    have sa : ∀ x ∈ ns.take i, x ∈ ns := fun x hx => List.mem_of_mem_take hx
    have na : ns.take i ≠ [] := fun e => by
      have := congrArg List.length e
      rw [List.length_take, List.length_nil] at this
      omega
    have ha := fun x (hx : x ∈ ns.take i) => ho x (sa x hx)
    have fa : FitL (ns.take i) := fun x hx y hy => hf x (sa x hx) y (sa y hy)
    obtain ⟨oa, ⟨u, hu, eu⟩, qa⟩ := sumL_ok na ha fa
    have a1 := oa.1
    have ec : c = (sumL (ns.take i)).e := by
      have b := hx u.e (List.mem_cons_of_mem _ (List.mem_map.mpr ⟨u, hu, rfl⟩))
      rcases List.mem_cons.mp hc with e | e
      · omega
      · obtain ⟨v, hv, rfl⟩ := List.mem_map.mp e
        have := sum_top v hv
        omega
    rw [← ec] at a1
    have hd : c ∣ n.e ∨ n.e ∣ c := by
      rw [ec, eu]
      exact hf u (sa u hu) n (List.mem_of_getElem? hn)
    refine ⟨ec, a1, hd, ?_⟩
    have g : gapN (sumL (ns.take i)) n = (n.a - (sumL (ns.take i)).a - (sumL (ns.take i)).r) % (if n.e < (sumL (ns.take i)).e then n.e else (sumL (ns.take i)).e) := rfl
    rw [g, ← qa t]
    obtain ⟨j, ej⟩ := dep_mod oa t
    rw [ej, ← ec]
    have key : ∀ m : Int, m ∣ c → (n.a - (sumL (ns.take i)).a - (sumL (ns.take i)).r) % m = (n.a - ((sumL (ns.take i)).a + c * j + (sumL (ns.take i)).r)) % m := by
      rintro m ⟨k, hk⟩
      exact mod_eq (k := k * j) (by rw [hk, ← Int.mul_assoc]; omega)
    by_cases d : n.e < c
    · rw [if_pos d, if_neg (by omega)]
      refine key _ ?_
      rcases hd with q | q
      · have := Int.le_of_dvd (by omega) q
        omega
      · exact q
    · rw [if_neg d]
      by_cases d2 : c < n.e
      · rw [if_pos d2]
        exact key _ (Int.dvd_refl _)
      · rw [if_neg d2, show n.e = c by omega]
        exact key _ (Int.dvd_refl _)
/-- the last row of the law's check -/
theorem lw_end {c h x : Int} (c1 : 1 ≤ c) (h1 : 1 ≤ h) (hd : c ∣ h ∨ h ∣ c) : (if h / c > 1 then h / c else 1) = 1 ∧ x % h = x % (if c < h then c else h) ∨
    (if h / c > 1 then h / c else 1) ≠ 1 ∧ (x % h - x % (if c < h then c else h)) % c = 0 ∧ x % h < x % (if c < h then c else h) + (if h / c > 1 then h / c else 1) * c := by
  by_cases d : c < h
  · rw [if_pos d]
    have dv : c ∣ h := by
      rcases hd with q | q
      · exact q
      · have := Int.le_of_dvd (by omega) q
        omega
    obtain ⟨k, rfl⟩ := dv
    have ek : c * k / c = k := Int.mul_ediv_cancel_left _ (by omega)
    have k2 : 1 < k := by
      by_cases z : 1 < k
      · exact z
      · have := Int.mul_le_mul_of_nonneg_left (show k ≤ 1 by omega) (show 0 ≤ c by omega)
        omega
    rw [ek, if_pos k2]
    refine .inr ⟨by omega, ?_, ?_⟩
    · have e : x % (c * k) % c = x % c := Int.emod_emod_of_dvd _ ⟨k, rfl⟩
      rw [← e]
      obtain ⟨q, eq⟩ := emod_part (x % (c * k)) c
      rw [eq, mod_eq (a := x % (c * k) - (x % (c * k) + c * q)) (b := 0) (k := -q) (by rw [Int.mul_neg]; omega), Int.zero_emod]
    · have a := Int.emod_lt_of_pos x (show 0 < c * k by omega)
      have b := Int.emod_nonneg x (show c ≠ 0 by omega)
      rw [Int.mul_comm k c]
      omega
  · rw [if_neg d]
    refine .inl ⟨?_, rfl⟩
    have : h / c ≤ 1 := by
      have q := Int.ediv_le_ediv (show 0 < c by omega) (show h ≤ c by omega)
      rw [Int.ediv_self (by omega)] at q
      exact q
    rw [if_neg (by omega)]

theorem rid_cons (n : N3) (r : List N3) : ridL (n :: r) = n.r + ridL r := by
  unfold ridL
  rw [List.map_cons, List.sum_cons]
theorem tot_in {L : Int} : ∀ (ns : List N3), (∀ n ∈ ns, n.ok) → (∀ n ∈ ns, n.e ≤ L) → ∀ t, 0 ≤ totN ns t ∧ totN ns t ≤ (ns.length : Nat) * L
  | [], _, _, t => by
    show 0 ≤ t - t - 0 ∧ t - t - 0 ≤ ((0 : Nat) : Int) * L
    omega
  | n :: r, ho, hL, t => by
    have q := tot_in r (fun m hm => ho m (List.mem_cons_of_mem _ hm)) (fun m hm => hL m (List.mem_cons_of_mem _ hm)) (arN n t)
    have d := dep_le (ho n List.mem_cons_self) t
    have l := hL n List.mem_cons_self
    have e : totN (n :: r) t = totN r (arN n t) + (dep n t - t) := by
      unfold totN
      rw [rid_cons]
      show endL r (arN n t) - t - (n.r + ridL r) = endL r (arN n t) - arN n t - ridL r + (dep n t - t)
      unfold arN
      omega
    have z : (((n :: r).length : Nat) : Int) * L = (r.length : Nat) * L + L := by
      rw [List.length_cons, show ((r.length + 1 : Nat) : Int) = (r.length : Int) + 1 by omega, Int.add_mul, Int.one_mul]
    rw [z]
    omega
theorem fit3 {a b c : Int} (ha : Sz 1000 a) (hb : Sz 1000 b) (hc : Sz 1000 c) : Fit (.tuple [.int a, .int b, .int c]) := by
  refine ⟨?_, ?_, ?_, ?_⟩
  · simp only [PyData.showable, PyData.showableAll, decide_eq_true (ha.log (by decide) (by decide)), decide_eq_true (hb.log (by decide) (by decide)), decide_eq_true (hc.log (by decide) (by decide)), Bool.and_self]
  · simp only [PyData.hasDict, PyData.hasDictAll, Bool.or_self]
  · simp only [PyData.depth, PyData.depthAll]
    decide
  · simp only [wt, wtAll]
    omega

theorem cut_to {α : Type} (xs : List α) (k : Nat) (h : k ≤ xs.length) : (xs.drop (HT.sIx xs.length 0 none)).take (HT.sIx xs.length xs.length (some (k : Int)) - HT.sIx xs.length 0 none) = (xs.drop 0).take k := by
  rw [HT.sIx_nat, HT.sIx_none, Nat.min_eq_left h, Nat.sub_zero]
theorem inV_one (x : Int) : inV (.int x) [.int x] = true := by
  unfold inV
  simp [eqV]

end
section
variable {w : World} {K : Frag} {mg : Str → Option Value} {base : Heap}
def sp__law_tape (K : Frag) : Sp := fun vs H Q E => ∃ (a : Addr) (ns : List Int) (k : Int), vs = [.ref a, .int k] ∧ SqL K H a (ns.map V.int) ∧ 0 ≤ k ∧ k ≤ 63 ∧ ∀ (p : Addr) (H' : Hp), Same H H' → H p = none → Tp p (2 ^ 39) H' → Q (.ref p) H'
theorem ok__law_tape (Z : Zs cks fns K mg) : FnOk PP w K mg base (L2.CX PP w) 1 (ga K "_law_tape") (fdAt K (ga K "_law_tape")) ["script", "k"] (sp__law_tape K) := by
  refine L2.Fun.okX (u__law_tape Z) sc__law_tape (fun vs H Q E h => ?_) (fun cdv A outer s H vs Q E hr h => ?_)
  · obtain ⟨_, _, _, rfl, _⟩ := h
    rfl
  · obtain ⟨a, ns, k, rfl, ⟨hS, hk, hk2, hq⟩⟩ := h
    refine ⟨_, (pss_cons (ps_set (i := 2) sc__law_tape.nd rfl (Or.inl rfl) (pe_ifExp (pt_cmpR op_lt (pv 1) (pe_callB call_len_seq rfl (n_len Z) (by decide +kernel) (pa_cons (pv 0) pa_nil)) (nomark _)) (pe_callB call_abs rfl (n_abs Z) (by decide +kernel) (pa_cons (pe_ix ix_list (pv 0) (pv 1) (fun _ _ => rfl)) pa_nil)) pe_int))
      (pss_one (ps_ret (pe_lst (pa_cons (pe_callB (call_max2 rfl) rfl (n_max Z) (by decide +kernel) (pa_cons pe_int (pa_cons (pe_op op_sub (pv 2) (pe_op op_pow pe_int pe_int)) pa_nil))) (pa_cons (pe_op op_add (pe_op op_mul (pe_op op_mod (pv 2) (pe_op op_add (pe_op op_pow pe_int pe_int) pe_int)) pe_int) (pv 1)) (pa_cons pe_int pa_nil))))))), ?_⟩
    apply share2 (fun (c : Int) (H1 : Hp) => 0 ≤ c ∧ H1 = H)
    · intro rest
      refine ⟨_, rfl, _, rfl, a, _, rfl, .inl hS, _, _, rfl, rfl, _, rfl, ifD (fun c => ?_) (fun c => ?_)⟩
      · rw [List.length_map] at c
        obtain ⟨z, hz, _⟩ := at_ints ns hk c
        refine ⟨_, rfl, _, rfl, a, _, k, _, rfl, rfl, hS, hz, _, rfl, ?_⟩
        obtain ⟨w, hw⟩ : ∃ w, w = if z < 0 then -z else z := ⟨_, rfl⟩
        rw [← hw]
        exact rest w H ⟨by rw [hw]; split <;> omega, rfl⟩
      · exact rest 0 H ⟨Int.le_refl 0, rfl⟩
    rintro c H1 ⟨c0, rfl⟩
    refine ⟨_, rfl, _, _, rfl, rfl, ⟨by decide, by decide, by decide⟩, _, _, rfl, rfl, _, _, rfl, ?_⟩
    have p38 : (0 : Int) < 10 ^ (38 : Int).toNat + 133 := by decide +kernel
    refine ⟨_, rfl, _, _, rfl, rfl, ⟨by decide, by decide, by decide⟩, _, _, rfl, rfl, _, _, rfl, rfl, p38, _, _, rfl, rfl, Or.inr ⟨by decide, by decide⟩, _, rfl, _, _, rfl, rfl, (by show 3 ≤ sizeLine; decide), fun p hp => ?_⟩
    have m0 := Int.emod_nonneg c (show (10 : Int) ^ (38 : Int).toNat + 133 ≠ 0 by omega)
    have m1 := Int.emod_lt_of_pos c p38
    have b : ((10 : Int) ^ (38 : Int).toNat + 133) * 89 + 63 < 2 ^ 140 := by decide +kernel
    refine hq p _ (Same.new hp) hp ⟨_, _, _, upd_same, ?_, by omega, by omega, by decide, by decide⟩
    split <;> omega
abbrev sp__law_next : Frag → Sp := spNext
theorem ok__law_next (Z : Zs cks fns K mg) : FnOk PP w K mg base (L2.CX PP w) 1 (ga K "_law_next") (fdAt K (ga K "_law_next")) ["tape", "many"] (sp__law_next K) := by
  refine L2.Fun.okX (u__law_next Z) sc__law_next (fun vs H Q E h => ?_) (fun cdv A outer s H vs Q E hr h => ?_)
  · obtain ⟨_, _, _, rfl, _⟩ := h
    rfl
  · obtain ⟨a, N, m, rfl, ⟨hT, hm, hs, hq⟩⟩ := h
    refine ⟨_, (pss_cons (ps_if (pt_cmpR op_gt (pe_ix ix_list (pv 0) pe_int (fun _ _ => rfl)) pe_int (nomark _))
        (pss_cons (ps_set (i := 2) sc__law_next.nd rfl (Or.inl rfl) (pe_op op_mod (pe_ix ix_list (pv 0) pe_int (fun _ _ => rfl)) (pv 1)))
      (pss_cons (ps_asg (pe_op op_fdivW (pe_ix ix_list (pv 0) pe_int (fun _ _ => rfl)) (pv 1)) (pg_sub (pv 0) pe_int set_list))
      (pss_one (ps_ret (pv 2)))))
        pss_nil)
      (pss_cons (ps_asg (pe_op op_add (pe_ix ix_list (pv 0) pe_int (fun _ _ => rfl)) pe_int) (pg_sub (pv 0) pe_int set_list))
      (pss_cons (ps_set (i := 3) sc__law_next.nd rfl (Or.inl rfl) (pe_op op_mod (pe_op op_powW (pe_op op_add (pe_ix ix_list (pv 0) pe_int (fun _ _ => rfl)) (pe_op op_mul pe_int (pe_ix ix_list (pv 0) pe_int (fun _ _ => rfl)))) pe_int) (pe_op op_add (pe_op op_pow pe_int pe_int) pe_int)))
      (pss_cons (ps_set (i := 3) sc__law_next.nd rfl (Or.inl rfl) (pe_op op_mod (pe_op op_powW (pe_op op_add (pv 3) (pe_op op_mul pe_int (pe_ix ix_list (pv 0) pe_int (fun _ _ => rfl)))) pe_int) (pe_op op_add (pe_op op_pow pe_int pe_int) pe_int)))
      (pss_one (ps_ret (pe_op op_mod (pe_op op_fdivW (pv 3) pe_int) (pv 1)))))))), ?_⟩
    obtain ⟨d, m0, n, h1, h2, h3, h4, h5, h6⟩ := hT
    refine ⟨_, rfl, a, _, 0, _, rfl, rfl, SqL.of h1, at0, _, _, rfl, rfl, _, rfl, ifD (fun c => ?_) (fun c => ?_)⟩
    · refine ⟨_, rfl, a, _, 0, _, rfl, rfl, SqL.of h1, at0, _, rfl, _, _, rfl, rfl, (by show 0 < m; omega), ?_⟩
      refine ⟨_, rfl, a, _, 0, _, rfl, rfl, SqL.of h1, at0, _, rfl, _, _, rfl, rfl, hs.div (by omega) (by decide) (by decide), ?_⟩
      refine ⟨_, rfl, a, _, 0, 0, rfl, rfl, h1, rfl, ?_⟩
      refine ⟨_, rfl, hq _ _ (Int.emod_nonneg _ (by omega)) (Int.emod_lt_of_pos _ (by omega)) (fun b o nb e => by rw [upd_ne nb]; exact e) ⟨_, m0, n, upd_same, ?_, h3, h4, h5, by omega⟩⟩
      exact Int.ediv_nonneg h2 (by omega)
    have d0 : d = 0 := by omega
    subst d0
    have sn1 : Sz 41 (n + 1) := Sz.n40 (by omega) (by omega)
    have sm : Sz 140 m0 := Sz.of (by omega) h4
    refine ⟨_, rfl, a, _, 2, _, rfl, rfl, SqL.of h1, rfl, _, _, rfl, rfl, _, rfl, a, _, 2, 2, rfl, rfl, h1, rfl, ?_⟩
    have e2 : (upd H a (.lst [.int 0, .int m0, .int (n + 1)])) a = some (.lst [.int 0, .int m0, .int (n + 1)]) := upd_same
    have x2 : Ext (fdM a) H (upd H a (.lst [.int 0, .int m0, .int (n + 1)])) := fun b o nb e => by rw [upd_ne nb]; exact e
    have p57 : (0 : Int) < 10 ^ (64 : Int).toNat + 57 := by decide +kernel
    have p9 : (0 : Int) < 10 ^ (64 : Int).toNat + 9 := by decide +kernel
    have w1 : CPowW (m0 + 2147483659 * (n + 1)) 3 := ⟨by decide, by decide, Sz.mono (a := 141) (Sz.add sm (Sz.mono (a := 73) (Sz.mul (a := 32) (b := 41) (Sz.of (by decide) (by decide)) sn1) (by decide))) (by decide)⟩
    refine ⟨_, rfl, a, _, 1, _, rfl, rfl, SqL.of e2, rfl, _, rfl, a, _, 2, _, rfl, rfl, SqL.of e2, rfl, _, _, rfl, rfl, Or.inl ⟨by decide, by decide⟩, _, _, rfl, rfl, _, _, rfl, rfl, w1, _, _, rfl, rfl, ⟨by decide, by decide, by decide⟩, _, _, rfl, rfl, _, _, rfl, rfl, p57, ?_⟩
    have a0 := Int.emod_nonneg ((m0 + 2147483659 * (n + 1)) ^ (3 : Int).toNat) (show (10 : Int) ^ (64 : Int).toNat + 57 ≠ 0 by omega)
    have a1 := Int.emod_lt_of_pos ((m0 + 2147483659 * (n + 1)) ^ (3 : Int).toNat) p57
    have smx : Sz 220 ((m0 + 2147483659 * (n + 1)) ^ (3 : Int).toNat % (10 ^ (64 : Int).toNat + 57)) := Sz.le a0 (Int.le_of_lt a1) (Sz.of (by decide +kernel) (by decide +kernel))
    have w2 : CPowW ((m0 + 2147483659 * (n + 1)) ^ (3 : Int).toNat % (10 ^ (64 : Int).toNat + 57) + 1000000087 * (n + 1)) 3 := ⟨by decide, by decide, Sz.mono (a := 221) (Sz.add smx (Sz.mono (a := 71) (Sz.mul (a := 30) (b := 41) (Sz.of (by decide) (by decide)) sn1) (by decide))) (by decide)⟩
    refine ⟨_, rfl, _, rfl, a, _, 2, _, rfl, rfl, SqL.of e2, rfl, _, _, rfl, rfl, Or.inl ⟨by decide, by decide⟩, _, _, rfl, rfl, _, _, rfl, rfl, w2, _, _, rfl, rfl, ⟨by decide, by decide, by decide⟩, _, _, rfl, rfl, _, _, rfl, rfl, p9, ?_⟩
    have s15 : Sz 15 (32749 : Int) := Sz.of (by decide) (by decide)
    refine ⟨_, rfl, _, _, rfl, rfl, s15.div (by decide) (by decide) (by decide), _, rfl, _, _, rfl, rfl, (by show 0 < m; omega), ?_⟩
    exact hq _ _ (Int.emod_nonneg _ (by omega)) (Int.emod_lt_of_pos _ (by omega)) x2 ⟨0, m0, n + 1, e2, Int.le_refl 0, h3, h4, by omega, by omega⟩
end
section
variable {w : World} {K : Frag} {mg : Str → Option Value} {base : Heap}
def sp__law_chain (K : Frag) : Sp := fun vs H Q E => ∃ (a : Addr) (N : Nat) (L : Int), vs = [.ref a, .int L] ∧ Tp a (N + 15) H ∧ 1 ≤ L ∧ L ≤ 10 ^ 60 ∧ ∀ (p : Addr) (cs : List Int) (H' : Hp), ChL L cs → Ext (fdM a) H H' → H p = none → H' p = some (.lst (cs.map V.int)) → Tp a N H' → Q (.ref p) H'
theorem ok__law_chain (Z : Zs cks fns K mg) : FnOk PP w K mg base (L2.CX PP w) 2 (ga K "_law_chain") (fdAt K (ga K "_law_chain")) ["tape", "most"] (sp__law_chain K) := by
  refine L2.Fun.okX (u__law_chain Z) sc__law_chain (fun vs H Q E h => ?_) (fun cdv A outer s H vs Q E hr h => ?_)
  · obtain ⟨_, _, _, rfl, _⟩ := h
    rfl
  · obtain ⟨a, N, L, rfl, ⟨hT, hL1, hL2, hq⟩⟩ := h
    refine ⟨_, (pss_cons (ps_set (i := 2) sc__law_chain.nd rfl (Or.inl rfl) (pe_lst (pa_cons (pe_ix ix_list (pe_lst (pa_cons pe_int (pa_cons (pe_op op_add pe_int (pe_call (ok__law_next Z) (hr.mono (by decide)) rfl (g__law_next Z) (u__law_next Z).kp (b__law_next Z) .nil passL (pa_cons (pv 0) (pa_cons pe_int pa_nil)))) (pa_cons (pe_op op_add pe_int (pe_call (ok__law_next Z) (hr.mono (by decide)) rfl (g__law_next Z) (u__law_next Z).kp (b__law_next Z) .nil passL (pa_cons (pv 0) (pa_cons (pv 1) pa_nil)))) pa_nil)))) (pe_call (ok__law_next Z) (hr.mono (by decide)) rfl (g__law_next Z) (u__law_next Z).kp (b__law_next Z) .nil passL (pa_cons (pv 0) (pa_cons pe_int pa_nil))) (fun _ _ => rfl)) pa_nil)))
      (pss_cons (ps_asg (pe_callB (call_min2 rfl) rfl (n_min Z) (by decide +kernel) (pa_cons (pe_ix ix_list (pv 2) pe_int (fun _ _ => rfl)) (pa_cons (pv 1) pa_nil))) (pg_sub (pv 2) pe_int set_list))
      (C8.pss_cut (ps_for (passes_of rfl) rfl (pi_range1 rfl (n_range Z) (pa_cons pe_int pa_nil)) (pg_name (i := 3) sc__law_chain.nd rfl (Or.inl rfl))
        (pss_cons (ps_set (i := 4) sc__law_chain.nd rfl (Or.inl rfl) (pe_ix ix_list (pe_lst (pa_cons pe_int (pa_cons pe_int (pa_cons pe_int (pa_cons pe_int (pa_cons pe_int (pa_cons (pe_op op_add pe_int (pe_call (ok__law_next Z) (hr.mono (by decide)) rfl (g__law_next Z) (u__law_next Z).kp (b__law_next Z) .nil passL (pa_cons (pv 0) (pa_cons (pe_callB (call_max2 rfl) rfl (n_max Z) (by decide +kernel) (pa_cons pe_int (pa_cons (pe_op op_fdivW (pv 1) (pe_ix ix_list (pv 2) (pe_un un_neg pe_int) (fun _ _ => rfl))) pa_nil))) pa_nil)))) pa_nil))))))) (pe_call (ok__law_next Z) (hr.mono (by decide)) rfl (g__law_next Z) (u__law_next Z).kp (b__law_next Z) .nil passL (pa_cons (pv 0) (pa_cons pe_int pa_nil))) (fun _ _ => rfl)))
      (pss_one (ps_if (pt_cmpR op_le (pe_op op_mulW (pe_ix ix_list (pv 2) (pe_un un_neg pe_int) (fun _ _ => rfl)) (pv 4)) (pv 1) (nomark _))
        (pss_one (ps_expr (pe_bm PySem.F.plainAttrs_list PySem.F.slot_list_append PySem.F.type_list_append mt_append (pv 2) (pa_cons (pe_op op_mulW (pe_ix ix_list (pv 2) (pe_un un_neg pe_int) (fun _ _ => rfl)) (pv 4)) pa_nil))))
        pss_nil))))
      (pss_one (ps_ret (pv 2)))))), ?_⟩
    have sc : ∀ z : Int, 1 ≤ z → z ≤ 10 ^ 62 → Sz 4000 z := fun z z0 z1 => Sz.mono (a := 210) (Sz.le (by omega) z1 (Sz.of (by decide +kernel) (by decide +kernel))) (by decide)
    refine ⟨_, rfl, ⟨a, N + 14, 6, rfl, hT, by decide, sc _ (by decide) (by decide +kernel), fun v0 H0 g0 l0 x0 t0 => ⟨_, _, rfl, rfl, ?_⟩⟩⟩
    refine ⟨_, rfl, _, rfl, ⟨a, N + 13, L, rfl, t0, hL1, sc _ hL1 (by omega), fun v1 H1 g1 l1 x1 t1 => ⟨_, _, rfl, rfl, (by show 3 ≤ sizeLine; decide), fun p1 hp1 => ?_⟩⟩⟩
    refine ⟨_, rfl, ⟨a, N + 12, 3, rfl, t1.same (Same.new hp1), by decide, sc _ (by decide) (by decide +kernel), fun v2 H2 g2 l2 x2 t2 => ?_⟩⟩
    have e2 : H2 p1 = some (.lst (([1, 1 + v0, 1 + v1] : List Int).map V.int)) := x2 p1 _ (t1.fresh hp1) upd_same
    obtain ⟨f1, ha, hm⟩ := at_ints [1, 1 + v0, 1 + v1] g2 l2
    have hf : 1 ≤ f1 := by
      simp only [List.mem_cons, List.not_mem_nil, or_false] at hm
      rcases hm with e | e | e <;> omega
    refine ⟨p1, _, v2, _, rfl, rfl, SqL.of e2, ha, (by show 1 ≤ sizeLine; decide), fun p hp => ?_⟩
    have y2 : Ext (fdM a) H H2 := x0.trans (x1.trans ((Ext.new hp1).trans x2))
    have hp0 : H p = none := y2.back (t2.fresh hp) hp
    refine ⟨_, rfl, p, _, 0, _, rfl, rfl, SqL.of upd_same, at0, _, rfl, _, _, rfl, ?_⟩
    refine ⟨_, rfl, p, _, 0, 0, rfl, rfl, upd_same, rfl, ?_⟩
    have np : ¬ fdM a p := t2.fresh hp
    have x3 : Ext (fdM a) H (upd (upd H2 p (.lst [.int f1])) p (.lst [.int (if L < f1 then L else f1)])) := fun b o nb e => by
      have q := y2 b o nb e
      rw [upd_ne (ne_of_none q hp), upd_ne (ne_of_none q hp)]
      exact q
    have e3 : (upd (upd H2 p (.lst [.int f1])) p (.lst [.int (if L < f1 then L else f1)])) p = some (.lst ((([] : List Int) ++ [if L < f1 then L else f1]).map V.int)) := upd_same
    have t3 : Tp a (N + 12) (upd (upd H2 p (.lst [.int f1])) p (.lst [.int (if L < f1 then L else f1)])) := by
      obtain ⟨d', m', n', q1, q2⟩ := t2
      have nap : a ≠ p := fun z => np z.symm
      exact ⟨d', m', n', by rw [upd_ne nap, upd_ne nap]; exact q1, q2⟩
    have hf2 : 1 ≤ (if L < f1 then L else f1) ∧ (if L < f1 then L else f1) ≤ L := by split <;> omega
    change (tSeq _ _) _ _ (upd (upd H2 p (.lst [.int f1])) p (.lst [.int (if L < f1 then L else f1)]))
    revert x3 e3 t3 hf2
    generalize (if L < f1 then L else f1) = f2
    generalize upd (upd H2 p (.lst [.int f1])) p (.lst [.int f2]) = H3
    intro x3 e3 t3 hf2
    refine ⟨fun σ H4 => ∃ cs, ChL L cs ∧ Ext (fdM a) H H4 ∧ H4 p = some (.lst (cs.map V.int)) ∧ Tp a N H4 ∧ ∃ z3 z4, σ = [some (.ref a), some (.int L), some (.ref p), z3, z4], ?_, ?_⟩
    · refine ⟨_, rfl, by decide, by decide, ?_⟩
      refine for_range (lo := 0) (n := 6) (fun i σ H4 => ∃ (ds : List Int) (l : Int), (ds ++ [l]).length ≤ i + 1 ∧ ChL L (ds ++ [l]) ∧ (∀ x ∈ ds, x ∣ l) ∧ Ext (fdM a) H H4 ∧ H4 p = some (.lst ((ds ++ [l]).map V.int)) ∧ Tp a (N + (12 - 2 * i)) H4 ∧ ∃ z3 z4, σ = [some (.ref a), some (.int L), some (.ref p), z3, z4])
        ⟨[], f2, Nat.le_refl _, ⟨by simp, (by show 1 ≤ 10; decide), fun c hc => ?_, List.pairwise_singleton _ _⟩, (fun x hx => nomatch hx), x3, e3, t3, none, none, rfl⟩ ?_ ?_
      · rw [List.mem_singleton.mp hc]
        exact hf2
      · rintro i σ H4 hi ⟨ds, l, hlen, hc, hd, x4, e4, t4, z3, z4, rfl⟩
        rw [show N + (12 - 2 * i) = (N + (12 - 2 * (i + 1))) + 1 + 1 by omega] at t4
        generalize hM : N + (12 - 2 * (i + 1)) = M at *
        have hl := hc.pos l (by simp)
        have al : ∀ Hx : Hp, atI ((ds ++ [l]).map V.int) (-1) = some (.int l) := fun _ => by
          rw [List.map_append]
          exact atI_last _ _
        have sl : Sz 220 l := Sz.le (by omega) (show l ≤ 10 ^ 60 by omega) (Sz.of (by decide +kernel) (by decide +kernel))
        have q0 : 0 ≤ L / l := Int.ediv_nonneg (by omega) (by omega)
        have q1 : L / l ≤ L := Int.ediv_le_self _ (by omega)
        have hmx : 1 ≤ (if L / l > 1 then L / l else 1) ∧ (if L / l > 1 then L / l else 1) ≤ L := by split <;> omega
        refine ⟨_, rfl, _, rfl, _, rfl, _, rfl, p, _, -1, _, rfl, rfl, SqL.of e4, al H4, _, _, rfl, rfl, sl.div (by omega) (by decide) (by decide), _, _, rfl, ?_⟩
        revert hmx
        generalize (if L / l > 1 then L / l else 1) = mx
        intro hmx
        refine ⟨a, M + 1, mx, rfl, t4, hmx.1, sc _ hmx.1 (by omega), fun v5 H5 g5 l5 x5 t5 => ⟨_, _, rfl, rfl, (by show 6 ≤ sizeLine; decide), fun p5 hp5 => ?_⟩⟩
        refine ⟨_, rfl, ⟨a, M, 6, rfl, t5.same (Same.new hp5), by decide, sc _ (by decide) (by decide +kernel), fun v6 H6 g6 l6 x6 t6 => ?_⟩⟩
        have e6 : H6 p5 = some (.lst (([1, 2, 3, 4, 5, 1 + v5] : List Int).map V.int)) := x6 p5 _ (t5.fresh hp5) upd_same
        obtain ⟨m, ha2, hm2⟩ := at_ints [1, 2, 3, 4, 5, 1 + v5] g6 l6
        have hb : 1 ≤ m ∧ m ≤ 10 ^ 60 + 5 := by
          simp only [List.mem_cons, List.not_mem_nil, or_false] at hm2
          rcases hm2 with e | e | e | e | e | e <;> omega
        refine ⟨p5, _, v6, _, rfl, rfl, SqL.of e6, ha2, ?_⟩
        have e7 : H6 p = some (.lst ((ds ++ [l]).map V.int)) := x6 _ _ np (by rw [upd_ne (ne_of_none (x5 _ _ np e4) hp5)]; exact x5 _ _ np e4)
        have y6 : Ext (fdM a) H4 H6 := x5.trans ((Ext.new hp5).trans x6)
        have smm : Sz 220 m := Sz.le (by omega) hb.2 (Sz.of (by decide +kernel) (by decide +kernel))
        have pos : 1 ≤ l * m := by
          have q : 1 * 1 ≤ l * m := Int.mul_le_mul hl.1 hb.1 (by decide) (by omega)
          omega
        refine ⟨_, rfl, _, rfl, p, _, -1, _, rfl, rfl, SqL.of e7, al H6, _, rfl, _, _, rfl, rfl, sl.cmul smm (by decide) (by decide) (by decide), _, rfl, _, _, rfl, rfl, _, rfl, ifD (fun c => ?_) (fun c => ?_)⟩
        · refine ⟨_, rfl, Or.inl ⟨rfl, _, SqL.of e7⟩, _, rfl, _, rfl, p, _, -1, _, rfl, rfl, SqL.of e7, al H6, _, rfl, _, _, rfl, rfl, sl.cmul smm (by decide) (by decide) (by decide), ?_⟩
          refine ⟨p, _, _, rfl, rfl, e7, ?_, ?_⟩
          · rw [List.length_map]
            exact Nat.lt_of_le_of_lt (show (ds ++ [l]).length ≤ 10 by omega) (by decide)
          · have q := hc.app hd (by omega) pos c
            refine ⟨ds ++ [l], l * m, by rw [List.length_append]; simp; simp at hlen; omega, q.1, q.2, fun b o nb eb => ?_, ?_, ?_, _, _, rfl⟩
            · have nb2 : b ≠ p := fun z => by
                rw [z, hp0] at eb
                cases eb
              rw [upd_ne nb2]
              exact y6 _ _ nb (x4 b o nb eb)
            · rw [upd_same, (List.map_append : List.map V.int ((ds ++ [l]) ++ [l * m]) = List.map V.int (ds ++ [l]) ++ List.map V.int [l * m])]
              rfl
            · obtain ⟨d', m', n', h1, h2⟩ := t6
              have nap : a ≠ p := fun z => np z.symm
              exact ⟨d', m', n', by rw [upd_ne nap]; exact h1, h2⟩
        · exact ⟨ds, l, by omega, hc, hd, x4.trans y6, e7, t6, _, _, rfl⟩
      · rintro σ H4 ⟨ds, l, _, hc, hd, x4, e4, t4, z3, z4, rfl⟩
        exact ⟨_, hc, x4, e4, t4.less (by omega), _, _, rfl⟩
    rintro σ H4 ⟨cs, hc, x4, e4, t4, z3, z4, rfl⟩
    exact ⟨_, rfl, hq p cs H4 hc x4 hp0 e4 t4⟩
end
section
variable {w : World} {K : Frag} {mg : Str → Option Value} {base : Heap}
def sp__law_rows (K : Frag) : Sp := fun vs H Q E => ∃ (a : Addr) (N : Nat) (mny : Nat) (L : Int), vs = [.ref a, .int (mny : Nat), .int L] ∧ Tp a (N + 15 + 8 * mny) H ∧ mny ≤ 100 ∧ 1 ≤ L ∧ L ≤ 10 ^ 60 ∧ ∀ (p : Addr) (rs : List Addr) (ns : List N3) (cs : List Int) (H' : Hp), ChL L cs → ns.length = mny → (∀ n ∈ ns, n.ok ∧ (n.e ∈ cs ∨ n.e = 1) ∧ n.e ≤ L ∧ n.r ≤ 20 + 3 * L) → Ext (fdM a) H H' → H p = none → RwAt H' p rs ns → Tp a N H' → Q (.ref p) H'
theorem ok__law_rows (Z : Zs cks fns K mg) : FnOk PP w K mg base (L2.CX PP w) 3 (ga K "_law_rows") (fdAt K (ga K "_law_rows")) ["tape", "many", "most"] (sp__law_rows K) := by
  refine L2.Fun.okX (u__law_rows Z) sc__law_rows (fun vs H Q E h => ?_) (fun cdv A outer s H vs Q E hr h => ?_)
  · obtain ⟨_, _, _, _, rfl, _⟩ := h
    rfl
  · obtain ⟨a, N, mny, L, rfl, ⟨hT, hmy, hL1, hL2, hq⟩⟩ := h
    refine ⟨_, (pss_cons (ps_par (i := 3) (j := 4) rfl sc__law_rows.nd rfl rfl (by decide) rfl rfl (pa_cons (pe_call (ok__law_chain Z) (hr.mono (by decide)) rfl (g__law_chain Z) (u__law_chain Z).kp (b__law_chain Z) .nil passL (pa_cons (pv 0) (pa_cons (pv 2) pa_nil))) (pa_cons (pe_lst pa_nil) pa_nil)) rfl)
      (C8.pss_cut (ps_for (passes_of rfl) rfl (pi_range1 rfl (n_range Z) (pa_cons (pv 1) pa_nil)) (pg_name (i := 5) sc__law_rows.nd rfl (Or.inl rfl))
        (pss_cons (ps_set (i := 6) sc__law_rows.nd rfl (Or.inl rfl) (pe_ix ix_list (pe_lst (pa_cons (pe_ix ix_list (pv 3) (pe_call (ok__law_next Z) (hr.mono (by decide)) rfl (g__law_next Z) (u__law_next Z).kp (b__law_next Z) .nil passL (pa_cons (pv 0) (pa_cons (pe_callB call_len_seq rfl (n_len Z) (by decide +kernel) (pa_cons (pv 3) pa_nil)) pa_nil))) (fun _ _ => rfl)) (pa_cons (pe_ix ix_list (pv 3) (pe_un un_neg pe_int) (fun _ _ => rfl)) (pa_cons pe_int pa_nil)))) (pe_callB (call_min2 rfl) rfl (n_min Z) (by decide +kernel) (pa_cons pe_int (pa_cons (pe_op op_fdivW (pe_call (ok__law_next Z) (hr.mono (by decide)) rfl (g__law_next Z) (u__law_next Z).kp (b__law_next Z) .nil passL (pa_cons (pv 0) (pa_cons pe_int pa_nil))) pe_int) pa_nil))) (fun _ _ => rfl)))
      (pss_cons (ps_set (i := 7) sc__law_rows.nd rfl (Or.inl rfl) (pe_ix ix_list (pe_lst (pa_cons pe_int (pa_cons (pe_call (ok__law_next Z) (hr.mono (by decide)) rfl (g__law_next Z) (u__law_next Z).kp (b__law_next Z) .nil passL (pa_cons (pv 0) (pa_cons pe_int pa_nil))) (pa_cons (pe_call (ok__law_next Z) (hr.mono (by decide)) rfl (g__law_next Z) (u__law_next Z).kp (b__law_next Z) .nil passL (pa_cons (pv 0) (pa_cons (pe_op op_mul pe_int (pv 6)) pa_nil))) (pa_cons (pe_op op_mulW (pv 6) (pe_call (ok__law_next Z) (hr.mono (by decide)) rfl (g__law_next Z) (u__law_next Z).kp (b__law_next Z) .nil passL (pa_cons (pv 0) (pa_cons pe_int pa_nil)))) pa_nil))))) (pe_call (ok__law_next Z) (hr.mono (by decide)) rfl (g__law_next Z) (u__law_next Z).kp (b__law_next Z) .nil passL (pa_cons (pv 0) (pa_cons pe_int pa_nil))) (fun _ _ => rfl)))
      (pss_one (ps_expr (pe_bm PySem.F.plainAttrs_list PySem.F.slot_list_append PySem.F.type_list_append mt_append (pv 4) (pa_cons (pe_tup (pa_cons (pv 6) (pa_cons (pe_call (ok__law_next Z) (hr.mono (by decide)) rfl (g__law_next Z) (u__law_next Z).kp (b__law_next Z) .nil passL (pa_cons (pv 0) (pa_cons (pv 6) pa_nil))) (pa_cons (pv 7) pa_nil)))) pa_nil)))))))
      (pss_one (ps_ret (pv 4))))), ?_⟩
    have sc : ∀ z : Int, 1 ≤ z → z ≤ 10 ^ 62 → Sz 4000 z := fun z z0 z1 => Sz.mono (a := 210) (Sz.le (by omega) z1 (Sz.of (by decide +kernel) (by decide +kernel))) (by decide)
    rw [show N + 15 + 8 * mny = (N + 8 * mny) + 15 by omega] at hT
    refine ⟨_, rfl, _, rfl, ⟨a, N + 8 * mny, L, rfl, hT, hL1, hL2, fun pc cs H1 hc x1 npc e1 t1 => ⟨(by show 0 ≤ sizeLine; decide), fun pf hpf => ⟨_, _, rfl, ?_⟩⟩⟩⟩
    have ncf : ¬ fdM a pc := hT.fresh npc
    have nff : ¬ fdM a pf := t1.fresh hpf
    have hpf0 : H pf = none := x1.back nff hpf
    have npf : pc ≠ pf := ne_of_none e1 hpf
    obtain ⟨ds, l, hcs⟩ : ∃ ds l, cs = ds ++ [l] := ⟨cs.dropLast, cs.getLast hc.ne, (List.dropLast_concat_getLast hc.ne).symm⟩
    have hclen : 1 ≤ cs.length := by rw [hcs]; simp
    have hcl2 := hc.len
    refine ⟨fun σ H2 => ∃ rs ns z5 z6 z7, σ = [some (.ref a), some (.int (mny : Nat)), some (.int L), some (.ref pc), some (.ref pf), z5, z6, z7] ∧ ns.length = mny ∧ (∀ n ∈ ns, n.ok ∧ (n.e ∈ cs ∨ n.e = 1) ∧ n.e ≤ L ∧ n.r ≤ 20 + 3 * L) ∧ Ext (fdM a) H H2 ∧ RwAt H2 pf rs ns ∧ Tp a N H2, ?_, ?_⟩
    · refine ⟨_, rfl, _, rfl, by omega, by omega, ?_⟩
      refine for_range (lo := 0) (n := mny) (fun i σ H2 => ∃ rs ns z5 z6 z7, σ = [some (.ref a), some (.int (mny : Nat)), some (.int L), some (.ref pc), some (.ref pf), z5, z6, z7] ∧ ns.length = i ∧ (∀ n ∈ ns, n.ok ∧ (n.e ∈ cs ∨ n.e = 1) ∧ n.e ≤ L ∧ n.r ≤ 20 + 3 * L) ∧ Ext (fdM a) H H2 ∧ H2 pc = some (.lst (cs.map V.int)) ∧ RwAt H2 pf rs ns ∧ Tp a (N + 8 * (mny - i)) H2)
        ⟨[], [], none, none, none, rfl, rfl, (fun n h => nomatch h), x1.trans (Ext.new hpf), by rw [upd_ne npf]; exact e1, ⟨upd_same, rfl, fun i r n h => by simp at h⟩, (t1.same (Same.new hpf)).less (by omega)⟩ ?_ ?_
      · rintro i σ H2 hi ⟨rs, ns, z5, z6, z7, rfl, hlen, hall, x2, e2, ⟨rw1, rw2, rw3⟩, t2⟩
        rw [show N + 8 * (mny - i) = (N + 8 * (mny - (i + 1))) + 8 by omega] at t2
        generalize hM : N + 8 * (mny - (i + 1)) = M at *
        -- the headway
        refine ⟨_, rfl, _, rfl, _, rfl, pc, _, rfl, .inl (SqL.of e2), ?_⟩
        rw [List.length_map]
        refine ⟨a, M + 7, (cs.length : Nat), rfl, t2, by omega, sc _ (by omega) (Int.le_trans (show ((cs.length : Nat) : Int) ≤ 10 by omega) (by decide +kernel)), fun v3 H3 g3 l3 x3 t3 => ?_⟩
        obtain ⟨c3, ha3, hm3⟩ := at_ints cs g3 l3
        have e3 : H3 pc = some (.lst (cs.map V.int)) := x3 _ _ ncf e2
        have al : atI (cs.map V.int) (-1) = some (.int l) := by
          rw [hcs, List.map_append]
          exact atI_last _ _
        have hml : l ∈ cs := by rw [hcs]; simp
        refine ⟨pc, _, v3, _, rfl, rfl, SqL.of e3, ha3, _, rfl, _, rfl, pc, _, -1, _, rfl, rfl, SqL.of e3, al, (by show 3 ≤ sizeLine; decide), fun p3 hp3 => ?_⟩
        have n3 : ¬ fdM a p3 := t3.fresh hp3
        refine ⟨_, rfl, ⟨a, M + 6, 5, rfl, t3.same (Same.new hp3), by decide, sc _ (by decide) (by decide +kernel), fun v4 H4 g4 l4 x4 t4 => ⟨_, _, rfl, rfl, (Sz.of (b := 10) (by decide) (by decide)).div (by decide) (by decide) (by decide), _, _, rfl, ?_⟩⟩⟩
        have e4 : H4 p3 = some (.lst (([c3, l, 1] : List Int).map V.int)) := x4 _ _ n3 upd_same
        obtain ⟨w, ha4, hm4⟩ := at_ints [c3, l, 1] (v := if v4 / 2 < 2 then v4 / 2 else 2) (by split <;> omega) (by show _ < (3 : Int); split <;> omega)
        refine ⟨p3, _, _, _, rfl, rfl, SqL.of e4, ha4, ?_⟩
        have hw : (w ∈ cs ∨ w = 1) ∧ 1 ≤ w ∧ w ≤ L := by
          simp only [List.mem_cons, List.not_mem_nil, or_false] at hm4
          rcases hm4 with e | e | e
          · rw [e]; exact ⟨.inl hm3, hc.pos _ hm3⟩
          · rw [e]; exact ⟨.inl hml, hc.pos _ hml⟩
          · exact ⟨.inr e, by omega⟩
        have y4 : Ext (fdM a) H2 H4 := x3.trans ((Ext.new hp3).trans x4)
        -- the ride
        refine ⟨_, rfl, ⟨a, M + 5, 20, rfl, t4, by decide, sc _ (by decide) (by decide +kernel), fun v5 H5 g5 l5 x5 t5 => ?_⟩⟩
        have sw : Sz 220 w := Sz.le (by omega) (show w ≤ 10 ^ 60 by omega) (Sz.of (by decide +kernel) (by decide +kernel))
        refine ⟨_, rfl, _, rfl, _, _, rfl, rfl, .inl ⟨by decide, by decide⟩, ⟨a, M + 4, 3 * w, rfl, t5, by omega, sc _ (by omega) (by omega), fun v6 H6 g6 l6 x6 t6 => ?_⟩⟩
        refine ⟨_, rfl, _, rfl, ⟨a, M + 3, 4, rfl, t6, by decide, sc _ (by decide) (by decide +kernel), fun v7 H7 g7 l7 x7 t7 => ⟨_, _, rfl, rfl, sw.cmul (b := 10) (Sz.of (by omega) (by omega)) (by decide) (by decide) (by decide), (by show 4 ≤ sizeLine; decide), fun p7 hp7 => ?_⟩⟩⟩
        refine ⟨_, rfl, ⟨a, M + 2, 4, rfl, t7.same (Same.new hp7), by decide, sc _ (by decide) (by decide +kernel), fun v8 H8 g8 l8 x8 t8 => ?_⟩⟩
        have e8 : H8 p7 = some (.lst (([0, v5, v6, w * v7] : List Int).map V.int)) := x8 _ _ (t7.fresh hp7) upd_same
        obtain ⟨r, ha8, hm8⟩ := at_ints [0, v5, v6, w * v7] g8 l8
        refine ⟨p7, _, v8, _, rfl, rfl, SqL.of e8, ha8, ?_⟩
        have hwv : 0 ≤ w * v7 ∧ w * v7 ≤ 3 * w := by
          refine ⟨Int.mul_nonneg (by omega) g7, ?_⟩
          rw [Int.mul_comm]
          exact Int.mul_le_mul_of_nonneg_right (by omega) (by omega)
        have hr8 : 0 ≤ r ∧ r ≤ 20 + 3 * L := by
          simp only [List.mem_cons, List.not_mem_nil, or_false] at hm8
          rcases hm8 with e | e | e | e <;> omega
        have y8 : Ext (fdM a) H2 H8 := y4.trans (x5.trans (x6.trans (x7.trans ((Ext.new hp7).trans x8))))
        have rw8 : H8 pf = some (.lst (rs.map V.ref)) := y8 _ _ nff rw1
        refine ⟨_, rfl, Or.inl ⟨rfl, _, SqL.of rw8⟩, _, rfl, _, rfl, _, rfl, ⟨a, M + 1, w, rfl, t8, hw.2.1, sc _ hw.2.1 (by omega), fun v9 H9 g9 l9 x9 t9 => ⟨_, rfl, (by show 3 ≤ sizeLine; decide), fun p9 hp9 => ?_⟩⟩⟩
        have y9 : Ext (fdM a) H2 (upd H9 p9 (.tup [.int w, .int v9, .int r])) := y8.trans (x9.trans (Ext.new hp9))
        have rw9 : (upd H9 p9 (.tup [.int w, .int v9, .int r])) pf = some (.lst (rs.map V.ref)) := y9 _ _ nff rw1
        have t9' := t9.same (Same.new (o := .tup [.int w, .int v9, .int r]) hp9)
        refine ⟨pf, _, _, rfl, rfl, rw9, ?_, ?_⟩
        · rw [List.length_map, rw2, hlen]
          exact Nat.lt_of_le_of_lt (show i ≤ 100 by omega) (by decide)
        have okn : N3.ok ⟨w, v9, r⟩ := ⟨hw.2.1, g9, l9, hr8.1⟩
        have stay : ∀ b o, b ≠ pf → (upd H9 p9 (.tup [.int w, .int v9, .int r])) b = some o → (upd (upd H9 p9 (.tup [.int w, .int v9, .int r])) pf (.lst (rs.map V.ref ++ [.ref p9]))) b = some o := fun b o nb e => by rw [upd_ne nb]; exact e
        have ntup : ∀ b n, T3 (upd H9 p9 (.tup [.int w, .int v9, .int r])) b n → b ≠ pf := fun b n h => ne_of (show (upd H9 p9 _) b = _ from h) rw9 (by intro w; cases w)
        refine ⟨rs ++ [p9], ns ++ [⟨w, v9, r⟩], _, _, _, rfl, by simp [hlen], ?_, ?_, ?_, ⟨?_, by simp [rw2], ?_⟩, ?_⟩
        · intro n hn
          rcases List.mem_append.mp hn with h | h
          · exact hall n h
          · rw [List.mem_singleton.mp h]
            exact ⟨okn, hw.1, hw.2.2, hr8.2⟩
        · intro b o nb e
          have nb2 : b ≠ pf := fun z => by rw [z, hpf0] at e; cases e
          exact stay _ _ nb2 (y9 _ _ nb (x2 _ _ nb e))
        · exact stay _ _ npf (y9 _ _ ncf e2)
        · rw [upd_same, List.map_append]
          rfl
        · intro m q n hq hn
          by_cases c : m < i
          · rw [List.getElem?_append_left (by omega)] at hq hn
            have h := rw3 m q n hq hn
            have nq : ¬ fdM a q := t2.out (show H2 q = _ from h) fun _ z => nomatch z
            have h2 : T3 (upd H9 p9 (.tup [.int w, .int v9, .int r])) q n := y9 _ _ nq h
            exact stay _ _ (ntup _ _ h2) h2
          · have hmi : m = i := by
              have := (List.getElem?_eq_some_iff.mp hn).1
              simp at this
              omega
            subst hmi
            rw [List.getElem?_append_right (by omega), rw2, hlen, Nat.sub_self] at hq
            rw [List.getElem?_append_right (by omega), hlen, Nat.sub_self] at hn
            obtain rfl := Option.some.inj hq
            obtain rfl := Option.some.inj hn
            have h2 : T3 (upd H9 p9 (.tup [.int w, .int v9, .int r])) p9 ⟨w, v9, r⟩ := upd_same
            exact stay _ _ (ntup _ _ h2) h2
        · obtain ⟨d', m', n', q1, q2⟩ := t9'
          have nap : a ≠ pf := fun z => nff z.symm
          exact Tp.less ⟨d', m', n', by rw [upd_ne nap]; exact q1, q2⟩ (by omega)
      · rintro σ H2 ⟨rs, ns, z5, z6, z7, rfl, hlen, hall, x2, e2, rr, t2⟩
        exact ⟨rs, ns, _, _, _, rfl, hlen, hall, x2, rr, t2.less (by omega)⟩
    rintro σ H2 ⟨rs, ns, z5, z6, z7, rfl, hlen, hall, x2, rr, t2⟩
    exact ⟨_, rfl, hq pf rs ns cs H2 hc hlen hall x2 hpf0 rr t2⟩
end
section
variable {w : World} {K : Frag} {mg : Str → Option Value} {base : Heap}
def sp__law_line (K : Frag) : Sp := fun vs H Q E => ∃ (p : Addr) (n : N3), vs = [.ref p] ∧ T3 H p n ∧ n.ok ∧ ∀ (q : Addr) (k : LK) (H' : Hp), Same H H' → H q = none → LnAt K H' q k n → Q (.ref q) H'
theorem ok__law_line (Z : Zs cks fns K mg) : FnOk PP w K mg base (L2.CX PP w) 6 (ga K "_law_line") (fdAt K (ga K "_law_line")) ["row"] (sp__law_line K) := by
  refine L2.Fun.okX (u__law_line Z) sc__law_line (fun vs H Q E h => ?_) (fun cdv A outer s H vs Q E hr h => ?_)
  · obtain ⟨_, _, rfl, _⟩ := h
    rfl
  · obtain ⟨p, n, rfl, ⟨hT, ok, hq⟩⟩ := h
    refine ⟨_, (pss_cons (ps_if (PW.pt (pw_and (pt_cmpR op_eq (pe_ix ix_tup (pv 0) pe_int (fun _ _ => rfl)) pe_int (nomark _)) (pw_and1 (pt_cmpR op_gt (pe_ix ix_tup (pv 0) pe_int (fun _ _ => rfl)) pe_int (nomark _)))))
        (pss_one (ps_ret (pe_make (M_Walk Z) (ok_Walk_init Z) (hr.mono (by decide)) rfl (g_Walk Z) (b_Walk_init Z) .nil passL (pa_cons (pe_ix ix_tup (pv 0) pe_int (fun _ _ => rfl)) pa_nil))))
        pss_nil)
      (pss_one (ps_ret (pe_ifExp (PW.pt (pw_and (pt_cmpR op_eq (pe_ix ix_tup (pv 0) pe_int (fun _ _ => rfl)) pe_int (nomark _)) (pw_and1 (pt_cmpR op_gt (pe_ix ix_tup (pv 0) pe_int (fun _ _ => rfl)) pe_int (nomark _))))) (pe_make (M_Stop Z) (ok_Stop_init Z) (hr.mono (by decide)) rfl (g_Stop Z) (b_Stop_init Z) .nil passL (pa_cons (pe_ix ix_tup (pv 0) pe_int (fun _ _ => rfl)) (pa_cons (pe_ix ix_tup (pv 0) pe_int (fun _ _ => rfl)) pa_nil))) (pe_make (M_Line Z) (ok_Line_init Z) (hr.mono (by decide)) rfl (g_Line Z) (b_Line_init Z) .nil passL (pa_cons (pe_ix ix_tup (pv 0) pe_int (fun _ _ => rfl)) (pa_cons (pe_ix ix_tup (pv 0) pe_int (fun _ _ => rfl)) (pa_cons (pe_ix ix_tup (pv 0) pe_int (fun _ _ => rfl)) pa_nil)))))))), ?_⟩
    obtain ⟨e, l, r⟩ := n
    obtain ⟨h1, h2, h3, h4⟩ := id ok
    have h1 : 1 ≤ e := h1
    have h2 : 0 ≤ l := h2
    have h3 : l < e := h3
    have h4 : 0 ≤ r := h4
    have last : ∀ D : Ends, D.rt = Q → (tRet (tMake (ga K "Line") (sp_Line_init K) [] E0 (tCons (tOp (rIxT K) (tVar 0) (L2.tC (.int 0))) (tCons (tOp (rIxT K) (tVar 0) (L2.tC (.int 1))) (tCons (tOp (rIxT K) (tVar 0) (L2.tC (.int 2))) tNil))))) D [some (.ref p)] H := by
      intro D hD
      refine ⟨_, rfl, p, _, 0, _, rfl, rfl, SqT.of hT, at0, _, rfl, p, _, 1, _, rfl, rfl, SqT.of hT, rfl, _, rfl, p, _, 2, _, rfl, rfl, SqT.of hT, rfl, fun x dx hx hd hne => ?_⟩
      refine ⟨.line, x, dx, ⟨e, l, r⟩, rfl, ok, upd_same, rfl, ?_⟩
      rw [hD]
      exact hq x .line _ (mk_same hx hd) hx ⟨dx, upd_same⟩
    have rest : ∀ D : Ends, D.rt = Q → True := fun _ _ => trivial
    refine ⟨_, rfl, p, _, 0, _, rfl, rfl, SqT.of hT, at0, rfl, _, rfl, ifD (fun c => ?_) (fun c => ?_)⟩
    · refine ⟨_, rfl, p, _, 2, _, rfl, rfl, SqT.of hT, rfl, _, _, rfl, rfl, _, rfl, ifD (fun d => ?_) (fun d => ?_)⟩
      · have e1 : e = 1 := V.int.inj c
        have l0 : l = 0 := by omega
        subst e1 l0
        refine ⟨_, rfl, p, _, 2, _, rfl, rfl, SqT.of hT, rfl, fun x dx hx hd hne => ?_⟩
        exact ⟨x, dx, r, rfl, h4, upd_same, rfl, hq x .walk _ (mk_same hx hd) hx ⟨dx, upd_same⟩⟩
      · refine ⟨_, rfl, p, _, 2, _, rfl, rfl, SqT.of hT, rfl, rfl, _, rfl, ifD (fun c2 => ?_) (fun c2 => ?_)⟩
        · have r0 : r = 0 := V.int.inj c2
          subst r0
          refine ⟨_, rfl, p, _, 1, _, rfl, rfl, SqT.of hT, rfl, _, _, rfl, rfl, _, rfl, ifD (fun d2 => ?_) (fun d2 => ?_)⟩
          · refine ⟨_, rfl, p, _, 0, _, rfl, rfl, SqT.of hT, at0, _, rfl, p, _, 1, _, rfl, rfl, SqT.of hT, rfl, fun x dx hx hd hne => ?_⟩
            exact ⟨x, dx, e, l, rfl, h1, h2, h3, upd_same, rfl, hq x .stop _ (mk_same hx hd) hx ⟨dx, upd_same⟩⟩
          · exact last _ rfl
        · exact last _ rfl
    · refine ⟨_, rfl, p, _, 2, _, rfl, rfl, SqT.of hT, rfl, rfl, _, rfl, ifD (fun c2 => ?_) (fun c2 => ?_)⟩
      · have r0 : r = 0 := V.int.inj c2
        subst r0
        refine ⟨_, rfl, p, _, 1, _, rfl, rfl, SqT.of hT, rfl, _, _, rfl, rfl, _, rfl, ifD (fun d2 => ?_) (fun d2 => ?_)⟩
        · refine ⟨_, rfl, p, _, 0, _, rfl, rfl, SqT.of hT, at0, _, rfl, p, _, 1, _, rfl, rfl, SqT.of hT, rfl, fun x dx hx hd hne => ?_⟩
          exact ⟨x, dx, e, l, rfl, h1, h2, h3, upd_same, rfl, hq x .stop _ (mk_same hx hd) hx ⟨dx, upd_same⟩⟩
        · exact last _ rfl
      · exact last _ rfl
end
section
variable {w : World} {K : Frag} {mg : Str → Option Value} {base : Heap}
def sp_fit (K : Frag) : Sp := fun vs H Q E => ∃ (x : Int) (y : Int), vs = [.int x, .int y] ∧ 1 ≤ x ∧ 1 ≤ y ∧ (x ∣ y ∨ y ∣ x) ∧ Q (.bl true) H
theorem ok_fit (Z : Zs cks fns K mg) : FnOk PP w K mg base (L2.CX PP w) 1 (ga K "fit") (fdAt K (ga K "fit")) ["every", "other_every"] (sp_fit K) := by
  refine L2.Fun.okX (u_fit Z) sc_fit (fun vs H Q E h => ?_) (fun cdv A outer s H vs Q E hr h => ?_)
  · obtain ⟨_, _, rfl, _⟩ := h
    rfl
  · obtain ⟨x, y, rfl, ⟨hx, hy, hd, hq⟩⟩ := h
    refine ⟨_, (pss_one (ps_ret (pe_or (pe_cmpR op_eq (pe_op op_mod (pv 0) (pv 1)) pe_int (nomark _)) (pe_one (pe_cmpR op_eq (pe_op op_mod (pv 1) (pv 0)) pe_int (nomark _)))))), ?_⟩
    refine ⟨_, rfl, _, rfl, _, _, rfl, rfl, (by show 0 < y; omega), rfl, ?_⟩
    by_cases c : x % y = 0
    · rw [decide_eq_true (congrArg V.int c)]
      exact ⟨_, rfl, iteT hq⟩
    · rw [decide_eq_false (fun z => c (V.int.inj z))]
      refine ⟨_, rfl, iteF ⟨_, rfl, _, rfl, _, _, rfl, rfl, (by show 0 < x; omega), rfl, qT (congrArg V.int ?_) hq⟩⟩
      rcases hd with d | d
      · exact Int.emod_eq_zero_of_dvd d
      · exact absurd (Int.emod_eq_zero_of_dvd d) c
def sp_taken_after (K : Frag) : Sp := fun vs H Q E => ∃ (p : Addr) (x : N3) (q : Addr) (y : N3), vs = [.ref p, .ref q] ∧ T3 H p x ∧ T3 H q y ∧ x.ok ∧ y.ok ∧ ∀ (r : Addr) (H' : Hp), Same H H' → T3 H' r (addN x y) → Q (.ref r) H'
theorem ok_taken_after (Z : Zs cks fns K mg) : FnOk PP w K mg base (L2.CX PP w) 1 (ga K "taken_after") (fdAt K (ga K "taken_after")) ["first", "second"] (sp_taken_after K) := by
  refine L2.Fun.okX (u_taken_after Z) sc_taken_after (fun vs H Q E h => ?_) (fun cdv A outer s H vs Q E hr h => ?_)
  · obtain ⟨_, _, _, _, rfl, _⟩ := h
    rfl
  · obtain ⟨p, x, q, y, rfl, ⟨hx, hy, ox, oy, hq⟩⟩ := h
    refine ⟨_, (pss_cons (ps_asg (pv 0) (pg_tup rfl (pgs_cons (pg_name (i := 2) sc_taken_after.nd rfl (Or.inl rfl)) (pgs_cons (pg_name (i := 3) sc_taken_after.nd rfl (Or.inl rfl)) (pgs_cons (pg_name (i := 4) sc_taken_after.nd rfl (Or.inl rfl)) pgs_nil)))))
      (pss_cons (ps_asg (pv 1) (pg_tup rfl (pgs_cons (pg_name (i := 5) sc_taken_after.nd rfl (Or.inl rfl)) (pgs_cons (pg_name (i := 6) sc_taken_after.nd rfl (Or.inl rfl)) (pgs_cons (pg_name (i := 7) sc_taken_after.nd rfl (Or.inl rfl)) pgs_nil)))))
      (pss_cons (ps_set (i := 8) sc_taken_after.nd rfl (Or.inl rfl) (pe_callB (call_min2 rfl) rfl (n_min Z) (by decide +kernel) (pa_cons (pv 2) (pa_cons (pv 5) pa_nil))))
      (pss_cons (ps_set (i := 9) sc_taken_after.nd rfl (Or.inl rfl) (pe_op op_add (pv 4) (pe_op op_mod (pe_op op_sub (pe_op op_sub (pv 6) (pv 3)) (pv 4)) (pv 8))))
      (pss_cons (ps_if (pt_cmpR op_le (pv 5) (pv 2) (nomark _))
        (pss_one (ps_ret (pe_tup (pa_cons (pv 2) (pa_cons (pv 3) (pa_cons (pe_op op_add (pv 9) (pv 7)) pa_nil))))))
        pss_nil)
      (pss_one (ps_ret (pe_tup (pa_cons (pv 5) (pa_cons (pe_op op_mod (pe_op op_sub (pv 6) (pv 9)) (pv 5)) (pa_cons (pe_op op_add (pv 9) (pv 7)) pa_nil))))))))))), ?_⟩
    obtain ⟨xe, xa, xr⟩ := x
    obtain ⟨ye, ya, yr⟩ := y
    have x1 : 1 ≤ xe := ox.1
    have y1 : 1 ≤ ye := oy.1
    refine ⟨_, rfl, p, _, rfl, SqT.of hx, rfl, _, _, rfl, _, _, rfl, _, _, rfl, rfl, ?_⟩
    refine ⟨_, rfl, q, _, rfl, SqT.of hy, rfl, _, _, rfl, _, _, rfl, _, _, rfl, rfl, ?_⟩
    refine ⟨_, rfl, _, rfl, _, _, rfl, ?_⟩
    have lp : 0 < (if ye < xe then ye else xe) := by split <;> omega
    refine ⟨_, rfl, _, rfl, _, rfl, _, _, rfl, rfl, _, rfl, _, _, rfl, rfl, _, rfl, _, _, rfl, rfl, lp, _, _, rfl, rfl, ?_⟩
    refine ⟨_, rfl, _, rfl, _, _, rfl, rfl, _, rfl, ifD (fun c => ?_) (fun c => ?_)⟩
    · refine ⟨_, rfl, _, rfl, _, rfl, _, rfl, _, _, rfl, rfl, (by show 3 ≤ sizeLine; decide), fun r hr3 => ?_⟩
      refine hq r _ (Same.new hr3) ?_
      unfold addN
      rw [if_pos c]
      exact upd_same
    · refine ⟨_, rfl, _, rfl, _, rfl, _, _, rfl, rfl, _, rfl, _, _, rfl, rfl, (by show 0 < ye; omega), _, rfl, _, rfl, _, _, rfl, rfl, (by show 3 ≤ sizeLine; decide), fun r hr3 => ?_⟩
      refine hq r _ (Same.new hr3) ?_
      unfold addN
      rw [if_neg c]
      exact upd_same
end
section
variable {w : World} {K : Frag} {mg : Str → Option Value} {base : Heap}
def sp__law_arrive (K : Frag) : Sp := fun vs H Q E => ∃ (p : Addr) (rs : List Addr) (ns : List N3) (t : Int), vs = [.ref p, .int t] ∧ RwAt H p rs ns ∧ (∀ n ∈ ns, n.ok) ∧ Q (.int (endL ns t)) H
theorem ok__law_arrive (Z : Zs cks fns K mg) : FnOk PP w K mg base (L2.CX PP w) 1 (ga K "_law_arrive") (fdAt K (ga K "_law_arrive")) ["rows", "start"] (sp__law_arrive K) := by
  refine L2.Fun.okX (u__law_arrive Z) sc__law_arrive (fun vs H Q E h => ?_) (fun cdv A outer s H vs Q E hr h => ?_)
  · obtain ⟨_, _, _, _, rfl, _⟩ := h
    rfl
  · obtain ⟨p, rs, ns, t, rfl, ⟨hR, ho, hq⟩⟩ := h
    refine ⟨_, (C8.pss_cut (ps_for (passes_of rfl) rfl (pi_list (pv 0)) (pg_tup rfl (pgs_cons (pg_name (i := 2) sc__law_arrive.nd rfl (Or.inl rfl)) (pgs_cons (pg_name (i := 3) sc__law_arrive.nd rfl (Or.inl rfl)) (pgs_cons (pg_name (i := 4) sc__law_arrive.nd rfl (Or.inl rfl)) pgs_nil))))
        (pss_one (ps_set (i := 1) sc__law_arrive.nd rfl (Or.inl rfl) (pe_op op_add (pe_op op_add (pv 1) (pe_op op_mod (pe_op op_sub (pv 3) (pv 1)) (pv 2))) (pv 4)))))
      (pss_one (ps_ret (pv 1)))), ?_⟩
    refine ⟨fun σ H1 => H1 = H ∧ ∃ z2 z3 z4, σ = [some (.ref p), some (.int (endL ns t)), z2, z3, z4], ?_, ?_⟩
    · refine ⟨_, rfl, p, rfl, ⟨_, SqL.of hR.1⟩, ?_⟩
      refine for_list (K := K) (a := p) (xs := rs.map V.ref) (fun i σ H1 => H1 = H ∧ ∃ z2 z3 z4, σ = [some (.ref p), some (.int (endL (ns.take i) t)), z2, z3, z4]) ⟨rfl, none, none, none, rfl⟩ (fun i σ H1 _ h => by rw [h.1]; exact SqL.of hR.1) ?_ ?_
      · rintro i x σ H1 hi ⟨rfl, z2, z3, z4, rfl⟩
        obtain ⟨r, hr1, rfl⟩ := get_refs hi
        obtain ⟨n, hn1, T⟩ := rw_at hR hr1
        have n1 := (ho n (List.mem_of_getElem? hn1)).1
        refine ⟨r, _, rfl, SqT.of T, rfl, _, _, rfl, _, _, rfl, _, _, rfl, rfl, ?_⟩
        refine ⟨_, rfl, _, rfl, _, rfl, _, _, rfl, rfl, _, rfl, _, _, rfl, rfl, (by show 0 < n.e; omega), _, _, rfl, rfl, _, rfl, _, _, rfl, rfl, ?_⟩
        refine ⟨rfl, some (.int n.e), some (.int n.a), some (.int n.r), ?_⟩
        rw [end_take _ _ _ _ hn1]
        rfl
      · rintro σ H1 ⟨rfl, z2, z3, z4, rfl⟩
        rw [List.take_of_length_le (by rw [List.length_map, hR.2.1]; exact Nat.le_refl _)]
        exact ⟨rfl, _, _, _, rfl⟩
    rintro σ H1 ⟨rfl, z2, z3, z4, rfl⟩
    exact ⟨_, rfl, hq⟩
end
section
variable {w : World} {K : Frag} {mg : Str → Option Value} {base : Heap}
/-! two lines compared: f the finer one, c the coarser one -/
def shN (f c : N3) : Int := (f.a - c.a) % f.e
def moN (f c : N3) : Int := f.r - c.r + shN f c
def dlt (f c : N3) (t : Int) : Int := (f.a - t) % f.e + f.r - (c.a - t) % c.e - c.r
def hN (c : N3) (t : Int) : Int := (c.a - t) % c.e
theorem dlt_h {f c : N3} (of : f.ok) (oc : c.ok) (hd : f.e ∣ c.e) (t : Int) : dlt f c t = moN f c - f.e * ((shN f c + hN c t) / f.e) := by
  have f1 := of.1
  have c1 := oc.1
  obtain ⟨k, ek⟩ := hd
  have e1 := Int.emod_add_mul_ediv (c.a - t) c.e
  have e2 := Int.emod_add_mul_ediv (f.a - c.a) f.e
  have e3 : (f.a - t) % f.e = (shN f c + hN c t) % f.e := by
    unfold shN hN
    rw [show f.a - t = ((f.a - c.a) % f.e + (c.a - t) % c.e) + f.e * ((f.a - c.a) / f.e + k * ((c.a - t) / c.e)) by
      rw [Int.mul_add, ← Int.mul_assoc, ← ek]
      omega]
    exact Int.add_mul_emod_self_left ..
  have e4 := Int.emod_add_mul_ediv (shN f c + hN c t) f.e
  unfold dlt
  rw [e3]
  have : hN c t = (c.a - t) % c.e := rfl
  unfold moN
  omega
theorem h_in {c : N3} (oc : c.ok) (t : Int) : 0 ≤ hN c t ∧ hN c t < c.e := by
  have c1 := oc.1
  exact ⟨Int.emod_nonneg _ (by omega), Int.emod_lt_of_pos _ (by omega)⟩
theorem sh_in {f c : N3} (of : f.ok) : 0 ≤ shN f c ∧ shN f c < f.e := by
  have f1 := of.1
  exact ⟨Int.emod_nonneg _ (by omega), Int.emod_lt_of_pos _ (by omega)⟩
/-- for how many starts up to the anchor the difference is at least v -/
def cntN (f c : N3) (v : Int) : Int :=
  if (moN f c - v) / f.e ≥ 0 then (if (if f.e * ((moN f c - v) / f.e + 1) - shN f c < c.e then f.e * ((moN f c - v) / f.e + 1) - shN f c else c.e) > 0 then (if f.e * ((moN f c - v) / f.e + 1) - shN f c < c.e then f.e * ((moN f c - v) / f.e + 1) - shN f c else c.e) else 0) else 0
theorem cnt_in {f c : N3} (oc : c.ok) (v : Int) : 0 ≤ cntN f c v ∧ cntN f c v ≤ c.e := by
  have c1 := oc.1
  unfold cntN
  split
  · split
    · split <;> omega
    · omega
  · omega
theorem mul_lt_iff {e a b : Int} (he : 0 < e) : a < e * (b + 1) ↔ a / e ≤ b := by
  constructor
  · intro h
    have : a / e < b + 1 := Int.ediv_lt_of_lt_mul he (by rw [Int.mul_comm]; exact h)
    omega
  · intro h
    have e1 := Int.emod_add_mul_ediv a e
    have e2 := Int.emod_lt_of_pos a he
    have := Int.mul_le_mul_of_nonneg_left h (show 0 ≤ e by omega)
    rw [Int.mul_add, Int.mul_one]
    omega
theorem mul_le_iff {e a b : Int} (he : 0 < e) : e * b ≤ a ↔ b ≤ a / e := by
  constructor
  · intro h
    exact Int.le_ediv_of_mul_le he (by rw [Int.mul_comm]; exact h)
  · intro h
    have e1 := Int.emod_add_mul_ediv a e
    have e2 := Int.emod_nonneg a (show e ≠ 0 by omega)
    have := Int.mul_le_mul_of_nonneg_left h (show 0 ≤ e by omega)
    omega
theorem cnt_h {f c : N3} (of : f.ok) (oc : c.ok) (hd : f.e ∣ c.e) (v : Int) (t : Int) : v ≤ dlt f c t ↔ hN c t < cntN f c v := by
  have f1 := of.1
  have h := h_in oc t
  have sh := sh_in (c := c) of
  rw [dlt_h of oc hd]
  have a1 : v ≤ moN f c - f.e * ((shN f c + hN c t) / f.e) ↔ (shN f c + hN c t) / f.e ≤ (moN f c - v) / f.e := by
    rw [← mul_le_iff (e := f.e) (by omega)]
    constructor <;> intro q <;> omega
  rw [a1, ← mul_lt_iff (e := f.e) (by omega)]
  have q0 : 0 ≤ (shN f c + hN c t) / f.e := Int.ediv_nonneg (by omega) (by omega)
  unfold cntN
  generalize (moN f c - v) / f.e = st at *
  generalize hX : f.e * (st + 1) - shN f c = X
  by_cases s0 : st ≥ 0
  · rw [if_pos s0]
    split
    · split <;> omega
    · split at * <;> omega
  · rw [if_neg s0]
    have : f.e * (st + 1) ≤ 0 := Int.mul_nonpos_of_nonneg_of_nonpos (by omega) (by omega)
    omega
def leN (f c : N3) : Int := moN f c - (c.e + shN f c - 1) / f.e * f.e
theorem dlt_le {f c : N3} (of : f.ok) (oc : c.ok) (hd : f.e ∣ c.e) (t : Int) : leN f c ≤ dlt f c t ∧ dlt f c t ≤ moN f c := by
  have f1 := of.1
  have h := h_in oc t
  have sh := sh_in (c := c) of
  rw [dlt_h of oc hd]
  unfold leN
  have q0 : 0 ≤ (shN f c + hN c t) / f.e := Int.ediv_nonneg (by omega) (by omega)
  have q1 : (shN f c + hN c t) / f.e ≤ (c.e + shN f c - 1) / f.e := Int.ediv_le_ediv (by omega) (by omega)
  have m0 : 0 ≤ f.e * ((shN f c + hN c t) / f.e) := Int.mul_nonneg (by omega) q0
  have m1 := Int.mul_le_mul_of_nonneg_left q1 (show 0 ≤ f.e by omega)
  rw [Int.mul_comm ((c.e + shN f c - 1) / f.e)]
  omega
theorem dlt_top {f c : N3} (of : f.ok) (oc : c.ok) (hd : f.e ∣ c.e) : dlt f c c.a = moN f c := by
  have f1 := of.1
  have sh := sh_in (c := c) of
  rw [dlt_h of oc hd]
  have : hN c c.a = 0 := by unfold hN; rw [Int.sub_self, Int.zero_emod]
  rw [this, Int.add_zero, Int.ediv_eq_zero_of_lt sh.1 sh.2, Int.mul_zero]
  omega
theorem h_behind {c : N3} (oc : c.ok) : hN c (c.a + 1) = c.e - 1 := by
  have c1 := oc.1
  unfold hN
  rw [show c.a - (c.a + 1) = (c.e - 1) + c.e * (-1) by omega, Int.add_mul_emod_self_left, Int.emod_eq_of_lt (by omega) (by omega)]
theorem dlt_low {f c : N3} (of : f.ok) (oc : c.ok) (hd : f.e ∣ c.e) : dlt f c (c.a + 1) = leN f c := by
  rw [dlt_h of oc hd, h_behind oc]
  unfold leN
  rw [Int.mul_comm f.e, show shN f c + (c.e - 1) = c.e + shN f c - 1 by omega]
/-- the first number from t on in a stretch of many that comes again after a modulus -/
def fwN (first many modulus t : Int) : Option Int := if many = 0 then none else if (t - first) % modulus < many then some t else some (t + modulus - (t - first) % modulus)
theorem fw_is {first many m t : Int} (hm : 0 < m) (h0 : 0 ≤ many) : (fwN first many m t = none ∧ many = 0) ∨ (∃ s, fwN first many m t = some s ∧ 0 < many ∧ t ≤ s ∧ s < t + m ∧ (s - first) % m < many ∧ ∀ u, t ≤ u → u < s → ¬ (u - first) % m < many) := by
  unfold fwN
  by_cases z : many = 0
  · rw [if_pos z]
    exact .inl ⟨rfl, z⟩
  · rw [if_neg z]
    have p0 := Int.emod_nonneg (t - first) (show m ≠ 0 by omega)
    have p1 := Int.emod_lt_of_pos (t - first) hm
    have pe := Int.emod_add_mul_ediv (t - first) m
    refine .inr ?_
    by_cases c : (t - first) % m < many
    · rw [if_pos c]
      exact ⟨t, rfl, by omega, by omega, by omega, c, fun u h1 h2 => absurd h1 (by omega)⟩
    · rw [if_neg c]
      refine ⟨_, rfl, by omega, by omega, by omega, ?_, fun u h1 h2 => ?_⟩
      · rw [show t + m - (t - first) % m - first = 0 + m * ((t - first) / m + 1) by rw [Int.mul_add]; omega, Int.add_mul_emod_self_left, Int.zero_emod]
        omega
      · have e : (u - first) % m = (t - first) % m + (u - t) := by
          rw [show u - first = ((t - first) % m + (u - t)) + m * ((t - first) / m) by omega, Int.add_mul_emod_self_left]
          exact Int.emod_eq_of_lt (by omega) (by omega)
        omega
theorem in_from {c : N3} (oc : c.ok) {k : Int} (h0 : 0 ≤ k) (h1 : k ≤ c.e) (t : Int) : (t - (c.a - k + 1)) % c.e < k ↔ hN c t < k := by
  have c1 := oc.1
  have h := h_in oc t
  have e := Int.emod_add_mul_ediv (c.a - t) c.e
  have e2 : hN c t = (c.a - t) % c.e := rfl
  by_cases q : hN c t < k
  · have : (t - (c.a - k + 1)) % c.e = k - 1 - hN c t := by
      rw [show t - (c.a - k + 1) = (k - 1 - hN c t) + c.e * (-((c.a - t) / c.e)) by rw [Int.mul_neg]; omega, Int.add_mul_emod_self_left]
      exact Int.emod_eq_of_lt (by omega) (by omega)
    omega
  · have : (t - (c.a - k + 1)) % c.e = c.e + k - 1 - hN c t := by
      rw [show t - (c.a - k + 1) = (c.e + k - 1 - hN c t) + c.e * (-((c.a - t) / c.e) - 1) by rw [Int.mul_sub, Int.mul_neg]; omega, Int.add_mul_emod_self_left]
      exact Int.emod_eq_of_lt (by omega) (by omega)
    omega
theorem in_below {c : N3} (oc : c.ok) {k : Int} (h0 : 0 ≤ k) (h1 : k ≤ c.e) (t : Int) : (t - (c.a + 1)) % c.e < c.e - k ↔ ¬ hN c t < k := by
  have c1 := oc.1
  have h := h_in oc t
  have e := Int.emod_add_mul_ediv (c.a - t) c.e
  have e2 : hN c t = (c.a - t) % c.e := rfl
  have : (t - (c.a + 1)) % c.e = c.e - 1 - hN c t := by
    rw [show t - (c.a + 1) = (c.e - 1 - hN c t) + c.e * (-((c.a - t) / c.e) - 1) by rw [Int.mul_sub, Int.mul_neg]; omega, Int.add_mul_emod_self_left]
    exact Int.emod_eq_of_lt (by omega) (by omega)
  omega
def ffN (f c : N3) (v t : Int) : Option Int := fwN (c.a - cntN f c v + 1) (cntN f c v) c.e t
def fbN (f c : N3) (v t : Int) : Option Int := fwN (c.a + 1) (c.e - cntN f c v) c.e t
theorem ff_is {f c : N3} (of : f.ok) (oc : c.ok) (hd : f.e ∣ c.e) (v t : Int) : (ffN f c v t = none ∧ ∀ u, ¬ v ≤ dlt f c u) ∨ (∃ s, ffN f c v t = some s ∧ t ≤ s ∧ s < t + c.e ∧ v ≤ dlt f c s ∧ ∀ u, t ≤ u → u < s → ¬ v ≤ dlt f c u) := by
  have c1 := oc.1
  have k := cnt_in (f := f) oc v
  rcases fw_is (first := c.a - cntN f c v + 1) (many := cntN f c v) (m := c.e) (t := t) (by omega) k.1 with ⟨q, z⟩ | ⟨s, q, p, h1, h2, h3, h4⟩
  · refine .inl ⟨q, fun u w => ?_⟩
    have := (cnt_h of oc hd v u).mp w
    have := h_in oc u
    omega
  · refine .inr ⟨s, q, h1, h2, (cnt_h of oc hd v s).mpr ((in_from oc k.1 k.2 s).mp h3), fun u g1 g2 w => h4 u g1 g2 ((in_from oc k.1 k.2 u).mpr ((cnt_h of oc hd v u).mp w))⟩
theorem fb_is {f c : N3} (of : f.ok) (oc : c.ok) (hd : f.e ∣ c.e) (v t : Int) : (fbN f c v t = none ∧ ∀ u, v ≤ dlt f c u) ∨ (∃ s, fbN f c v t = some s ∧ t ≤ s ∧ s < t + c.e ∧ dlt f c s < v ∧ ∀ u, t ≤ u → u < s → v ≤ dlt f c u) := by
  have c1 := oc.1
  have k := cnt_in (f := f) oc v
  rcases fw_is (first := c.a + 1) (many := c.e - cntN f c v) (m := c.e) (t := t) (by omega) (by omega) with ⟨q, z⟩ | ⟨s, q, p, h1, h2, h3, h4⟩
  · refine .inl ⟨q, fun u => (cnt_h of oc hd v u).mpr ?_⟩
    have := h_in oc u
    omega
  · refine .inr ⟨s, q, h1, h2, ?_, fun u g1 g2 => ?_⟩
    · have w := (in_below oc k.1 k.2 s).mp h3
      have := mt (cnt_h of oc hd v s).mp w
      omega
    · have w := mt (in_below oc k.1 k.2 u).mpr (h4 u g1 g2)
      exact (cnt_h of oc hd v u).mpr (by omega)
/-- the two lines in order -/
def fiN (x y : N3) : N3 := if x.e ≤ y.e then x else y
def coN (x y : N3) : N3 := if x.e ≤ y.e then y else x
theorem fc_fit {x y : N3} (ox : x.ok) (oy : y.ok) (hd : x.e ∣ y.e ∨ y.e ∣ x.e) : (fiN x y).ok ∧ (coN x y).ok ∧ (fiN x y).e ∣ (coN x y).e := by
  have x1 := ox.1
  have y1 := oy.1
  unfold fiN coN
  by_cases c : x.e ≤ y.e
  · rw [if_pos c, if_pos c]
    refine ⟨ox, oy, ?_⟩
    rcases hd with d | d
    · exact d
    · have := Int.le_of_dvd (by omega) d
      rw [show x.e = y.e by omega]
      exact Int.dvd_refl _
  · rw [if_neg c, if_neg c]
    refine ⟨oy, ox, ?_⟩
    rcases hd with d | d
    · have := Int.le_of_dvd (by omega) d
      omega
    · exact d
def diN (x y : N3) : Int × Int × Int :=
  if x.e ≤ y.e then (leN x y, moN x y, if leN x y < moN x y then x.e else 0) else (0 - moN y x, 0 - leN y x, if leN y x < moN y x then y.e else 0)
def wsN (x y : N3) : Option Int := if x.e ≤ y.e then ffN x y (moN x y) 0 else fbN y x (leN y x + 1) 0
def csN (x y : N3) : Int × Int × Int :=
  if x.e ≤ y.e then (y.e - cntN x y 0, cntN x y 0 - cntN x y 1, cntN x y 1) else (cntN y x 1, cntN y x 0 - cntN y x 1, x.e - cntN y x 0)
def feN (x y : N3) (t : Int) : Option Int := if x.e ≤ y.e then fbN x y 0 t else ffN y x 1 t
/-- the fields of a pair -/
def pf (b : Bool) (f c : N3) : List (Str × V) := putF "most" (.int (moN f c)) (putF "shift" (.int (shN f c)) (putF "anchor" (.int c.a) (putF "greater" (.int c.e) (putF "lesser" (.int f.e) (putF "is_finer" (.bl b) [])))))
theorem pf_b (b : Bool) (f c : N3) : (pf b f c).lookup ("is_finer" : Str) = some (.bl b) := by
  unfold pf
  rw [lookup_putF, if_neg (by decide +kernel), lookup_putF, if_neg (by decide +kernel), lookup_putF, if_neg (by decide +kernel), lookup_putF, if_neg (by decide +kernel), lookup_putF, if_neg (by decide +kernel), lookup_putF, if_pos rfl]
theorem pf_l (b : Bool) (f c : N3) : (pf b f c).lookup ("lesser" : Str) = some (.int f.e) := by
  unfold pf
  rw [lookup_putF, if_neg (by decide +kernel), lookup_putF, if_neg (by decide +kernel), lookup_putF, if_neg (by decide +kernel), lookup_putF, if_neg (by decide +kernel), lookup_putF, if_pos rfl]
theorem pf_g (b : Bool) (f c : N3) : (pf b f c).lookup ("greater" : Str) = some (.int c.e) := by
  unfold pf
  rw [lookup_putF, if_neg (by decide +kernel), lookup_putF, if_neg (by decide +kernel), lookup_putF, if_neg (by decide +kernel), lookup_putF, if_pos rfl]
theorem pf_a (b : Bool) (f c : N3) : (pf b f c).lookup ("anchor" : Str) = some (.int c.a) := by
  unfold pf
  rw [lookup_putF, if_neg (by decide +kernel), lookup_putF, if_neg (by decide +kernel), lookup_putF, if_pos rfl]
theorem pf_s (b : Bool) (f c : N3) : (pf b f c).lookup ("shift" : Str) = some (.int (shN f c)) := by
  unfold pf
  rw [lookup_putF, if_neg (by decide +kernel), lookup_putF, if_pos rfl]
theorem pf_m (b : Bool) (f c : N3) : (pf b f c).lookup ("most" : Str) = some (.int (moN f c)) := by
  unfold pf
  rw [lookup_putF, if_pos rfl]
theorem pf_no (b : Bool) (f c : N3) {m : Str} (h1 : ¬ m = "most" := by decide +kernel) (h2 : ¬ m = "shift" := by decide +kernel) (h3 : ¬ m = "anchor" := by decide +kernel) (h4 : ¬ m = "greater" := by decide +kernel) (h5 : ¬ m = "lesser" := by decide +kernel) (h6 : ¬ m = "is_finer" := by decide +kernel) : (pf b f c).lookup m = none := by
  unfold pf
  rw [lookup_putF, if_neg h1, lookup_putF, if_neg h2, lookup_putF, if_neg h3, lookup_putF, if_neg h4, lookup_putF, if_neg h5, lookup_putF, if_neg h6]
  rfl
theorem put_len (f : Str) (v : V) (fs : List (Str × V)) {n : Nat} (h : fs.length < n) : (putF f v fs).length < n + 1 := by
  have := length_putF f v fs
  omega
/-- a pair stands at p -/
def PrAt (K : Frag) (H : Hp) (p : Addr) (b : Bool) (f c : N3) : Prop := ∃ dx, H p = some (.ins (ga K "Pair") dx (pf b f c))
theorem PrAt.same {K : Frag} {H H' : Hp} {p : Addr} {b : Bool} {f c : N3} (h : PrAt K H p b f c) (s : Same H H') : PrAt K H' p b f c := let ⟨dx, e⟩ := h; ⟨dx, s _ _ e⟩
def sp_Pair_init (K : Frag) : Sp := fun vs H Q E => ∃ (p : Addr) (dx : Addr) (a : Addr) (k : LK) (x : N3) (b : Addr) (j : LK) (y : N3), vs = [.ref p, .ref a, .ref b] ∧ H p = some (.ins (ga K "Pair") dx []) ∧ LnAt K H a k x ∧ LnAt K H b j y ∧ x.ok ∧ y.ok ∧ (fiN x y).e ∣ (coN x y).e ∧ ∀ H', (∀ q o, q ≠ p → H q = some o → H' q = some o) → H' p = some (.ins (ga K "Pair") dx (pf (decide (x.e ≤ y.e)) (fiN x y) (coN x y))) → Q .non H'
theorem ok_Pair_init (Z : Zs cks fns K mg) : FnOk PP w K mg base (L2.CX PP w) 3 (ma K (ga K "Pair") "__init__") (fdAt K (ma K (ga K "Pair") "__init__")) ["self", "one", "other"] (sp_Pair_init K) := by
  refine L2.Fun.okX (u_Pair_init Z) sc_Pair_init (fun vs H Q E h => ?_) (fun cdv A outer s H vs Q E hr h => ?_)
  · obtain ⟨_, _, _, _, _, _, _, _, rfl, _⟩ := h
    rfl
  · obtain ⟨p, dx, a, k, x, b, j, y, rfl, ⟨hp, La, Lb, ox, oy, hd, hq⟩⟩ := h
    refine ⟨_, (pss_cons (ps_par (i := 3) (j := 4) rfl sc_Pair_init.nd rfl rfl (by decide) rfl rfl (pa_cons (pe_callB (call_min2 rfl) rfl (n_min Z) (by decide +kernel) (pa_cons (pe_lget (pv 1) (lnF Z) (hp_every Z) (ok_Line_every Z) (b_Line_every Z) (hr.mono (by decide)) lf_e rfl) (pa_cons (pe_lget (pv 2) (lnF Z) (hp_every Z) (ok_Line_every Z) (b_Line_every Z) (hr.mono (by decide)) lf_e rfl) pa_nil))) (pa_cons (pe_callB (call_max2 rfl) rfl (n_max Z) (by decide +kernel) (pa_cons (pe_lget (pv 1) (lnF Z) (hp_every Z) (ok_Line_every Z) (b_Line_every Z) (hr.mono (by decide)) lf_e rfl) (pa_cons (pe_lget (pv 2) (lnF Z) (hp_every Z) (ok_Line_every Z) (b_Line_every Z) (hr.mono (by decide)) lf_e rfl) pa_nil))) pa_nil)) rfl)
      (pss_cons (ps_if (pt_cmpR op_ne (pe_op op_mod (pv 4) (pv 3)) pe_int (nomark _))
        (pss_one ps_never)
        pss_nil)
      (pss_cons (ps_fld (pv 0) (pe_cmpR op_eq (pe_lget (pv 1) (lnF Z) (hp_every Z) (ok_Line_every Z) (b_Line_every Z) (hr.mono (by decide)) lf_e rfl) (pv 3) (nomark _)) rfl)
      (pss_cons (ps_asg (pe_ifExp (pt_val (pe_fld (pv 0) rfl)) (pe_tup (pa_cons (pv 1) (pa_cons (pv 2) pa_nil))) (pe_tup (pa_cons (pv 2) (pa_cons (pv 1) pa_nil)))) (pg_tup rfl (pgs_cons (pg_name (i := 5) sc_Pair_init.nd rfl (Or.inl rfl)) (pgs_cons (pg_name (i := 6) sc_Pair_init.nd rfl (Or.inl rfl)) pgs_nil))))
      (pss_cons (ps_fld (pv 0) (pv 3) rfl)
      (pss_cons (ps_fld (pv 0) (pv 4) rfl)
      (pss_cons (ps_fld (pv 0) (pe_lget (pv 6) (lnF Z) (hp_at Z) (ok_Line_at Z) (b_Line_at Z) (hr.mono (by decide)) lf_a rfl) rfl)
      (pss_cons (ps_fld (pv 0) (pe_op op_mod (pe_op op_sub (pe_lget (pv 5) (lnF Z) (hp_at Z) (ok_Line_at Z) (b_Line_at Z) (hr.mono (by decide)) lf_a rfl) (pe_lget (pv 6) (lnF Z) (hp_at Z) (ok_Line_at Z) (b_Line_at Z) (hr.mono (by decide)) lf_a rfl)) (pv 3)) rfl)
      (pss_one (ps_fld (pv 0) (pe_op op_add (pe_op op_sub (pe_lget (pv 5) (lnF Z) (hp_ride Z) (ok_Line_ride Z) (b_Line_ride Z) (hr.mono (by decide)) lf_r rfl) (pe_lget (pv 6) (lnF Z) (hp_ride Z) (ok_Line_ride Z) (b_Line_ride Z) (hr.mono (by decide)) lf_r rfl)) (pe_fld (pv 0) rfl)) rfl)))))))))), ?_⟩
    have x1 := ox.1
    have y1 := oy.1
    have nA : ∀ (a : Addr) k n, LnAt K H a k n → a ≠ p := by
      rintro a k n ⟨d, e⟩ z
      subst z
      have := congrArg (fun o => match o with | some (HO.ins _ _ fs) => fs.lookup ("held_every" : Str) | _ => none) (e.symm.trans hp)
      simp [lf_e] at this
    have keepA : ∀ (G : Hp) o, LnAt K G a k x → LnAt K (upd G p o) a k x := fun G o ⟨d, e⟩ => ⟨d, by rw [upd_ne (nA _ _ _ La)]; exact e⟩
    have keepB : ∀ (G : Hp) o, LnAt K G b j y → LnAt K (upd G p o) b j y := fun G o ⟨d, e⟩ => ⟨d, by rw [upd_ne (nA _ _ _ Lb)]; exact e⟩
    by_cases c : x.e ≤ y.e
    · have ef : fiN x y = x := if_pos c
      have ec : coN x y = y := if_pos c
      rw [ef, ec, decide_eq_true c] at hq
      rw [ef, ec] at hd
      have hl : (if y.e < x.e then y.e else x.e) = x.e := by split <;> omega
      have hg : (if y.e > x.e then y.e else x.e) = y.e := by split <;> omega
      have hb : decide (V.int x.e = V.int x.e) = true := by first | exact decide_eq_true rfl | exact decide_eq_false fun z => by have := V.int.inj z; omega
      refine ⟨_, rfl, a, k, x, rfl, La, _, rfl, b, j, y, rfl, Lb, _, _, rfl, _, rfl, a, k, x, rfl, La, _, rfl, b, j, y, rfl, Lb, _, _, rfl, _, _, rfl, ?_⟩
      rw [hl, hg]
      refine ⟨_, rfl, _, rfl, _, _, rfl, rfl, (by show 0 < x.e; omega), rfl, _, rfl, iteNS (congrArg V.int (Int.emod_eq_zero_of_dvd hd)) ?_⟩
      refine ⟨_, rfl, a, k, x, rfl, La, _, rfl, rfl, _, rfl, p, _, dx, [], rfl, hp, c_Pair Z, na_Pair_is_finer Z, (by decide), ?_⟩
      rw [hb]
      have E1 : (upd H p (.ins (ga K "Pair") dx (putF "is_finer" (.bl true) []))) p = some (.ins (ga K "Pair") dx (putF "is_finer" (.bl true) [])) := upd_same
      have La1 : LnAt K (upd H p (.ins (ga K "Pair") dx (putF "is_finer" (.bl true) []))) a k x := keepA _ _ La
      have Lb1 : LnAt K (upd H p (.ins (ga K "Pair") dx (putF "is_finer" (.bl true) []))) b j y := keepB _ _ Lb
      refine ⟨_, rfl, p, _, dx, _, _, rfl, E1, c_Pair Z, na_Pair_is_finer Z, (by rw [lookup_putF, if_pos rfl]), _, rfl, iteT ?_⟩
      refine ⟨_, rfl, _, rfl, (by show 2 ≤ sizeLine; decide), fun t ht => ?_⟩
      have st := Same.new (o := .tup [.ref a, .ref b]) ht
      have G0 : ∀ q o, q ≠ p → H q = some o → (upd (upd H p (.ins (ga K "Pair") dx (putF "is_finer" (.bl true) []))) t (.tup [.ref a, .ref b])) q = some o := fun q o nq e => st _ _ (by rw [upd_ne nq]; exact e)
      have E2 := st _ _ E1
      have La2 := La1.same st
      have Lb2 := Lb1.same st
      refine ⟨t, _, rfl, SqT.of upd_same, rfl, _, _, rfl, _, _, rfl, rfl, ?_⟩
      refine ⟨_, rfl, _, rfl, p, _, dx, _, rfl, E2, c_Pair Z, na_Pair_lesser Z, by show (putF _ _ _).length < 1000; exact Nat.lt_of_lt_of_le (put_len _ _ [] (n := 1) (by decide)) (by decide), ?_⟩
      refine ⟨_, rfl, _, rfl, p, _, dx, _, rfl, upd_same, c_Pair Z, na_Pair_greater Z, Nat.lt_of_lt_of_le (put_len _ _ _ (put_len _ _ [] (n := 1) (by decide))) (by decide), ?_⟩
      have Lc : ∀ G, LnAt K G b j y → ∀ o, LnAt K (upd G p o) b j y := fun G h o => keepB _ _ h
      have Lf : ∀ G, LnAt K G a k x → ∀ o, LnAt K (upd G p o) a k x := fun G h o => keepA _ _ h
      refine ⟨_, rfl, b, j, y, rfl, Lc _ (Lc _ Lb2 _) _, _, rfl, p, _, dx, _, rfl, upd_same, c_Pair Z, na_Pair_anchor Z, Nat.lt_of_lt_of_le (put_len _ _ _ (put_len _ _ _ (put_len _ _ [] (n := 1) (by decide)))) (by decide), ?_⟩
      refine ⟨_, rfl, a, k, x, rfl, Lf _ (Lf _ (Lf _ La2 _) _) _, _, rfl, b, j, y, rfl, Lc _ (Lc _ (Lc _ Lb2 _) _) _, _, _, rfl, rfl, _, rfl, _, _, rfl, rfl, (by show 0 < x.e; omega), _, rfl, p, _, dx, _, rfl, upd_same, c_Pair Z, na_Pair_shift Z, Nat.lt_of_lt_of_le (put_len _ _ _ (put_len _ _ _ (put_len _ _ _ (put_len _ _ [] (n := 1) (by decide))))) (by decide), ?_⟩
      refine ⟨_, rfl, a, k, x, rfl, Lf _ (Lf _ (Lf _ (Lf _ La2 _) _) _) _, _, rfl, b, j, y, rfl, Lc _ (Lc _ (Lc _ (Lc _ Lb2 _) _) _) _, _, _, rfl, rfl, _, rfl, p, _, dx, _, _, rfl, upd_same, c_Pair Z, na_Pair_shift Z, (by rw [lookup_putF, if_pos rfl]), _, _, rfl, rfl, _, rfl, p, _, dx, _, rfl, upd_same, c_Pair Z, na_Pair_most Z, Nat.lt_of_lt_of_le (put_len _ _ _ (put_len _ _ _ (put_len _ _ _ (put_len _ _ _ (put_len _ _ [] (n := 1) (by decide)))))) (by decide), ?_⟩
      refine hq _ (fun q o nq e => ?_) upd_same
      rw [upd_ne nq, upd_ne nq, upd_ne nq, upd_ne nq, upd_ne nq]
      exact G0 q o nq e
    · have ef : fiN x y = y := if_neg c
      have ec : coN x y = x := if_neg c
      rw [ef, ec, decide_eq_false c] at hq
      rw [ef, ec] at hd
      have hl : (if y.e < x.e then y.e else x.e) = y.e := by split <;> omega
      have hg : (if y.e > x.e then y.e else x.e) = x.e := by split <;> omega
      have hb : decide (V.int x.e = V.int y.e) = false := by first | exact decide_eq_true rfl | exact decide_eq_false fun z => by have := V.int.inj z; omega
      refine ⟨_, rfl, a, k, x, rfl, La, _, rfl, b, j, y, rfl, Lb, _, _, rfl, _, rfl, a, k, x, rfl, La, _, rfl, b, j, y, rfl, Lb, _, _, rfl, _, _, rfl, ?_⟩
      rw [hl, hg]
      refine ⟨_, rfl, _, rfl, _, _, rfl, rfl, (by show 0 < y.e; omega), rfl, _, rfl, iteNS (congrArg V.int (Int.emod_eq_zero_of_dvd hd)) ?_⟩
      refine ⟨_, rfl, a, k, x, rfl, La, _, rfl, rfl, _, rfl, p, _, dx, [], rfl, hp, c_Pair Z, na_Pair_is_finer Z, (by decide), ?_⟩
      rw [hb]
      have E1 : (upd H p (.ins (ga K "Pair") dx (putF "is_finer" (.bl false) []))) p = some (.ins (ga K "Pair") dx (putF "is_finer" (.bl false) [])) := upd_same
      have La1 : LnAt K (upd H p (.ins (ga K "Pair") dx (putF "is_finer" (.bl false) []))) a k x := keepA _ _ La
      have Lb1 : LnAt K (upd H p (.ins (ga K "Pair") dx (putF "is_finer" (.bl false) []))) b j y := keepB _ _ Lb
      refine ⟨_, rfl, p, _, dx, _, _, rfl, E1, c_Pair Z, na_Pair_is_finer Z, (by rw [lookup_putF, if_pos rfl]), _, rfl, iteF ?_⟩
      refine ⟨_, rfl, _, rfl, (by show 2 ≤ sizeLine; decide), fun t ht => ?_⟩
      have st := Same.new (o := .tup [.ref b, .ref a]) ht
      have G0 : ∀ q o, q ≠ p → H q = some o → (upd (upd H p (.ins (ga K "Pair") dx (putF "is_finer" (.bl false) []))) t (.tup [.ref b, .ref a])) q = some o := fun q o nq e => st _ _ (by rw [upd_ne nq]; exact e)
      have E2 := st _ _ E1
      have La2 := La1.same st
      have Lb2 := Lb1.same st
      refine ⟨t, _, rfl, SqT.of upd_same, rfl, _, _, rfl, _, _, rfl, rfl, ?_⟩
      refine ⟨_, rfl, _, rfl, p, _, dx, _, rfl, E2, c_Pair Z, na_Pair_lesser Z, by show (putF _ _ _).length < 1000; exact Nat.lt_of_lt_of_le (put_len _ _ [] (n := 1) (by decide)) (by decide), ?_⟩
      refine ⟨_, rfl, _, rfl, p, _, dx, _, rfl, upd_same, c_Pair Z, na_Pair_greater Z, Nat.lt_of_lt_of_le (put_len _ _ _ (put_len _ _ [] (n := 1) (by decide))) (by decide), ?_⟩
      have Lc : ∀ G, LnAt K G a k x → ∀ o, LnAt K (upd G p o) a k x := fun G h o => keepA _ _ h
      have Lf : ∀ G, LnAt K G b j y → ∀ o, LnAt K (upd G p o) b j y := fun G h o => keepB _ _ h
      refine ⟨_, rfl, a, k, x, rfl, Lc _ (Lc _ La2 _) _, _, rfl, p, _, dx, _, rfl, upd_same, c_Pair Z, na_Pair_anchor Z, Nat.lt_of_lt_of_le (put_len _ _ _ (put_len _ _ _ (put_len _ _ [] (n := 1) (by decide)))) (by decide), ?_⟩
      refine ⟨_, rfl, b, j, y, rfl, Lf _ (Lf _ (Lf _ Lb2 _) _) _, _, rfl, a, k, x, rfl, Lc _ (Lc _ (Lc _ La2 _) _) _, _, _, rfl, rfl, _, rfl, _, _, rfl, rfl, (by show 0 < y.e; omega), _, rfl, p, _, dx, _, rfl, upd_same, c_Pair Z, na_Pair_shift Z, Nat.lt_of_lt_of_le (put_len _ _ _ (put_len _ _ _ (put_len _ _ _ (put_len _ _ [] (n := 1) (by decide))))) (by decide), ?_⟩
      refine ⟨_, rfl, b, j, y, rfl, Lf _ (Lf _ (Lf _ (Lf _ Lb2 _) _) _) _, _, rfl, a, k, x, rfl, Lc _ (Lc _ (Lc _ (Lc _ La2 _) _) _) _, _, _, rfl, rfl, _, rfl, p, _, dx, _, _, rfl, upd_same, c_Pair Z, na_Pair_shift Z, (by rw [lookup_putF, if_pos rfl]), _, _, rfl, rfl, _, rfl, p, _, dx, _, rfl, upd_same, c_Pair Z, na_Pair_most Z, Nat.lt_of_lt_of_le (put_len _ _ _ (put_len _ _ _ (put_len _ _ _ (put_len _ _ _ (put_len _ _ [] (n := 1) (by decide)))))) (by decide), ?_⟩
      refine hq _ (fun q o nq e => ?_) upd_same
      rw [upd_ne nq, upd_ne nq, upd_ne nq, upd_ne nq, upd_ne nq]
      exact G0 q o nq e
end
section
variable {w : World} {K : Frag} {mg : Str → Option Value} {base : Heap}
def sp_Pair_count_from (K : Frag) : Sp := fun vs H Q E => ∃ (p : Addr) (bb : Bool) (f : N3) (c : N3) (v : Int), vs = [.ref p, .int v] ∧ PrAt K H p bb f c ∧ f.ok ∧ Sz 500 f.e ∧ Sz 600 (moN f c) ∧ Sz 600 v ∧ Q (.int (cntN f c v)) H
theorem ok_Pair_count_from (Z : Zs cks fns K mg) : FnOk PP w K mg base (L2.CX PP w) 1 (ma K (ga K "Pair") "count_from") (fdAt K (ma K (ga K "Pair") "count_from")) ["self", "value"] (sp_Pair_count_from K) := by
  refine L2.Fun.okX (u_Pair_count_from Z) sc_Pair_count_from (fun vs H Q E h => ?_) (fun cdv A outer s H vs Q E hr h => ?_)
  · obtain ⟨_, _, _, _, _, rfl, _⟩ := h
    rfl
  · obtain ⟨p, bb, f, c, v, rfl, ⟨⟨dx, hP⟩, of, sf, sm, sv, hq⟩⟩ := h
    refine ⟨_, (pss_cons (ps_set (i := 2) sc_Pair_count_from.nd rfl (Or.inl rfl) (pe_op op_fdivW (pe_op op_sub (pe_fld (pv 0) rfl) (pv 1)) (pe_fld (pv 0) rfl)))
      (pss_one (ps_ret (pe_ifExp (pt_cmpR op_ge (pv 2) pe_int (nomark _)) (pe_callB (call_max2 rfl) rfl (n_max Z) (by decide +kernel) (pa_cons pe_int (pa_cons (pe_callB (call_min2 rfl) rfl (n_min Z) (by decide +kernel) (pa_cons (pe_fld (pv 0) rfl) (pa_cons (pe_op op_sub (pe_op op_mulW (pe_fld (pv 0) rfl) (pe_op op_add (pv 2) pe_int)) (pe_fld (pv 0) rfl)) pa_nil))) pa_nil))) pe_int)))), ?_⟩
    have f1 := of.1
    refine ⟨_, rfl, p, _, dx, _, _, rfl, hP, c_Pair Z, na_Pair_most Z, pf_m _ _ _, _, rfl, _, _, rfl, rfl, _, rfl, p, _, dx, _, _, rfl, hP, c_Pair Z, na_Pair_lesser Z, pf_l _ _ _, _, _, rfl, rfl, sf.div (by omega) (by decide) (by decide), ?_⟩
    unfold cntN at hq
    refine ⟨_, rfl, _, _, rfl, rfl, _, rfl, ifD (fun s0 => ?_) (fun s0 => ?_)⟩
    · rw [if_pos s0] at hq
      have m0 : 0 ≤ moN f c - v := by
        have e1 := Int.emod_add_mul_ediv (moN f c - v) f.e
        have e2 := Int.emod_nonneg (moN f c - v) (show f.e ≠ 0 by omega)
        have := Int.mul_nonneg (show 0 ≤ f.e by omega) (show 0 ≤ (moN f c - v) / f.e by omega)
        omega
      have s1 : Sz 602 ((moN f c - v) / f.e + 1) := Sz.add (a := 601) (Sz.le (by omega) (Int.ediv_le_self _ m0) (sm.sub sv)) (Sz.of (by decide +kernel) (by decide +kernel))
      exact ⟨_, rfl, p, _, dx, _, _, rfl, hP, c_Pair Z, na_Pair_greater Z, pf_g _ _ _, _, rfl, p, _, dx, _, _, rfl, hP, c_Pair Z, na_Pair_lesser Z, pf_l _ _ _, _, rfl, _, _, rfl, rfl, _, _, rfl, rfl, sf.cmul s1 (by decide) (by decide) (by decide), _, rfl, p, _, dx, _, _, rfl, hP, c_Pair Z, na_Pair_shift Z, pf_s _ _ _, _, _, rfl, rfl, _, _, rfl, _, _, rfl, hq⟩
    · rw [if_neg s0] at hq
      exact hq
def sp_Pair_least (K : Frag) : Sp := fun vs H Q E => ∃ (p : Addr) (bb : Bool) (f : N3) (c : N3), vs = [.ref p] ∧ PrAt K H p bb f c ∧ f.ok ∧ c.ok ∧ Sz 500 f.e ∧ Sz 500 c.e ∧ Q (.int (leN f c)) H
theorem ok_Pair_least (Z : Zs cks fns K mg) : FnOk PP w K mg base (L2.CX PP w) 1 (ma K (ga K "Pair") "least") (fdAt K (ma K (ga K "Pair") "least")) ["self"] (sp_Pair_least K) := by
  refine L2.Fun.okX (u_Pair_least Z) sc_Pair_least (fun vs H Q E h => ?_) (fun cdv A outer s H vs Q E hr h => ?_)
  · obtain ⟨_, _, _, _, rfl, _⟩ := h
    rfl
  · obtain ⟨p, bb, f, c, rfl, ⟨⟨dx, hP⟩, of, oc, sf, sc, hq⟩⟩ := h
    refine ⟨_, (pss_one (ps_ret (pe_op op_sub (pe_fld (pv 0) rfl) (pe_op op_mulW (pe_op op_fdivW (pe_op op_sub (pe_op op_add (pe_fld (pv 0) rfl) (pe_fld (pv 0) rfl)) pe_int) (pe_fld (pv 0) rfl)) (pe_fld (pv 0) rfl))))), ?_⟩
    have f1 := of.1
    have c1 := oc.1
    have sh := sh_in (c := c) of
    have s1 : Sz 502 ((c.e + shN f c - 1) / f.e) := Sz.le (Int.ediv_nonneg (by omega) (by omega)) (Int.le_trans (Int.ediv_le_self _ (by omega)) (show c.e + shN f c - 1 ≤ c.e + f.e by omega)) ((sc.add sf).mono (by decide))
    exact ⟨_, rfl, p, _, dx, _, _, rfl, hP, c_Pair Z, na_Pair_most Z, pf_m _ _ _, _, rfl, p, _, dx, _, _, rfl, hP, c_Pair Z, na_Pair_greater Z, pf_g _ _ _, _, rfl, p, _, dx, _, _, rfl, hP, c_Pair Z, na_Pair_shift Z, pf_s _ _ _, _, _, rfl, rfl, _, _, rfl, rfl, _, rfl, p, _, dx, _, _, rfl, hP, c_Pair Z, na_Pair_lesser Z, pf_l _ _ _, _, _, rfl, rfl, sf.div (by omega) (by decide) (by decide), _, rfl, p, _, dx, _, _, rfl, hP, c_Pair Z, na_Pair_lesser Z, pf_l _ _ _, _, _, rfl, rfl, s1.cmul sf (by decide) (by decide) (by decide), _, _, rfl, rfl, hq⟩
def sp_first_within (K : Frag) : Sp := fun vs H Q E => ∃ (fi : Int) (m : Int) (md : Int) (t : Int), vs = [.int fi, .int m, .int md, .int t] ∧ 0 < md ∧ Q (optV (fwN fi m md t)) H
theorem ok_first_within (Z : Zs cks fns K mg) : FnOk PP w K mg base (L2.CX PP w) 1 (ga K "first_within") (fdAt K (ga K "first_within")) ["first", "many", "modulus", "time"] (sp_first_within K) := by
  refine L2.Fun.okX (u_first_within Z) sc_first_within (fun vs H Q E h => ?_) (fun cdv A outer s H vs Q E hr h => ?_)
  · obtain ⟨_, _, _, _, rfl, _⟩ := h
    rfl
  · obtain ⟨fi, m, md, t, rfl, ⟨hm, hq⟩⟩ := h
    refine ⟨_, (pss_cons (ps_if (pt_cmpR op_eq (pv 1) pe_int (nomark _))
        (pss_one (ps_ret pe_non))
        pss_nil)
      (pss_cons (ps_set (i := 4) sc_first_within.nd rfl (Or.inl rfl) (pe_op op_mod (pe_op op_sub (pv 3) (pv 0)) (pv 2)))
      (pss_one (ps_ret (pe_ifExp (pt_cmpR op_lt (pv 4) (pv 1) (nomark _)) (pv 3) (pe_op op_sub (pe_op op_add (pv 3) (pv 2)) (pv 4))))))), ?_⟩
    unfold fwN at hq
    refine ⟨_, rfl, rfl, _, rfl, ifD (fun c => ?_) (fun c => ?_)⟩
    · rw [if_pos (V.int.inj c)] at hq
      exact hq
    · rw [if_neg (fun z => c (congrArg V.int z))] at hq
      refine ⟨_, rfl, _, rfl, _, _, rfl, rfl, _, rfl, _, _, rfl, rfl, hm, ?_⟩
      refine ⟨_, rfl, _, rfl, _, _, rfl, rfl, _, rfl, ifD (fun d => ?_) (fun d => ?_)⟩
      · rw [if_pos d] at hq
        exact ⟨_, rfl, hq⟩
      · rw [if_neg d] at hq
        exact ⟨_, rfl, _, rfl, _, _, rfl, rfl, _, rfl, _, _, rfl, rfl, hq⟩
end
section
variable {w : World} {K : Frag} {mg : Str → Option Value} {base : Heap}
def sp_Pair_first_from (K : Frag) : Sp := fun vs H Q E => ∃ (p : Addr) (bb : Bool) (f : N3) (c : N3) (v : Int) (t : Int), vs = [.ref p, .int v, .int t] ∧ PrAt K H p bb f c ∧ f.ok ∧ c.ok ∧ Sz 500 f.e ∧ Sz 600 (moN f c) ∧ Sz 600 v ∧ Q (optV (ffN f c v t)) H
theorem ok_Pair_first_from (Z : Zs cks fns K mg) : FnOk PP w K mg base (L2.CX PP w) 2 (ma K (ga K "Pair") "first_from") (fdAt K (ma K (ga K "Pair") "first_from")) ["self", "value", "time"] (sp_Pair_first_from K) := by
  refine L2.Fun.okX (u_Pair_first_from Z) sc_Pair_first_from (fun vs H Q E h => ?_) (fun cdv A outer s H vs Q E hr h => ?_)
  · obtain ⟨_, _, _, _, _, _, rfl, _⟩ := h
    rfl
  · obtain ⟨p, bb, f, c, v, t, rfl, ⟨hPr, of, oc, sf, sm, sv, hq⟩⟩ := h
    refine ⟨_, (pss_cons (ps_set (i := 3) sc_Pair_first_from.nd rfl (Or.inl rfl) (pe_meth (pv 0) (c_Pair Z) (hm_Pair_count_from Z) (ok_Pair_count_from Z) (hr.mono (by decide)) (b_Pair_count_from Z) .nil passL (pa_cons (pv 1) pa_nil)))
      (pss_one (ps_ret (pe_call (ok_first_within Z) (hr.mono (by decide)) rfl (g_first_within Z) (u_first_within Z).kp (b_first_within Z) .nil passL (pa_cons (pe_op op_add (pe_op op_sub (pe_fld (pv 0) rfl) (pv 3)) pe_int) (pa_cons (pv 3) (pa_cons (pe_fld (pv 0) rfl) (pa_cons (pv 2) pa_nil)))))))), ?_⟩
    obtain ⟨dx, hP⟩ := id hPr
    have c1 := oc.1
    refine ⟨_, rfl, p, dx, _, rfl, hP, pf_no _ _ _, _, rfl, ⟨p, bb, f, c, v, rfl, hPr, of, sf, sm, sv, ?_⟩⟩
    exact ⟨_, rfl, p, _, dx, _, _, rfl, hP, c_Pair Z, na_Pair_anchor Z, pf_a _ _ _, _, rfl, _, _, rfl, rfl, _, _, rfl, rfl, _, rfl, _, rfl, p, _, dx, _, _, rfl, hP, c_Pair Z, na_Pair_greater Z, pf_g _ _ _, _, rfl, ⟨_, _, _, _, rfl, by omega, hq⟩⟩
def sp_Pair_first_below (K : Frag) : Sp := fun vs H Q E => ∃ (p : Addr) (bb : Bool) (f : N3) (c : N3) (v : Int) (t : Int), vs = [.ref p, .int v, .int t] ∧ PrAt K H p bb f c ∧ f.ok ∧ c.ok ∧ Sz 500 f.e ∧ Sz 600 (moN f c) ∧ Sz 600 v ∧ Q (optV (fbN f c v t)) H
theorem ok_Pair_first_below (Z : Zs cks fns K mg) : FnOk PP w K mg base (L2.CX PP w) 2 (ma K (ga K "Pair") "first_below") (fdAt K (ma K (ga K "Pair") "first_below")) ["self", "value", "time"] (sp_Pair_first_below K) := by
  refine L2.Fun.okX (u_Pair_first_below Z) sc_Pair_first_below (fun vs H Q E h => ?_) (fun cdv A outer s H vs Q E hr h => ?_)
  · obtain ⟨_, _, _, _, _, _, rfl, _⟩ := h
    rfl
  · obtain ⟨p, bb, f, c, v, t, rfl, ⟨hPr, of, oc, sf, sm, sv, hq⟩⟩ := h
    refine ⟨_, (pss_one (ps_ret (pe_call (ok_first_within Z) (hr.mono (by decide)) rfl (g_first_within Z) (u_first_within Z).kp (b_first_within Z) .nil passL (pa_cons (pe_op op_add (pe_fld (pv 0) rfl) pe_int) (pa_cons (pe_op op_sub (pe_fld (pv 0) rfl) (pe_meth (pv 0) (c_Pair Z) (hm_Pair_count_from Z) (ok_Pair_count_from Z) (hr.mono (by decide)) (b_Pair_count_from Z) .nil passL (pa_cons (pv 1) pa_nil))) (pa_cons (pe_fld (pv 0) rfl) (pa_cons (pv 2) pa_nil))))))), ?_⟩
    obtain ⟨dx, hP⟩ := id hPr
    have c1 := oc.1
    exact ⟨_, rfl, p, _, dx, _, _, rfl, hP, c_Pair Z, na_Pair_anchor Z, pf_a _ _ _, _, _, rfl, rfl, _, rfl, p, _, dx, _, _, rfl, hP, c_Pair Z, na_Pair_greater Z, pf_g _ _ _, _, rfl, p, dx, _, rfl, hP, pf_no _ _ _, _, rfl, ⟨p, bb, f, c, v, rfl, hPr, of, sf, sm, sv, _, _, rfl, rfl, _, rfl, p, _, dx, _, _, rfl, hP, c_Pair Z, na_Pair_greater Z, pf_g _ _ _, _, rfl, ⟨_, _, _, _, rfl, by omega, hq⟩⟩⟩
end
section
variable {w : World} {K : Frag} {mg : Str → Option Value} {base : Heap}
def sp_differences (K : Frag) : Sp := fun vs H Q E => ∃ (a : Addr) (k : LK) (x : N3) (b : Addr) (j : LK) (y : N3), vs = [.ref a, .ref b] ∧ LnAt K H a k x ∧ LnAt K H b j y ∧ x.ok ∧ y.ok ∧ (x.e ∣ y.e ∨ y.e ∣ x.e) ∧ Sz 500 x.e ∧ Sz 500 y.e ∧ Sz 500 x.r ∧ Sz 500 y.r ∧ ∀ (r : Addr) (H' : Hp), Same H H' → H' r = some (.tup [.int (diN x y).1, .int (diN x y).2.1, .int (diN x y).2.2]) → Q (.ref r) H'
theorem ok_differences (Z : Zs cks fns K mg) : FnOk PP w K mg base (L2.CX PP w) 5 (ga K "differences") (fdAt K (ga K "differences")) ["one", "other"] (sp_differences K) := by
  refine L2.Fun.okX (u_differences Z) sc_differences (fun vs H Q E h => ?_) (fun cdv A outer s H vs Q E hr h => ?_)
  · obtain ⟨_, _, _, _, _, _, rfl, _⟩ := h
    rfl
  · obtain ⟨a, k, x, b, j, y, rfl, ⟨La, Lb, ox, oy, hd, sx, sy, srx, sry, hq⟩⟩ := h
    refine ⟨_, (pss_cons (ps_set (i := 2) sc_differences.nd rfl (Or.inl rfl) (pe_make (M_Pair Z) (ok_Pair_init Z) (hr.mono (by decide)) rfl (g_Pair Z) (b_Pair_init Z) .nil passL (pa_cons (pv 0) (pa_cons (pv 1) pa_nil))))
      (pss_cons (ps_par (i := 3) (j := 4) rfl sc_differences.nd rfl rfl (by decide) rfl rfl (pa_cons (pe_meth0 (pv 2) (c_Pair Z) (hm_Pair_least Z) (ok_Pair_least Z) (hr.mono (by decide)) (b_Pair_least Z) .nil passL) (pa_cons (pe_fld (pv 2) rfl) pa_nil)) rfl)
      (pss_cons (ps_set (i := 5) sc_differences.nd rfl (Or.inl rfl) (pe_ifExp (pt_cmpR op_lt (pv 3) (pv 4) (nomark _)) (pe_fld (pv 2) rfl) pe_int))
      (pss_one (ps_ret (pe_ifExp (pt_val (pe_fld (pv 2) rfl)) (pe_tup (pa_cons (pv 3) (pa_cons (pv 4) (pa_cons (pv 5) pa_nil)))) (pe_tup (pa_cons (pe_op op_sub pe_int (pv 4)) (pa_cons (pe_op op_sub pe_int (pv 3)) (pa_cons (pv 5) pa_nil)))))))))), ?_⟩
    obtain ⟨of, oc, hfc⟩ := fc_fit ox oy hd
    have sf : Sz 500 (fiN x y).e := by unfold fiN; split <;> assumption
    have sc : Sz 500 (coN x y).e := by unfold coN; split <;> assumption
    have sfr : Sz 500 (fiN x y).r := by unfold fiN; split <;> assumption
    have scr : Sz 500 (coN x y).r := by unfold coN; split <;> assumption
    have sh := sh_in (c := coN x y) of
    have ssh : Sz 500 (shN (fiN x y) (coN x y)) := Sz.le sh.1 (Int.le_of_lt sh.2) sf
    have sm : Sz 600 (moN (fiN x y) (coN x y)) := ((sfr.sub scr).add (ssh.mono (by decide))).mono (by decide)
    have dl := dlt_le of oc hfc (coN x y).a
    refine ⟨_, rfl, _, rfl, fun p dx hp hdx hne => ?_⟩
    refine ⟨p, dx, a, k, x, b, j, y, rfl, upd_same, (La.same (Same.new hdx)).same (Same.new (o := .ins (ga K "Pair") dx []) (by rw [upd_ne hne.symm]; exact hp)), (Lb.same (Same.new hdx)).same (Same.new (o := .ins (ga K "Pair") dx []) (by rw [upd_ne hne.symm]; exact hp)), ox, oy, hfc, fun H1 keep hP => ⟨rfl, ?_⟩⟩
    have s1 : Same H H1 := fun q o e => keep q o (fun z => by rw [z, hp] at e; cases e) (by rw [upd_ne (fun z => by rw [z, hp] at e; cases e), upd_ne (fun z => by rw [z, hdx] at e; cases e)]; exact e)
    have hPr : PrAt K H1 p (decide (x.e ≤ y.e)) (fiN x y) (coN x y) := ⟨dx, hP⟩
    
    refine ⟨_, rfl, p, dx, _, rfl, hP, pf_no _ _ _, ⟨p, _, _, _, rfl, hPr, of, oc, sf, sc, _, rfl, p, _, dx, _, _, rfl, hP, c_Pair Z, na_Pair_most Z, pf_m _ _ _, _, _, rfl, ?_⟩⟩
    unfold diN at hq
    apply share2 (fun (s : Int) (H2 : Hp) => s = (if leN (fiN x y) (coN x y) < moN (fiN x y) (coN x y) then (fiN x y).e else 0) ∧ H2 = H1)
    · intro rest
      refine ⟨_, rfl, _, rfl, _, _, rfl, rfl, _, rfl, ifD (fun c => ?_) (fun c => ?_)⟩
      · refine ⟨_, rfl, p, _, dx, _, _, rfl, hP, c_Pair Z, na_Pair_lesser Z, pf_l _ _ _, ?_⟩
        obtain ⟨w, hw⟩ : ∃ w, w = (fiN x y).e := ⟨_, rfl⟩
        rw [← hw]
        exact rest w H1 ⟨by rw [if_pos c, hw], rfl⟩
      · exact rest 0 H1 ⟨by rw [if_neg c], rfl⟩
    rintro s H2 ⟨hs, rfl⟩
    by_cases c : x.e ≤ y.e
    · have ef : fiN x y = x := if_pos c
      have ec : coN x y = y := if_pos c
      rw [if_pos c] at hq
      simp only [ef, ec] at of oc hfc sf sc sfr scr sh ssh sm dl hPr hP hs ⊢
      rw [decide_eq_true c] at hP
      refine ⟨_, rfl, p, _, dx, _, _, rfl, hP, c_Pair Z, na_Pair_is_finer Z, pf_b _ _ _, _, rfl, iteT ?_⟩
      refine ⟨_, rfl, _, rfl, _, rfl, (by show 3 ≤ sizeLine; decide), fun r hr3 => hq r _ (s1.trans (Same.new hr3)) ?_⟩
      rw [hs]
      exact upd_same
    · have ef : fiN x y = y := if_neg c
      have ec : coN x y = x := if_neg c
      rw [if_neg c] at hq
      simp only [ef, ec] at of oc hfc sf sc sfr scr sh ssh sm dl hPr hP hs ⊢
      rw [decide_eq_false c] at hP
      refine ⟨_, rfl, p, _, dx, _, _, rfl, hP, c_Pair Z, na_Pair_is_finer Z, pf_b _ _ _, _, rfl, iteF ?_⟩
      refine ⟨_, rfl, _, _, rfl, rfl, _, rfl, _, _, rfl, rfl, _, rfl, (by show 3 ≤ sizeLine; decide), fun r hr3 => hq r _ (s1.trans (Same.new hr3)) ?_⟩
      rw [hs]
      exact upd_same
def sp_worst_start (K : Frag) : Sp := fun vs H Q E => ∃ (a : Addr) (k : LK) (x : N3) (b : Addr) (j : LK) (y : N3), vs = [.ref a, .ref b] ∧ LnAt K H a k x ∧ LnAt K H b j y ∧ x.ok ∧ y.ok ∧ (x.e ∣ y.e ∨ y.e ∣ x.e) ∧ Sz 500 x.e ∧ Sz 500 y.e ∧ Sz 500 x.r ∧ Sz 500 y.r ∧ ∀ (H' : Hp), Same H H' → Q (optV (wsN x y)) H'
theorem ok_worst_start (Z : Zs cks fns K mg) : FnOk PP w K mg base (L2.CX PP w) 5 (ga K "worst_start") (fdAt K (ga K "worst_start")) ["one", "other"] (sp_worst_start K) := by
  refine L2.Fun.okX (u_worst_start Z) sc_worst_start (fun vs H Q E h => ?_) (fun cdv A outer s H vs Q E hr h => ?_)
  · obtain ⟨_, _, _, _, _, _, rfl, _⟩ := h
    rfl
  · obtain ⟨a, k, x, b, j, y, rfl, ⟨La, Lb, ox, oy, hd, sx, sy, srx, sry, hq⟩⟩ := h
    refine ⟨_, (pss_cons (ps_set (i := 2) sc_worst_start.nd rfl (Or.inl rfl) (pe_make (M_Pair Z) (ok_Pair_init Z) (hr.mono (by decide)) rfl (g_Pair Z) (b_Pair_init Z) .nil passL (pa_cons (pv 0) (pa_cons (pv 1) pa_nil))))
      (pss_one (ps_ret (pe_ifExp (pt_val (pe_fld (pv 2) rfl)) (pe_meth (pv 2) (c_Pair Z) (hm_Pair_first_from Z) (ok_Pair_first_from Z) (hr.mono (by decide)) (b_Pair_first_from Z) .nil passL (pa_cons (pe_fld (pv 2) rfl) (pa_cons pe_int pa_nil))) (pe_meth (pv 2) (c_Pair Z) (hm_Pair_first_below Z) (ok_Pair_first_below Z) (hr.mono (by decide)) (b_Pair_first_below Z) .nil passL (pa_cons (pe_op op_add (pe_meth0 (pv 2) (c_Pair Z) (hm_Pair_least Z) (ok_Pair_least Z) (hr.mono (by decide)) (b_Pair_least Z) .nil passL) pe_int) (pa_cons pe_int pa_nil))))))), ?_⟩
    obtain ⟨of, oc, hfc⟩ := fc_fit ox oy hd
    have sf : Sz 500 (fiN x y).e := by unfold fiN; split <;> assumption
    have sc : Sz 500 (coN x y).e := by unfold coN; split <;> assumption
    have sfr : Sz 500 (fiN x y).r := by unfold fiN; split <;> assumption
    have scr : Sz 500 (coN x y).r := by unfold coN; split <;> assumption
    have sh := sh_in (c := coN x y) of
    have ssh : Sz 500 (shN (fiN x y) (coN x y)) := Sz.le sh.1 (Int.le_of_lt sh.2) sf
    have sm : Sz 600 (moN (fiN x y) (coN x y)) := ((sfr.sub scr).add (ssh.mono (by decide))).mono (by decide)
    have dl := dlt_le of oc hfc (coN x y).a
    refine ⟨_, rfl, _, rfl, fun p dx hp hdx hne => ?_⟩
    refine ⟨p, dx, a, k, x, b, j, y, rfl, upd_same, (La.same (Same.new hdx)).same (Same.new (o := .ins (ga K "Pair") dx []) (by rw [upd_ne hne.symm]; exact hp)), (Lb.same (Same.new hdx)).same (Same.new (o := .ins (ga K "Pair") dx []) (by rw [upd_ne hne.symm]; exact hp)), ox, oy, hfc, fun H1 keep hP => ⟨rfl, ?_⟩⟩
    have s1 : Same H H1 := fun q o e => keep q o (fun z => by rw [z, hp] at e; cases e) (by rw [upd_ne (fun z => by rw [z, hp] at e; cases e), upd_ne (fun z => by rw [z, hdx] at e; cases e)]; exact e)
    have hPr : PrAt K H1 p (decide (x.e ≤ y.e)) (fiN x y) (coN x y) := ⟨dx, hP⟩
    
    unfold wsN at hq
    by_cases c : x.e ≤ y.e
    · have ef : fiN x y = x := if_pos c
      have ec : coN x y = y := if_pos c
      rw [if_pos c] at hq
      simp only [ef, ec] at of oc hfc sf sc sfr scr sh ssh sm dl hPr hP ⊢
      rw [decide_eq_true c] at hP hPr
      refine ⟨_, rfl, p, _, dx, _, _, rfl, hP, c_Pair Z, na_Pair_is_finer Z, pf_b _ _ _, _, rfl, iteT ?_⟩
      exact ⟨_, rfl, p, dx, _, rfl, hP, pf_no _ _ _, _, rfl, p, _, dx, _, _, rfl, hP, c_Pair Z, na_Pair_most Z, pf_m _ _ _, ⟨p, _, _, _, _, _, rfl, hPr, of, oc, sf, sm, sm, hq _ s1⟩⟩
    · have ef : fiN x y = y := if_neg c
      have ec : coN x y = x := if_neg c
      rw [if_neg c] at hq
      simp only [ef, ec] at of oc hfc sf sc sfr scr sh ssh sm dl hPr hP ⊢
      rw [decide_eq_false c] at hP hPr
      have sl : Sz 600 (leN y x + 1) := by
        have f1 := of.1
        have c1 := oc.1
        have e1 := Int.emod_add_mul_ediv (x.e + shN y x - 1) y.e
        have e2 := Int.emod_nonneg (x.e + shN y x - 1) (show y.e ≠ 0 by omega)
        have e3 : 0 ≤ y.e * ((x.e + shN y x - 1) / y.e) := Int.mul_nonneg (by omega) (Int.ediv_nonneg (by omega) (by omega))
        have s3 : Sz 502 ((x.e + shN y x - 1) / y.e * y.e) := Sz.le (by rw [Int.mul_comm]; exact e3) (show _ ≤ x.e + y.e by rw [Int.mul_comm]; omega) ((sc.add sf).mono (by decide))
        have s4 : Sz 503 (moN y x) := ((sfr.sub scr).add (ssh.mono (by decide))).mono (by decide)
        exact (((s4.sub (s3.mono (by decide))).add (j := 1) (Sz.of (by decide +kernel) (by decide +kernel)))).mono (by decide)
      refine ⟨_, rfl, p, _, dx, _, _, rfl, hP, c_Pair Z, na_Pair_is_finer Z, pf_b _ _ _, _, rfl, iteF ?_⟩
      exact ⟨_, rfl, p, dx, _, rfl, hP, pf_no _ _ _, _, rfl, p, dx, _, rfl, hP, pf_no _ _ _, ⟨p, _, _, _, rfl, hPr, of, oc, sf, sc, _, _, rfl, rfl, ⟨p, _, _, _, _, _, rfl, hPr, of, oc, sf, sm, sl, hq _ s1⟩⟩⟩
end
section
variable {w : World} {K : Frag} {mg : Str → Option Value} {base : Heap}
def sp_count_starts (K : Frag) : Sp := fun vs H Q E => ∃ (a : Addr) (k : LK) (x : N3) (b : Addr) (j : LK) (y : N3), vs = [.ref a, .ref b] ∧ LnAt K H a k x ∧ LnAt K H b j y ∧ x.ok ∧ y.ok ∧ (x.e ∣ y.e ∨ y.e ∣ x.e) ∧ Sz 500 x.e ∧ Sz 500 y.e ∧ Sz 500 x.r ∧ Sz 500 y.r ∧ ∀ (r : Addr) (H' : Hp), Same H H' → H' r = some (.tup [.int (csN x y).1, .int (csN x y).2.1, .int (csN x y).2.2]) → Q (.ref r) H'
theorem ok_count_starts (Z : Zs cks fns K mg) : FnOk PP w K mg base (L2.CX PP w) 5 (ga K "count_starts") (fdAt K (ga K "count_starts")) ["one", "other"] (sp_count_starts K) := by
  refine L2.Fun.okX (u_count_starts Z) sc_count_starts (fun vs H Q E h => ?_) (fun cdv A outer s H vs Q E hr h => ?_)
  · obtain ⟨_, _, _, _, _, _, rfl, _⟩ := h
    rfl
  · obtain ⟨a, k, x, b, j, y, rfl, ⟨La, Lb, ox, oy, hd, sx, sy, srx, sry, hq⟩⟩ := h
    refine ⟨_, (pss_cons (ps_set (i := 2) sc_count_starts.nd rfl (Or.inl rfl) (pe_make (M_Pair Z) (ok_Pair_init Z) (hr.mono (by decide)) rfl (g_Pair Z) (b_Pair_init Z) .nil passL (pa_cons (pv 0) (pa_cons (pv 1) pa_nil))))
      (pss_cons (ps_par (i := 3) (j := 4) rfl sc_count_starts.nd rfl rfl (by decide) rfl rfl (pa_cons (pe_meth (pv 2) (c_Pair Z) (hm_Pair_count_from Z) (ok_Pair_count_from Z) (hr.mono (by decide)) (b_Pair_count_from Z) .nil passL (pa_cons pe_int pa_nil)) (pa_cons (pe_meth (pv 2) (c_Pair Z) (hm_Pair_count_from Z) (ok_Pair_count_from Z) (hr.mono (by decide)) (b_Pair_count_from Z) .nil passL (pa_cons pe_int pa_nil)) pa_nil)) rfl)
      (pss_cons (ps_par (i := 5) (j := 6) rfl sc_count_starts.nd rfl rfl (by decide) rfl rfl (pa_cons (pe_op op_sub (pe_fld (pv 2) rfl) (pv 4)) (pa_cons (pe_op op_sub (pv 4) (pv 3)) pa_nil)) rfl)
      (pss_one (ps_ret (pe_ifExp (pt_val (pe_fld (pv 2) rfl)) (pe_tup (pa_cons (pv 5) (pa_cons (pv 6) (pa_cons (pv 3) pa_nil)))) (pe_tup (pa_cons (pv 3) (pa_cons (pv 6) (pa_cons (pv 5) pa_nil)))))))))), ?_⟩
    obtain ⟨of, oc, hfc⟩ := fc_fit ox oy hd
    have sf : Sz 500 (fiN x y).e := by unfold fiN; split <;> assumption
    have sc : Sz 500 (coN x y).e := by unfold coN; split <;> assumption
    have sfr : Sz 500 (fiN x y).r := by unfold fiN; split <;> assumption
    have scr : Sz 500 (coN x y).r := by unfold coN; split <;> assumption
    have sh := sh_in (c := coN x y) of
    have ssh : Sz 500 (shN (fiN x y) (coN x y)) := Sz.le sh.1 (Int.le_of_lt sh.2) sf
    have sm : Sz 600 (moN (fiN x y) (coN x y)) := ((sfr.sub scr).add (ssh.mono (by decide))).mono (by decide)
    have dl := dlt_le of oc hfc (coN x y).a
    refine ⟨_, rfl, _, rfl, fun p dx hp hdx hne => ?_⟩
    refine ⟨p, dx, a, k, x, b, j, y, rfl, upd_same, (La.same (Same.new hdx)).same (Same.new (o := .ins (ga K "Pair") dx []) (by rw [upd_ne hne.symm]; exact hp)), (Lb.same (Same.new hdx)).same (Same.new (o := .ins (ga K "Pair") dx []) (by rw [upd_ne hne.symm]; exact hp)), ox, oy, hfc, fun H1 keep hP => ⟨rfl, ?_⟩⟩
    have s1 : Same H H1 := fun q o e => keep q o (fun z => by rw [z, hp] at e; cases e) (by rw [upd_ne (fun z => by rw [z, hp] at e; cases e), upd_ne (fun z => by rw [z, hdx] at e; cases e)]; exact e)
    have hPr : PrAt K H1 p (decide (x.e ≤ y.e)) (fiN x y) (coN x y) := ⟨dx, hP⟩
    
    refine ⟨_, rfl, p, dx, _, rfl, hP, pf_no _ _ _, ⟨p, _, _, _, 1, rfl, hPr, of, sf, sm, (Sz.of (by decide +kernel) (by decide +kernel)), _, rfl, p, dx, _, rfl, hP, pf_no _ _ _, ⟨p, _, _, _, 0, rfl, hPr, of, sf, sm, (Sz.of (by decide +kernel) (by decide +kernel)), _, _, rfl, ?_⟩⟩⟩
    refine ⟨_, rfl, p, _, dx, _, _, rfl, hP, c_Pair Z, na_Pair_greater Z, pf_g _ _ _, _, rfl, _, _, rfl, rfl, _, rfl, _, rfl, _, _, rfl, rfl, _, _, rfl, ?_⟩
    unfold csN at hq
    by_cases c : x.e ≤ y.e
    · have ef : fiN x y = x := if_pos c
      have ec : coN x y = y := if_pos c
      rw [if_pos c] at hq
      simp only [ef, ec] at of oc hfc sf sc sfr scr sh ssh sm dl hPr hP ⊢
      rw [decide_eq_true c] at hP
      refine ⟨_, rfl, p, _, dx, _, _, rfl, hP, c_Pair Z, na_Pair_is_finer Z, pf_b _ _ _, _, rfl, iteT ?_⟩
      exact ⟨_, rfl, _, rfl, _, rfl, (by show 3 ≤ sizeLine; decide), fun r hr3 => hq r _ (s1.trans (Same.new hr3)) upd_same⟩
    · have ef : fiN x y = y := if_neg c
      have ec : coN x y = x := if_neg c
      rw [if_neg c] at hq
      simp only [ef, ec] at of oc hfc sf sc sfr scr sh ssh sm dl hPr hP ⊢
      rw [decide_eq_false c] at hP
      refine ⟨_, rfl, p, _, dx, _, _, rfl, hP, c_Pair Z, na_Pair_is_finer Z, pf_b _ _ _, _, rfl, iteF ?_⟩
      exact ⟨_, rfl, _, rfl, _, rfl, (by show 3 ≤ sizeLine; decide), fun r hr3 => hq r _ (s1.trans (Same.new hr3)) upd_same⟩
def sp_first_earlier (K : Frag) : Sp := fun vs H Q E => ∃ (a : Addr) (k : LK) (x : N3) (b : Addr) (j : LK) (y : N3) (t : Int), vs = [.ref a, .ref b, .int t] ∧ LnAt K H a k x ∧ LnAt K H b j y ∧ x.ok ∧ y.ok ∧ (x.e ∣ y.e ∨ y.e ∣ x.e) ∧ Sz 500 x.e ∧ Sz 500 y.e ∧ Sz 500 x.r ∧ Sz 500 y.r ∧ ∀ (H' : Hp), Same H H' → Q (optV (feN x y t)) H'
theorem ok_first_earlier (Z : Zs cks fns K mg) : FnOk PP w K mg base (L2.CX PP w) 5 (ga K "first_earlier") (fdAt K (ga K "first_earlier")) ["one", "other", "time"] (sp_first_earlier K) := by
  refine L2.Fun.okX (u_first_earlier Z) sc_first_earlier (fun vs H Q E h => ?_) (fun cdv A outer s H vs Q E hr h => ?_)
  · obtain ⟨_, _, _, _, _, _, _, rfl, _⟩ := h
    rfl
  · obtain ⟨a, k, x, b, j, y, t, rfl, ⟨La, Lb, ox, oy, hd, sx, sy, srx, sry, hq⟩⟩ := h
    refine ⟨_, (pss_cons (ps_set (i := 3) sc_first_earlier.nd rfl (Or.inl rfl) (pe_make (M_Pair Z) (ok_Pair_init Z) (hr.mono (by decide)) rfl (g_Pair Z) (b_Pair_init Z) .nil passL (pa_cons (pv 0) (pa_cons (pv 1) pa_nil))))
      (pss_one (ps_ret (pe_ifExp (pt_val (pe_fld (pv 3) rfl)) (pe_meth (pv 3) (c_Pair Z) (hm_Pair_first_below Z) (ok_Pair_first_below Z) (hr.mono (by decide)) (b_Pair_first_below Z) .nil passL (pa_cons pe_int (pa_cons (pv 2) pa_nil))) (pe_meth (pv 3) (c_Pair Z) (hm_Pair_first_from Z) (ok_Pair_first_from Z) (hr.mono (by decide)) (b_Pair_first_from Z) .nil passL (pa_cons pe_int (pa_cons (pv 2) pa_nil))))))), ?_⟩
    obtain ⟨of, oc, hfc⟩ := fc_fit ox oy hd
    have sf : Sz 500 (fiN x y).e := by unfold fiN; split <;> assumption
    have sc : Sz 500 (coN x y).e := by unfold coN; split <;> assumption
    have sfr : Sz 500 (fiN x y).r := by unfold fiN; split <;> assumption
    have scr : Sz 500 (coN x y).r := by unfold coN; split <;> assumption
    have sh := sh_in (c := coN x y) of
    have ssh : Sz 500 (shN (fiN x y) (coN x y)) := Sz.le sh.1 (Int.le_of_lt sh.2) sf
    have sm : Sz 600 (moN (fiN x y) (coN x y)) := ((sfr.sub scr).add (ssh.mono (by decide))).mono (by decide)
    have dl := dlt_le of oc hfc (coN x y).a
    refine ⟨_, rfl, _, rfl, fun p dx hp hdx hne => ?_⟩
    refine ⟨p, dx, a, k, x, b, j, y, rfl, upd_same, (La.same (Same.new hdx)).same (Same.new (o := .ins (ga K "Pair") dx []) (by rw [upd_ne hne.symm]; exact hp)), (Lb.same (Same.new hdx)).same (Same.new (o := .ins (ga K "Pair") dx []) (by rw [upd_ne hne.symm]; exact hp)), ox, oy, hfc, fun H1 keep hP => ⟨rfl, ?_⟩⟩
    have s1 : Same H H1 := fun q o e => keep q o (fun z => by rw [z, hp] at e; cases e) (by rw [upd_ne (fun z => by rw [z, hp] at e; cases e), upd_ne (fun z => by rw [z, hdx] at e; cases e)]; exact e)
    have hPr : PrAt K H1 p (decide (x.e ≤ y.e)) (fiN x y) (coN x y) := ⟨dx, hP⟩
    
    unfold feN at hq
    by_cases c : x.e ≤ y.e
    · have ef : fiN x y = x := if_pos c
      have ec : coN x y = y := if_pos c
      rw [if_pos c] at hq
      simp only [ef, ec] at of oc hfc sf sc sfr scr sh ssh sm dl hPr hP ⊢
      rw [decide_eq_true c] at hP hPr
      refine ⟨_, rfl, p, _, dx, _, _, rfl, hP, c_Pair Z, na_Pair_is_finer Z, pf_b _ _ _, _, rfl, iteT ?_⟩
      exact ⟨_, rfl, p, dx, _, rfl, hP, pf_no _ _ _, _, rfl, ⟨p, _, _, _, 0, _, rfl, hPr, of, oc, sf, sm, (Sz.of (by decide +kernel) (by decide +kernel)), hq _ s1⟩⟩
    · have ef : fiN x y = y := if_neg c
      have ec : coN x y = x := if_neg c
      rw [if_neg c] at hq
      simp only [ef, ec] at of oc hfc sf sc sfr scr sh ssh sm dl hPr hP ⊢
      rw [decide_eq_false c] at hP hPr
      refine ⟨_, rfl, p, _, dx, _, _, rfl, hP, c_Pair Z, na_Pair_is_finer Z, pf_b _ _ _, _, rfl, iteF ?_⟩
      exact ⟨_, rfl, p, dx, _, rfl, hP, pf_no _ _ _, _, rfl, ⟨p, _, _, _, 1, _, rfl, hPr, of, oc, sf, sm, (Sz.of (by decide +kernel) (by decide +kernel)), hq _ s1⟩⟩
end
section
variable {w : World} {K : Frag} {mg : Str → Option Value} {base : Heap}

/-- a valid route with these numbers -/
structure Trip where
  ns : List N3
instance : Rep Trip := ⟨fun K F v T => ∃ kns, numsL kns = T.ns ∧ OkL kns ∧ Rep.rp K F v (⟨kns⟩ : Rou), fun s h => let ⟨kns, e, ok, h⟩ := h; ⟨kns, e, ok, Rep.up s h⟩⟩
theorem trip_ok {K : Frag} {F : Hp} {v : V} {T : Trip} (h : rp K F v T) : (∀ n ∈ T.ns, n.ok) ∧ FitL T.ns ∧ 1 ≤ T.ns.length ∧ T.ns.length ≤ 60 := by
  obtain ⟨kns, e, ok, _⟩ := h
  rw [← e]
  exact ⟨okL_ok ok, ok.fit, by rw [nums_len]; exact ok.lo, by rw [nums_len]; exact ok.hi⟩

theorem trip_at {K : Frag} {F H : Hp} {v : V} {T : Trip} (h : rp K F v T) (hF : Same F H) : ∃ a dx l, v = .ref a ∧ H a = some (.ins (ga K "Route") dx (putF "held_legs" (.ref l) [])) := by
  obtain ⟨kns, e, ok, h⟩ := h
  obtain ⟨a, rfl, R⟩ := rp_rou h hF
  obtain ⟨dx, l, rs, hP, _⟩ := R
  exact ⟨a, dx, l, rfl, hP⟩

theorem cl__law_rows {K : Frag} {H : Hp} {Q : VK} {E : XK} {a : Addr} {N : Nat} {m L : Int} (hT : Tp a (N + 1000) H) (h1 : 0 ≤ m) (h2 : m ≤ 100) (h3 : 1 ≤ L) (h4 : L ≤ 10 ^ 60)
    (k : ∀ u (ns : List N3) H', Ext (fdM a) H H' → Tp a N H' → rp K (Fr (fdM a) H') u ns → (ns.length : Nat) = m → (∀ n ∈ ns, n.ok) → FitL ns → (∀ n ∈ ns, n.e ≤ L) → (∀ n ∈ ns, n.r ≤ 20 + 3 * L) → Q u H') : sq (sp__law_rows K) [.ref a, .int m, .int L] H Q E := by
  refine sqI ?_
  obtain ⟨j, rfl⟩ : ∃ j : Nat, m = j := ⟨m.toNat, by omega⟩
  refine ⟨a, N, j, L, rfl, hT.less (by omega), by omega, h3, h4, fun p rs ns cs H' hc hnl hall x9 np R9 t9 => ?_⟩
  have ho : ∀ n ∈ ns, n.ok := fun n hn => (hall n hn).1
  have hf : FitL ns := fun x hx y hy => by
    obtain ⟨_, cx, _, _⟩ := hall x hx
    obtain ⟨_, cy, _, _⟩ := hall y hy
    rcases cx with u | u
    · rcases cy with v | v
      · exact hc.fit u v
      · rw [v]; exact .inr (Int.one_dvd _)
    · rw [u]; exact .inl (Int.one_dvd _)
  exact k _ ns _ x9 t9 (rows_rp (R9.fr t9.alloc fun z => hT.fresh np z)) (by omega) ho hf (fun n hn => (hall n hn).2.2.1) fun n hn => (hall n hn).2.2.2

theorem cl__law_arrive {K : Frag} {H : Hp} {Q : VK} {E : XK} {M : Addr → Prop} {w : V} {ns : List N3} {t : Int} (h : rp K (Fr M H) w ns) (ho : ∀ n ∈ ns, n.ok) (k : Q (.int (endL ns t)) H) : sq (sp__law_arrive K) [w, .int t] H Q E := by
  refine sqI ?_
  obtain ⟨p, rs, rfl, hW⟩ := rp_rw h Fr.sub
  exact ⟨p, rs, ns, t, rfl, hW, ho, k⟩

end
section
variable {w : World} {K : Frag} {mg : Str → Option Value} {base : Heap}

def Big (n : N3) : Prop := Sz 500 n.e ∧ Sz 500 n.r
def diT (x y : N3) : N3 := ⟨(diN x y).1, (diN x y).2.1, (diN x y).2.2⟩
def csT (x y : N3) : N3 := ⟨(csN x y).1, (csN x y).2.1, (csN x y).2.2⟩

theorem cl_differences {K : Frag} {H : Hp} {Q : VK} {E : XK} {M : Addr → Prop} {v w : V} {x y : N3} (h : rp K (Fr M H) v (⟨x⟩ : LnA)) (g : rp K (Fr M H) w (⟨y⟩ : LnA)) (al : Alloc M H) (ox : x.ok) (oy : y.ok) (hd : x.e ∣ y.e ∨ y.e ∣ x.e) (bx : Big x) (bY : Big y) (k : ∀ u H', Same H H' → rp K (Fr M H') u (diT x y) → Q u H') : sq (sp_differences K) [v, w] H Q E := by
  obtain ⟨a, kx, rfl, La⟩ := h
  obtain ⟨b, ky, rfl, Lb⟩ := g
  exact sqI ⟨a, kx, x, b, ky, y, rfl, La.same Fr.sub, Lb.same Fr.sub, ox, oy, hd, bx.1, bY.1, bx.2, bY.2, fun r H' s e => k _ _ s ⟨r, rfl, Fr.get (Alloc.off (al.same s) e fun z => nomatch z) e⟩⟩

theorem cl_count_starts {K : Frag} {H : Hp} {Q : VK} {E : XK} {M : Addr → Prop} {v w : V} {x y : N3} (h : rp K (Fr M H) v (⟨x⟩ : LnA)) (g : rp K (Fr M H) w (⟨y⟩ : LnA)) (al : Alloc M H) (ox : x.ok) (oy : y.ok) (hd : x.e ∣ y.e ∨ y.e ∣ x.e) (bx : Big x) (bY : Big y) (k : ∀ u H', Same H H' → rp K (Fr M H') u (csT x y) → Q u H') : sq (sp_count_starts K) [v, w] H Q E := by
  obtain ⟨a, kx, rfl, La⟩ := h
  obtain ⟨b, ky, rfl, Lb⟩ := g
  exact sqI ⟨a, kx, x, b, ky, y, rfl, La.same Fr.sub, Lb.same Fr.sub, ox, oy, hd, bx.1, bY.1, bx.2, bY.2, fun r H' s e => k _ _ s ⟨r, rfl, Fr.get (Alloc.off (al.same s) e fun z => nomatch z) e⟩⟩

theorem cl_worst_start {K : Frag} {H : Hp} {Q : VK} {E : XK} {M : Addr → Prop} {v w : V} {x y : N3} (h : rp K (Fr M H) v (⟨x⟩ : LnA)) (g : rp K (Fr M H) w (⟨y⟩ : LnA)) (al : Alloc M H) (ox : x.ok) (oy : y.ok) (hd : x.e ∣ y.e ∨ y.e ∣ x.e) (bx : Big x) (bY : Big y) (k : ∀ H', Same H H' → Q (optV (wsN x y)) H') : sq (sp_worst_start K) [v, w] H Q E := by
  obtain ⟨a, kx, rfl, La⟩ := h
  obtain ⟨b, ky, rfl, Lb⟩ := g
  exact sqI ⟨a, kx, x, b, ky, y, rfl, La.same Fr.sub, Lb.same Fr.sub, ox, oy, hd, bx.1, bY.1, bx.2, bY.2, k⟩

theorem cl_first_earlier {K : Frag} {H : Hp} {Q : VK} {E : XK} {M : Addr → Prop} {v w : V} {x y : N3} {t : Int} (h : rp K (Fr M H) v (⟨x⟩ : LnA)) (g : rp K (Fr M H) w (⟨y⟩ : LnA)) (al : Alloc M H) (ox : x.ok) (oy : y.ok) (hd : x.e ∣ y.e ∨ y.e ∣ x.e) (bx : Big x) (bY : Big y) (k : ∀ H', Same H H' → Q (optV (feN x y t)) H') : sq (sp_first_earlier K) [v, w, .int t] H Q E := by
  obtain ⟨a, kx, rfl, La⟩ := h
  obtain ⟨b, ky, rfl, Lb⟩ := g
  exact sqI ⟨a, kx, x, b, ky, y, t, rfl, La.same Fr.sub, Lb.same Fr.sub, ox, oy, hd, bx.1, bY.1, bx.2, bY.2, k⟩

theorem eqVi {a b : Int} : eqV (.int a) (.int b) = true ↔ a = b := by
  unfold eqV
  simp

theorem mk_LineA {K : Frag} {H : Hp} {Q : VK} {E : XK} {M : Addr → Prop} {e a r : Int} (ok : (⟨e, a, r⟩ : N3).ok) (al : Alloc M H) (k : ∀ u H', Same H H' → rp K (Fr M H') u (⟨⟨e, a, r⟩⟩ : LnA) → Q u H') : sqc (rMake (ga K "Line") (sp_Line_init K) E) [.int e, .int a, .int r] H Q := by
  rw [sqc_eq]
  exact fun x dx hx hdx hne => ⟨.line, x, dx, ⟨e, a, r⟩, rfl, ok, upd_same, rfl, k _ _ (mk_same hx hdx) ⟨x, .line, rfl, LnAt.fr (show LnAt K _ x .line _ from ⟨dx, upd_same⟩) (al.same (mk_same hx hdx))⟩⟩

theorem cl__law_line {K : Frag} {H : Hp} {Q : VK} {E : XK} {M : Addr → Prop} {w : V} {n : N3} (h : rp K (Fr M H) w n) (al : Alloc M H) (ok : n.ok) (k : ∀ u H', Same H H' → rp K (Fr M H') u (⟨n⟩ : LnA) → Q u H') : sq (sp__law_line K) [w] H Q E := by
  obtain ⟨p, rfl, hp⟩ := h
  exact sqI ⟨p, n, rfl, Fr.sub _ _ hp, ok, fun q kk H' s _ L => k _ _ s ⟨q, kk, rfl, L.fr (al.same s)⟩⟩
theorem list_ty {K : Frag} {F H : Hp} {v : V} {α : Type} [Rep α] {xs : List α} (h : rp K F v xs) (hF : Same F H) : tyV K "list" v H := by
  obtain ⟨p, vs, rfl, h1, h2⟩ := h
  exact .inl ⟨rfl, _, SqL.of (hF _ _ h1)⟩
theorem rd_index {K : Frag} {F H : Hp} {v : V} {Q : VK} {xs : List Int} {j : Nat} {z : Int} (h : rp K F v xs) (hF : Same F H) (hj : xs[j]? = some z) (hno : ∀ m, m < j → xs[m]? ≠ some z) (k : Q (.int (j : Nat)) H) : sqm (rIndex K) v [.int z] H Q := by
  rw [sqm_eq]
  obtain ⟨p, vs, rfl, h1, h2⟩ := h
  have e : vs = xs.map V.int := by
    clear h1 hj hno
    induction h2 with
    | nil => rfl
    | cons x _ ih => rw [List.map_cons, ih, show _ = V.int _ from x]
  subst e
  refine ⟨p, _, _, j, .int z, rfl, rfl, SqL.of (hF _ _ h1), rfl, ?_, ?_, ?_, ?_, k⟩
  · rw [List.all_eq_true]
    intro x hx
    obtain ⟨z, _, rfl⟩ := List.mem_map.mp hx
    rfl
  · rw [List.getElem?_map, hj]
    rfl
  · exact eqVi.mpr rfl
  · intro m z' hm hz
    rw [List.getElem?_map] at hz
    cases q : xs[m]? with
    | none => rw [q] at hz; cases hz
    | some y =>
      rw [q] at hz
      obtain rfl := Option.some.inj hz
      exact Bool.eq_false_iff.mpr fun w => hno m hm (by rw [q, eqVi.mp w])

theorem rd_count {K : Frag} {F H : Hp} {v : V} {Q : VK} {xs : List Int} {z : Int} (h : rp K F v xs) (hF : Same F H) (k : Q (.int (xs.count z : Nat)) H) : sqm (rCntI K) v [.int z] H Q := by
  rw [sqm_eq]
  obtain ⟨p, rfl, h1⟩ := rp_ints h
  exact ⟨p, _, _, rfl, rfl, SqL.of (hF _ _ h1), k⟩

def ldt (x y : N3) (t : Int) : Int := (x.a - t) % x.e + x.r - (y.a - t) % y.e - y.r
theorem ldt_dlt (x y : N3) (t : Int) : ldt x y t = dlt x y t := rfl
theorem ldt_swap (x y : N3) (t : Int) : ldt x y t = 0 - dlt y x t := by
  unfold ldt dlt
  omega
theorem ldt_neg (x y : N3) (t : Int) : ldt y x t = 0 - ldt x y t := by
  unfold ldt
  omega
/-- the differences lie between the least and the greatest one, and both occur -/
theorem di_in {x y : N3} (ox : x.ok) (oy : y.ok) (hd : x.e ∣ y.e ∨ y.e ∣ x.e) (t : Int) : (diT x y).e ≤ ldt x y t ∧ ldt x y t ≤ (diT x y).a := by
  obtain ⟨of, oc, hfc⟩ := fc_fit ox oy hd
  unfold diT diN
  unfold fiN coN at *
  by_cases c : x.e ≤ y.e
  · simp only [if_pos c] at *
    exact dlt_le of oc hfc t
  · simp only [if_neg c] at *
    have := dlt_le of oc hfc t
    rw [ldt_swap]
    omega
theorem di_at {x y : N3} (ox : x.ok) (oy : y.ok) (hd : x.e ∣ y.e ∨ y.e ∣ x.e) : (∃ t, ldt x y t = (diT x y).e) ∧ ∃ t, ldt x y t = (diT x y).a := by
  obtain ⟨of, oc, hfc⟩ := fc_fit ox oy hd
  unfold diT diN
  unfold fiN coN at *
  by_cases c : x.e ≤ y.e
  · simp only [if_pos c] at *
    exact ⟨⟨_, dlt_low of oc hfc⟩, ⟨_, dlt_top of oc hfc⟩⟩
  · simp only [if_neg c] at *
    refine ⟨⟨x.a, ?_⟩, ⟨x.a + 1, ?_⟩⟩
    · rw [ldt_swap, dlt_top of oc hfc]
    · rw [ldt_swap, dlt_low of oc hfc]
theorem di_step {x y : N3} : (diT x y).r = if (diT x y).e < (diT x y).a then (if x.e ≤ y.e then x.e else y.e) else 0 := by
  unfold diT diN
  by_cases c : x.e ≤ y.e
  · simp only [if_pos c]
  · simp only [if_neg c]
    by_cases z : leN y x < moN y x
    · rw [if_pos z, if_pos (by omega)]
    · rw [if_neg z, if_neg (by omega)]
theorem di_swap {x y : N3} (ox : x.ok) (oy : y.ok) (hd : x.e ∣ y.e ∨ y.e ∣ x.e) : diT y x = ⟨0 - (diT x y).a, 0 - (diT x y).e, (diT x y).r⟩ := by
  obtain ⟨⟨t1, h1⟩, ⟨t2, h2⟩⟩ := di_at ox oy hd
  obtain ⟨⟨t3, h3⟩, ⟨t4, h4⟩⟩ := di_at oy ox hd.symm
  have a1 := di_in oy ox hd.symm t1
  have a2 := di_in oy ox hd.symm t2
  have b3 := di_in ox oy hd t3
  have b4 := di_in ox oy hd t4
  rw [ldt_neg] at a1 a2 h3 h4
  have e1 : (diT y x).e = 0 - (diT x y).a := by omega
  have e2 : (diT y x).a = 0 - (diT x y).e := by omega
  have e3 : (diT y x).r = (diT x y).r := by
    rw [di_step, di_step, e1, e2]
    by_cases z : (diT x y).e < (diT x y).a
    · rw [if_pos (by omega), if_pos z]
      split <;> split <;> omega
    · rw [if_neg (by omega), if_neg z]
  have ext : ∀ u : N3, u = ⟨u.e, u.a, u.r⟩ := fun u => rfl
  rw [ext (diT y x), e1, e2, e3]
theorem ar_ldt (x y : N3) (t : Int) : arN x t - arN y t = ldt x y t := by
  unfold arN dep ldt
  omega
/-- two lines of the same headway -/
theorem cnt_same {f c : N3} (of : f.ok) (he : f.e = c.e) (v : Int) : cntN f c v = if moN f c < v then 0 else if v + f.e ≤ moN f c then f.e else f.e - shN f c := by
  have e1 := of.1
  obtain ⟨s0, s1⟩ := sh_in (c := c) of
  have k0 := mul_le_iff (e := f.e) (a := moN f c - v) (b := 0) (by omega)
  have k1 := mul_le_iff (e := f.e) (a := moN f c - v) (b := 1) (by omega)
  rw [Int.mul_zero] at k0
  rw [Int.mul_one] at k1
  unfold cntN
  rw [← he]
  generalize (moN f c - v) / f.e = k at *
  by_cases a : moN f c < v
  · rw [if_pos a, if_neg (by omega)]
  · rw [if_neg a, if_pos (by omega)]
    by_cases b : v + f.e ≤ moN f c
    · rw [if_pos b]
      have := Int.mul_le_mul_of_nonneg_left (show 2 ≤ k + 1 by omega) (show 0 ≤ f.e by omega)
      have q : ¬ f.e * (k + 1) - shN f c < f.e := by omega
      rw [if_neg q, if_pos (show f.e > 0 by omega)]
    · rw [if_neg b]
      have : k = 0 := by omega
      subst this
      simp only [Int.zero_add, Int.mul_one]
      split <;> split <;> omega
theorem cs_swap {x y : N3} (ox : x.ok) (oy : y.ok) : csT y x = ⟨(csT x y).r, (csT x y).a, (csT x y).e⟩ := by
  unfold csT csN
  by_cases c : x.e ≤ y.e
  · rw [if_pos c]
    by_cases d : y.e ≤ x.e
    · rw [if_pos d]
      have he : x.e = y.e := by omega
      have x1 := ox.1
      have y1 := oy.1
      obtain ⟨s0, s1⟩ := sh_in (f := x) (c := y) ox
      obtain ⟨u0, u1⟩ := sh_in (f := y) (c := x) oy
      have su : shN x y + shN y x = 0 ∨ shN x y + shN y x = x.e := by
        unfold shN
        rw [← he]
        have e1 := Int.emod_add_mul_ediv (x.a - y.a) x.e
        have e2 : (y.a - x.a) % x.e = (0 - (x.a - y.a) % x.e) % x.e := by
          refine Int.emod_eq_emod_iff_emod_sub_eq_zero.mpr (Int.emod_eq_zero_of_dvd ⟨-((x.a - y.a) / x.e), ?_⟩)
          rw [Int.mul_neg]
          omega
        rw [e2]
        have g0 := Int.emod_nonneg (x.a - y.a) (show x.e ≠ 0 by omega)
        have g1 := Int.emod_lt_of_pos (x.a - y.a) (show 0 < x.e by omega)
        generalize (x.a - y.a) % x.e = s at *
        by_cases z : s = 0
        · subst z
          left
          rfl
        · right
          rw [show (0 - s) % x.e = (0 - s + x.e) % x.e from (Int.add_emod_right _ _).symm, Int.emod_eq_of_lt (by omega) (by omega)]
          omega
      have m1 : moN x y = x.r - y.r + shN x y := rfl
      have m2 : moN y x = y.r - x.r + shN y x := rfl
      rw [cnt_same ox he, cnt_same ox he, cnt_same oy he.symm, cnt_same oy he.symm]
      dsimp only
      have ext : ∀ a b c d e f : Int, a = d → b = e → c = f → (⟨a, b, c⟩ : N3) = ⟨d, e, f⟩ := fun a b c d e f h1 h2 h3 => by rw [h1, h2, h3]
      refine ext _ _ _ _ _ _ ?_ ?_ ?_ <;> (split <;> split <;> (try split) <;> (try split) <;> omega)
    · rw [if_neg d]
  · rw [if_neg c, if_pos (by omega)]
theorem cs_sum {x y : N3} : (csT x y).e + (csT x y).a + (csT x y).r = if x.e ≤ y.e then y.e else x.e := by
  unfold csT csN
  by_cases c : x.e ≤ y.e
  · simp only [if_pos c]
    omega
  · simp only [if_neg c]
    omega

/-! how many numbers of a stretch -/
theorem rgI_succ (b : Int) (n : Nat) : rgI b (n + 1) = rgI b n ++ [b + n] := by
  unfold rgI
  rw [List.range_succ, List.map_append]
  rfl
theorem rgI_zero (b : Int) : rgI b 0 = [] := rfl
theorem rgI_cons (b : Int) : ∀ n : Nat, rgI b (n + 1) = b :: rgI (b + 1) n
  | 0 => by
    rw [rgI_succ, rgI_zero, rgI_zero]
    show [b + ((0 : Nat) : Int)] = [b]
    rw [show b + ((0 : Nat) : Int) = b by omega]
  | n + 1 => by
    rw [rgI_succ, rgI_cons b n, rgI_succ (b + 1) n, show b + ((n + 1 : Nat) : Int) = b + 1 + (n : Int) by omega]
    rfl
def cnt (p : Int → Bool) (b : Int) (n : Nat) : Nat := ((rgI b n).filter p).length
theorem filter_one (p : Int → Bool) (z : Int) : ([z].filter p).length = if p z = true then 1 else 0 := by
  cases h : p z with
  | true => rw [List.filter_cons_of_pos h, List.filter_nil]; rfl
  | false => rw [List.filter_cons_of_neg (by rw [h]; exact Bool.false_ne_true), List.filter_nil]; rfl
theorem cnt_succ (p : Int → Bool) (b : Int) (n : Nat) : cnt p b (n + 1) = cnt p b n + if p (b + n) = true then 1 else 0 := by
  unfold cnt
  rw [rgI_succ, List.filter_append, List.length_append, filter_one]
theorem cnt_cons (p : Int → Bool) (b : Int) (n : Nat) : cnt p b (n + 1) = (if p b = true then 1 else 0) + cnt p (b + 1) n := by
  unfold cnt
  rw [rgI_cons]
  show (([b] ++ rgI (b + 1) n).filter p).length = _
  rw [List.filter_append, List.length_append, filter_one]
theorem cnt_next {p : Int → Bool} {n : Nat} (h : ∀ t, p (t + n) = p t) (b : Int) : cnt p (b + 1) n = cnt p b n := by
  have a := cnt_succ p b n
  have c := cnt_cons p b n
  rw [h b] at a
  omega
theorem cnt_shift {p : Int → Bool} {n : Nat} (h : ∀ t, p (t + n) = p t) (b : Int) : ∀ k : Nat, cnt p (b + k) n = cnt p b n
  | 0 => by rw [show b + ((0 : Nat) : Int) = b by omega]
  | k + 1 => by
    rw [show b + ((k + 1 : Nat) : Int) = b + (k : Int) + 1 by omega, cnt_next h, cnt_shift h b k]
theorem cnt_any {p : Int → Bool} {n : Nat} (h : ∀ t, p (t + n) = p t) (b c : Int) : cnt p b n = cnt p c n := by
  by_cases z : b ≤ c
  · have q := cnt_shift h b (c - b).toNat
    rw [show b + (((c - b).toNat : Nat) : Int) = c by omega] at q
    exact q.symm
  · have q := cnt_shift h c (b - c).toNat
    rw [show c + (((b - c).toNat : Nat) : Int) = b by omega] at q
    exact q
theorem cnt_congr {p q : Int → Bool} {b : Int} {n : Nat} (h : ∀ t, b ≤ t → t < b + n → p t = q t) : cnt p b n = cnt q b n := by
  unfold cnt
  rw [List.filter_congr fun t ht => h t (rgI_mem.mp ht).1 (rgI_mem.mp ht).2]
/-- turned round -/
theorem cnt_back (q : Int → Bool) (c : Int) : ∀ (n : Nat) (b : Int), cnt (fun t => q (c - t)) b n = cnt q (c - b - n + 1) n
  | 0, b => rfl
  | n + 1, b => by
    rw [cnt_succ, cnt_back q c n b, cnt_cons q, show c - b - ((n + 1 : Nat) : Int) + 1 = c - (b + n) by omega, show c - (b + (n : Int)) + 1 = c - b - n + 1 by omega]
    omega
/-- from below: how many are at most m -/
theorem cnt_le (m : Int) : ∀ (n : Nat) (b : Int), ((cnt (fun t => decide (t ≤ m)) b n : Nat) : Int) = if m - b + 1 < 0 then 0 else if m - b + 1 > n then (n : Int) else m - b + 1
  | 0, b => by
    show ((0 : Nat) : Int) = _
    split
    · rfl
    · split <;> omega
  | n + 1, b => by
    rw [cnt_succ]
    have ih := cnt_le m n b
    by_cases c : b + n ≤ m
    · rw [if_pos (decide_eq_true c)]
      rw [if_neg (show ¬ m - b + 1 < 0 by omega), if_pos (show m - b + 1 > n by omega)] at ih
      rw [if_neg (show ¬ m - b + 1 < 0 by omega)]
      by_cases d : m - b + 1 > ((n + 1 : Nat) : Int)
      · rw [if_pos d]
        omega
      · rw [if_neg d]
        omega
    · rw [if_neg (fun z => c (of_decide_eq_true z))]
      rw [if_neg (show ¬ m - b + 1 > n by omega)] at ih
      rw [if_neg (show ¬ m - b + 1 > ((n + 1 : Nat) : Int) by omega), Nat.add_zero]
      exact ih
/-- residues: all starts of a round -/
theorem cnt_res (q : Int → Bool) (a b : Int) (n : Nat) : cnt (fun t => q ((a - t) % (n : Int))) b n = cnt q 0 n := by
  cases n with
  | zero => rfl
  | succ k =>
    rw [cnt_any (p := fun t => q ((a - t) % ((k + 1 : Nat) : Int))) (fun t => by
      show q ((a - (t + ((k + 1 : Nat) : Int))) % ((k + 1 : Nat) : Int)) = q ((a - t) % ((k + 1 : Nat) : Int))
      rw [show a - (t + ((k + 1 : Nat) : Int)) = (a - t) - ((k + 1 : Nat) : Int) by omega, Int.sub_emod_right]) b (a - ((k + 1 : Nat) : Int) + 1)]
    have e := cnt_back q a (k + 1) (a - ((k + 1 : Nat) : Int) + 1)
    rw [show a - (a - ((k + 1 : Nat) : Int) + 1) - ((k + 1 : Nat) : Int) + 1 = 0 by omega] at e
    rw [← e]
    refine cnt_congr fun t h1 h2 => ?_
    show q ((a - t) % ((k + 1 : Nat) : Int)) = q (a - t)
    rw [Int.emod_eq_of_lt (by omega) (by omega)]
theorem sorted_same : ∀ {xs ys : List Int}, xs.Pairwise (· < ·) → ys.Pairwise (· < ·) → (∀ z, z ∈ xs ↔ z ∈ ys) → xs = ys
  | [], [], _, _, _ => rfl
  | [], y :: ys, _, _, h => absurd ((h y).mpr List.mem_cons_self) (by simp)
  | x :: xs, [], _, _, h => absurd ((h x).mp List.mem_cons_self) (by simp)
  | x :: xs, y :: ys, hx, hy, h => by
    obtain ⟨a1, a2⟩ := List.pairwise_cons.mp hx
    obtain ⟨b1, b2⟩ := List.pairwise_cons.mp hy
    have e : x = y := by
      rcases List.mem_cons.mp ((h x).mp List.mem_cons_self) with e | e
      · exact e
      · rcases List.mem_cons.mp ((h y).mpr List.mem_cons_self) with f | f
        · exact f.symm
        · have := b1 x e
          have := a1 y f
          omega
    subst e
    rw [sorted_same a2 b2 fun z => ⟨fun m => ?_, fun m => ?_⟩]
    · rcases List.mem_cons.mp ((h z).mp (List.mem_cons_of_mem _ m)) with e | e
      · subst e
        have := a1 z m
        omega
      · exact e
    · rcases List.mem_cons.mp ((h z).mpr (List.mem_cons_of_mem _ m)) with e | e
      · subst e
        have := b1 z m
        omega
      · exact e
theorem rgI_sorted (b : Int) : ∀ n : Nat, (rgI b n).Pairwise (· < ·)
  | 0 => List.Pairwise.nil
  | n + 1 => by
    rw [rgI_succ, List.pairwise_append]
    refine ⟨rgI_sorted b n, List.pairwise_singleton _ _, fun x hx y hy => ?_⟩
    rw [List.mem_singleton.mp hy]
    exact (rgI_mem.mp hx).2
theorem h_of {c : N3} (oc : c.ok) {h : Int} (h0 : 0 ≤ h) (h1 : h < c.e) : 0 ≤ (c.a - h) % c.e ∧ (c.a - h) % c.e < c.e ∧ hN c ((c.a - h) % c.e) = h := by
  have c1 := oc.1
  refine ⟨Int.emod_nonneg _ (by omega), Int.emod_lt_of_pos _ (by omega), ?_⟩
  have e := Int.emod_add_mul_ediv (c.a - h) c.e
  unfold hN
  rw [show c.a - (c.a - h) % c.e = h + c.e * ((c.a - h) / c.e) by omega, Int.add_mul_emod_self_left]
  exact Int.emod_eq_of_lt h0 h1
def qN (f c : N3) : Int := (c.e + shN f c - 1) / f.e
theorem qN_pos {f c : N3} (of : f.ok) (oc : c.ok) : 0 ≤ qN f c := by
  have f1 := of.1
  have c1 := oc.1
  have sh := sh_in (c := c) of
  exact Int.ediv_nonneg (by omega) (by omega)
theorem dlt_vals {f c : N3} (of : f.ok) (oc : c.ok) (hd : f.e ∣ c.e) (z : Int) : (∃ t, 0 ≤ t ∧ t < c.e ∧ dlt f c t = z) ↔ ∃ q, 0 ≤ q ∧ q ≤ qN f c ∧ z = moN f c - f.e * q := by
  have f1 := of.1
  have c1 := oc.1
  have sh := sh_in (c := c) of
  constructor
  · rintro ⟨t, _, _, rfl⟩
    have h := h_in oc t
    refine ⟨(shN f c + hN c t) / f.e, Int.ediv_nonneg (by omega) (by omega), Int.ediv_le_ediv (by omega) (by omega), dlt_h of oc hd t⟩
  · rintro ⟨q, q0, q1, rfl⟩
    have m1 := (mul_le_iff (e := f.e) (a := c.e + shN f c - 1) (b := q) (by omega)).mpr q1
    have m0 := Int.mul_nonneg (show 0 ≤ f.e by omega) q0
    by_cases k : shN f c ≤ f.e * q
    · obtain ⟨a1, a2, a3⟩ := h_of oc (h := f.e * q - shN f c) (by omega) (by omega)
      refine ⟨_, a1, a2, ?_⟩
      rw [dlt_h of oc hd, a3, show shN f c + (f.e * q - shN f c) = f.e * q by omega, Int.mul_ediv_cancel_left _ (show f.e ≠ 0 by omega)]
    · obtain ⟨a1, a2, a3⟩ := h_of oc (h := 0) (by omega) (by omega)
      refine ⟨_, a1, a2, ?_⟩
      have q9 : q = 0 := by
        by_cases z : q = 0
        · exact z
        · have := Int.mul_le_mul_of_nonneg_left (show 1 ≤ q by omega) (show 0 ≤ f.e by omega)
          omega
      rw [dlt_h of oc hd, a3, Int.add_zero, Int.ediv_eq_zero_of_lt sh.1 sh.2, q9]
def leadL (x y : N3) (G : Int) : List Int := (rgI 0 G.toNat).map fun t : Int => ldt x y t
def gN (x y : N3) : Int := if x.e ≤ y.e then y.e else x.e
def lrN (x y : N3) : Int := if x.e ≤ y.e then x.e else y.e
def nuN (x y : N3) : Nat := ((if x.e ≤ y.e then qN x y else qN y x) + 1).toNat
/-- the values in order -/
def apL (x y : N3) : List Int := (rgI 0 (nuN x y)).map fun j : Int => (diT x y).e + lrN x y * j
theorem lead_mem {x y : N3} (ox : x.ok) (oy : y.ok) (hd : x.e ∣ y.e ∨ y.e ∣ x.e) (z : Int) : z ∈ leadL x y (gN x y) ↔ z ∈ apL x y := by
  obtain ⟨of, oc, hfc⟩ := fc_fit ox oy hd
  have x1 := ox.1
  have y1 := oy.1
  have a1 : z ∈ leadL x y (gN x y) ↔ ∃ t, 0 ≤ t ∧ t < gN x y ∧ ldt x y t = z := by
    unfold leadL
    rw [List.mem_map]
    constructor
    · rintro ⟨t, ht, e⟩
      have m := rgI_mem.mp ht
      exact ⟨t, m.1, by omega, e⟩
    · rintro ⟨t, h0, h1, e⟩
      exact ⟨t, rgI_mem.mpr ⟨h0, by omega⟩, e⟩
  have a2 : z ∈ apL x y ↔ ∃ j, 0 ≤ j ∧ j < ((nuN x y : Nat) : Int) ∧ (diT x y).e + lrN x y * j = z := by
    unfold apL
    rw [List.mem_map]
    constructor
    · rintro ⟨t, ht, e⟩
      have m := rgI_mem.mp ht
      exact ⟨t, m.1, by omega, e⟩
    · rintro ⟨t, h0, h1, e⟩
      exact ⟨t, rgI_mem.mpr ⟨h0, by omega⟩, e⟩
  rw [a1, a2]
  unfold gN lrN nuN diT diN
  unfold fiN coN at *
  by_cases c : x.e ≤ y.e
  · simp only [if_pos c] at *
    have v := dlt_vals of oc hfc z
    have q0 := qN_pos of oc
    have lo : leN x y = moN x y - x.e * qN x y := by
      unfold leN qN
      rw [Int.mul_comm]
    constructor
    · rintro ⟨t, h0, h1, e⟩
      obtain ⟨q, g0, g1, e2⟩ := v.mp ⟨t, h0, h1, e⟩
      refine ⟨qN x y - q, by omega, by omega, ?_⟩
      rw [lo, Int.mul_sub]
      omega
    · rintro ⟨j, h0, h1, e⟩
      refine v.mpr ⟨qN x y - j, by omega, by omega, ?_⟩
      rw [← e, lo, Int.mul_sub]
      omega
  · simp only [if_neg c] at *
    have v := dlt_vals of oc hfc (0 - z)
    have q0 := qN_pos of oc
    constructor
    · rintro ⟨t, h0, h1, e⟩
      rw [ldt_swap] at e
      obtain ⟨q, g0, g1, e2⟩ := v.mp ⟨t, h0, h1, by omega⟩
      exact ⟨q, by omega, by omega, by omega⟩
    · rintro ⟨j, h0, h1, e⟩
      obtain ⟨t, t0, t1, e3⟩ := v.mpr ⟨j, by omega, by omega, by omega⟩
      exact ⟨t, t0, t1, by rw [ldt_swap]; omega⟩
theorem ap_sorted {x y : N3} (ox : x.ok) (oy : y.ok) : (apL x y).Pairwise (· < ·) := by
  have x1 := ox.1
  have y1 := oy.1
  have e1 : 0 < lrN x y := by unfold lrN; split <;> omega
  unfold apL
  refine List.Pairwise.map _ (fun a b h => ?_) (rgI_sorted 0 _)
  have := Int.mul_lt_mul_of_pos_left h e1
  omega
/-- sorted(set(leads)) -/
theorem some_is {x y : N3} (ox : x.ok) (oy : y.ok) (hd : x.e ∣ y.e ∨ y.e ∣ x.e) {ys : List Int} (m : (∀ k, k ∈ ys ↔ k ∈ leadL x y (gN x y)) ∧ ys.Pairwise (· < ·)) : ys = apL x y :=
  sorted_same m.2 (ap_sorted ox oy) fun z => (m.1 z).trans (lead_mem ox oy hd z)
theorem ap_len (x y : N3) : (apL x y).length = nuN x y := by unfold apL; rw [List.length_map, rgI_len]
theorem nu_pos {x y : N3} (ox : x.ok) (oy : y.ok) : 1 ≤ nuN x y := by
  have a := qN_pos ox oy
  have b := qN_pos oy ox
  unfold nuN
  split <;> omega
theorem ap_at (x y : N3) {j : Nat} (h : j < nuN x y) : (apL x y)[j]? = some ((diT x y).e + lrN x y * j) := by
  unfold apL
  rw [List.getElem?_map, rgI_get h]
  simp
theorem ap_top {x y : N3} (ox : x.ok) (oy : y.ok) : (diT x y).e + lrN x y * ((nuN x y : Nat) - 1 : Int) = (diT x y).a := by
  have a := qN_pos ox oy
  have b := qN_pos oy ox
  unfold nuN lrN diT diN
  by_cases c : x.e ≤ y.e
  · simp only [if_pos c]
    rw [show (((qN x y + 1).toNat : Nat) : Int) - 1 = qN x y by omega]
    unfold leN qN
    rw [Int.mul_comm x.e]
    omega
  · simp only [if_neg c]
    rw [show (((qN y x + 1).toNat : Nat) : Int) - 1 = qN y x by omega]
    unfold leN qN
    rw [Int.mul_comm y.e]
    omega
theorem di_r {x y : N3} (ox : x.ok) (oy : y.ok) : (diT x y).r = if 1 < nuN x y then lrN x y else 0 := by
  have x1 := ox.1
  have y1 := oy.1
  have e1 : 0 < lrN x y := by unfold lrN; split <;> omega
  have t := ap_top ox oy
  have p := nu_pos ox oy
  rw [di_step]
  have k : (diT x y).e < (diT x y).a ↔ 1 < nuN x y := by
    rw [← t]
    constructor
    · intro h
      by_cases z : nuN x y = 1
      · rw [z] at h
        simp at h
      · omega
    · intro h
      have := Int.mul_lt_mul_of_pos_left (show (0 : Int) < ((nuN x y : Nat) : Int) - 1 by omega) e1
      omega
  by_cases z : 1 < nuN x y
  · rw [if_pos z, if_pos (k.mpr z)]
    rfl
  · rw [if_neg z, if_neg (mt k.mp z)]
/-- as the law puts it together -/
theorem ap_self {x y : N3} : apL x y = (rgI 0 (nuN x y)).map fun j : Int => (diT x y).e + (if 1 < nuN x y then lrN x y else 0) * j := by
  unfold apL
  by_cases z : 1 < nuN x y
  · simp only [if_pos z]
  · refine List.map_congr_left fun j hj => ?_
    have m := rgI_mem.mp hj
    rw [if_neg z, show j = 0 by omega, Int.mul_zero, Int.mul_zero]
theorem fst_at {x y : N3} (ox : x.ok) (oy : y.ok) : atI (apL x y) 0 = some (diT x y).e := by
  have p := nu_pos ox oy
  have := ap_at x y (j := 0) (by omega)
  rw [show (diT x y).e + lrN x y * ((0 : Nat) : Int) = (diT x y).e by simp] at this
  exact atI_nat (j := 0) this
theorem lst_at {x y : N3} (ox : x.ok) (oy : y.ok) : atI (apL x y) (-1) = some (diT x y).a := by
  have p := nu_pos ox oy
  have q := ap_at x y (j := nuN x y - 1) (by omega)
  rw [show ((nuN x y - 1 : Nat) : Int) = ((nuN x y : Nat) : Int) - 1 by omega, ap_top ox oy] at q
  unfold atI
  rw [ap_len]
  rw [show ixN (nuN x y) (-1) = some (nuN x y - 1) from ?_]
  · exact q
  · unfold ixN
    rw [if_neg (by omega), if_pos (by omega)]
    congr 1
    omega
theorem lead_at {x y : N3} {G : Int} {t : Nat} (h : (t : Int) < G) : (leadL x y G)[t]? = some (ldt x y t) := by
  unfold leadL
  rw [List.getElem?_map, rgI_get (by omega)]
  simp
theorem lead_len {x y : N3} {G : Int} : (leadL x y G).length = G.toNat := by unfold leadL; rw [List.length_map, rgI_len]
theorem g_co (x y : N3) : gN x y = (coN x y).e := by unfold gN coN; split <;> rfl
theorem per {x y : N3} (hd : x.e ∣ y.e ∨ y.e ∣ x.e) (ox : x.ok) (oy : y.ok) (t : Int) : ldt x y (t % gN x y) = ldt x y t := by
  have x1 := ox.1
  have y1 := oy.1
  have dx : x.e ∣ gN x y := by
    unfold gN
    rcases hd with d | d
    · split
      · exact d
      · exact Int.dvd_refl _
    · split
      · have := Int.le_of_dvd (by omega) d
        rw [show y.e = x.e by omega]
        exact Int.dvd_refl _
      · exact Int.dvd_refl _
  have dy : y.e ∣ gN x y := by
    unfold gN
    rcases hd with d | d
    · split
      · exact Int.dvd_refl _
      · have := Int.le_of_dvd (by omega) d
        omega
    · split
      · exact Int.dvd_refl _
      · exact d
  have e := Int.emod_add_mul_ediv t (gN x y)
  obtain ⟨u, hu⟩ := dx
  obtain ⟨v, hv⟩ := dy
  have k : ∀ (a w d : Int), gN x y = d * w → (a - t % gN x y) % d = (a - t) % d := fun a w d hw => by
    rw [show a - t % gN x y = (a - t) + d * (w * (t / gN x y)) by rw [← Int.mul_assoc, ← hw]; omega, Int.add_mul_emod_self_left]
  unfold ldt
  rw [k x.a u x.e hu, k y.a v y.e hv]
/-- the worst start -/
theorem worst_is {x y : N3} (ox : x.ok) (oy : y.ok) (hd : x.e ∣ y.e ∨ y.e ∣ x.e) : ∃ w : Nat, wsN x y = some (w : Int) ∧ (w : Int) < gN x y ∧ ldt x y w = (diT x y).a ∧ ∀ u : Int, 0 ≤ u → u < w → ldt x y u ≠ (diT x y).a := by
  obtain ⟨of, oc, hfc⟩ := fc_fit ox oy hd
  unfold wsN gN diT diN
  unfold fiN coN at *
  by_cases c : x.e ≤ y.e
  · simp only [if_pos c] at *
    rcases ff_is of oc hfc (moN x y) 0 with ⟨_, h⟩ | ⟨s, hs, h1, h2, h3, h4⟩
    · exact absurd (by rw [dlt_top of oc hfc]; exact Int.le_refl _) (h y.a)
    · refine ⟨s.toNat, by rw [hs]; congr 1; omega, by omega, ?_, fun u u0 u1 z => ?_⟩
      · rw [ldt_dlt, show ((s.toNat : Nat) : Int) = s by omega]
        have := (dlt_le of oc hfc s).2
        omega
      · rw [ldt_dlt] at z
        exact h4 u u0 (by omega) (by omega)
  · simp only [if_neg c] at *
    rcases fb_is of oc hfc (leN y x + 1) 0 with ⟨_, h⟩ | ⟨s, hs, h1, h2, h3, h4⟩
    · have := h (x.a + 1)
      rw [dlt_low of oc hfc] at this
      omega
    · refine ⟨s.toNat, by rw [hs]; congr 1; omega, by omega, ?_, fun u u0 u1 z => ?_⟩
      · rw [ldt_swap, show ((s.toNat : Nat) : Int) = s by omega]
        have := (dlt_le of oc hfc s).1
        omega
      · rw [ldt_swap] at z
        have := h4 u u0 (by omega)
        omega
theorem fe_hit {x y : N3} (ox : x.ok) (oy : y.ok) (hd : x.e ∣ y.e ∨ y.e ∣ x.e) {t s : Int} (h0 : t ≤ s) (h1 : ldt x y s < 0) (h2 : ∀ u, t ≤ u → u < s → ¬ ldt x y u < 0) : feN x y t = some s := by
  obtain ⟨of, oc, hfc⟩ := fc_fit ox oy hd
  unfold feN
  unfold fiN coN at *
  by_cases c : x.e ≤ y.e
  · simp only [if_pos c] at *
    rcases fb_is of oc hfc 0 t with ⟨_, h⟩ | ⟨r, hr, g1, g2, g3, g4⟩
    · have := h s
      rw [ldt_dlt] at h1
      omega
    · rw [hr]
      congr 1
      rcases Int.lt_trichotomy r s with z | z | z
      · exact absurd (by rw [ldt_dlt]; exact g3) (h2 r g1 z)
      · exact z
      · have := g4 s h0 z
        rw [ldt_dlt] at h1
        omega
  · simp only [if_neg c] at *
    rcases ff_is of oc hfc 1 t with ⟨_, h⟩ | ⟨r, hr, g1, g2, g3, g4⟩
    · have := h s
      rw [ldt_swap] at h1
      omega
    · rw [hr]
      congr 1
      rcases Int.lt_trichotomy r s with z | z | z
      · exact absurd (by rw [ldt_swap]; omega) (h2 r g1 z)
      · exact z
      · have := g4 s h0 z
        rw [ldt_swap] at h1
        omega
theorem fe_no {x y : N3} (ox : x.ok) (oy : y.ok) (hd : x.e ∣ y.e ∨ y.e ∣ x.e) {t : Int} (h2 : ∀ u, t ≤ u → u < t + gN x y → ¬ ldt x y u < 0) : feN x y t = none := by
  obtain ⟨of, oc, hfc⟩ := fc_fit ox oy hd
  rw [g_co] at h2
  unfold feN
  unfold fiN coN at *
  by_cases c : x.e ≤ y.e
  · simp only [if_pos c] at *
    rcases fb_is of oc hfc 0 t with ⟨h, _⟩ | ⟨r, hr, g1, g2, g3, g4⟩
    · exact h
    · exact absurd (by rw [ldt_dlt]; exact g3) (h2 r g1 g2)
  · simp only [if_neg c] at *
    rcases ff_is of oc hfc 1 t with ⟨h, _⟩ | ⟨r, hr, g1, g2, g3, g4⟩
    · exact h
    · exact absurd (by rw [ldt_swap]; omega) (h2 r g1 g2)
/-- how many starts have a rank below k -/
theorem cnt_rank {c : N3} (oc : c.ok) {k : Int} (h0 : 0 ≤ k) (h1 : k ≤ c.e) : ((cnt (fun t => decide (hN c t < k)) 0 c.e.toNat : Nat) : Int) = k := by
  have c1 := oc.1
  have a := cnt_res (fun h => decide (h < k)) c.a 0 c.e.toNat
  rw [show ((c.e.toNat : Nat) : Int) = c.e by omega] at a
  have b := cnt_le (k - 1) c.e.toNat 0
  have e : cnt (fun h => decide (h < k)) 0 c.e.toNat = cnt (fun t => decide (t ≤ k - 1)) 0 c.e.toNat := cnt_congr fun t _ _ => decide_eq_decide.mpr (by omega)
  have a' : cnt (fun t => decide (hN c t < k)) 0 c.e.toNat = cnt (fun h => decide (h < k)) 0 c.e.toNat := a
  rw [a', e, b]
  split
  · omega
  · split <;> omega
theorem cnt_not {p : Int → Bool} {b : Int} : ∀ n : Nat, cnt p b n + cnt (fun t => !p t) b n = n
  | 0 => rfl
  | n + 1 => by
    rw [cnt_succ, cnt_succ]
    have := cnt_not (p := p) (b := b) n
    cases p (b + n) <;> simp <;> omega
theorem cnt_more {f c : N3} (of : f.ok) (oc : c.ok) (hd : f.e ∣ c.e) (v : Int) : ((cnt (fun t => decide (v ≤ dlt f c t)) 0 c.e.toNat : Nat) : Int) = cntN f c v := by
  have k := cnt_in (f := f) oc v
  rw [cnt_congr (q := fun t => decide (hN c t < cntN f c v)) fun t _ _ => decide_eq_decide.mpr (cnt_h of oc hd v t)]
  exact cnt_rank oc k.1 k.2
theorem cnt_below {f c : N3} (of : f.ok) (oc : c.ok) (hd : f.e ∣ c.e) (v : Int) : ((cnt (fun t => decide (dlt f c t < v)) 0 c.e.toNat : Nat) : Int) = c.e - cntN f c v := by
  have c1 := oc.1
  have a := cnt_more of oc hd v
  have b := cnt_not (p := fun t => decide (v ≤ dlt f c t)) (b := 0) c.e.toNat
  rw [cnt_congr (p := fun t => !decide (v ≤ dlt f c t)) (q := fun t => decide (dlt f c t < v)) fun t _ _ => by rw [← decide_not]; exact decide_eq_decide.mpr (by omega)] at b
  omega
/-- the counts, as the law tells them -/
theorem counts_is {x y : N3} (ox : x.ok) (oy : y.ok) (hd : x.e ∣ y.e ∨ y.e ∣ x.e) :
    ((cnt (fun t => decide (ldt x y t < 0)) 0 (gN x y).toNat : Nat) : Int) = (csT x y).e ∧ ((cnt (fun t => decide (0 < ldt x y t)) 0 (gN x y).toNat : Nat) : Int) = (csT x y).r := by
  obtain ⟨of, oc, hfc⟩ := fc_fit ox oy hd
  unfold csT csN gN
  unfold fiN coN at *
  by_cases c : x.e ≤ y.e
  · simp only [if_pos c] at *
    refine ⟨cnt_below of oc hfc 0, ?_⟩
    rw [← cnt_more of oc hfc 1, cnt_congr (q := fun t => decide (1 ≤ dlt x y t)) fun t _ _ => decide_eq_decide.mpr (by rw [ldt_dlt]; omega)]
  · simp only [if_neg c] at *
    refine ⟨?_, ?_⟩
    · rw [← cnt_more of oc hfc 1, cnt_congr (q := fun t => decide (1 ≤ dlt y x t)) fun t _ _ => decide_eq_decide.mpr (by rw [ldt_swap]; omega)]
    · rw [← cnt_below of oc hfc 0, cnt_congr (q := fun t => decide (dlt y x t < 0)) fun t _ _ => decide_eq_decide.mpr (by rw [ldt_swap]; omega)]
theorem three_ways : ∀ l : List Int, (l.filter fun z => decide (z < 0)).length + l.count 0 + (l.filter fun z => decide (0 < z)).length = l.length
  | [] => rfl
  | a :: l => by
    have := three_ways l
    rcases Int.lt_trichotomy a 0 with z | z | z
    · simp [List.filter_cons, List.count_cons, z, show ¬ 0 < a by omega, show a ≠ 0 by omega]
      omega
    · subst z
      simp [List.filter_cons, List.count_cons]
      omega
    · simp [List.filter_cons, List.count_cons, z, show ¬ a < 0 by omega, show a ≠ 0 by omega]
      omega
theorem filt_map {α β : Type} (f : α → β) (p : β → Bool) : ∀ xs : List α, ((xs.map f).filter p).length = (xs.filter (fun x => p (f x))).length
  | [] => rfl
  | x :: xs => by
    rw [List.map_cons]
    cases h : p (f x) with
    | true => rw [List.filter_cons_of_pos h, List.filter_cons_of_pos (p := fun x => p (f x)) h, List.length_cons, List.length_cons, filt_map f p xs]
    | false => rw [List.filter_cons_of_neg (by rw [h]; exact Bool.false_ne_true), List.filter_cons_of_neg (p := fun x => p (f x)) (by rw [h]; exact Bool.false_ne_true), filt_map f p xs]
theorem lead_counts {x y : N3} (ox : x.ok) (oy : y.ok) (hd : x.e ∣ y.e ∨ y.e ∣ x.e) :
    ((((leadL x y (gN x y)).filter fun z => decide (z < 0)).length : Nat) : Int) = (csT x y).e ∧ (((leadL x y (gN x y)).count 0 : Nat) : Int) = (csT x y).a ∧ ((((leadL x y (gN x y)).filter fun z => decide (0 < z)).length : Nat) : Int) = (csT x y).r := by
  have a := counts_is ox oy hd
  have t := three_ways (leadL x y (gN x y))
  have s := cs_sum (x := x) (y := y)
  have x1 := ox.1
  have y1 := oy.1
  have g1 : 0 < gN x y := by unfold gN; split <;> omega
  have e1 : ((leadL x y (gN x y)).filter fun z => decide (z < 0)).length = cnt (fun t => decide (ldt x y t < 0)) 0 (gN x y).toNat := filt_map ..
  have e2 : ((leadL x y (gN x y)).filter fun z => decide (0 < z)).length = cnt (fun t => decide (0 < ldt x y t)) 0 (gN x y).toNat := filt_map ..
  rw [lead_len] at t
  refine ⟨by rw [e1]; exact a.1, ?_, by rw [e2]; exact a.2⟩
  rw [e1, e2] at t
  have s' : (csT x y).e + (csT x y).a + (csT x y).r = gN x y := s
  omega

abbrev NI := N3 ⊕ Int
instance : Rep NI := ⟨fun K F v o => match o with
  | .inl n => rp K F v n
  | .inr i => rp K F v i, fun {K F F' v o} s h => match o, h with
  | .inl _, h => Rep.up s h
  | .inr _, h => Rep.up s h⟩
instance : Dat NI where
  toD := fun o => match o with | .inl n => Dat.toD n | .inr i => Dat.toD i
  dp := fun {K F v o} h => match o, h with
    | .inl _, h => Dat.dp (α := N3) h
    | .inr _, h => Dat.dp (α := Int) h
  eqd := fun x y => by
    cases x <;> cases y
    · rw [show PyData.eqv (Dat.toD (α := N3) _) (Dat.toD (α := N3) _) = true ↔ _ from Dat.eqd (α := N3) _ _]
      exact ⟨fun z => by rw [z], fun z => Sum.inl.inj z⟩
    · exact ⟨fun z => by simp [Dat.toD, PyData.eqv] at z, fun z => nomatch z⟩
    · exact ⟨fun z => by simp [Dat.toD, PyData.eqv] at z, fun z => nomatch z⟩
    · rw [show PyData.eqv (Dat.toD (α := Int) _) (Dat.toD (α := Int) _) = true ↔ _ from Dat.eqd (α := Int) _ _]
      exact ⟨fun z => by rw [z], fun z => Sum.inr.inj z⟩
  ok := fun _ => True
  lay := fun {x} _ => by
    cases x with
    | inl n => exact Dat.lay (α := N3) (x := n) trivial
    | inr i => exact Dat.lay (α := Int) (x := i) trivial
  dep := 1
  hdep := fun x => by
    cases x with
    | inl n => exact Dat.hdep (α := N3) n
    | inr i => exact Nat.le_trans (Dat.hdep (α := Int) i) (by decide)
  fit := fun _ _ => False
  hfit := fun h => h.elim

theorem rp_opt {K : Frag} {F : Hp} (x : Option Int) : rp K F (optV x) x := by cases x <;> exact rfl
theorem rg_at {b z : Int} {n i : Nat} (h : (rgI b n)[i]? = some z) : z = b + (i : Nat) := by
  have l := (List.getElem?_eq_some_iff.mp h).1
  rw [rgI_len] at l
  rw [rgI_get l] at h
  exact (Option.some.inj h).symm
theorem gN_is (x y : N3) : (if y.e > x.e then y.e else x.e) = gN x y := by
  unfold gN
  split <;> split <;> omega
theorem lsN_is (x y : N3) : (if y.e < x.e then y.e else x.e) = lrN x y := by
  unfold lrN
  split <;> split <;> omega
theorem lead_is (x y : N3) : (rgI 0 (gN x y : Int).toNat).map (fun z : Int => (endL [x] z - endL [y] z : Int)) = leadL x y (gN x y) := by
  unfold leadL
  refine List.map_congr_left fun z _ => ?_
  exact ar_ldt x y z
theorem lead_mod {x y : N3} (ox : x.ok) (oy : y.ok) (hd : x.e ∣ y.e ∨ y.e ∣ x.e) (t : Int) : atI (leadL x y (gN x y)) (t % gN x y) = some (ldt x y t) := by
  have x1 := ox.1
  have y1 := oy.1
  have g1 : 0 < gN x y := by unfold gN; split <;> omega
  have a := Int.emod_nonneg t (show gN x y ≠ 0 by omega)
  have b := Int.emod_lt_of_pos t g1
  have p := per hd ox oy t
  obtain ⟨k, hk⟩ : ∃ k : Nat, t % gN x y = (k : Int) := ⟨(t % gN x y).toNat, by omega⟩
  rw [hk] at p b ⊢
  rw [← p]
  exact atI_nat (lead_at b)
theorem st_yes {x y : N3} (ox : x.ok) (oy : y.ok) (c : (((apL x y).length : Nat) : Int) > 1) : V.int (if y.e < x.e then y.e else x.e) = V.int (diT x y).r := by
  rw [ap_len] at c
  rw [lsN_is, di_r ox oy, if_pos (by omega)]
theorem st_no {x y : N3} (ox : x.ok) (oy : y.ok) (c : ¬ (((apL x y).length : Nat) : Int) > 1) : V.int 0 = V.int (diT x y).r := by
  rw [ap_len] at c
  rw [di_r ox oy, if_neg (by omega)]
theorem ap_again {x y : N3} (ox : x.ok) (oy : y.ok) : apL x y = (rgI 0 (((apL x y).length : Nat) : Int).toNat).map (fun z : Int => ((diT x y).e + (diT x y).r * z : Int)) := by
  rw [ap_len, di_r ox oy, show (((nuN x y : Nat) : Int)).toNat = nuN x y by omega]
  exact ap_self
theorem cts_is {x y : N3} (ox : x.ok) (oy : y.ok) (hd : x.e ∣ y.e ∨ y.e ∣ x.e) : (⟨((((leadL x y (gN x y)).filter (fun z : Int => decide (z < 0))).map (fun _ : Int => (1 : Int))).length : Nat), ((leadL x y (gN x y)).count 0 : Nat), ((((leadL x y (gN x y)).filter (fun z : Int => decide (z > 0))).map (fun _ : Int => (1 : Int))).length : Nat)⟩ : N3) = csT x y := by
  obtain ⟨a, b, c⟩ := lead_counts ox oy hd
  rw [List.length_map, List.length_map]
  have ext : ∀ u : N3, u = ⟨u.e, u.a, u.r⟩ := fun u => rfl
  rw [ext (csT x y), ← a, ← b, ← c]
theorem val_sz {x y : N3} (ox : x.ok) (oy : y.ok) (hx : x.e ≤ 60 ∧ x.r ≤ 1000) (hy : y.e ≤ 60 ∧ y.r ≤ 1000) (t : Int) : -2000 ≤ ldt x y t ∧ ldt x y t ≤ 2000 := by
  have x1 := ox.1
  have y1 := oy.1
  have x4 := ox.2.2.2
  have y4 := oy.2.2.2
  have a := Int.emod_nonneg (x.a - t) (show x.e ≠ 0 by omega)
  have b := Int.emod_lt_of_pos (x.a - t) (show 0 < x.e by omega)
  have c := Int.emod_nonneg (y.a - t) (show y.e ≠ 0 by omega)
  have d := Int.emod_lt_of_pos (y.a - t) (show 0 < y.e by omega)
  unfold ldt
  omega
theorem di_sz {x y : N3} (ox : x.ok) (oy : y.ok) (hd : x.e ∣ y.e ∨ y.e ∣ x.e) (hx : x.e ≤ 60 ∧ x.r ≤ 1000) (hy : y.e ≤ 60 ∧ y.r ≤ 1000) : (-2000 ≤ (diT x y).e ∧ (diT x y).e ≤ 2000) ∧ (-2000 ≤ (diT x y).a ∧ (diT x y).a ≤ 2000) ∧ (0 ≤ (diT x y).r ∧ (diT x y).r ≤ 60) := by
  obtain ⟨⟨t1, h1⟩, ⟨t2, h2⟩⟩ := di_at ox oy hd
  have a := val_sz ox oy hx hy t1
  have b := val_sz ox oy hx hy t2
  have x1 := ox.1
  have y1 := oy.1
  refine ⟨by omega, by omega, ?_⟩
  rw [di_step]
  split
  · split <;> omega
  · omega
theorem small {z : Int} (h : -2000 ≤ z ∧ z ≤ 2000) : Sz 1800 z := Sz.of (b := 12) (by omega) (by omega) |>.mono (by decide)
theorem fit3L {n : N3} (h : (-2000 ≤ n.e ∧ n.e ≤ 2000) ∧ (-2000 ≤ n.a ∧ n.a ≤ 2000) ∧ (-2000 ≤ n.r ∧ n.r ≤ 2000)) : Dat.fit 100000 [n, n] := ⟨2000, fun z hz => by
  rw [show z = n from by simpa using hz]
  exact ⟨small h.1, small h.2.1, small h.2.2, Nat.le_refl _⟩, by simp⟩
theorem fit2L {z : Int} (h : -2000 ≤ z ∧ z ≤ 2000) : Dat.fit 100000 [z, z] := ⟨600, fun w hw => by
  rw [show w = z from by simpa using hw]
  exact ⟨small h, Nat.le_refl _⟩, by simp⟩
theorem fe_in {x y : N3} (ox : x.ok) (oy : y.ok) (hd : x.e ∣ y.e ∨ y.e ∣ x.e) {t i : Int} (h : feN x y t = some i) : t ≤ i ∧ i < t + gN x y := by
  obtain ⟨of, oc, hfc⟩ := fc_fit ox oy hd
  rw [g_co]
  unfold feN fiN coN at *
  by_cases c : x.e ≤ y.e
  · simp only [if_pos c] at *
    rcases fb_is of oc hfc 0 t with ⟨e, _⟩ | ⟨s, hs, h1, h2, _⟩
    · rw [e] at h; cases h
    · rw [hs] at h; cases h; exact ⟨h1, h2⟩
  · simp only [if_neg c] at *
    rcases ff_is of oc hfc 1 t with ⟨e, _⟩ | ⟨s, hs, h1, h2, _⟩
    · rw [e] at h; cases h
    · rw [hs] at h; cases h; exact ⟨h1, h2⟩
theorem fitO {x y : N3} (ox : x.ok) (oy : y.ok) (hd : x.e ∣ y.e ∨ y.e ∣ x.e) (hx : x.e ≤ 60) (hy : y.e ≤ 60) {t : Int} (h0 : -1000 ≤ t) (h1 : t ≤ 10 ^ 20 + 200) : Dat.fit 100000 [feN x y t, feN x y t] := ⟨600, fun o ho => by
  rw [show o = feN x y t from by simpa using ho]
  refine ⟨Nat.le_refl _, fun i hi => ?_⟩
  have g := fe_in ox oy hd hi
  have g60 : gN x y ≤ 60 := by unfold gN; split <;> omega
  have p : (10 : Int) ^ 20 = 100000000000000000000 := by decide
  exact Sz.of (b := 80) (by omega) (by omega) |>.mono (by decide), by simp⟩

end
section
variable {w : World} {K : Frag} {mg : Str → Option Value} {base : Heap}
def sp__law_first (K : Frag) : Sp := fun vs H Q E => ∃ (M : Addr → Prop) (x : N3) (y : N3) (w1 : V) (b : Int), vs = [w1, .int b, .int (gN x y)] ∧ Alloc M H ∧ rp K (Fr M H) w1 (leadL x y (gN x y) : List Int) ∧ (x.ok) ∧ (y.ok) ∧ (x.e ∣ y.e ∨ y.e ∣ x.e) ∧ ∀ (H' : Hp), Same H H' → Q (optV (feN x y b)) H'
theorem ok__law_first (Z : Zs cks fns K mg) : FnOk PP w K mg base (L2.CX PP w) 2 (ga K "_law_first") (fdAt K (ga K "_law_first")) ["leads", "begin", "round_here"] (sp__law_first K) := by
  refine L2.Fun.okX (u__law_first Z) sc__law_first (fun vs H Q E h => ?_) (fun cdv A outer s H vs Q E hr h => ?_)
  · obtain ⟨_, _, _, _, _, rfl, _⟩ := h
    rfl
  · obtain ⟨M, x, y, w1, b, rfl, ⟨hA, hr1, ox, oy, hd, hq⟩⟩ := h
    refine ⟨_, (C8.pss_cut (ps_for (passes_of rfl) rfl (pi_range2W rfl (n_range Z) (pa_cons (pv 1) (pa_cons (pe_op op_add (pv 1) (pv 2)) pa_nil))) (pg_name (i := 3) sc__law_first.nd rfl (Or.inl rfl))
        (pss_one (ps_if (pt_cmpR op_lt (pe_ix (ixq ix_list) (pv 0) (pe_op op_mod (pv 3) (pv 2)) (fun _ _ => rfl)) pe_int (nomark _))
        (pss_one (ps_ret (pv 3)))
        pss_nil)))
      (pss_one (ps_ret pe_non))), ?_⟩
    have x1 := ox.1
    have y1 := oy.1
    have g1 : 0 < gN x y := by unfold gN; split <;> omega
    refine ⟨fun σ H1 => ∃ (z2 : Option V), σ = [some (w1), some (.int b), some (.int (gN x y)), z2] ∧ Same H H1 ∧ ∀ u, b ≤ u → u < b + ((rgI b (((b + (gN x y)) - b).toNat)).length : Nat) → ¬ ldt x y u < 0, ?_, ?_⟩
    · refine ⟨_, rfl, _, rfl, _, rfl, _, _, rfl, rfl, _, _, rfl, for_tw (tw_range (K := K) (M := M) (lo := b) (n := ((b + (gN x y)) - b).toNat)) M (fun iq σ H1 => ∃ (z2 : Option V), σ = [some (w1), some (.int b), some (.int (gN x y)), z2] ∧ Same H H1 ∧ ∀ u, b ≤ u → u < b + (iq : Nat) → ¬ ldt x y u < 0) ⟨_, rfl, Same.refl _, fun u h1 h2 => by omega⟩ (fun iq σ H1 h => ?_) ?_ ?_⟩
      · obtain ⟨z2, rfl, x3, f6⟩ := h
        exact ⟨(Fr.ext (Ext.same x3)), (Alloc.same hA x3)⟩
      · rintro i7 st u9 σ H1 H10 hx11 ⟨z2, rfl, x3, f6⟩ s12 up13 al14 r15
        have hr16 := rgI_mem.mp (List.mem_of_getElem? hx11)
        have e7 := rg_at hx11
        obtain rfl : u9 = V.int st := r15
        refine ⟨_, rfl, _, rfl, _, rfl, _, _, rfl, rfl, (show 0 < gN x y from g1), rd_ixI (i := st % (gN x y)) (x := ldt x y st) (Rep.up ((Fr.ext (Ext.same x3)).trans (Fr.same s12)) hr1) Fr.sub (lead_mod ox oy hd st) ?_⟩
        refine ⟨_, _, rfl, rfl, _, rfl, ifD (fun c => ?_) (fun c => ?_)⟩
        · refine ⟨_, rfl, ?_⟩
          rw [show V.int st = optV (feN x y b) from by rw [fe_hit ox oy hd (by omega) c (fun u h1 h2 => f6 u h1 (by omega))]; rfl]
          exact hq _ (x3.trans s12)
        · exact ⟨_, rfl, (x3.trans s12), fun u h1 h2 => by
                by_cases z : u < b + (i7 : Nat)
                · exact f6 u h1 z
                · rw [show u = st by omega]
                  exact c⟩
      · rintro σ H1 ⟨z2, rfl, x3, f6⟩
        exact ⟨_, rfl, x3, f6⟩
    rintro σ H1 ⟨z2, rfl, x3, f6⟩
    rw [show V.non = optV (feN x y b) from by rw [fe_no ox oy hd (fun u h1 h2 => f6 u h1 (by rw [rgI_len]; omega))]; rfl]
    exact hq _ x3
theorem cl__law_first {K : Frag} {H : Hp} {Q : VK} {E : XK} {M : Addr → Prop} {x : N3} {y : N3} {w1 : V} {b : Int} (hr1 : rp K (Fr M H) w1 (leadL x y (gN x y) : List Int)) (hA : Alloc M H) (ox : (x.ok)) (oy : (y.ok)) (hd : (x.e ∣ y.e ∨ y.e ∣ x.e)) (k : ∀ (H' : Hp), Same H H' → Q (optV (feN x y b)) H') : sq (sp__law_first K) [w1, .int b, .int (gN x y)] H Q E := sqI ⟨_, _, _, _, _, rfl, hA, hr1, ox, oy, hd, k⟩
end
section
variable {w : World} {K : Frag} {mg : Str → Option Value} {base : Heap}
def sp__law_two (K : Frag) : Sp := fun vs H Q E => ∃ (a : Addr) (N : Nat) (Lm : Int), vs = [.ref a, .int Lm] ∧ Tp a (N + 1004) H ∧ (1 ≤ Lm) ∧ (Lm ≤ 60) ∧ ∀ (u : V) (ys : N3 × N3) (H' : Hp), Ext (fdM a) H H' → Tp a N H' → rp K (Fr (fdM a) H') u ys → (ys.1.ok ∧ ys.2.ok ∧ (ys.1.e ∣ ys.2.e ∨ ys.2.e ∣ ys.1.e) ∧ (ys.1.e ≤ 60 ∧ ys.1.r ≤ 1000) ∧ (ys.2.e ≤ 60 ∧ ys.2.r ≤ 1000)) → Q u H'
theorem ok__law_two (Z : Zs cks fns K mg) : FnOk PP w K mg base (L2.CX PP w) 5 (ga K "_law_two") (fdAt K (ga K "_law_two")) ["tape", "most"] (sp__law_two K) := by
  refine L2.Fun.okX (u__law_two Z) sc__law_two (fun vs H Q E h => ?_) (fun cdv A outer s H vs Q E hr h => ?_)
  · obtain ⟨_, _, _, rfl, _⟩ := h
    rfl
  · obtain ⟨a, N, Lm, rfl, ⟨hT, h1, h2, hq⟩⟩ := h
    refine ⟨_, (pss_cons (ps_set (i := 2) sc__law_two.nd rfl (Or.inl rfl) (pe_call (okq (ok__law_rows Z)) (hr.mono (by decide)) rfl (g__law_rows Z) (u__law_rows Z).kp (b__law_rows Z) .nil passL (pa_cons (pv 0) (pa_cons pe_int (pa_cons (pv 1) pa_nil)))))
      (pss_cons (ps_par (i := 3) (j := 4) rfl sc__law_two.nd rfl rfl (by decide) rfl rfl (pa_cons (pe_ix (ixq ix_list) (pv 2) pe_int (fun _ _ => rfl)) (pa_cons (pe_ix (ixq ix_list) (pv 2) pe_int (fun _ _ => rfl)) pa_nil)) rfl)
      (pss_cons (ps_set (i := 5) sc__law_two.nd rfl (Or.inl rfl) (pe_op op_add (pe_ix (ixq ix_tup) (pv 3) pe_int (fun _ _ => rfl)) (pe_ix (ixq ix_list) (pe_lstQ (pe_lst (pa_cons pe_int (pa_cons (pe_call (ok__law_next Z) (hr.mono (by decide)) rfl (g__law_next Z) (u__law_next Z).kp (b__law_next Z) .nil passL (pa_cons (pv 0) (pa_cons (pe_op op_mul pe_int (pe_ix (ixq ix_tup) (pv 3) pe_int (fun _ _ => rfl))) pa_nil))) (pa_cons (pe_call (ok__law_next Z) (hr.mono (by decide)) rfl (g__law_next Z) (u__law_next Z).kp (b__law_next Z) .nil passL (pa_cons (pv 0) (pa_cons (pe_op op_mul pe_int (pe_ix (ixq ix_tup) (pv 4) pe_int (fun _ _ => rfl))) pa_nil))) (pa_cons (pe_ix (ixq ix_tup) (pv 4) pe_int (fun _ _ => rfl)) pa_nil)))))) (pe_call (ok__law_next Z) (hr.mono (by decide)) rfl (g__law_next Z) (u__law_next Z).kp (b__law_next Z) .nil passL (pa_cons (pv 0) (pa_cons pe_int pa_nil))) (fun _ _ => rfl))))
      (pss_one (ps_ret (pe_tupQ (pe_tup (pa_cons (pv 3) (pa_cons (pe_tupQ (pe_tup (pa_cons (pe_ix (ixq ix_tup) (pv 4) pe_int (fun _ _ => rfl)) (pa_cons (pe_ix (ixq ix_tup) (pv 4) pe_int (fun _ _ => rfl)) (pa_cons (pe_ix (ixq ix_list) (pe_lstQ (pe_lst (pa_cons (pv 5) (pa_cons (pe_ix (ixq ix_tup) (pv 4) pe_int (fun _ _ => rfl)) pa_nil)))) (pe_call (ok__law_next Z) (hr.mono (by decide)) rfl (g__law_next Z) (u__law_next Z).kp (b__law_next Z) .nil passL (pa_cons (pv 0) (pa_cons pe_int pa_nil))) (fun _ _ => rfl)) pa_nil))))) pa_nil))))))))), ?_⟩
    have p60 : (60 : Int) ≤ 10 ^ 60 := by decide +kernel
    refine ⟨_, rfl, _, rfl, cl__law_rows (N := N + 4) hT (by omega) (by omega) h1 (by omega) fun u1 ns H2 x3 t4 r5 nsl ho hf nsL nsR => ?_⟩
    obtain ⟨x, y, rfl⟩ : ∃ x y, ns = [x, y] := by
      match ns, nsl with
      | [x, y], _ => exact ⟨x, y, rfl⟩
    have mx : x ∈ [x, y] := by simp
    have my : y ∈ [x, y] := by simp
    have ox := ho x mx
    have oy := ho y my
    have hd := hf x mx y my
    have bx : x.e ≤ 60 ∧ x.r ≤ 200 := ⟨by have := nsL x mx; omega, by have := nsR x mx; omega⟩
    have by_ : y.e ≤ 60 ∧ y.r ≤ 200 := ⟨by have := nsL y my; omega, by have := nsR y my; omega⟩
    have x1 := ox.1
    have y1 := oy.1
    have x4 := ox.2.2.2
    have y4 := oy.2.2.2
    refine ⟨_, rfl, rd_ixL (i := 0) (x := x) r5 Fr.sub at0 fun u6 r7 => ?_⟩
    refine ⟨_, rfl, rd_ixL (i := 1) (x := y) r5 Fr.sub rfl fun u8 r9 => ?_⟩
    refine ⟨_, _, rfl, ?_⟩
    refine ⟨_, rfl, rd_n2 r7 Fr.sub ?_⟩
    refine ⟨_, rfl, _, rfl, rd_n0 r7 Fr.sub ?_⟩
    refine ⟨_, _, rfl, rfl, .inl ⟨by decide, by decide⟩, ⟨a, N + 3, 3 * x.e, rfl, t4, (by omega), (Sz.of (b := 10) (by omega) (by omega) |>.mono (by decide)), fun v10 H11 g12 l13 x14 t15 => ?_⟩⟩
    refine ⟨_, rfl, _, rfl, rd_n0 (Rep.up (Fr.ext x14) r9) Fr.sub ?_⟩
    refine ⟨_, _, rfl, rfl, .inl ⟨by decide, by decide⟩, ⟨a, N + 2, 3 * y.e, rfl, t15, (by omega), (Sz.of (b := 10) (by omega) (by omega) |>.mono (by decide)), fun v16 H17 g18 l19 x20 t21 => ?_⟩⟩
    refine ⟨_, rfl, rd_n0 (Rep.up ((Fr.ext x14).trans (Fr.ext x20)) r9) Fr.sub ?_⟩
    refine rd_lst (K := K) (xs := ([0, v10, v16, y.e] : List Int)) t21.alloc (by show 4 ≤ 1000; decide) (pd_ofInts ([0, v10, v16, y.e] : List Int)) fun u22 H23 s24 r25 => ?_
    have t26 := t21.same s24
    refine ⟨_, rfl, ⟨a, N + 1, 4, rfl, t26, (by decide), (Sz.of (by decide +kernel) (by decide +kernel)), fun v27 H28 g29 l30 x31 t32 => ?_⟩⟩
    obtain ⟨nr, hx33, hm34⟩ := at_mem (xs := ([0, v10, v16, y.e] : List Int)) g29 (show v27 < ((4 : Nat) : Int) from by omega)
    have nrb : 0 ≤ nr ∧ nr ≤ 180 := by
      simp only [List.mem_cons, List.not_mem_nil, or_false] at hm34
      rcases hm34 with e | e | e | e <;> omega
    refine rd_ixI (i := v27) (x := nr) (Rep.up (Fr.ext x31) r25) Fr.sub hx33 ?_
    refine ⟨_, _, rfl, rfl, ?_⟩
    refine ⟨_, rfl, _, rfl, rd_n0 (Rep.up ((Fr.ext x14).trans ((Fr.ext x20).trans ((Fr.same s24).trans (Fr.ext x31)))) r9) Fr.sub ?_⟩
    refine ⟨_, rfl, rd_n1 (Rep.up ((Fr.ext x14).trans ((Fr.ext x20).trans ((Fr.same s24).trans (Fr.ext x31)))) r9) Fr.sub ?_⟩
    refine ⟨_, rfl, _, rfl, rd_n2 (Rep.up ((Fr.ext x14).trans ((Fr.ext x20).trans ((Fr.same s24).trans (Fr.ext x31)))) r9) Fr.sub ?_⟩
    refine rd_lst (K := K) (xs := ([x.r + nr, y.r] : List Int)) t32.alloc (by show 2 ≤ 1000; decide) (pd_ofInts ([x.r + nr, y.r] : List Int)) fun u35 H36 s37 r38 => ?_
    have t39 := t32.same s37
    refine ⟨_, rfl, ⟨a, N, 2, rfl, t39, (by decide), (Sz.of (by decide +kernel) (by decide +kernel)), fun v40 H41 g42 l43 x44 t45 => ?_⟩⟩
    obtain ⟨rr, hx46, hm47⟩ := at_mem (xs := ([x.r + nr, y.r] : List Int)) g42 (show v40 < ((2 : Nat) : Int) from by omega)
    have rrb : 0 ≤ rr ∧ rr ≤ 1000 := by
      simp only [List.mem_cons, List.not_mem_nil, or_false] at hm47
      rcases hm47 with e | e <;> omega
    refine rd_ixI (i := v40) (x := rr) (Rep.up (Fr.ext x44) r38) Fr.sub hx46 ?_
    refine rd_tup3 (K := K) t45.alloc fun u48 H49 s50 r51 => ?_
    have t52 := t45.same s50
    refine rd_pair t52.alloc (show rp K _ _ (x : N3) from (Rep.up ((Fr.ext x14).trans ((Fr.ext x20).trans ((Fr.same s24).trans ((Fr.ext x31).trans ((Fr.same s37).trans ((Fr.ext x44).trans (Fr.same s50))))))) r7)) (show rp K _ _ ((⟨y.e, y.a, rr⟩ : N3) : N3) from r51) fun u53 H54 s55 r56 => ?_
    have t57 := t52.same s55
    exact hq _ (x, (⟨y.e, y.a, rr⟩ : N3)) _ (x3.trans (x14.trans (x20.trans ((Ext.same s24).trans (x31.trans ((Ext.same s37).trans (x44.trans ((Ext.same s50).trans (Ext.same s55))))))))) t57 r56 (⟨ox, ⟨oy.1, oy.2.1, oy.2.2.1, rrb.1⟩, hd, ⟨bx.1, Int.le_trans bx.2 (by decide)⟩, by dsimp only; exact ⟨by_.1, rrb.2⟩⟩)
theorem cl__law_two {K : Frag} {H : Hp} {Q : VK} {E : XK} {a : Addr} {N : Nat} {Lm : Int} (hT : Tp a (N + 1004) H) (h1 : (1 ≤ Lm)) (h2 : (Lm ≤ 60)) (k : ∀ (u : V) (ys : N3 × N3) (H' : Hp), Ext (fdM a) H H' → Tp a N H' → rp K (Fr (fdM a) H') u ys → (ys.1.ok ∧ ys.2.ok ∧ (ys.1.e ∣ ys.2.e ∨ ys.2.e ∣ ys.1.e) ∧ (ys.1.e ≤ 60 ∧ ys.1.r ≤ 1000) ∧ (ys.2.e ≤ 60 ∧ ys.2.r ≤ 1000)) → Q u H') : sq (sp__law_two K) [.ref a, .int Lm] H Q E := sqI ⟨_, _, _, rfl, hT, h1, h2, k⟩
end
section
variable {w : World} {K : Frag} {mg : Str → Option Value} {base : Heap}
def sp__law_right (K : Frag) : Sp := fun vs H Q E => ∃ (a : Addr) (N : Nat) (x : N3) (w2 : V) (y : N3) (w3 : V), vs = [.ref a, w2, w3] ∧ Tp a (N + 3) H ∧ rp K (Fr (fdM a) H) w2 (x : N3) ∧ rp K (Fr (fdM a) H) w3 (y : N3) ∧ (x.ok) ∧ (y.ok) ∧ (x.e ∣ y.e ∨ y.e ∣ x.e) ∧ (x.e ≤ 60 ∧ x.r ≤ 1000) ∧ (y.e ≤ 60 ∧ y.r ≤ 1000) ∧ ∀ (H' : Hp), Ext (fdM a) H H' → Tp a N H' → Q (.bl true) H'
theorem ok__law_right (Z : Zs cks fns K mg) : FnG PP w K mg base (L2.CX PP w) 12 (ga K "_law_right") (fdAt K (ga K "_law_right")) ["tape", "first", "second"] (sp__law_right K) := by
  refine Fw.Fun.okG (u__law_right Z) sc__law_right (fun vs H Q E h => ?_) (fun cdv A outer s H vs Q E hg hr h => ?_)
  · obtain ⟨_, _, _, _, _, _, rfl, _⟩ := h
    rfl
  · obtain ⟨a, N, x, w2, y, w3, rfl, ⟨hT, hr2, hr3, ox, oy, hd, sx_, sy_, hq⟩⟩ := h
    refine ⟨_, (pss_cons (ps_par (i := 3) (j := 4) rfl sc__law_right.nd rfl rfl (by decide) rfl rfl (pa_cons (pe_call (okq (ok__law_line Z)) (hr.mono (by decide)) rfl (g__law_line Z) (u__law_line Z).kp (b__law_line Z) .nil passL (pa_cons (pv 1) pa_nil)) (pa_cons (pe_call (okq (ok__law_line Z)) (hr.mono (by decide)) rfl (g__law_line Z) (u__law_line Z).kp (b__law_line Z) .nil passL (pa_cons (pv 2) pa_nil)) pa_nil)) rfl)
      (pss_cons (ps_set (i := 5) sc__law_right.nd rfl (Or.inl rfl) (pe_callB (call_max2 rfl) rfl (n_max Z) (by decide +kernel) (pa_cons (pe_ix (ixq ix_tup) (pv 1) pe_int (fun _ _ => rfl)) (pa_cons (pe_ix (ixq ix_tup) (pv 2) pe_int (fun _ _ => rfl)) pa_nil))))
      (pss_cons (ps_setLc (i := 6) (own := [("start", 15)]) rfl sc__law_right.nd rfl rfl (sw_true rfl rfl rfl (by decide +kernel)) (pi_range1 rfl (n_range Z) (pa_cons (pv 5) pa_nil)) (blkOk_by (own := [("start", 15)]) (N := ["tape", "first", "second", "mine", "theirs", "round_here", "leads", "some", "step", "due", "worst", "counts", "begin", "early", "told", "start", "spot", "lead"]) (sc := defScope s__law_right) (by decide +kernel)) (fun _ _ _ _ _ => (pg_name (i := 15) sc__law_right.nd rfl (Or.inl rfl))) (fun _ _ _ _ _ => pts_nil) (fun _ _ _ _ _ => (pe_op op_sub (pe_call (okq (ok__law_arrive Z)) (hr.mono (by decide)) rfl (g__law_arrive Z) (u__law_arrive Z).kp (b__law_arrive Z) .nil passL (pa_cons (pe_lstQ (pe_lst (pa_cons (pv 1) pa_nil))) (pa_cons (pv 15) pa_nil))) (pe_call (okq (ok__law_arrive Z)) (hr.mono (by decide)) rfl (g__law_arrive Z) (u__law_arrive Z).kp (b__law_arrive Z) .nil passL (pa_cons (pe_lstQ (pe_lst (pa_cons (pv 2) pa_nil))) (pa_cons (pv 15) pa_nil))))))
      (pss_cons (ps_set (i := 7) sc__law_right.nd rfl (Or.inr rfl) (pe_callB (crq (cr_sortedSet rfl)) rfl (n_sorted Z) (by decide +kernel) (pa_cons (pe_callTy (crq (cr_setL rfl)) rfl (n_set Z) (by decide +kernel) (pa_cons (pv 6) pa_nil)) pa_nil)))
      (pss_cons (ps_set (i := 8) sc__law_right.nd rfl (Or.inr rfl) (pe_ifQ (pe_ifExp (pt_cmpR op_gt (pe_callB (crq call_len_seq) rfl (n_len Z) (by decide +kernel) (pa_cons (pv 7) pa_nil)) pe_int (nomark _)) (pe_callB (call_min2 rfl) rfl (n_min Z) (by decide +kernel) (pa_cons (pe_ix (ixq ix_tup) (pv 1) pe_int (fun _ _ => rfl)) (pa_cons (pe_ix (ixq ix_tup) (pv 2) pe_int (fun _ _ => rfl)) pa_nil))) pe_int)))
      (pss_cons (ps_if (pt_cmpR (opq (op_neD hr.units)) (pv 7) (pe_lc (own := [("spot", 16)]) rfl sc__law_right.nd (pi_range1 rfl (n_range Z) (pa_cons (pe_callB (crq call_len_seq) rfl (n_len Z) (by decide +kernel) (pa_cons (pv 7) pa_nil)) pa_nil)) (blkOk_by (own := [("spot", 16)]) (N := ["tape", "first", "second", "mine", "theirs", "round_here", "leads", "some", "step", "due", "worst", "counts", "begin", "early", "told", "start", "spot", "lead"]) (sc := defScope s__law_right) (by decide +kernel)) (fun _ _ _ _ _ => (pg_name (i := 16) sc__law_right.nd rfl (Or.inl rfl))) (fun _ _ _ _ _ => pts_nil) (fun _ _ _ _ _ => (pe_op op_add (pe_ix (ixq (show IxR _ (rIxL K) from ix_list)) (pv 7) pe_int (fun _ _ => rfl)) (pe_op op_mulW (pv 8) (pv 16))))) (nomark _))
        (pss_one (ps_ret pe_bl))
        pss_nil)
      (pss_cons (ps_set (i := 9) sc__law_right.nd rfl (Or.inl rfl) (pe_tupQ (pe_tup (pa_cons (pe_ix (ixq ix_list) (pv 7) pe_int (fun _ _ => rfl)) (pa_cons (pe_ix (ixq ix_list) (pv 7) (pe_un un_neg pe_int) (fun _ _ => rfl)) (pa_cons (pv 8) pa_nil))))))
      (pss_cons (ps_if (pt_cmpR op_ne (pe_callB (crq (call_reprD hg hr.units)) rfl (n_repr Z) (by decide +kernel) (pa_cons (pe_lstQ (pe_lst (pa_cons (pe_call (okq (ok_differences Z)) (hr.mono (by decide)) rfl (g_differences Z) (u_differences Z).kp (b_differences Z) .nil passL (pa_cons (pv 3) (pa_cons (pv 4) pa_nil))) (pa_cons (pe_callN0 (okq (ok_differences Z)) (hr.mono (by decide)) rfl (g_differences Z) (u_differences Z).kp (k_differences_0_other_one Z) passL (pk_cons (pv 4) (pk_cons (pv 3) pk_nil))) pa_nil)))) pa_nil)) (pe_callB (crq (call_reprD hg hr.units)) rfl (n_repr Z) (by decide +kernel) (pa_cons (pe_lstQ (pe_lst (pa_cons (pv 9) (pa_cons (pv 9) pa_nil)))) pa_nil)) (nomark _))
        (pss_one (ps_ret pe_bl))
        pss_nil)
      (pss_cons (ps_set (i := 10) sc__law_right.nd rfl (Or.inl rfl) (pe_bm PySem.F.plainAttrs_list PySem.F.slot_list_index PySem.F.type_list_index (mtq mt_index) (pv 6) (pa_cons (pe_ix (ixq ix_list) (pv 7) (pe_un un_neg pe_int) (fun _ _ => rfl)) pa_nil)))
      (pss_cons (ps_if (pt_cmpR op_ne (pe_callB (crq (call_reprD hg hr.units)) rfl (n_repr Z) (by decide +kernel) (pa_cons (pe_lstQ (pe_lst (pa_cons (pe_call (okq (ok_worst_start Z)) (hr.mono (by decide)) rfl (g_worst_start Z) (u_worst_start Z).kp (b_worst_start Z) .nil passL (pa_cons (pv 3) (pa_cons (pv 4) pa_nil))) (pa_cons (pe_callN0 (okq (ok_worst_start Z)) (hr.mono (by decide)) rfl (g_worst_start Z) (u_worst_start Z).kp (k_worst_start_0_other_one Z) passL (pk_cons (pv 4) (pk_cons (pv 3) pk_nil))) pa_nil)))) pa_nil)) (pe_callB (crq (call_reprD hg hr.units)) rfl (n_repr Z) (by decide +kernel) (pa_cons (pe_lstQ (pe_lst (pa_cons (pv 10) (pa_cons (pv 10) pa_nil)))) pa_nil)) (nomark _))
        (pss_one (ps_ret pe_bl))
        pss_nil)
      (pss_cons (ps_set (i := 11) sc__law_right.nd rfl (Or.inl rfl) (pe_tupQ (pe_tup (pa_cons (pe_callB (crq call_len_seq) rfl (n_len Z) (by decide +kernel) (pa_cons (pe_lc (own := [("lead", 17)]) rfl sc__law_right.nd (pi_list (pv 6)) (blkOk_by (own := [("lead", 17)]) (N := ["tape", "first", "second", "mine", "theirs", "round_here", "leads", "some", "step", "due", "worst", "counts", "begin", "early", "told", "start", "spot", "lead"]) (sc := defScope s__law_right) (by decide +kernel)) (fun _ _ _ _ _ => (pg_name (i := 17) sc__law_right.nd rfl (Or.inl rfl))) (fun _ _ _ _ _ => pts_one (pt_cmpR op_lt (pv 17) pe_int (nomark _))) (fun _ _ _ _ _ => pe_int)) pa_nil)) (pa_cons (pe_bm PySem.F.plainAttrs_list PySem.F.slot_list_count PySem.F.type_list_count (mtq mt_lcount) (pv 6) (pa_cons pe_int pa_nil)) (pa_cons (pe_callB (crq call_len_seq) rfl (n_len Z) (by decide +kernel) (pa_cons (pe_lc (own := [("lead", 17)]) rfl sc__law_right.nd (pi_list (pv 6)) (blkOk_by (own := [("lead", 17)]) (N := ["tape", "first", "second", "mine", "theirs", "round_here", "leads", "some", "step", "due", "worst", "counts", "begin", "early", "told", "start", "spot", "lead"]) (sc := defScope s__law_right) (by decide +kernel)) (fun _ _ _ _ _ => (pg_name (i := 17) sc__law_right.nd rfl (Or.inl rfl))) (fun _ _ _ _ _ => pts_one (pt_cmpR op_gt (pv 17) pe_int (nomark _))) (fun _ _ _ _ _ => pe_int)) pa_nil)) pa_nil))))))
      (pss_cons (ps_if (pt_cmpR op_ne (pe_callB (crq (call_reprD hg hr.units)) rfl (n_repr Z) (by decide +kernel) (pa_cons (pe_lstQ (pe_lst (pa_cons (pe_call (okq (ok_count_starts Z)) (hr.mono (by decide)) rfl (g_count_starts Z) (u_count_starts Z).kp (b_count_starts Z) .nil passL (pa_cons (pv 3) (pa_cons (pv 4) pa_nil))) (pa_cons (pe_callN0 (okq (ok_count_starts Z)) (hr.mono (by decide)) rfl (g_count_starts Z) (u_count_starts Z).kp (k_count_starts_0_other_one Z) passL (pk_cons (pv 4) (pk_cons (pv 3) pk_nil))) pa_nil)))) pa_nil)) (pe_callB (crq (call_reprD hg hr.units)) rfl (n_repr Z) (by decide +kernel) (pa_cons (pe_lstQ (pe_lst (pa_cons (pv 11) (pa_cons (pv 11) pa_nil)))) pa_nil)) (nomark _))
        (pss_one (ps_ret pe_bl))
        pss_nil)
      (pss_cons (ps_set (i := 7) sc__law_right.nd rfl (Or.inr rfl) (pe_lstQ (pe_lst (pa_cons pe_int (pa_cons pe_int (pa_cons (pe_un un_neg pe_int) (pa_cons (pe_call (ok__law_next Z) (hr.mono (by decide)) rfl (g__law_next Z) (u__law_next Z).kp (b__law_next Z) .nil passL (pa_cons (pv 0) (pa_cons (pv 5) pa_nil))) (pa_cons (pe_op op_sub pe_int (pe_call (ok__law_next Z) (hr.mono (by decide)) rfl (g__law_next Z) (u__law_next Z).kp (b__law_next Z) .nil passL (pa_cons (pv 0) (pa_cons (pe_op op_mul pe_int (pv 5)) pa_nil)))) (pa_cons (pe_op op_add (pe_op op_pow pe_int pe_int) (pe_call (ok__law_next Z) (hr.mono (by decide)) rfl (g__law_next Z) (u__law_next Z).kp (b__law_next Z) .nil passL (pa_cons (pv 0) (pa_cons pe_int pa_nil)))) pa_nil)))))))))
      (C8.pss_cut (ps_for (passes_of rfl) rfl (pi_list (pv 7)) (pg_name (i := 12) sc__law_right.nd rfl (Or.inl rfl))
        (pss_cons (ps_set (i := 13) sc__law_right.nd rfl (Or.inl rfl) (pe_call (okq (ok__law_first Z)) (hr.mono (by decide)) rfl (g__law_first Z) (u__law_first Z).kp (b__law_first Z) .nil passL (pa_cons (pv 6) (pa_cons (pv 12) (pa_cons (pv 5) pa_nil)))))
      (pss_cons (ps_set (i := 14) sc__law_right.nd rfl (Or.inl rfl) (pe_lstQ (pe_lst (pa_cons (pe_call (okq (ok_first_earlier Z)) (hr.mono (by decide)) rfl (g_first_earlier Z) (u_first_earlier Z).kp (b_first_earlier Z) .nil passL (pa_cons (pv 3) (pa_cons (pv 4) (pa_cons (pv 12) pa_nil)))) (pa_cons (pe_callN0 (okq (ok_first_earlier Z)) (hr.mono (by decide)) rfl (g_first_earlier Z) (u_first_earlier Z).kp (k_first_earlier_0_time_other_one Z) passL (pk_cons (pv 12) (pk_cons (pv 4) (pk_cons (pv 3) pk_nil)))) pa_nil)))))
      (pss_one (ps_if (pt_cmpR op_ne (pe_callB (crq (call_reprD hg hr.units)) rfl (n_repr Z) (by decide +kernel) (pa_cons (pv 14) pa_nil)) (pe_callB (crq (call_reprD hg hr.units)) rfl (n_repr Z) (by decide +kernel) (pa_cons (pe_lstQ (pe_lst (pa_cons (pv 13) (pa_cons (pv 13) pa_nil)))) pa_nil)) (nomark _))
        (pss_one (ps_ret pe_bl))
        pss_nil)))))
      (pss_one (ps_ret (pe_cmpR (opq (op_eqD hr.units)) (pe_lstQ (pe_lst (pa_cons (pe_getQ (pe_lget (pv 3) (lnF Z) (hp_every Z) (ok_Line_every Z) (b_Line_every Z) (hr.mono (by decide)) lf_e rfl)) (pa_cons (pe_getQ (pe_lget (pv 3) (lnF Z) (hp_at Z) (ok_Line_at Z) (b_Line_at Z) (hr.mono (by decide)) lf_a rfl)) (pa_cons (pe_getQ (pe_lget (pv 3) (lnF Z) (hp_ride Z) (ok_Line_ride Z) (b_Line_ride Z) (hr.mono (by decide)) lf_r rfl)) (pa_cons (pe_getQ (pe_lget (pv 4) (lnF Z) (hp_every Z) (ok_Line_every Z) (b_Line_every Z) (hr.mono (by decide)) lf_e rfl)) (pa_cons (pe_getQ (pe_lget (pv 4) (lnF Z) (hp_at Z) (ok_Line_at Z) (b_Line_at Z) (hr.mono (by decide)) lf_a rfl)) (pa_cons (pe_getQ (pe_lget (pv 4) (lnF Z) (hp_ride Z) (ok_Line_ride Z) (b_Line_ride Z) (hr.mono (by decide)) lf_r rfl)) pa_nil)))))))) (pe_callTy (crq call_list_of) rfl (n_list Z) (by decide +kernel) (pa_cons (pe_op (opq op_catT) (pv 1) (pv 2)) pa_nil)) (nomark _)))))))))))))))))), ?_⟩
    have x1 := ox.1
    have y1 := oy.1
    have x4 := ox.2.2.2
    have y4 := oy.2.2.2
    have bx : Big x := ⟨Sz.of (b := 12) (by omega) (by omega) |>.mono (by decide), Sz.of (b := 12) (by omega) (by omega) |>.mono (by decide)⟩
    have bY : Big y := ⟨Sz.of (b := 12) (by omega) (by omega) |>.mono (by decide), Sz.of (b := 12) (by omega) (by omega) |>.mono (by decide)⟩
    have gb : 0 < gN x y ∧ gN x y ≤ 60 := by
      unfold gN
      split <;> omega
    obtain ⟨w, ew, wa, wb, wc⟩ := worst_is ox oy hd
    obtain ⟨d1, d2, d3⟩ := di_sz ox oy hd sx_ sy_
    have hc := cts_is ox oy hd
    have csb : (0 ≤ (csT x y).e ∧ (csT x y).e ≤ 60) ∧ (0 ≤ (csT x y).a ∧ (csT x y).a ≤ 60) ∧ (0 ≤ (csT x y).r ∧ (csT x y).r ≤ 60) := by
      have s := cs_sum (x := x) (y := y)
      have s' : (csT x y).e + (csT x y).a + (csT x y).r = gN x y := s
      obtain ⟨a1, a2, a3⟩ := lead_counts ox oy hd
      omega
    have apl : (apL x y).length ≤ 60 := by
      rw [ap_len]
      have l := List.Nodup.length_le_of_subset (l₁ := apL x y) (l₂ := leadL x y (gN x y)) ((ap_sorted ox oy).imp fun h => Int.ne_of_lt h) (fun z hz => (lead_mem ox oy hd z).mpr hz)
      rw [lead_len, ap_len] at l
      omega
    refine ⟨_, rfl, cl__law_line hr2 hT.alloc ox fun u1 H2 s3 r4 => ?_⟩
    have t5 := hT.same s3
    refine ⟨_, rfl, cl__law_line (Rep.up (Fr.same s3) hr3) t5.alloc oy fun u6 H7 s8 r9 => ?_⟩
    have t10 := t5.same s8
    refine ⟨_, _, rfl, ?_⟩
    refine ⟨_, rfl, rd_n0 (Rep.up ((Fr.same s3).trans (Fr.same s8)) hr2) Fr.sub ?_⟩
    refine ⟨_, rfl, rd_n0 (Rep.up ((Fr.same s3).trans (Fr.same s8)) hr3) Fr.sub ?_⟩
    refine ⟨_, _, rfl, ?_⟩
    rw [gN_is]
    refine ⟨_, rfl, _, rfl, (by omega), (by omega), lc_mapF (fun (y12 : Int) => ((endL ([x] : List N3) y12) - (endL ([y] : List N3) y12) : Int)) (tw_range (K := K) (M := (fdM a)) (lo := 0) (n := (gN x y : Int).toNat)) t10.alloc (by rw [rgI_len]; omega) (fun i11 y12 u13 H14 M15 C16 D17 hx18 up19 al20 s21 r22 hC23 => ?_) (fun D38 H39 s40 r41 => ?_)⟩
    · have hr27 := rgI_mem.mp (List.mem_of_getElem? hx18)
      obtain rfl : u13 = V.int y12 := r22
      refine ⟨rfl, _, rfl, rd_lst (K := K) (xs := ([x] : List N3)) al20 (by show 1 ≤ 1000; decide) (.cons (Rep.up ((Fr.same s3).trans ((Fr.same s8).trans up19)) hr2) .nil) fun u28 H29 s30 r31 => ?_⟩
      have al32 := al20.same s30
      refine ⟨_, rfl, cl__law_arrive r31 (fun n hn => by rw [List.mem_singleton.mp hn]; exact ox) ?_⟩
      refine ⟨_, rfl, rd_lst (K := K) (xs := ([y] : List N3)) al32 (by show 1 ≤ 1000; decide) (.cons (Rep.up ((Fr.same s3).trans ((Fr.same s8).trans (up19.trans (Fr.same s30)))) hr3) .nil) fun u33 H34 s35 r36 => ?_⟩
      have al37 := al32.same s35
      refine ⟨_, rfl, cl__law_arrive r36 (fun n hn => by rw [List.mem_singleton.mp hn]; exact oy) ?_⟩
      refine ⟨_, _, rfl, rfl, hC23 _ _ (s30.trans s35) (show rp K _ _ ((endL ([x] : List N3) y12) - (endL ([y] : List N3) y12) : Int) from rfl)⟩
    have t43 := t10.same s40
    rw [show (rgI 0 ((gN x y : Int).toNat)).map (fun (y12 : Int) => ((endL ([x] : List N3) y12) - (endL ([y] : List N3) y12) : Int)) = leadL x y (gN x y) from lead_is x y] at r41
    refine ⟨_, rfl, rd_sset t43.alloc r41 (by rw [lead_len]; omega) (fun es nd l mem => Nat.lt_of_le_of_lt l (by rw [lead_len]; omega)) fun u44 H45 ys48 s46 m49 r47 => ?_⟩
    have t50 := t43.same s46
    have es := some_is ox oy hd ⟨m49.1, m49.2.1⟩
    subst es
    refine ⟨_, rfl, rd_len r47 Fr.sub ?_⟩
    refine ⟨_, _, rfl, rfl, _, rfl, rd_ifx (fun v H' => Same H45 H' ∧ v = .int (diT x y).r) ?_ ?_ (fun u57 H58 ⟨s59, r60⟩ => ?_)⟩
    · intro c51 Q52 hQ53
      replace c51 := of_decide_eq_true c51
      refine ⟨_, rfl, rd_n0 (Rep.up ((Fr.same s3).trans ((Fr.same s8).trans ((Fr.same s40).trans (Fr.same s46)))) hr2) Fr.sub ?_⟩
      refine ⟨_, rfl, rd_n0 (Rep.up ((Fr.same s3).trans ((Fr.same s8).trans ((Fr.same s40).trans (Fr.same s46)))) hr3) Fr.sub ?_⟩
      refine ⟨_, _, rfl, hQ53 _ _ ⟨(Same.refl _), st_yes ox oy c51⟩⟩
    · intro c54 Q55 hQ56
      replace c54 := of_decide_eq_false c54
      refine hQ56 _ _ ⟨(Same.refl _), st_no ox oy c54⟩
    have t61 := t50.same s59
    subst r60
    refine ⟨_, rfl, _, rfl, rd_len (Rep.up (Fr.same s59) r47) Fr.sub ?_⟩
    refine ⟨_, rfl, (by omega), (by omega), lc_mapF (fun (y63 : Int) => ((diT x y).e + ((diT x y).r * y63) : Int)) (tw_range (K := K) (M := (fdM a)) (lo := 0) (n := (((apL x y).length : Nat) : Int).toNat)) t61.alloc (by rw [rgI_len]; omega) (fun i62 y63 u64 H65 M66 C67 D68 hx69 up70 al71 s72 r73 hC74 => ?_) (fun D79 H80 s81 r82 => ?_)⟩
    · have hr78 := rgI_mem.mp (List.mem_of_getElem? hx69)
      have hb := rgI_mem.mp (List.mem_of_getElem? hx69)
      have cm : CMulW (diT x y).r y63 := Sz.cmul (a := 20) (b := 20) (Sz.of (by omega) (by omega)) (Sz.of (by omega) (by omega))
      obtain rfl : u64 = V.int y63 := r73
      refine ⟨rfl, _, rfl, rd_ixI (i := 0) (x := (diT x y).e) (Rep.up ((Fr.same s59).trans up70) r47) Fr.sub (fst_at ox oy) ?_⟩
      refine ⟨_, rfl, _, rfl, _, _, rfl, rfl, cm, _, _, rfl, rfl, hC74 _ _ (Same.refl _) (show rp K _ _ ((diT x y).e + ((diT x y).r * y63) : Int) from rfl)⟩
    have t84 := t61.same s81
    refine rd_ne (x := apL x y) (y := ((rgI 0 ((((apL x y).length : Nat) : Int).toNat)).map (fun (y63 : Int) => ((diT x y).e + ((diT x y).r * y63) : Int)) : List Int)) (Rep.up ((Fr.same s59).trans (Fr.same s81)) r47) r82 Fr.sub (fun _ _ => trivial) (fun _ _ => trivial) ?_
    refine ⟨_, rfl, iteNS (show ((apL x y) = ((rgI 0 ((((apL x y).length : Nat) : Int).toNat)).map (fun (y63 : Int) => ((diT x y).e + ((diT x y).r * y63) : Int)))) from ap_again ox oy) ?_⟩
    refine ⟨_, rfl, rd_ixI (i := 0) (x := (diT x y).e) (Rep.up ((Fr.same s59).trans (Fr.same s81)) r47) Fr.sub (fst_at ox oy) ?_⟩
    refine ⟨_, rfl, _, rfl, rd_ixI (i := -1) (x := (diT x y).a) (Rep.up ((Fr.same s59).trans (Fr.same s81)) r47) Fr.sub (lst_at ox oy) ?_⟩
    refine ⟨_, rfl, rd_tup3 (K := K) t84.alloc fun u85 H86 s87 r88 => ?_⟩
    have t89 := t84.same s87
    refine ⟨_, rfl, _, rfl, cl_differences (Rep.up ((Fr.same s8).trans ((Fr.same s40).trans ((Fr.same s46).trans ((Fr.same s59).trans ((Fr.same s81).trans (Fr.same s87)))))) r4) (Rep.up ((Fr.same s40).trans ((Fr.same s46).trans ((Fr.same s59).trans ((Fr.same s81).trans (Fr.same s87))))) r9) t89.alloc ox oy hd bx bY fun u90 H91 s92 r93 => ?_⟩
    have t94 := t89.same s92
    refine ⟨_, rfl, _, rfl, rfl, rfl, cl_differences (Rep.up ((Fr.same s8).trans ((Fr.same s40).trans ((Fr.same s46).trans ((Fr.same s59).trans ((Fr.same s81).trans ((Fr.same s87).trans (Fr.same s92))))))) r4) (Rep.up ((Fr.same s40).trans ((Fr.same s46).trans ((Fr.same s59).trans ((Fr.same s81).trans ((Fr.same s87).trans (Fr.same s92)))))) r9) t94.alloc ox oy hd bx bY fun u95 H96 s97 r98 => ?_⟩
    have t99 := t94.same s97
    refine rd_lst (K := K) (xs := ([diT x y, diT x y] : List N3)) t99.alloc (by show 2 ≤ 1000; decide) (.cons (Rep.up (Fr.same s97) r93) (.cons r98 .nil)) fun u100 H101 s102 r103 => ?_
    have t104 := t99.same s102
    obtain ⟨p105, e106⟩ := rp_ref r103
    subst e106
    refine rd_repr (W := 100000) r103 Fr.sub (fit3L ⟨d1, d2, by omega, by omega⟩) ?_
    refine ⟨_, rfl, _, rfl, rd_lst (K := K) (xs := ([(⟨(diT x y).e, (diT x y).a, (diT x y).r⟩ : N3), (⟨(diT x y).e, (diT x y).a, (diT x y).r⟩ : N3)] : List N3)) t104.alloc (by show 2 ≤ 1000; decide) (.cons (Rep.up ((Fr.same s92).trans ((Fr.same s97).trans (Fr.same s102))) r88) (.cons (Rep.up ((Fr.same s92).trans ((Fr.same s97).trans (Fr.same s102))) r88) .nil)) fun u107 H108 s109 r110 => ?_⟩
    have t111 := t104.same s109
    obtain ⟨p112, e113⟩ := rp_ref r110
    subst e113
    refine rd_repr (W := 100000) r110 Fr.sub (fit3L ⟨d1, d2, by show -2000 ≤ (diT x y).r; omega, by show (diT x y).r ≤ 2000; omega⟩) ?_
    refine ⟨rfl, _, rfl, iteNS (congrArg V.str (show (Dat.toD (([diT x y, diT x y] : List N3) : List N3)).shown = (Dat.toD (([(⟨(diT x y).e, (diT x y).a, (diT x y).r⟩ : N3), (⟨(diT x y).e, (diT x y).a, (diT x y).r⟩ : N3)] : List N3) : List N3)).shown from rfl)) ?_⟩
    refine ⟨_, rfl, list_ty (Rep.up ((Fr.same s46).trans ((Fr.same s59).trans ((Fr.same s81).trans ((Fr.same s87).trans ((Fr.same s92).trans ((Fr.same s97).trans ((Fr.same s102).trans (Fr.same s109)))))))) r41) Fr.sub, _, rfl, _, rfl, rd_ixI (i := -1) (x := (diT x y).a) (Rep.up ((Fr.same s59).trans ((Fr.same s81).trans ((Fr.same s87).trans ((Fr.same s92).trans ((Fr.same s97).trans ((Fr.same s102).trans (Fr.same s109))))))) r47) Fr.sub (lst_at ox oy) ?_⟩
    refine rd_index (j := w) (Rep.up ((Fr.same s46).trans ((Fr.same s59).trans ((Fr.same s81).trans ((Fr.same s87).trans ((Fr.same s92).trans ((Fr.same s97).trans ((Fr.same s102).trans (Fr.same s109)))))))) r41) Fr.sub (by rw [lead_at wa, wb]) (fun m hm hz => by
          rw [lead_at (show ((m : Nat) : Int) < gN x y by omega)] at hz
          exact wc m (by omega) (by omega) (Option.some.inj hz)) ?_
    refine ⟨_, rfl, _, rfl, cl_worst_start (Rep.up ((Fr.same s8).trans ((Fr.same s40).trans ((Fr.same s46).trans ((Fr.same s59).trans ((Fr.same s81).trans ((Fr.same s87).trans ((Fr.same s92).trans ((Fr.same s97).trans ((Fr.same s102).trans (Fr.same s109)))))))))) r4) (Rep.up ((Fr.same s40).trans ((Fr.same s46).trans ((Fr.same s59).trans ((Fr.same s81).trans ((Fr.same s87).trans ((Fr.same s92).trans ((Fr.same s97).trans ((Fr.same s102).trans (Fr.same s109))))))))) r9) t111.alloc ox oy hd bx bY fun H114 s115 => ?_⟩
    have t116 := t111.same s115
    rw [show optV (wsN x y) = V.int ((w : Nat) : Int) by rw [ew]; rfl]
    refine ⟨_, rfl, _, rfl, rfl, rfl, cl_worst_start (Rep.up ((Fr.same s8).trans ((Fr.same s40).trans ((Fr.same s46).trans ((Fr.same s59).trans ((Fr.same s81).trans ((Fr.same s87).trans ((Fr.same s92).trans ((Fr.same s97).trans ((Fr.same s102).trans ((Fr.same s109).trans (Fr.same s115))))))))))) r4) (Rep.up ((Fr.same s40).trans ((Fr.same s46).trans ((Fr.same s59).trans ((Fr.same s81).trans ((Fr.same s87).trans ((Fr.same s92).trans ((Fr.same s97).trans ((Fr.same s102).trans ((Fr.same s109).trans (Fr.same s115)))))))))) r9) t116.alloc ox oy hd bx bY fun H117 s118 => ?_⟩
    have t119 := t116.same s118
    rw [show optV (wsN x y) = V.int ((w : Nat) : Int) by rw [ew]; rfl]
    refine rd_lst (K := K) (xs := ([((w : Nat) : Int), ((w : Nat) : Int)] : List Int)) t119.alloc (by show 2 ≤ 1000; decide) (pd_ofInts ([((w : Nat) : Int), ((w : Nat) : Int)] : List Int)) fun u120 H121 s122 r123 => ?_
    have t124 := t119.same s122
    obtain ⟨p125, e126⟩ := rp_ref r123
    subst e126
    refine rd_repr (W := 100000) r123 Fr.sub (fit2L (by omega)) ?_
    refine ⟨_, rfl, _, rfl, rd_lst (K := K) (xs := ([((w : Nat) : Int), ((w : Nat) : Int)] : List Int)) t124.alloc (by show 2 ≤ 1000; decide) (pd_ofInts ([((w : Nat) : Int), ((w : Nat) : Int)] : List Int)) fun u127 H128 s129 r130 => ?_⟩
    have t131 := t124.same s129
    obtain ⟨p132, e133⟩ := rp_ref r130
    subst e133
    refine rd_repr (W := 100000) r130 Fr.sub (fit2L (by omega)) ?_
    refine ⟨rfl, _, rfl, iteNS (congrArg V.str (show (Dat.toD (([((w : Nat) : Int), ((w : Nat) : Int)] : List Int) : List Int)).shown = (Dat.toD (([((w : Nat) : Int), ((w : Nat) : Int)] : List Int) : List Int)).shown from rfl)) ?_⟩
    obtain ⟨a134, e135, q136, T137⟩ := tw_list (Rep.up ((Fr.same s46).trans ((Fr.same s59).trans ((Fr.same s81).trans ((Fr.same s87).trans ((Fr.same s92).trans ((Fr.same s97).trans ((Fr.same s102).trans ((Fr.same s109).trans ((Fr.same s115).trans ((Fr.same s118).trans ((Fr.same s122).trans (Fr.same s129)))))))))))) r41)
    refine ⟨_, rfl, a134, e135, q136, lc_filt (fun (y139 : Int) => decide (y139 < 0)) (fun (y139 : Int) => (1 : Int)) T137 t131.alloc (by rw [lead_len]; omega) (fun i138 y139 u140 H141 M142 C143 D144 hx145 up146 al147 s148 r149 hC150 hD151 => ?_) (fun D154 H155 s156 r157 => ?_)⟩
    · obtain rfl : u140 = V.int y139 := r149
      refine ⟨rfl, _, rfl, _, _, rfl, rfl, _, rfl, ifD (fun c => ?_) (fun c => ?_)⟩
      · refine hC150 (decide_eq_true c) _ _ (Same.refl _) (show rp K _ _ (1 : Int) from rfl)
      · exact hD151 (decide_eq_false c) _ (Same.refl _)
    have t159 := t131.same s156
    refine rd_len r157 Fr.sub ?_
    refine ⟨_, rfl, list_ty (Rep.up ((Fr.same s46).trans ((Fr.same s59).trans ((Fr.same s81).trans ((Fr.same s87).trans ((Fr.same s92).trans ((Fr.same s97).trans ((Fr.same s102).trans ((Fr.same s109).trans ((Fr.same s115).trans ((Fr.same s118).trans ((Fr.same s122).trans ((Fr.same s129).trans (Fr.same s156))))))))))))) r41) Fr.sub, rd_count (Rep.up ((Fr.same s46).trans ((Fr.same s59).trans ((Fr.same s81).trans ((Fr.same s87).trans ((Fr.same s92).trans ((Fr.same s97).trans ((Fr.same s102).trans ((Fr.same s109).trans ((Fr.same s115).trans ((Fr.same s118).trans ((Fr.same s122).trans ((Fr.same s129).trans (Fr.same s156))))))))))))) r41) Fr.sub ?_⟩
    obtain ⟨a160, e161, q162, T163⟩ := tw_list (Rep.up ((Fr.same s46).trans ((Fr.same s59).trans ((Fr.same s81).trans ((Fr.same s87).trans ((Fr.same s92).trans ((Fr.same s97).trans ((Fr.same s102).trans ((Fr.same s109).trans ((Fr.same s115).trans ((Fr.same s118).trans ((Fr.same s122).trans ((Fr.same s129).trans (Fr.same s156))))))))))))) r41)
    refine ⟨_, rfl, a160, e161, q162, lc_filt (fun (y165 : Int) => decide (y165 > 0)) (fun (y165 : Int) => (1 : Int)) T163 t159.alloc (by rw [lead_len]; omega) (fun i164 y165 u166 H167 M168 C169 D170 hx171 up172 al173 s174 r175 hC176 hD177 => ?_) (fun D180 H181 s182 r183 => ?_)⟩
    · obtain rfl : u166 = V.int y165 := r175
      refine ⟨rfl, _, rfl, _, _, rfl, rfl, _, rfl, ifD (fun c => ?_) (fun c => ?_)⟩
      · refine hC176 (decide_eq_true c) _ _ (Same.refl _) (show rp K _ _ (1 : Int) from rfl)
      · exact hD177 (decide_eq_false c) _ (Same.refl _)
    have t185 := t159.same s182
    refine rd_len r183 Fr.sub ?_
    refine rd_tup3 (K := K) t185.alloc fun u186 H187 s188 r189 => ?_
    have t190 := t185.same s188
    rw [hc] at r189
    refine ⟨_, rfl, _, rfl, cl_count_starts (Rep.up ((Fr.same s8).trans ((Fr.same s40).trans ((Fr.same s46).trans ((Fr.same s59).trans ((Fr.same s81).trans ((Fr.same s87).trans ((Fr.same s92).trans ((Fr.same s97).trans ((Fr.same s102).trans ((Fr.same s109).trans ((Fr.same s115).trans ((Fr.same s118).trans ((Fr.same s122).trans ((Fr.same s129).trans ((Fr.same s156).trans ((Fr.same s182).trans (Fr.same s188))))))))))))))))) r4) (Rep.up ((Fr.same s40).trans ((Fr.same s46).trans ((Fr.same s59).trans ((Fr.same s81).trans ((Fr.same s87).trans ((Fr.same s92).trans ((Fr.same s97).trans ((Fr.same s102).trans ((Fr.same s109).trans ((Fr.same s115).trans ((Fr.same s118).trans ((Fr.same s122).trans ((Fr.same s129).trans ((Fr.same s156).trans ((Fr.same s182).trans (Fr.same s188)))))))))))))))) r9) t190.alloc ox oy hd bx bY fun u191 H192 s193 r194 => ?_⟩
    have t195 := t190.same s193
    refine ⟨_, rfl, _, rfl, rfl, rfl, cl_count_starts (Rep.up ((Fr.same s8).trans ((Fr.same s40).trans ((Fr.same s46).trans ((Fr.same s59).trans ((Fr.same s81).trans ((Fr.same s87).trans ((Fr.same s92).trans ((Fr.same s97).trans ((Fr.same s102).trans ((Fr.same s109).trans ((Fr.same s115).trans ((Fr.same s118).trans ((Fr.same s122).trans ((Fr.same s129).trans ((Fr.same s156).trans ((Fr.same s182).trans ((Fr.same s188).trans (Fr.same s193)))))))))))))))))) r4) (Rep.up ((Fr.same s40).trans ((Fr.same s46).trans ((Fr.same s59).trans ((Fr.same s81).trans ((Fr.same s87).trans ((Fr.same s92).trans ((Fr.same s97).trans ((Fr.same s102).trans ((Fr.same s109).trans ((Fr.same s115).trans ((Fr.same s118).trans ((Fr.same s122).trans ((Fr.same s129).trans ((Fr.same s156).trans ((Fr.same s182).trans ((Fr.same s188).trans (Fr.same s193))))))))))))))))) r9) t195.alloc ox oy hd bx bY fun u196 H197 s198 r199 => ?_⟩
    have t200 := t195.same s198
    refine rd_lst (K := K) (xs := ([csT x y, csT x y] : List N3)) t200.alloc (by show 2 ≤ 1000; decide) (.cons (Rep.up (Fr.same s198) r194) (.cons r199 .nil)) fun u201 H202 s203 r204 => ?_
    have t205 := t200.same s203
    obtain ⟨p206, e207⟩ := rp_ref r204
    subst e207
    refine rd_repr (W := 100000) r204 Fr.sub (fit3L (by omega)) ?_
    refine ⟨_, rfl, _, rfl, rd_lst (K := K) (xs := ([csT x y, csT x y] : List N3)) t205.alloc (by show 2 ≤ 1000; decide) (.cons (Rep.up ((Fr.same s193).trans ((Fr.same s198).trans (Fr.same s203))) r189) (.cons (Rep.up ((Fr.same s193).trans ((Fr.same s198).trans (Fr.same s203))) r189) .nil)) fun u208 H209 s210 r211 => ?_⟩
    have t212 := t205.same s210
    obtain ⟨p213, e214⟩ := rp_ref r211
    subst e214
    refine rd_repr (W := 100000) r211 Fr.sub (fit3L (by omega)) ?_
    refine ⟨rfl, _, rfl, iteNS (congrArg V.str (show (Dat.toD (([csT x y, csT x y] : List N3) : List N3)).shown = (Dat.toD (([csT x y, csT x y] : List N3) : List N3)).shown from rfl)) ?_⟩
    refine ⟨_, rfl, _, rfl, _, rfl, ⟨a, N + 2, gN x y, rfl, t212, gb.1, (Sz.of (b := 10) (by omega) (by omega) |>.mono (by decide)), fun v215 H216 g217 l218 x219 t220 => ?_⟩⟩
    refine ⟨_, rfl, _, rfl, _, _, rfl, rfl, .inl ⟨by decide, by decide⟩, ⟨a, N + 1, 3 * (gN x y), rfl, t220, (by omega), (Sz.of (b := 10) (by omega) (by omega) |>.mono (by decide)), fun v221 H222 g223 l224 x225 t226 => ?_⟩⟩
    refine ⟨_, _, rfl, rfl, _, _, rfl, rfl, ⟨by decide, by decide, by decide⟩, _, rfl, ⟨a, N, 99, rfl, t226, (by decide), (Sz.of (by decide +kernel) (by decide +kernel)), fun v227 H228 g229 l230 x231 t232 => ?_⟩⟩
    refine ⟨_, _, rfl, rfl, rd_lst (K := K) (xs := ([0, 1, -1, v215, 0 - v221, (10 ^ (20 : Int).toNat) + v227] : List Int)) t232.alloc (by show 6 ≤ 1000; decide) (pd_ofInts ([0, 1, -1, v215, 0 - v221, (10 ^ (20 : Int).toNat) + v227] : List Int)) fun u233 H234 s235 r236 => ?_⟩
    have t237 := t232.same s235
    refine ⟨fun σ H242 => ∃ (z243 : Option V) (z244 : Option V) (z245 : Option V), σ = [some (.ref a), some (w2), some (w3), some (u1), some (u6), some (.int (gN x y)), some ((V.ref D38)), some (u233), some (.int (diT x y).r), some (u85), some (.int ((w : Nat) : Int)), some (u186), z243, z244, z245, none, none, none] ∧ Ext (fdM a) H234 H242 ∧ Tp a (N) H242, ?_, ?_⟩
    · obtain ⟨a238, e239, q240, T241⟩ := tw_list r236
      refine ⟨_, rfl, a238, e239, q240, for_tw T241 (fdM a) (fun iq σ H242 => ∃ (z243 : Option V) (z244 : Option V) (z245 : Option V), σ = [some (.ref a), some (w2), some (w3), some (u1), some (u6), some (.int (gN x y)), some ((V.ref D38)), some (u233), some (.int (diT x y).r), some (u85), some (.int ((w : Nat) : Int)), some (u186), z243, z244, z245, none, none, none] ∧ Ext (fdM a) H234 H242 ∧ Tp a (N) H242) ⟨_, _, _, rfl, Ext.refl, t237⟩ (fun iq σ H242 h => ?_) ?_ ?_⟩
      · obtain ⟨z243, z244, z245, rfl, x246, t247⟩ := h
        exact ⟨(Fr.ext x246), t247.alloc⟩
      · rintro i249 bg u251 σ H242 H252 hx253 ⟨z243, z244, z245, rfl, x246, t247⟩ s254 up255 al256 r257
        have t258 := t247.same s254
        have bgb : -1000 ≤ bg ∧ bg ≤ 10 ^ 20 + 200 := by
          have mm := List.mem_of_getElem? hx253
          have p : (10 : Int) ^ (20 : Int).toNat = 100000000000000000000 := by decide +kernel
          have p2 : (10 : Int) ^ 20 = 100000000000000000000 := by decide
          simp only [List.mem_cons, List.not_mem_nil, or_false] at mm
          rcases mm with e | e | e | e | e | e <;> omega
        obtain rfl : u251 = V.int bg := r257
        refine ⟨_, rfl, _, rfl, _, rfl, cl__law_first (Rep.up ((Fr.same s46).trans ((Fr.same s59).trans ((Fr.same s81).trans ((Fr.same s87).trans ((Fr.same s92).trans ((Fr.same s97).trans ((Fr.same s102).trans ((Fr.same s109).trans ((Fr.same s115).trans ((Fr.same s118).trans ((Fr.same s122).trans ((Fr.same s129).trans ((Fr.same s156).trans ((Fr.same s182).trans ((Fr.same s188).trans ((Fr.same s193).trans ((Fr.same s198).trans ((Fr.same s203).trans ((Fr.same s210).trans ((Fr.ext x219).trans ((Fr.ext x225).trans ((Fr.ext x231).trans ((Fr.same s235).trans ((Fr.ext x246).trans (Fr.same s254))))))))))))))))))))))))) r41) al256 (by assumption) (by assumption) (by assumption) fun H259 s260 => ?_⟩
        have t261 := t258.same s260
        refine ⟨_, rfl, _, rfl, _, rfl, cl_first_earlier (Rep.up ((Fr.same s8).trans ((Fr.same s40).trans ((Fr.same s46).trans ((Fr.same s59).trans ((Fr.same s81).trans ((Fr.same s87).trans ((Fr.same s92).trans ((Fr.same s97).trans ((Fr.same s102).trans ((Fr.same s109).trans ((Fr.same s115).trans ((Fr.same s118).trans ((Fr.same s122).trans ((Fr.same s129).trans ((Fr.same s156).trans ((Fr.same s182).trans ((Fr.same s188).trans ((Fr.same s193).trans ((Fr.same s198).trans ((Fr.same s203).trans ((Fr.same s210).trans ((Fr.ext x219).trans ((Fr.ext x225).trans ((Fr.ext x231).trans ((Fr.same s235).trans ((Fr.ext x246).trans ((Fr.same s254).trans (Fr.same s260)))))))))))))))))))))))))))) r4) (Rep.up ((Fr.same s40).trans ((Fr.same s46).trans ((Fr.same s59).trans ((Fr.same s81).trans ((Fr.same s87).trans ((Fr.same s92).trans ((Fr.same s97).trans ((Fr.same s102).trans ((Fr.same s109).trans ((Fr.same s115).trans ((Fr.same s118).trans ((Fr.same s122).trans ((Fr.same s129).trans ((Fr.same s156).trans ((Fr.same s182).trans ((Fr.same s188).trans ((Fr.same s193).trans ((Fr.same s198).trans ((Fr.same s203).trans ((Fr.same s210).trans ((Fr.ext x219).trans ((Fr.ext x225).trans ((Fr.ext x231).trans ((Fr.same s235).trans ((Fr.ext x246).trans ((Fr.same s254).trans (Fr.same s260))))))))))))))))))))))))))) r9) t261.alloc ox oy hd bx bY fun H262 s263 => ?_⟩
        have t264 := t261.same s263
        refine ⟨_, rfl, _, rfl, _, rfl, rfl, rfl, cl_first_earlier (Rep.up ((Fr.same s8).trans ((Fr.same s40).trans ((Fr.same s46).trans ((Fr.same s59).trans ((Fr.same s81).trans ((Fr.same s87).trans ((Fr.same s92).trans ((Fr.same s97).trans ((Fr.same s102).trans ((Fr.same s109).trans ((Fr.same s115).trans ((Fr.same s118).trans ((Fr.same s122).trans ((Fr.same s129).trans ((Fr.same s156).trans ((Fr.same s182).trans ((Fr.same s188).trans ((Fr.same s193).trans ((Fr.same s198).trans ((Fr.same s203).trans ((Fr.same s210).trans ((Fr.ext x219).trans ((Fr.ext x225).trans ((Fr.ext x231).trans ((Fr.same s235).trans ((Fr.ext x246).trans ((Fr.same s254).trans ((Fr.same s260).trans (Fr.same s263))))))))))))))))))))))))))))) r4) (Rep.up ((Fr.same s40).trans ((Fr.same s46).trans ((Fr.same s59).trans ((Fr.same s81).trans ((Fr.same s87).trans ((Fr.same s92).trans ((Fr.same s97).trans ((Fr.same s102).trans ((Fr.same s109).trans ((Fr.same s115).trans ((Fr.same s118).trans ((Fr.same s122).trans ((Fr.same s129).trans ((Fr.same s156).trans ((Fr.same s182).trans ((Fr.same s188).trans ((Fr.same s193).trans ((Fr.same s198).trans ((Fr.same s203).trans ((Fr.same s210).trans ((Fr.ext x219).trans ((Fr.ext x225).trans ((Fr.ext x231).trans ((Fr.same s235).trans ((Fr.ext x246).trans ((Fr.same s254).trans ((Fr.same s260).trans (Fr.same s263)))))))))))))))))))))))))))) r9) t264.alloc ox oy hd bx bY fun H265 s266 => ?_⟩
        have t267 := t264.same s266
        refine rd_lst (K := K) (xs := ([feN x y bg, feN x y bg] : List (Option Int))) t267.alloc (by show 2 ≤ 1000; decide) (.cons (rp_opt _) (.cons (rp_opt _) .nil)) fun u268 H269 s270 r271 => ?_
        have t272 := t267.same s270
        obtain ⟨p273, e274⟩ := rp_ref r271
        subst e274
        refine ⟨_, rfl, rd_repr (W := 100000) r271 Fr.sub (fitO ox oy hd sx_.1 sy_.1 bgb.1 bgb.2) ?_⟩
        refine ⟨_, rfl, _, rfl, rd_lst (K := K) (xs := ([feN x y bg, feN x y bg] : List (Option Int))) t272.alloc (by show 2 ≤ 1000; decide) (.cons (rp_opt _) (.cons (rp_opt _) .nil)) fun u275 H276 s277 r278 => ?_⟩
        have t279 := t272.same s277
        obtain ⟨p280, e281⟩ := rp_ref r278
        subst e281
        refine rd_repr (W := 100000) r278 Fr.sub (fitO ox oy hd sx_.1 sy_.1 bgb.1 bgb.2) ?_
        refine ⟨rfl, _, rfl, iteNS (congrArg V.str (show (Dat.toD (([feN x y bg, feN x y bg] : List (Option Int)) : List (Option Int))).shown = (Dat.toD (([feN x y bg, feN x y bg] : List (Option Int)) : List (Option Int))).shown from rfl)) ?_⟩
        exact ⟨_, _, _, rfl, (x246.trans ((Ext.same s254).trans ((Ext.same s260).trans ((Ext.same s263).trans ((Ext.same s266).trans ((Ext.same s270).trans (Ext.same s277))))))), t279⟩
      · rintro σ H242 ⟨z243, z244, z245, rfl, x246, t247⟩
        exact ⟨_, _, _, rfl, x246, t247⟩
    rintro σ H242 ⟨z243, z244, z245, rfl, x246, t247⟩
    refine ⟨_, rfl, rd_getA (gg := fun n => n.e) (Rep.up ((Fr.same s8).trans ((Fr.same s40).trans ((Fr.same s46).trans ((Fr.same s59).trans ((Fr.same s81).trans ((Fr.same s87).trans ((Fr.same s92).trans ((Fr.same s97).trans ((Fr.same s102).trans ((Fr.same s109).trans ((Fr.same s115).trans ((Fr.same s118).trans ((Fr.same s122).trans ((Fr.same s129).trans ((Fr.same s156).trans ((Fr.same s182).trans ((Fr.same s188).trans ((Fr.same s193).trans ((Fr.same s198).trans ((Fr.same s203).trans ((Fr.same s210).trans ((Fr.ext x219).trans ((Fr.ext x225).trans ((Fr.ext x231).trans ((Fr.same s235).trans (Fr.ext x246)))))))))))))))))))))))))) r4) Fr.sub ?_⟩
    refine ⟨_, rfl, rd_getA (gg := fun n => n.a) (Rep.up ((Fr.same s8).trans ((Fr.same s40).trans ((Fr.same s46).trans ((Fr.same s59).trans ((Fr.same s81).trans ((Fr.same s87).trans ((Fr.same s92).trans ((Fr.same s97).trans ((Fr.same s102).trans ((Fr.same s109).trans ((Fr.same s115).trans ((Fr.same s118).trans ((Fr.same s122).trans ((Fr.same s129).trans ((Fr.same s156).trans ((Fr.same s182).trans ((Fr.same s188).trans ((Fr.same s193).trans ((Fr.same s198).trans ((Fr.same s203).trans ((Fr.same s210).trans ((Fr.ext x219).trans ((Fr.ext x225).trans ((Fr.ext x231).trans ((Fr.same s235).trans (Fr.ext x246)))))))))))))))))))))))))) r4) Fr.sub ?_⟩
    refine ⟨_, rfl, rd_getA (gg := fun n => n.r) (Rep.up ((Fr.same s8).trans ((Fr.same s40).trans ((Fr.same s46).trans ((Fr.same s59).trans ((Fr.same s81).trans ((Fr.same s87).trans ((Fr.same s92).trans ((Fr.same s97).trans ((Fr.same s102).trans ((Fr.same s109).trans ((Fr.same s115).trans ((Fr.same s118).trans ((Fr.same s122).trans ((Fr.same s129).trans ((Fr.same s156).trans ((Fr.same s182).trans ((Fr.same s188).trans ((Fr.same s193).trans ((Fr.same s198).trans ((Fr.same s203).trans ((Fr.same s210).trans ((Fr.ext x219).trans ((Fr.ext x225).trans ((Fr.ext x231).trans ((Fr.same s235).trans (Fr.ext x246)))))))))))))))))))))))))) r4) Fr.sub ?_⟩
    refine ⟨_, rfl, rd_getA (gg := fun n => n.e) (Rep.up ((Fr.same s40).trans ((Fr.same s46).trans ((Fr.same s59).trans ((Fr.same s81).trans ((Fr.same s87).trans ((Fr.same s92).trans ((Fr.same s97).trans ((Fr.same s102).trans ((Fr.same s109).trans ((Fr.same s115).trans ((Fr.same s118).trans ((Fr.same s122).trans ((Fr.same s129).trans ((Fr.same s156).trans ((Fr.same s182).trans ((Fr.same s188).trans ((Fr.same s193).trans ((Fr.same s198).trans ((Fr.same s203).trans ((Fr.same s210).trans ((Fr.ext x219).trans ((Fr.ext x225).trans ((Fr.ext x231).trans ((Fr.same s235).trans (Fr.ext x246))))))))))))))))))))))))) r9) Fr.sub ?_⟩
    refine ⟨_, rfl, rd_getA (gg := fun n => n.a) (Rep.up ((Fr.same s40).trans ((Fr.same s46).trans ((Fr.same s59).trans ((Fr.same s81).trans ((Fr.same s87).trans ((Fr.same s92).trans ((Fr.same s97).trans ((Fr.same s102).trans ((Fr.same s109).trans ((Fr.same s115).trans ((Fr.same s118).trans ((Fr.same s122).trans ((Fr.same s129).trans ((Fr.same s156).trans ((Fr.same s182).trans ((Fr.same s188).trans ((Fr.same s193).trans ((Fr.same s198).trans ((Fr.same s203).trans ((Fr.same s210).trans ((Fr.ext x219).trans ((Fr.ext x225).trans ((Fr.ext x231).trans ((Fr.same s235).trans (Fr.ext x246))))))))))))))))))))))))) r9) Fr.sub ?_⟩
    refine ⟨_, rfl, rd_getA (gg := fun n => n.r) (Rep.up ((Fr.same s40).trans ((Fr.same s46).trans ((Fr.same s59).trans ((Fr.same s81).trans ((Fr.same s87).trans ((Fr.same s92).trans ((Fr.same s97).trans ((Fr.same s102).trans ((Fr.same s109).trans ((Fr.same s115).trans ((Fr.same s118).trans ((Fr.same s122).trans ((Fr.same s129).trans ((Fr.same s156).trans ((Fr.same s182).trans ((Fr.same s188).trans ((Fr.same s193).trans ((Fr.same s198).trans ((Fr.same s203).trans ((Fr.same s210).trans ((Fr.ext x219).trans ((Fr.ext x225).trans ((Fr.ext x231).trans ((Fr.same s235).trans (Fr.ext x246))))))))))))))))))))))))) r9) Fr.sub ?_⟩
    refine rd_lst (K := K) (xs := ([x.e, x.a, x.r, y.e, y.a, y.r] : List Int)) t247.alloc (by show 6 ≤ 1000; decide) (pd_ofInts ([x.e, x.a, x.r, y.e, y.a, y.r] : List Int)) fun u282 H283 s284 r285 => ?_
    have t286 := t247.same s284
    refine ⟨_, rfl, _, rfl, rd_catN t286.alloc (Rep.up ((Fr.same s3).trans ((Fr.same s8).trans ((Fr.same s40).trans ((Fr.same s46).trans ((Fr.same s59).trans ((Fr.same s81).trans ((Fr.same s87).trans ((Fr.same s92).trans ((Fr.same s97).trans ((Fr.same s102).trans ((Fr.same s109).trans ((Fr.same s115).trans ((Fr.same s118).trans ((Fr.same s122).trans ((Fr.same s129).trans ((Fr.same s156).trans ((Fr.same s182).trans ((Fr.same s188).trans ((Fr.same s193).trans ((Fr.same s198).trans ((Fr.same s203).trans ((Fr.same s210).trans ((Fr.ext x219).trans ((Fr.ext x225).trans ((Fr.ext x231).trans ((Fr.same s235).trans ((Fr.ext x246).trans (Fr.same s284)))))))))))))))))))))))))))) hr2) (Rep.up ((Fr.same s3).trans ((Fr.same s8).trans ((Fr.same s40).trans ((Fr.same s46).trans ((Fr.same s59).trans ((Fr.same s81).trans ((Fr.same s87).trans ((Fr.same s92).trans ((Fr.same s97).trans ((Fr.same s102).trans ((Fr.same s109).trans ((Fr.same s115).trans ((Fr.same s118).trans ((Fr.same s122).trans ((Fr.same s129).trans ((Fr.same s156).trans ((Fr.same s182).trans ((Fr.same s188).trans ((Fr.same s193).trans ((Fr.same s198).trans ((Fr.same s203).trans ((Fr.same s210).trans ((Fr.ext x219).trans ((Fr.ext x225).trans ((Fr.ext x231).trans ((Fr.same s235).trans ((Fr.ext x246).trans (Fr.same s284)))))))))))))))))))))))))))) hr3) fun u287 H288 s289 r290 => ?_⟩
    have t291 := t286.same s289
    refine rd_listT t291.alloc r290 fun u292 H293 s294 r295 => ?_
    have t296 := t291.same s294
    refine rd_eq (x := ([x.e, x.a, x.r, y.e, y.a, y.r] : List Int)) (y := ([x.e, x.a, x.r, y.e, y.a, y.r] : List Int)) (Rep.up ((Fr.same s289).trans (Fr.same s294)) r285) r295 Fr.sub (fun _ _ => trivial) (fun _ _ => trivial) ?_
    refine qT (show (([x.e, x.a, x.r, y.e, y.a, y.r] : List Int) = ([x.e, x.a, x.r, y.e, y.a, y.r])) from rfl) ?_
    exact hq _ ((Ext.same s3).trans ((Ext.same s8).trans ((Ext.same s40).trans ((Ext.same s46).trans ((Ext.same s59).trans ((Ext.same s81).trans ((Ext.same s87).trans ((Ext.same s92).trans ((Ext.same s97).trans ((Ext.same s102).trans ((Ext.same s109).trans ((Ext.same s115).trans ((Ext.same s118).trans ((Ext.same s122).trans ((Ext.same s129).trans ((Ext.same s156).trans ((Ext.same s182).trans ((Ext.same s188).trans ((Ext.same s193).trans ((Ext.same s198).trans ((Ext.same s203).trans ((Ext.same s210).trans (x219.trans (x225.trans (x231.trans ((Ext.same s235).trans (x246.trans ((Ext.same s284).trans ((Ext.same s289).trans (Ext.same s294)))))))))))))))))))))))))))))) t296
theorem cl__law_right {K : Frag} {H : Hp} {Q : VK} {E : XK} {a : Addr} {N : Nat} {x : N3} {w2 : V} {y : N3} {w3 : V} (hr2 : rp K (Fr (fdM a) H) w2 (x : N3)) (hr3 : rp K (Fr (fdM a) H) w3 (y : N3)) (hT : Tp a (N + 3) H) (ox : (x.ok)) (oy : (y.ok)) (hd : (x.e ∣ y.e ∨ y.e ∣ x.e)) (sx_ : (x.e ≤ 60 ∧ x.r ≤ 1000)) (sy_ : (y.e ≤ 60 ∧ y.r ≤ 1000)) (k : ∀ (H' : Hp), Ext (fdM a) H H' → Tp a N H' → Q (.bl true) H') : sq (sp__law_right K) [.ref a, w2, w3] H Q E := sqI ⟨_, _, _, _, _, _, rfl, hT, hr2, hr3, ox, oy, hd, sx_, sy_, k⟩
end
section
variable {w : World} {K : Frag} {mg : Str → Option Value} {base : Heap}
def sp_law (K : Frag) : Sp := fun vs H Q E => ∃ (sa : Addr) (xs : List Int), vs = [.ref sa] ∧ SqL K H sa (xs.map V.int) ∧ xs.length ≤ 63 ∧ ∀ H', Q (.bl true) H'
theorem ok_law (Z : Zs cks fns K mg) : FnG PP w K mg base (L2.CX PP w) 13 (ga K "law") (fdAt K (ga K "law")) ["script"] (sp_law K) := by
  refine Fw.Fun.okG (u_law Z) sc_law (fun vs H Q E h => ?_) (fun cdv A outer s H vs Q E hg hr h => ?_)
  · obtain ⟨_, _, rfl, _⟩ := h
    rfl
  · obtain ⟨sa, xs, rfl, ⟨hS, hlen, hq⟩⟩ := h
    refine ⟨_, (C8.pss_cut (ps_for (passes_of rfl) rfl (pi_range1 rfl (n_range Z) (pa_cons (pe_callB (call_max2 rfl) rfl (n_max Z) (by decide +kernel) (pa_cons pe_int (pa_cons (pe_callB (call_min2 rfl) rfl (n_min Z) (by decide +kernel) (pa_cons pe_int (pa_cons (pe_callB (crq call_len_seq) rfl (n_len Z) (by decide +kernel) (pa_cons (pv 0) pa_nil)) pa_nil))) pa_nil))) pa_nil)) (pg_name (i := 1) sc_law.nd rfl (Or.inl rfl))
        (pss_cons (ps_set (i := 2) sc_law.nd rfl (Or.inl rfl) (pe_call (ok__law_tape Z) (hr.mono (by decide)) rfl (g__law_tape Z) (u__law_tape Z).kp (b__law_tape Z) .nil passL (pa_cons (pv 0) (pa_cons (pv 1) pa_nil))))
      (pss_one (ps_for (passes_of rfl) rfl (pi_range1 rfl (n_range Z) (pa_cons pe_int pa_nil)) (pg_name (i := 3) sc_law.nd rfl (Or.inl rfl))
        (pss_cons (ps_asg (pe_call (okq (ok__law_two Z)) (hr.mono (by decide)) rfl (g__law_two Z) (u__law_two Z).kp (b__law_two Z) .nil passL (pa_cons (pv 2) (pa_cons (pe_ix (ixq ix_list) (pe_lstQ (pe_lst (pa_cons pe_int (pa_cons pe_int (pa_cons pe_int pa_nil))))) (pe_op op_mod (pv 3) pe_int) (fun _ _ => rfl)) pa_nil))) (pg_tup rfl (pgs_cons (pg_name (i := 4) sc_law.nd rfl (Or.inl rfl)) (pgs_cons (pg_name (i := 5) sc_law.nd rfl (Or.inl rfl)) pgs_nil))))
      (pss_one (ps_if (PW.pt (pw_or (pt_not (pt_val (pe_callG (okqG (ok__law_right Z)) hg (hr.mono (by decide)) rfl (g__law_right Z) (u__law_right Z).kp (b__law_right Z) passL (pa_cons (pv 2) (pa_cons (pv 4) (pa_cons (pv 5) pa_nil)))))) (pw_or1 (pt_not (pt_val (pe_callG (okqG (ok__law_right Z)) hg (hr.mono (by decide)) rfl (g__law_right Z) (u__law_right Z).kp (b__law_right Z) passL (pa_cons (pv 2) (pa_cons (pv 5) (pa_cons (pv 4) pa_nil)))))))))
        (pss_one (ps_ret pe_bl))
        pss_nil)))))))
      (pss_cons (ps_par (i := 6) (j := 7) rfl sc_law.nd rfl rfl (by decide) rfl rfl (pa_cons (pe_makeQ (pe_make (M_Line Z) (ok_Line_init Z) (hr.mono (by decide)) rfl (g_Line Z) (b_Line_init Z) .nil passL (pa_cons pe_int (pa_cons pe_int (pa_cons pe_int pa_nil))))) (pa_cons (pe_makeQ (pe_make (M_Line Z) (ok_Line_init Z) (hr.mono (by decide)) rfl (g_Line Z) (b_Line_init Z) .nil passL (pa_cons pe_int (pa_cons pe_int (pa_cons pe_int pa_nil))))) pa_nil)) rfl)
      (pss_cons (ps_set (i := 8) sc_law.nd rfl (Or.inl rfl) (pe_lstQ (pe_lst (pa_cons (pe_call (okq (ok_differences Z)) (hr.mono (by decide)) rfl (g_differences Z) (u_differences Z).kp (b_differences Z) .nil passL (pa_cons (pv 6) (pa_cons (pv 7) pa_nil))) (pa_cons (pe_call (okq (ok_worst_start Z)) (hr.mono (by decide)) rfl (g_worst_start Z) (u_worst_start Z).kp (b_worst_start Z) .nil passL (pa_cons (pv 6) (pa_cons (pv 7) pa_nil))) (pa_cons (pe_call (okq (ok_count_starts Z)) (hr.mono (by decide)) rfl (g_count_starts Z) (u_count_starts Z).kp (b_count_starts Z) .nil passL (pa_cons (pv 6) (pa_cons (pv 7) pa_nil))) pa_nil))))))
      (pss_one (ps_ret (pe_and (pe_cmpR (opq (op_eqD hr.units)) (pv 8) (pe_lstQ (pe_lst (pa_cons (pe_tupQ (pe_tup (pa_cons (pe_un un_neg pe_int) (pa_cons pe_int (pa_cons pe_int pa_nil))))) (pa_cons pe_int (pa_cons (pe_tupQ (pe_tup (pa_cons pe_int (pa_cons pe_int (pa_cons pe_int pa_nil))))) pa_nil))))) (nomark _)) (pe_one (pe_cmpR op_eq (pe_call (okq (ok_first_earlier Z)) (hr.mono (by decide)) rfl (g_first_earlier Z) (u_first_earlier Z).kp (b_first_earlier Z) .nil passL (pa_cons (pv 6) (pa_cons (pv 7) (pa_cons pe_int pa_nil)))) pe_int (nomark _))))))))), ?_⟩
    have ok1 : (⟨15, 3, 7⟩ : N3).ok := by refine ⟨?_, ?_, ?_, ?_⟩ <;> decide
    have ok2 : (⟨60, 0, 10⟩ : N3).ok := by refine ⟨?_, ?_, ?_, ?_⟩ <;> decide
    have bg1 : Big (⟨15, 3, 7⟩ : N3) := ⟨Sz.of (by decide +kernel) (by decide +kernel), Sz.of (by decide +kernel) (by decide +kernel)⟩
    have bg2 : Big (⟨60, 0, 10⟩ : N3) := ⟨Sz.of (by decide +kernel) (by decide +kernel), Sz.of (by decide +kernel) (by decide +kernel)⟩
    have hd12 : (⟨15, 3, 7⟩ : N3).e ∣ (⟨60, 0, 10⟩ : N3).e ∨ (⟨60, 0, 10⟩ : N3).e ∣ (⟨15, 3, 7⟩ : N3).e := .inl ⟨4, rfl⟩
    refine ⟨fun σ H2 => ∃ zz1 zz2 zz3 zz4 zz5, σ = [some (.ref sa), zz1, zz2, zz3, zz4, zz5, none, none, none] ∧ Same H H2, ?_, ?_⟩
    · refine ⟨_, rfl, rd_lenS hS ?_⟩
      refine ⟨_, _, rfl, _, _, rfl, _, rfl, ?_⟩
      rw [List.length_map]
      generalize hj : (if (if ((xs.length : Nat) : Int) < 3 then ((xs.length : Nat) : Int) else 3) > 1 then (if ((xs.length : Nat) : Int) < 3 then ((xs.length : Nat) : Int) else 3) else 1) = j
      have hj2 : 1 ≤ j ∧ j ≤ 3 := by
        rw [← hj]
        split <;> split <;> omega
      refine ⟨by omega, by omega, ?_⟩
      refine for_range (lo := 0) (n := j.toNat) (fun i σ H2 => (∃ zz1 zz2 zz3 zz4 zz5, σ = [some (.ref sa), zz1, zz2, zz3, zz4, zz5, none, none, none]) ∧ Same H H2) ⟨⟨none, none, none, none, none, rfl⟩, Same.refl _⟩ ?_ ?_
      · rintro i σ H1 hi ⟨⟨zz1, zz2, zz3, zz4, zz5, rfl⟩, s1⟩
        refine ⟨_, rfl, _, rfl, ⟨sa, xs, (0 + (i : Nat)), rfl, s1.seq hS, by omega, by omega, fun a H2 s2 na t2 => ?_⟩⟩
        obtain ⟨M0, hM0⟩ : ∃ M0, 2 ^ 39 = M0 + 100000000 := ⟨2 ^ 39 - 100000000, by decide⟩
        rw [hM0] at t2
        refine ⟨_, rfl, (by omega), (by omega), for_tw (tw_range (K := K) (M := (fdM a)) (lo := 0) (n := (12 : Int).toNat)) (fdM a) (fun iq σ H21 => ∃ (z22 : Option V) (z23 : Option V) (z24 : Option V), σ = [some (.ref sa), some (.int ((0 : Int) + (i : Nat))), some (.ref a), z22, z23, z24, none, none, none] ∧ Ext (fdM a) H2 H21 ∧ Tp a (M0 + 3000 * ((rgI 0 ((12 : Int).toNat)).length - iq)) H21) ⟨_, _, _, rfl, Ext.refl, (t2.less (by simp only [rgI_len, List.length_cons, List.length_nil]; omega))⟩ (fun iq σ H21 h => ?_) ?_ ?_⟩
        · obtain ⟨z22, z23, z24, rfl, x25, t26⟩ := h
          exact ⟨(Fr.ext x25), t26.alloc⟩
        · rintro i28 x29 u30 σ H21 H31 hx32 ⟨z22, z23, z24, rfl, x25, t26⟩ s33 up34 al35 r36
          have t37 := t26.same s33
          have lt38 := (List.getElem?_eq_some_iff.mp hx32).1
          rw [show M0 + 3000 * ((rgI 0 ((12 : Int).toNat)).length - i28) = M0 + 3000 * ((rgI 0 ((12 : Int).toNat)).length - (i28 + 1)) + 3000 by omega] at t37
          have hr39 := rgI_mem.mp (List.mem_of_getElem? hx32)
          obtain rfl : u30 = V.int x29 := r36
          refine ⟨_, rfl, rd_lst (K := K) (xs := ([6, 12, 60] : List Int)) al35 (by show 3 ≤ 1000; decide) (pd_ofInts ([6, 12, 60] : List Int)) fun u40 H41 s42 r43 => ?_⟩
          have t44 := t37.same s42
          obtain ⟨Lm, hx45, hm46⟩ := at_mem (xs := ([6, 12, 60] : List Int)) (show 0 ≤ x29 % 3 from by omega) (show x29 % 3 < ((3 : Nat) : Int) from by omega)
          have Lmb : 1 ≤ Lm ∧ Lm ≤ 60 := by
            simp only [List.mem_cons, List.not_mem_nil, or_false] at hm46
            rcases hm46 with e | e | e <;> (rw [e]; decide)
          refine ⟨_, rfl, _, _, rfl, rfl, (show 0 < 3 from by decide), rd_ixI (i := x29 % 3) (x := Lm) r43 Fr.sub hx45 ?_⟩
          refine cl__law_two (N := M0 + 3000 * ((rgI 0 ((12 : Int).toNat)).length - (i28 + 1)) + 1996) t44 Lmb.1 Lmb.2 fun u47 xy48 H49 x50 t51 r52 xy48f => ?_
          obtain ⟨nx, ny⟩ := xy48
          obtain ⟨ox, oy, hd, bx, bY⟩ := xy48f
          refine rd_unP r52 Fr.sub fun u53 u54 r55 r56 => ?_
          refine ⟨_, rfl, _, rfl, _, rfl, cl__law_right (N := M0 + 3000 * ((rgI 0 ((12 : Int).toNat)).length - (i28 + 1)) + 1993) r55 r56 t51 ox oy hd bx bY fun H57 x58 t59 => ?_⟩
          refine ⟨_, rfl, iteF ?_⟩
          refine ⟨_, rfl, _, rfl, _, rfl, cl__law_right (N := M0 + 3000 * ((rgI 0 ((12 : Int).toNat)).length - (i28 + 1)) + 1990) (Rep.up (Fr.ext x58) r56) (Rep.up (Fr.ext x58) r55) t59 oy ox hd.symm bY bx fun H60 x61 t62 => ?_⟩
          refine ⟨_, rfl, iteF ?_⟩
          exact ⟨_, _, _, rfl, (x25.trans ((Ext.same s33).trans ((Ext.same s42).trans (x50.trans (x58.trans x61))))), (t62.less (by omega))⟩
        · rintro σ H21 ⟨z22, z23, z24, rfl, x25, t26⟩
          have t26 : Tp a (M0) H21 := (t26.less (by omega))
          exact ⟨⟨_, _, _, _, _, rfl⟩, law_back s1 s2 na x25⟩
      · rintro σ H1 ⟨⟨zz1, zz2, zz3, zz4, zz5, rfl⟩, s1⟩
        exact ⟨_, _, _, _, _, rfl, s1⟩
    rintro σ H1 ⟨zz1, zz2, zz3, zz4, zz5, rfl, s1⟩
    have al0 : Alloc (fun _ => False) H1 := fun _ z => z.elim
    refine mk_LineA ok1 al0 fun u63 H64 s65 r66 => ?_
    have al67 := al0.same s65
    refine mk_LineA ok2 al67 fun u68 H69 s70 r71 => ?_
    have al72 := al67.same s70
    refine ⟨_, _, rfl, ?_⟩
    refine ⟨_, rfl, _, rfl, cl_differences (Rep.up (Fr.same s70) r66) r71 al72 ok1 ok2 hd12 bg1 bg2 fun u73 H74 s75 r76 => ?_⟩
    have al77 := al72.same s75
    refine ⟨_, rfl, _, rfl, cl_worst_start (Rep.up ((Fr.same s70).trans (Fr.same s75)) r66) (Rep.up (Fr.same s75) r71) al77 ok1 ok2 hd12 bg1 bg2 fun H78 s79 => ?_⟩
    have al80 := al77.same s79
    rw [show optV (wsN (⟨15, 3, 7⟩ : N3) (⟨60, 0, 10⟩ : N3)) = V.int 0 by decide +kernel]
    refine ⟨_, rfl, _, rfl, cl_count_starts (Rep.up ((Fr.same s70).trans ((Fr.same s75).trans (Fr.same s79))) r66) (Rep.up ((Fr.same s75).trans (Fr.same s79)) r71) al80 ok1 ok2 hd12 bg1 bg2 fun u81 H82 s83 r84 => ?_⟩
    have al85 := al80.same s83
    refine rd_lst (K := K) (xs := ([(Sum.inl (diT (⟨15, 3, 7⟩ : N3) (⟨60, 0, 10⟩ : N3)) : NI), (Sum.inr 0 : NI), (Sum.inl (csT (⟨15, 3, 7⟩ : N3) (⟨60, 0, 10⟩ : N3)) : NI)] : List NI)) al85 (by show 3 ≤ 1000; decide) (.cons (show rp K _ _ (Sum.inl (diT (⟨15, 3, 7⟩ : N3) (⟨60, 0, 10⟩ : N3)) : NI) from (Rep.up ((Fr.same s79).trans (Fr.same s83)) r76)) (.cons (show rp K _ _ (Sum.inr 0 : NI) from rfl) (.cons (show rp K _ _ (Sum.inl (csT (⟨15, 3, 7⟩ : N3) (⟨60, 0, 10⟩ : N3)) : NI) from r84) .nil))) fun u86 H87 s88 r89 => ?_
    have al90 := al85.same s88
    refine ⟨_, rfl, _, rfl, rd_tup3 (K := K) al90 fun u91 H92 s93 r94 => ?_⟩
    have al95 := al90.same s93
    refine rd_tup3 (K := K) al95 fun u96 H97 s98 r99 => ?_
    have al100 := al95.same s98
    refine rd_lst (K := K) (xs := ([(Sum.inl (⟨-60, 0, 15⟩ : N3) : NI), (Sum.inr 0 : NI), (Sum.inl (⟨48, 12, 0⟩ : N3) : NI)] : List NI)) al100 (by show 3 ≤ 1000; decide) (.cons (show rp K _ _ (Sum.inl (⟨-60, 0, 15⟩ : N3) : NI) from (Rep.up (Fr.same s98) r94)) (.cons (show rp K _ _ (Sum.inr 0 : NI) from rfl) (.cons (show rp K _ _ (Sum.inl (⟨48, 12, 0⟩ : N3) : NI) from r99) .nil))) fun u101 H102 s103 r104 => ?_
    have al105 := al100.same s103
    refine rd_eq (x := ([(Sum.inl (diT (⟨15, 3, 7⟩ : N3) (⟨60, 0, 10⟩ : N3)) : NI), (Sum.inr 0 : NI), (Sum.inl (csT (⟨15, 3, 7⟩ : N3) (⟨60, 0, 10⟩ : N3)) : NI)] : List NI)) (y := (([(Sum.inl (⟨-60, 0, 15⟩ : N3) : NI), (Sum.inr 0 : NI), (Sum.inl (⟨48, 12, 0⟩ : N3) : NI)] : List NI) : List NI)) (Rep.up ((Fr.same s93).trans ((Fr.same s98).trans (Fr.same s103))) r89) r104 Fr.sub (fun _ _ => trivial) (fun _ _ => trivial) ?_
    refine ⟨_, rfl, ifT (show (([(Sum.inl (diT (⟨15, 3, 7⟩ : N3) (⟨60, 0, 10⟩ : N3)) : NI), (Sum.inr 0 : NI), (Sum.inl (csT (⟨15, 3, 7⟩ : N3) (⟨60, 0, 10⟩ : N3)) : NI)] : List NI) = ([(Sum.inl (⟨-60, 0, 15⟩ : N3) : NI), (Sum.inr 0 : NI), (Sum.inl (⟨48, 12, 0⟩ : N3) : NI)] : List NI)) from by decide +kernel) ?_⟩
    refine ⟨_, rfl, _, rfl, cl_first_earlier (Rep.up ((Fr.same s70).trans ((Fr.same s75).trans ((Fr.same s79).trans ((Fr.same s83).trans ((Fr.same s88).trans ((Fr.same s93).trans ((Fr.same s98).trans (Fr.same s103)))))))) r66) (Rep.up ((Fr.same s75).trans ((Fr.same s79).trans ((Fr.same s83).trans ((Fr.same s88).trans ((Fr.same s93).trans ((Fr.same s98).trans (Fr.same s103))))))) r71) al105 ok1 ok2 hd12 bg1 bg2 fun H106 s107 => ?_⟩
    have al108 := al105.same s107
    refine ⟨scal_opt _ (some _), qT (show ((optV (feN (⟨15, 3, 7⟩ : N3) (⟨60, 0, 10⟩ : N3) 49) : V) = .int 61) from by decide +kernel) ?_⟩
    exact hq _
end
end My
open PySem PySem.W PySem.Calls PyProof.Rows
set_option maxHeartbeats 0 in
theorem PySem.Challenge.cw_onwardlines_k32_lines_compared_start_by_holds : PySem.Challenge.rw_onwardlines_k32_lines_compared_start_by.Holds := by
  w_on; o_law
  refine HandSHeadRun.head_any (r := My.R) (q := view My.R.prog [32]) (H := My.hk) (ob := My.ob) (M := 20000) (loose := My.loose) (d := HandSHeadRun.topDef My.R.prog 32) (kwd := []) My.ob_eq (by kernel_rfl) (fun s => by kernel_rfl) My.run (by kernel_rfl) (by kernel_rfl) (by kernel_rfl) (by rfl) (by first | assumption | decide +kernel) (by decide +kernel) ⟨rfl, rfl, rfl, rfl, rfl, by decide +kernel⟩ ?hw ?hc
  case hw => w_witness2
  case hc =>
    exact Fw.endMG (l := PySem.Challenge.rw_onwardlines_k32_lines_compared_start_by) (k := 13) (N := 6) (spL := My.sp_law) rfl (by kernel_rfl) ⟨rfl, by decide, by decide⟩ (by kernel_rfl)
      (fun w K mg base Z _ _ => My.ok_law Z) (fun K mg Z => My.g_law Z) (fun K mg Z s u => Fw.Fun.bindsAny (My.u_law Z) s u (fun _ _ _ _ _ _ => rfl)) (fun K H a ns hl hO hS => ⟨a, ns, rfl, hS, hl, fun _ => rfl⟩)
